import PyProof.Rows.All
import Wide.All
import OpenK.AllK
import Wide.FinOn
import HandS.ForMost
import HandS.Exc
import HandS.ExcOwn
import HandS.Walk
import HandS.HeadHook2
import PyProof.P3Eq
import PyProof.ReprRoads
import PyProof.Rows.EqDataRows
import HandS.TupAny
import HandS.Text
import HandS.Dict
import HandS.Comp
import HandS.Style
import HandS.IsInst
import HandS.RaiseMore
import HandS.Wide
import HandS.Defaults
import HandS.HeadEnd
import HandS.HeadHook1
import PyProof.ReprLen
import PyProof.FitsInt
import HandS.Head0
import HandS.Head1
import HandS.Head2
import PySem.Challenge.RW_salesplit_k02_sums_and_products
set_option Elab.async false
set_option linter.all false
set_option maxRecDepth 100000
namespace Z
open PySem PySem.Spec L2
/-! ### plain data -/
inductive D where
  | non | bl (b : Bool) | int (i : Int) | str (x : Str)
  | tup (xs : List D) | lst (xs : List D)
  | dct (kvs : List (Key × D)) | dcT (kvs : List (List Key × D))
  | ins (C : Str) (fs : List (Str × D))
  deriving Inhabited
/-- what is read is not a lock -/
def nf : HO → Bool
  | .frz _ _ => false
  | _ => true
/-! ### a value denotes data -/
section
variable (K : PySem.W.Frag) (H : Hp)
mutual
def Rep : D → V → Prop
  | .non, v => v = .non
  | .bl b, v => v = .bl b
  | .int i, v => v = .int i
  | .str x, v => v = .str x
  | .tup ds, v => ∃ a vs, v = .ref a ∧ SqT K H a vs ∧ Reps ds vs
  | .lst ds, v => ∃ a vs, v = .ref a ∧ SqL K H a vs ∧ Reps ds vs
  | .dct kvs, v => ∃ a ws, v = .ref a ∧ Rd H a (.dK ws) ∧ RepK kvs ws
  | .dcT kvs, v => ∃ a ws, v = .ref a ∧ Rd H a (.dT ws) ∧ RepT kvs ws
  | .ins C fs, v => ∃ a dx ws, v = .ref a ∧ H a = some (.ins (He.ga K C) dx ws) ∧ RepF fs ws
def Reps : List D → List V → Prop
  | [], vs => vs = []
  | d :: ds, vs => ∃ v r, vs = v :: r ∧ Rep d v ∧ Reps ds r
def RepK : List (Key × D) → List (Key × V) → Prop
  | [], ws => ws = []
  | (k, d) :: ds, ws => ∃ v r, ws = (k, v) :: r ∧ Rep d v ∧ RepK ds r
def RepT : List (List Key × D) → List (List Key × V) → Prop
  | [], ws => ws = []
  | (k, d) :: ds, ws => ∃ v r, ws = (k, v) :: r ∧ Rep d v ∧ RepT ds r
def RepF : List (Str × D) → List (Str × V) → Prop
  | [], ws => ws = []
  | (k, d) :: ds, ws => ∃ v r, ws = (k, v) :: r ∧ Rep d v ∧ RepF ds r
end
end
/-- H' tells all that H tells (a lock may come or go) -/
structure Ext (H H' : Hp) : Prop where
  rd : ∀ b u, nf u = true → Rd H b u → Rd H' b u
  ins : ∀ b C dx fs, H b = some (.ins C dx fs) → H' b = some (.ins C dx fs)
theorem Ext.refl {H : Hp} : Ext H H := ⟨fun _ _ _ h => h, fun _ _ _ _ h => h⟩
theorem Ext.trans {H H1 H2 : Hp} (a : Ext H H1) (b : Ext H1 H2) : Ext H H2 := ⟨fun c u n h => b.rd c u n (a.rd c u n h), fun c C dx fs h => b.ins c C dx fs (a.ins c C dx fs h)⟩
theorem Ext.of {H H' : Hp} (h : ∀ b o, H b = some o → H' b = some o) : Ext H H' :=
  ⟨fun b u _ r => r.elim (fun e => .inl (h _ _ e)) fun ⟨o, e⟩ => .inr ⟨o, h _ _ e⟩, fun _ _ _ _ e => h _ _ e⟩
section
variable {K : PySem.W.Frag} {H H' : Hp}
theorem sqL_ext (x : Ext H H') {a : Addr} {vs : List V} (h : SqL K H a vs) : SqL K H' a vs := h.elim (fun r => .inl (x.rd _ _ rfl r)) .inr
theorem sqT_ext (x : Ext H H') {a : Addr} {vs : List V} (h : SqT K H a vs) : SqT K H' a vs := h.elim (fun r => .inl (x.rd _ _ rfl r)) .inr
mutual
theorem Rep.ext (x : Ext H H') : ∀ {d : D} {v : V}, Rep K H d v → Rep K H' d v
  | .non, _, h => h
  | .bl _, _, h => h
  | .int _, _, h => h
  | .str _, _, h => h
  | .tup ds, _, h => by
    simp only [Rep] at h ⊢
    obtain ⟨a, vs, e, s, r⟩ := h
    exact ⟨a, vs, e, sqT_ext x s, Reps.ext x r⟩
  | .lst ds, _, h => by
    simp only [Rep] at h ⊢
    obtain ⟨a, vs, e, s, r⟩ := h
    exact ⟨a, vs, e, sqL_ext x s, Reps.ext x r⟩
  | .dct kvs, _, h => by
    simp only [Rep] at h ⊢
    obtain ⟨a, vs, e, s, r⟩ := h
    exact ⟨a, vs, e, x.rd _ _ rfl s, RepK.ext x r⟩
  | .dcT kvs, _, h => by
    simp only [Rep] at h ⊢
    obtain ⟨a, vs, e, s, r⟩ := h
    exact ⟨a, vs, e, x.rd _ _ rfl s, RepT.ext x r⟩
  | .ins C fs, _, h => by
    simp only [Rep] at h ⊢
    obtain ⟨a, dx, ws, e, s, r⟩ := h
    exact ⟨a, dx, ws, e, x.ins _ _ _ _ s, RepF.ext x r⟩
theorem Reps.ext (x : Ext H H') : ∀ {ds : List D} {vs : List V}, Reps K H ds vs → Reps K H' ds vs
  | [], _, h => h
  | d :: ds, _, h => by
    simp only [Reps] at h ⊢
    obtain ⟨v, r, e, s, t⟩ := h
    exact ⟨v, r, e, Rep.ext x s, Reps.ext x t⟩
theorem RepK.ext (x : Ext H H') : ∀ {ds : List (Key × D)} {vs : List (Key × V)}, RepK K H ds vs → RepK K H' ds vs
  | [], _, h => h
  | (k, d) :: ds, _, h => by
    simp only [RepK] at h ⊢
    obtain ⟨v, r, e, s, t⟩ := h
    exact ⟨v, r, e, Rep.ext x s, RepK.ext x t⟩
theorem RepT.ext (x : Ext H H') : ∀ {ds : List (List Key × D)} {vs : List (List Key × V)}, RepT K H ds vs → RepT K H' ds vs
  | [], _, h => h
  | (k, d) :: ds, _, h => by
    simp only [RepT] at h ⊢
    obtain ⟨v, r, e, s, t⟩ := h
    exact ⟨v, r, e, Rep.ext x s, RepT.ext x t⟩
theorem RepF.ext (x : Ext H H') : ∀ {ds : List (Str × D)} {vs : List (Str × V)}, RepF K H ds vs → RepF K H' ds vs
  | [], _, h => h
  | (k, d) :: ds, _, h => by
    simp only [RepF] at h ⊢
    obtain ⟨v, r, e, s, t⟩ := h
    exact ⟨v, r, e, Rep.ext x s, RepF.ext x t⟩
end
theorem Reps.length : ∀ {ds : List D} {vs : List V}, Reps K H ds vs → ds.length = vs.length
  | [], _, h => by simp only [Reps] at h; subst h; rfl
  | d :: ds, _, h => by
    simp only [Reps] at h
    obtain ⟨v, r, rfl, _, t⟩ := h
    simp [t.length]
theorem RepK.length : ∀ {ds : List (Key × D)} {vs : List (Key × V)}, RepK K H ds vs → ds.length = vs.length
  | [], _, h => by simp only [RepK] at h; subst h; rfl
  | (k, d) :: ds, _, h => by
    simp only [RepK] at h
    obtain ⟨v, r, rfl, _, t⟩ := h
    simp [t.length]
theorem Reps.get : ∀ {ds : List D} {vs : List V} {i : Nat} {d : D}, Reps K H ds vs → ds[i]? = some d → ∃ v, vs[i]? = some v ∧ Rep K H d v
  | [], _, _, _, _, e => by simp at e
  | d :: ds, _, 0, _, h, e => by
    simp only [Reps] at h
    obtain ⟨v, r, rfl, s, _⟩ := h
    simp at e; subst e
    exact ⟨v, rfl, s⟩
  | d :: ds, _, i + 1, _, h, e => by
    simp only [Reps] at h
    obtain ⟨v, r, rfl, _, t⟩ := h
    simpa using Reps.get t (by simpa using e)
theorem Reps.getV : ∀ {ds : List D} {vs : List V} {i : Nat} {v : V}, Reps K H ds vs → vs[i]? = some v → ∃ d, ds[i]? = some d ∧ Rep K H d v
  | [], _, _, _, h, e => by simp only [Reps] at h; subst h; simp at e
  | d :: ds, _, 0, _, h, e => by
    simp only [Reps] at h
    obtain ⟨v, r, rfl, s, _⟩ := h
    simp at e; subst e
    exact ⟨d, rfl, s⟩
  | d :: ds, _, i + 1, _, h, e => by
    simp only [Reps] at h
    obtain ⟨v, r, rfl, _, t⟩ := h
    simpa using Reps.getV t (by simpa using e)
theorem Reps.append : ∀ {ds es : List D} {vs ws : List V}, Reps K H ds vs → Reps K H es ws → Reps K H (ds ++ es) (vs ++ ws)
  | [], _, _, _, h, g => by simp only [Reps] at h; subst h; simpa using g
  | d :: ds, _, _, _, h, g => by
    simp only [Reps] at h
    obtain ⟨v, r, rfl, s, t⟩ := h
    simp only [List.cons_append, Reps]
    exact ⟨v, _, rfl, s, Reps.append t g⟩
theorem Reps.set : ∀ {ds : List D} {vs : List V} (i : Nat) {d : D} {v : V}, Reps K H ds vs → Rep K H d v → Reps K H (ds.set i d) (vs.set i v)
  | [], _, _, _, _, h, _ => by simp only [Reps] at h; subst h; simp [Reps]
  | d :: ds, _, 0, _, _, h, g => by
    simp only [Reps] at h
    obtain ⟨v, r, rfl, s, t⟩ := h
    simp only [List.set_cons_zero, Reps]
    exact ⟨_, r, rfl, g, t⟩
  | d :: ds, _, i + 1, _, _, h, g => by
    simp only [Reps] at h
    obtain ⟨v, r, rfl, s, t⟩ := h
    simp only [List.set_cons_succ, Reps]
    exact ⟨v, _, rfl, s, Reps.set i t g⟩
theorem Reps.take : ∀ {ds : List D} {vs : List V} (n : Nat), Reps K H ds vs → Reps K H (ds.take n) (vs.take n)
  | _, _, 0, _ => by simp [Reps]
  | [], _, _ + 1, h => by simp only [Reps] at h; subst h; simp [Reps]
  | d :: ds, _, n + 1, h => by
    simp only [Reps] at h
    obtain ⟨v, r, rfl, s, t⟩ := h
    simp only [List.take_succ_cons, Reps]
    exact ⟨v, _, rfl, s, Reps.take n t⟩
theorem Reps.drop : ∀ {ds : List D} {vs : List V} (n : Nat), Reps K H ds vs → Reps K H (ds.drop n) (vs.drop n)
  | _, _, 0, h => by simpa using h
  | [], _, _ + 1, h => by simp only [Reps] at h; subst h; simp [Reps]
  | d :: ds, _, n + 1, h => by
    simp only [Reps] at h
    obtain ⟨v, r, rfl, s, t⟩ := h
    simp only [List.drop_succ_cons]
    exact Reps.drop n t
end
/-! ### what is hidden -/
open Classical in
/-- the heap without the addresses of O -/
noncomputable def vis (O : Addr → Prop) (H : Hp) : Hp := fun b => if O b then none else H b
theorem vis_some {O : Addr → Prop} {H : Hp} {b : Addr} {o : HO} (h : vis O H b = some o) : ¬ O b ∧ H b = some o := by
  unfold vis at h
  split at h
  · cases h
  · exact ⟨by assumption, h⟩
theorem vis_at {O : Addr → Prop} {H : Hp} {b : Addr} (h : ¬ O b) : vis O H b = H b := by
  unfold vis; rw [if_neg h]
/-- what a part saw, it sees behind changes of hidden things -/
theorem vis_ext {O O' : Addr → Prop} {H H' : Hp} (ho : ∀ b, O' b → H b ≠ none → O b) (k : ∀ b o, ¬ O b → H b = some o → H' b = some o) : Ext (vis O H) (vis O' H') :=
  .of fun b o e => by
    obtain ⟨n, e⟩ := vis_some e
    have n' : ¬ O' b := fun z => n (ho b z (by rw [e]; simp))
    rw [vis_at n']
    exact k b o n e
theorem vis_le {O : Addr → Prop} {H : Hp} : Ext (vis O H) H := .of fun b o e => (vis_some e).2
end Z

namespace Z
open PySem PySem.Spec L2
/-! ### the environment of a def: what each slot holds -/
inductive Sl where
  | non | val (d : D) | own (d : D) | io (d : D) | lkd (d : D)
  deriving Inhabited
def Sl.isOwn : Sl → Bool
  | .own _ => true | .io _ => true | .lkd _ => true | _ => false
def Sl.isWr : Sl → Bool
  | .own _ => true | .io _ => true | _ => false
abbrev Vn := List Sl
structure Exn where
  C : Str
  fs : List (Str × D)
inductive Res (α : Type) where
  | ok (a : α) (ρ : Vn)
  | exn (x : Exn) (ρ : Vn)
  | stuck
def Res.bind {α β : Type} (r : Res α) (f : α → Vn → Res β) : Res β := match r with
  | .ok a ρ => f a ρ
  | .exn x ρ => .exn x ρ
  | .stuck => .stuck
@[simp] theorem Res.bind_ok {α β : Type} {a : α} {ρ : Vn} {f : α → Vn → Res β} : (Res.ok a ρ).bind f = f a ρ := rfl
@[simp] theorem Res.bind_exn {α β : Type} {x : Exn} {ρ : Vn} {f : α → Vn → Res β} : (Res.exn x ρ : Res α).bind f = .exn x ρ := rfl
@[simp] theorem Res.bind_stuck {α β : Type} {f : α → Vn → Res β} : (Res.stuck : Res α).bind f = .stuck := rfl
/-- what a run promises -/
def Res.holds {α : Type} (r : Res α) (P : α → Vn → Prop) (E : Exn → Vn → Prop) : Prop := match r with
  | .ok a ρ => P a ρ
  | .exn x ρ => E x ρ
  | .stuck => False
theorem Res.holds_bind {α β : Type} {r : Res α} {f : α → Vn → Res β} {P : β → Vn → Prop} {E : Exn → Vn → Prop} (h : (r.bind f).holds P E) : r.holds (fun a ρ => (f a ρ).holds P E) E := by
  cases r <;> exact h
theorem Res.holds_mono {α : Type} {r : Res α} {P P' : α → Vn → Prop} {E E' : Exn → Vn → Prop} (h : r.holds P E) (hp : ∀ a ρ, P a ρ → P' a ρ) (he : ∀ x ρ, E x ρ → E' x ρ) : r.holds P' E' := by
  cases r with
  | ok a ρ => exact hp _ _ h
  | exn x ρ => exact he _ _ h
  | stuck => exact h
/-! ### a def by what it does to data -/
inductive FRes where
  | ok (d s : D) | exn (x : Exn) (s : D) | stuck
structure Fn where
  /-- the first argument is changed in place -/
  io : Bool
  /-- a new list, dict or object comes back -/
  fresh : Bool
  ar : Nat
  dfl : List D
  run : List D → FRes
/-! ### the state -/
section
variable (K : PySem.W.Frag)
/-- the addresses that the slots own -/
def OwnA (ρ : Vn) (σ : St) (b : Addr) : Prop := ∃ (i : Nat) (sl : Sl), ρ[i]? = some sl ∧ sl.isOwn = true ∧ σ[i]? = some (some (.ref b))
def WrA (ρ : Vn) (σ : St) (b : Addr) : Prop := ∃ (i : Nat) (sl : Sl), ρ[i]? = some sl ∧ sl.isWr = true ∧ σ[i]? = some (some (.ref b))
def Hid (O : Addr → Prop) (ρ : Vn) (σ : St) (b : Addr) : Prop := O b ∨ OwnA ρ σ b
/-- at a stands d itself, to be changed: its parts are seen in G -/
def Top (G H : Hp) (d : D) (a : Addr) : Prop := match d with
  | .lst ds => ∃ vs, H a = some (.lst vs) ∧ Reps K G ds vs
  | .dct kvs => ∃ ws, H a = some (.dK ws) ∧ RepK K G kvs ws
  | .dcT kvs => ∃ ws, H a = some (.dT ws) ∧ RepT K G kvs ws
  | .ins C fs => ∃ dx ws, H a = some (.ins (He.ga K C) dx ws) ∧ RepF K G fs ws
  | _ => False
/-- .. to be read, it may be locked -/
def TopR (G H : Hp) (d : D) (a : Addr) : Prop := match d with
  | .lst ds => ∃ vs, Rd H a (.lst vs) ∧ Reps K G ds vs
  | .dct kvs => ∃ ws, Rd H a (.dK ws) ∧ RepK K G kvs ws
  | .dcT kvs => ∃ ws, Rd H a (.dT ws) ∧ RepT K G kvs ws
  | .ins C fs => ∃ dx ws, H a = some (.ins (He.ga K C) dx ws) ∧ RepF K G fs ws
  | _ => False
structure EnvOk (O : Addr → Prop) (ρ : Vn) (σ : St) (H : Hp) : Prop where
  len : ρ.length = σ.length
  dom : ∀ b, O b → H b ≠ none
  val : ∀ (i : Nat) (d : D), ρ[i]? = some (.val d) → ∃ v, σ[i]? = some (some v) ∧ Rep K (vis (Hid O ρ σ) H) d v
  own : ∀ (i : Nat) (d : D), ρ[i]? = some (.own d) → ∃ a, σ[i]? = some (some (.ref a)) ∧ Top K (vis (Hid O ρ σ) H) H d a
  io : ∀ (i : Nat) (d : D), ρ[i]? = some (.io d) → ∃ a, σ[i]? = some (some (.ref a)) ∧ O a ∧ Top K (vis (Hid O ρ σ) H) H d a
  lkd : ∀ (i : Nat) (d : D), ρ[i]? = some (.lkd d) → ∃ a, σ[i]? = some (some (.ref a)) ∧ TopR K (vis (Hid O ρ σ) H) H d a
  inj : ∀ (i j : Nat) (a : Addr) (si sj : Sl), ρ[i]? = some si → ρ[j]? = some sj → si.isOwn = true → sj.isOwn = true → σ[i]? = some (some (.ref a)) → σ[j]? = some (some (.ref a)) → i = j
  sep : ∀ (i : Nat) (d : D) (a : Addr), ρ[i]? = some (.own d) → σ[i]? = some (some (.ref a)) → ¬ O a
def Kp (W : Addr → Prop) (H H' : Hp) : Prop := ∀ b o, ¬ W b → H b = some o → H' b = some o
end
section
variable {K : PySem.W.Frag} {O : Addr → Prop} {ρ ρ' : Vn} {σ : St} {H H' G G' : Hp} {d : D} {a : Addr} {v : V}
theorem Kp.refl {W : Addr → Prop} : Kp W H H := fun _ _ _ h => h
theorem Kp.mono {W W' : Addr → Prop} (h : Kp W H H') (x : ∀ b, W b → W' b) : Kp W' H H' := fun b o n e => h b o (fun z => n (x b z)) e
theorem Kp.trans {W : Addr → Prop} {H1 : Hp} (h : Kp W H H1) (h' : Kp W H1 H') : Kp W H H' := fun b o n e => h' b o n (h b o n e)
theorem WrA.own {b : Addr} (h : WrA ρ σ b) : OwnA ρ σ b := by
  obtain ⟨i, sl, e, w, s⟩ := h
  exact ⟨i, sl, e, by cases sl <;> simp_all [Sl.isWr, Sl.isOwn], s⟩
theorem Top.r (h : Top K G H d a) : TopR K G H d a := by
  cases d <;> simp only [Top, TopR] at h ⊢ <;> try exact h
  · obtain ⟨vs, e, r⟩ := h; exact ⟨vs, .inl e, r⟩
  · obtain ⟨vs, e, r⟩ := h; exact ⟨vs, .inl e, r⟩
  · obtain ⟨vs, e, r⟩ := h; exact ⟨vs, .inl e, r⟩
theorem Top.ext (h : Top K G H d a) (x : Ext G G') (k : ∀ o, H a = some o → H' a = some o) : Top K G' H' d a := by
  cases d <;> simp only [Top] at h ⊢ <;> try exact h
  · obtain ⟨vs, e, r⟩ := h; exact ⟨vs, k _ e, r.ext x⟩
  · obtain ⟨vs, e, r⟩ := h; exact ⟨vs, k _ e, r.ext x⟩
  · obtain ⟨vs, e, r⟩ := h; exact ⟨vs, k _ e, r.ext x⟩
  · obtain ⟨dx, ws, e, r⟩ := h; exact ⟨dx, ws, k _ e, r.ext x⟩
theorem TopR.ext (h : TopR K G H d a) (x : Ext G G') (k : ∀ o, H a = some o → H' a = some o) : TopR K G' H' d a := by
  have kr : ∀ u, Rd H a u → Rd H' a u := fun u r => r.elim (fun e => .inl (k _ e)) fun ⟨o, e⟩ => .inr ⟨o, k _ e⟩
  cases d <;> simp only [TopR] at h ⊢ <;> try exact h
  · obtain ⟨vs, e, r⟩ := h; exact ⟨vs, kr _ e, r.ext x⟩
  · obtain ⟨vs, e, r⟩ := h; exact ⟨vs, kr _ e, r.ext x⟩
  · obtain ⟨vs, e, r⟩ := h; exact ⟨vs, kr _ e, r.ext x⟩
  · obtain ⟨dx, ws, e, r⟩ := h; exact ⟨dx, ws, k _ e, r.ext x⟩
theorem Top.ne (h : Top K G H d a) : H a ≠ none := by
  cases d <;> simp only [Top] at h
  · obtain ⟨vs, e, _⟩ := h; rw [e]; simp
  · obtain ⟨vs, e, _⟩ := h; rw [e]; simp
  · obtain ⟨vs, e, _⟩ := h; rw [e]; simp
  · obtain ⟨_, vs, e, _⟩ := h; rw [e]; simp
theorem rd_ne {u : HO} (h : Rd H a u) : H a ≠ none := by
  rcases h with e | ⟨o, e⟩ <;> rw [e] <;> simp
theorem TopR.ne (h : TopR K G H d a) : H a ≠ none := by
  cases d <;> simp only [TopR] at h
  · obtain ⟨vs, e, _⟩ := h; exact rd_ne e
  · obtain ⟨vs, e, _⟩ := h; exact rd_ne e
  · obtain ⟨vs, e, _⟩ := h; exact rd_ne e
  · obtain ⟨_, vs, e, _⟩ := h; rw [e]; simp
/-- what the slots own stands in the heap -/
theorem EnvOk.domH (E : EnvOk K O ρ σ H) : ∀ b, Hid O ρ σ b → H b ≠ none := by
  rintro b (h | ⟨i, sl, e, w, s⟩)
  · exact E.dom b h
  · cases sl with
    | non => cases w
    | val d => cases w
    | own d =>
      obtain ⟨a, s', t⟩ := E.own i d e
      rw [s] at s'; cases s'
      exact t.ne
    | io d =>
      obtain ⟨a, s', _, t⟩ := E.io i d e
      rw [s] at s'; cases s'
      exact t.ne
    | lkd d =>
      obtain ⟨a, s', t⟩ := E.lkd i d e
      rw [s] at s'; cases s'
      exact t.ne
/-- a value that is seen whole: by hand, or owned -/
theorem Top.rep (h : Top K G H d a) (x : Ext G H') (k : ∀ o, H a = some o → H' a = some o) : Rep K H' d (.ref a) := by
  have z : Top K H' H' d a := h.ext x k
  cases d <;> simp only [Top, Rep] at z ⊢ <;> try exact z
  · obtain ⟨vs, e, r⟩ := z; exact ⟨a, vs, rfl, SqL.of e, r⟩
  · obtain ⟨vs, e, r⟩ := z; exact ⟨a, vs, rfl, .inl e, r⟩
  · obtain ⟨vs, e, r⟩ := z; exact ⟨a, vs, rfl, .inl e, r⟩
  · obtain ⟨dx, vs, e, r⟩ := z; exact ⟨a, dx, vs, rfl, e, r⟩
/-- to be read: seen in G, or a slot's own -/
def RdOk (K : PySem.W.Frag) (G H : Hp) (d : D) (v : V) : Prop := Rep K G d v ∨ ∃ a, v = .ref a ∧ TopR K G H d a
theorem RdOk.lst {ds : List D} (h : RdOk K G H (.lst ds) v) (x : Ext G H) : ∃ a vs, v = .ref a ∧ SqL K H a vs ∧ Reps K G ds vs := by
  rcases h with h | ⟨a, rfl, vs, r, rs⟩
  · simp only [Rep] at h
    obtain ⟨a, vs, e, s, r⟩ := h
    exact ⟨a, vs, e, sqL_ext x s, r⟩
  · exact ⟨a, vs, rfl, .inl r, rs⟩
theorem RdOk.dct {ds : List (Key × D)} (h : RdOk K G H (.dct ds) v) (x : Ext G H) : ∃ a vs, v = .ref a ∧ Rd H a (.dK vs) ∧ RepK K G ds vs := by
  rcases h with h | ⟨a, rfl, vs, r, rs⟩
  · simp only [Rep] at h
    obtain ⟨a, vs, e, s, r⟩ := h
    exact ⟨a, vs, e, x.rd _ _ rfl s, r⟩
  · exact ⟨a, vs, rfl, r, rs⟩
theorem RdOk.dcT {ds : List (List Key × D)} (h : RdOk K G H (.dcT ds) v) (x : Ext G H) : ∃ a vs, v = .ref a ∧ Rd H a (.dT vs) ∧ RepT K G ds vs := by
  rcases h with h | ⟨a, rfl, vs, r, rs⟩
  · simp only [Rep] at h
    obtain ⟨a, vs, e, s, r⟩ := h
    exact ⟨a, vs, e, x.rd _ _ rfl s, r⟩
  · exact ⟨a, vs, rfl, r, rs⟩
theorem RdOk.ins {C : Str} {fs : List (Str × D)} (h : RdOk K G H (.ins C fs) v) (x : Ext G H) : ∃ a dx ws, v = .ref a ∧ H a = some (.ins (He.ga K C) dx ws) ∧ RepF K G fs ws := by
  rcases h with h | ⟨a, rfl, dx, ws, e, rs⟩
  · simp only [Rep] at h
    obtain ⟨a, dx, ws, e, s, r⟩ := h
    exact ⟨a, dx, ws, e, x.ins _ _ _ _ s, r⟩
  · exact ⟨a, dx, ws, rfl, e, rs⟩
/-- the data of any kind: in the whole heap it is seen -/
theorem RdOk.rep (h : RdOk K G H d v) (x : Ext G H) : Rep K H d v := by
  cases d with
  | lst ds => obtain ⟨a, vs, e, s, r⟩ := h.lst x; simp only [Rep]; exact ⟨a, vs, e, s, r.ext x⟩
  | dct ds => obtain ⟨a, vs, e, s, r⟩ := h.dct x; simp only [Rep]; exact ⟨a, vs, e, s, r.ext x⟩
  | dcT ds => obtain ⟨a, vs, e, s, r⟩ := h.dcT x; simp only [Rep]; exact ⟨a, vs, e, s, r.ext x⟩
  | ins C fs => obtain ⟨a, dx, vs, e, s, r⟩ := h.ins x; simp only [Rep]; exact ⟨a, dx, vs, e, s, r.ext x⟩
  | _ =>
    rcases h with h | ⟨a, _, h⟩
    · exact h.ext x
    · cases h
theorem RdOk.ext (h : RdOk K G H d v) (x : Ext G G') (k : ∀ b o, H b = some o → H' b = some o) : RdOk K G' H' d v :=
  h.elim (fun r => .inl (r.ext x)) fun ⟨a, e, t⟩ => .inr ⟨a, e, t.ext x fun o => k a o⟩
end
/-! ### how an environment may go on within an expression -/
/-- slots stay, what is owned may be given away (val) or changed in place -/
def Sl.to : Sl → Sl → Prop
  | .non, s => s = .non
  | .val d, s => s = .val d
  | .own _, s => (∃ d', s = .own d') ∨ ∃ d', s = .val d'
  | .io _, s => ∃ d', s = .io d'
  | .lkd d, s => s = .lkd d
def EvTo (ρ ρ' : Vn) : Prop := ρ'.length = ρ.length ∧ ∀ (i : Nat) (s : Sl), ρ[i]? = some s → ∃ s' : Sl, ρ'[i]? = some s' ∧ s.to s'
theorem Sl.to_refl (s : Sl) : s.to s := by cases s <;> simp [Sl.to]
theorem Sl.to_trans {a b c : Sl} (h : a.to b) (g : b.to c) : a.to c := by
  cases a with
  | own d =>
    simp only [Sl.to] at h
    rcases h with ⟨d', rfl⟩ | ⟨d', rfl⟩
    · exact g
    · simp only [Sl.to] at g ⊢; exact .inr ⟨_, g⟩
  | io d => simp only [Sl.to] at h; obtain ⟨d', rfl⟩ := h; exact g
  | _ => simp only [Sl.to] at h; subst h; exact g
theorem EvTo.refl (ρ : Vn) : EvTo ρ ρ := ⟨rfl, fun i s e => ⟨s, e, s.to_refl⟩⟩
theorem EvTo.trans {a b c : Vn} (h : EvTo a b) (g : EvTo b c) : EvTo a c := ⟨g.1.trans h.1, fun i s e => by
  obtain ⟨s', e', t⟩ := h.2 i s e
  obtain ⟨s'', e'', t'⟩ := g.2 i s' e'
  exact ⟨s'', e'', Sl.to_trans t t'⟩⟩
theorem EvTo.back {a b : Vn} (h : EvTo a b) {i : Nat} {s' : Sl} (e : b[i]? = some s') : ∃ s, a[i]? = some s ∧ s.to s' := by
  have hi : i < a.length := by rw [← h.1]; exact (List.getElem?_eq_some_iff.mp e).1
  obtain ⟨s2, e2, t⟩ := h.2 i a[i] (by simp [hi])
  rw [e] at e2; cases e2
  exact ⟨_, by simp [hi], t⟩
theorem Sl.to_own {a b : Sl} (h : a.to b) (w : b.isOwn = true) : a.isOwn = true := by
  cases a with
  | own d => rfl
  | io d => rfl
  | lkd d => rfl
  | _ => simp only [Sl.to] at h; subst h; exact w
theorem Sl.to_wr {a b : Sl} (h : a.to b) (w : b.isWr = true) : a.isWr = true := by
  cases a with
  | own d => rfl
  | io d => rfl
  | _ => simp only [Sl.to] at h; subst h; exact w
theorem EvTo.own {a b : Vn} (h : EvTo a b) {σ : St} {x : Addr} (o : OwnA b σ x) : OwnA a σ x := by
  obtain ⟨i, s', e, w, q⟩ := o
  obtain ⟨s, e', t⟩ := h.back e
  exact ⟨i, s, e', Sl.to_own t w, q⟩
theorem EvTo.wr {a b : Vn} (h : EvTo a b) {σ : St} {x : Addr} (o : WrA b σ x) : WrA a σ x := by
  obtain ⟨i, s', e, w, q⟩ := o
  obtain ⟨s, e', t⟩ := h.back e
  exact ⟨i, s, e', Sl.to_wr t w, q⟩
theorem EvTo.hid {a b : Vn} (h : EvTo a b) {O : Addr → Prop} {σ : St} {x : Addr} (o : Hid O b σ x) : Hid O a σ x := o.elim .inl fun z => .inr (h.own z)
end Z

namespace Z
open PySem PySem.Spec L2
/-! ### the text of a body, its names as slots -/
inductive MT where
  | nm (i : Nat)
  | tp (is : List Nat)
inductive ME where
  | var (i : Nat)
  /-- a name that is looked at, in a place where what it holds is not kept -/
  | rd (i : Nat)
  | cst (d : D)
  | tup (es : List ME) | lst (es : List ME)
  | bin (op : Operator) (a b : ME)
  | neg (a : ME) | not (a : ME)
  | and (a b : ME) | or (a b : ME)
  | cmp (op : CmpOp) (a b : ME)
  | chain (op op' : CmpOp) (a b c : ME)
  | ite (c a b : ME)
  | call (f : String) (es : List ME)
  | callio (f : String) (i : Nat) (es : List ME)
  | bi (f : String) (es : List ME)
  | isi (a : ME) (cs : List String)
  | ix (a b : ME)
  | slc (a : ME) (lo hi : Option ME)
  /-- {k: v, ..}: keys and values in turn -/
  | dsp (es : List ME)
  /-- [elt for tg in it if tst]; k: the kind of walk (0: the thing itself, 1: range, 2: zip, 3: enumerate, 4: items, 5: values) -/
  | lc (elt : ME) (vs : List Nat) (tg : MT) (k : Nat) (its : List ME) (tst : Option ME)
inductive MS where
  | set (tg : MT) (e : ME)
  /-- a, b = x, y -/
  | par (i j : Nat) (a b : ME)
  | setIx (i : Nat) (ix e : ME)
  | expr (e : ME)
  | app (i : Nat) (e : ME)
  | ins (i : Nat) (p e : ME)
  | ite (c : ME) (a b : List MS)
  | for (tg : MT) (k : Nat) (its : List ME) (body : List MS)
  | while (c : ME) (body : List MS)
  | ret (e : ME)
  | raise (C : Str)
  | brk
  | pass
  /-- what no proof comes to -/
  | bad
/-! ### operators on data -/
/-- lists are short -/
def lim : Nat := 1000000
def mulOk (i j : Int) : Bool := decide (i.natAbs.log2 + j.natAbs.log2 < 100000000)
def powOk (i j : Int) : Bool := decide (0 ≤ j) && decide ((i.natAbs.log2 + 1) * j.toNat ≤ 100000000)
def divOk (j : Int) : Bool := decide (j ≠ 0) && decide (j.natAbs.log2 < 9000)
mutual
def D.py : D → Option PyData
  | .non => some .none
  | .bl b => some (.bool b)
  | .int i => some (.int i)
  | .str x => some (.str x)
  | .tup ds => match pyAll ds with
    | some ps => some (.tuple ps)
    | none => none
  | .lst ds => match pyAll ds with
    | some ps => some (.list ps)
    | none => none
  | _ => none
def pyAll : List D → Option (List PyData)
  | [] => some []
  | d :: ds => match d.py, pyAll ds with
    | some p, some ps => some (p :: ps)
    | _, _ => none
end
def eqD (x y : D) : Option Bool := match x.py, y.py with
  | some p, some q => if PySem.SeqAt.shaped p && PySem.SeqAt.shaped q then some (PyData.eqv p q) else none
  | _, _ => none
def binD (op : Operator) (x y : D) : Option (Bool × D) := match op, x, y with
  | .Add, .int i, .int j => some (false, .int (i + j))
  | .Sub, .int i, .int j => some (false, .int (i - j))
  | .Mult, .int i, .int j => if mulOk i j then some (false, .int (i * j)) else none
  | .FloorDiv, .int i, .int j => if divOk j then some (false, .int (i.fdiv j)) else none
  | .Mod, .int i, .int j => if j = 0 then none else some (false, .int (i.fmod j))
  | .Pow, .int i, .int j => if powOk i j then some (false, .int (i ^ j.toNat)) else none
  | .Add, .lst a, .lst b => if a.length + b.length ≤ lim then some (true, .lst (a ++ b)) else none
  | .Add, .tup a, .tup b => if a.length + b.length ≤ lim then some (false, .tup (a ++ b)) else none
  | .Add, .str a, .str b => if a.length + b.length ≤ lim then some (false, .str (a ++ b)) else none
  | _, _, _ => none
def memD (x : D) : List D → Option Bool
  | [] => some false
  | y :: ys => match eqD y x with
    | some true => some true
    | some false => memD x ys
    | none => none
def isNonD : D → Bool
  | .non => true
  | _ => false
def cmpD (op : CmpOp) (x y : D) : Option Bool := match op, x, y with
  | .Lt, .int i, .int j => some (decide (i < j))
  | .LtE, .int i, .int j => some (decide (i ≤ j))
  | .Gt, .int i, .int j => some (decide (j < i))
  | .GtE, .int i, .int j => some (decide (j ≤ i))
  | .Eq, .str a, .str b => some (decide (a = b))
  | .NotEq, .str a, .str b => some (!decide (a = b))
  | .Eq, x, y => eqD x y
  | .NotEq, x, y => (eqD x y).map not
  | .Is, x, .non => some (isNonD x)
  | .IsNot, x, .non => some (!isNonD x)
  | .Is, .bl a, .bl b => some (decide (a = b))
  | .IsNot, .bl a, .bl b => some (!decide (a = b))
  | _, _, _ => none
def truD : D → Option Bool
  | .bl b => some b
  | _ => none
/-- the names of built-in classes -/
def isiD (x : D) (c : String) : Option Bool := match x with
  | .non => if c = "int" ∨ c = "bool" ∨ c = "str" ∨ c = "tuple" ∨ c = "list" ∨ c = "dict" then some false else none
  | .bl _ => if c = "int" ∨ c = "bool" then some true else if c = "str" ∨ c = "tuple" ∨ c = "list" ∨ c = "dict" then some false else none
  | .int _ => if c = "int" then some true else if c = "bool" ∨ c = "str" ∨ c = "tuple" ∨ c = "list" ∨ c = "dict" then some false else none
  | .str _ => if c = "str" then some true else if c = "bool" ∨ c = "int" ∨ c = "tuple" ∨ c = "list" ∨ c = "dict" then some false else none
  | .tup _ => if c = "tuple" then some true else if c = "bool" ∨ c = "int" ∨ c = "str" ∨ c = "list" ∨ c = "dict" then some false else none
  | .lst _ => if c = "list" then some true else if c = "bool" ∨ c = "int" ∨ c = "str" ∨ c = "tuple" ∨ c = "dict" then some false else none
  | .dct _ => if c = "dict" then some true else if c = "bool" ∨ c = "int" ∨ c = "str" ∨ c = "tuple" ∨ c = "list" then some false else none
  | _ => none
def ixD (x y : D) : Option D := match x, y with
  | .lst ds, .int i => if 0 ≤ i then ds[i.toNat]? else if -(ds.length : Int) ≤ i then ds[(ds.length + i).toNat]? else none
  | .tup ds, .int i => if 0 ≤ i then ds[i.toNat]? else if -(ds.length : Int) ≤ i then ds[(ds.length + i).toNat]? else none
  | _, _ => none
def biD (f : String) (ds : List D) : Option (Bool × D) := match f, ds with
  | "len", [.lst ds] => some (false, .int ds.length)
  | "len", [.tup ds] => some (false, .int ds.length)
  | "len", [.dct ds] => some (false, .int ds.length)
  | "len", [.str s] => if s.length ≤ lim then some (false, .int s.length) else none
  | "abs", [.int i] => some (false, .int i.natAbs)
  | "int", [.int i] => some (false, .int i)
  | "int", [.bl b] => some (false, .int (if b then 1 else 0))
  | "repr", [d] => match d.py with
    | some p => if PyData.showable p && !p.hasDict && decide (p.depth ≤ 60) && decide (p.shown.length ≤ lim) then some (false, .str p.shown) else none
    | none => none
  | "list", [.lst ds] => some (true, .lst ds)
  | "list", [.tup ds] => some (true, .lst ds)
  | "tuple", [.lst ds] => some (false, .tup ds)
  | "tuple", [.tup ds] => some (false, .tup ds)
  | "str", [.int i] => if i.natAbs.log2 < 1920 then some (false, .str (toString i)) else none
  | _, _ => none
/-- the items of a slice -/
def cutD {α : Type} (xs : List α) (lo hi : Option Int) : List α := (xs.drop (HT.sIx xs.length 0 lo)).take (HT.sIx xs.length xs.length hi - HT.sIx xs.length 0 lo)
def slcD (x : D) (lo hi : Option Int) : Option (Bool × D) := match x with
  | .lst ds => some (true, .lst (cutD ds lo hi))
  | .tup ds => some (false, .tup (cutD ds lo hi))
  | .str z => if z.length ≤ lim then some (false, .str (cutS z lo hi)) else none
  | _ => none
def keyD : D → Option Key
  | .int i => some (.inl i)
  | .str x => some (.inr x)
  | _ => none
def putD {κ α : Type} [DecidableEq κ] (kvs : List (κ × α)) (k : κ) (d : α) : List (κ × α) :=
  if (kvs.any fun kv => decide (kv.1 = k)) = true then kvs.map (fun kv => if kv.1 = k then (kv.1, d) else kv) else kvs ++ [(k, d)]
def prsD : List D → Option (List (Key × D))
  | [] => some []
  | k :: v :: r => match keyD k, prsD r with
    | some k, some r => some ((k, v) :: r)
    | _, _ => none
  | _ => none
def dspD (ds : List D) : Option (Bool × D) := match prsD ds with
  | some kvs => if kvs.length ≤ 15 then some (true, .dct (kvs.foldl (fun acc kv => putD acc kv.1 kv.2) [])) else none
  | none => none
/-! ### slots -/
/-- a slot may be stored anew -/
def Sl.free : Sl → Bool
  | .io _ => false | .lkd _ => false | _ => true
def setS (ρ : Vn) (i : Nat) (s : Sl) : Option Vn := match ρ[i]? with
  | some t => if t.free then some (ρ.set i s) else none
  | none => none
def sets (ρ : Vn) : List Nat → List D → Option Vn
  | [], [] => some ρ
  | i :: is, d :: ds => match setS ρ i (.val d) with
    | some ρ' => sets ρ' is ds
    | none => none
  | _, _ => none
def asgT (tg : MT) (d : D) (ρ : Vn) : Option Vn := match tg, d with
  | .nm i, d => setS ρ i (.val d)
  | .tp is, .tup ds => sets ρ is ds
  | _, _ => none
def wipeV (ρ : Vn) : List Nat → Vn
  | [] => ρ
  | v :: vs => (wipeV ρ vs).set v .non
def backV (ρ ρ0 : Vn) : List Nat → Vn
  | [] => ρ
  | v :: vs => (backV ρ ρ0 vs).set v (ρ0[v]?.getD .non)
/-- the locks of ρ0's owned slots go -/
def unlockV (ρ ρ0 : Vn) : List Nat → Vn
  | [] => ρ
  | i :: is => match ρ0[i]? with
    | some (.own d) => (unlockV ρ ρ0 is).set i (.own d)
    | some (.io d) => (unlockV ρ ρ0 is).set i (.io d)
    | _ => unlockV ρ ρ0 is
/-- the slots that a walk goes through -/
def rdIdx : List ME → List Nat
  | [] => []
  | .rd i :: es => i :: rdIdx es
  | _ :: es => rdIdx es
def lockV (ρ : Vn) : List Nat → Vn
  | [] => ρ
  | i :: is => match (lockV ρ is)[i]? with
    | some (.own d) => (lockV ρ is).set i (.lkd d)
    | some (.io d) => (lockV ρ is).set i (.lkd d)
    | _ => lockV ρ is
def ofOpt {α : Type} (o : Option α) (ρ : Vn) : Res α := match o with
  | some a => .ok a ρ
  | none => .stuck
@[simp] theorem ofOpt_some {α : Type} {a : α} {ρ : Vn} : ofOpt (some a) ρ = .ok a ρ := rfl
@[simp] theorem ofOpt_none {α : Type} {ρ : Vn} : ofOpt (none : Option α) ρ = .stuck := rfl
/-- what a walk goes through -/
def itD (k : Nat) (ds : List D) : Option (List D) := match k, ds with
  | 0, [.lst ds] => some ds
  | 0, [.tup ds] => some ds
  | 1, [.int n] => if decide (-(lim : Int) ≤ n) && decide (n ≤ lim) then some ((List.range n.toNat).map fun i => .int (i : Nat)) else none
  | 1, [.int a, .int b] => if decide (-(lim : Int) ≤ a) && decide (a ≤ lim) && decide (-(lim : Int) ≤ b) && decide (b ≤ lim) then some ((List.range (b - a).toNat).map fun i => .int (a + (i : Nat))) else none
  | 2, [.lst a, .lst b] => some ((a.zip b).map fun p => .tup [p.1, p.2])
  | 3, [.lst a] => some (a.zipIdx.map fun p => .tup [.int (p.2 : Nat), p.1])
  | _, _ => none
def Res.noX {α : Type} (r : Res α) : Res α := match r with
  | .ok a ρ => .ok a ρ
  | _ => .stuck
@[simp] theorem Res.noX_ok {α : Type} {a : α} {ρ : Vn} : (Res.ok a ρ).noX = .ok a ρ := rfl
def lcGo (vs : List Nat) (tg : MT) (body : Vn → Res (Option D)) : List D → Vn → Res (List D)
  | [], ρ => .ok [] ρ
  | d :: ds, ρ => (ofOpt (asgT tg d (wipeV ρ vs)) ρ).bind fun ρ1 _ => (body ρ1).bind fun r ρ2 => (lcGo vs tg body ds ρ2).bind fun rs ρ3 => .ok (r.toList ++ rs) ρ3
def Sl.data : Sl → Option D
  | .val d => some d | .own d => some d | .io d => some d | .lkd d => some d | .non => none
/-- what is walked is read when the walk begins -/
def fresh (ρ : Vn) : List ME → List D → List D
  | .rd i :: ms, d :: ds => ((ρ[i]?.bind Sl.data).getD .non) :: fresh ρ ms ds
  | _ :: ms, d :: ds => d :: fresh ρ ms ds
  | _, _ => []
def wrAt (ρ : Vn) (i : Nat) : Bool := match ρ[i]? with
  | some s => s.isWr
  | none => false
section
variable (Φ : String → Option Fn)
def callF (f : String) (ds : List D) (ρ : Vn) : Res (Bool × D) := match Φ f with
  | some fn => if fn.io then .stuck else if ds.length ≤ fn.ar ∧ fn.ar ≤ ds.length + fn.dfl.length then
      match fn.run (ds ++ fn.dfl.drop (fn.dfl.length - (fn.ar - ds.length))) with
      | .ok d _ => .ok (fn.fresh, d) ρ
      | .exn x _ => .exn x ρ
      | .stuck => .stuck
    else .stuck
  | none => .stuck
def callIo (f : String) (i : Nat) (ds : List D) (ρ : Vn) : Res (Bool × D) := match Φ f, ρ[i]? with
  | some fn, some (.own d0) => if fn.io ∧ ds.length + 1 = fn.ar then
      match fn.run (d0 :: ds) with
      | .ok d s => .ok (fn.fresh, d) (ρ.set i (.own s))
      | .exn x s => .exn x (ρ.set i (.own s))
      | .stuck => .stuck
    else .stuck
  | some fn, some (.io d0) => if fn.io ∧ ds.length + 1 = fn.ar then
      match fn.run (d0 :: ds) with
      | .ok d s => .ok (fn.fresh, d) (ρ.set i (.io s))
      | .exn x s => .exn x (ρ.set i (.io s))
      | .stuck => .stuck
    else .stuck
  | _, _ => .stuck
mutual
def evE : ME → Vn → Res (Bool × D)
  | .var i, ρ => match ρ[i]? with
    | some (.val d) => .ok (false, d) ρ
    | some (.own d) => .ok (false, d) (ρ.set i (.val d))
    | _ => .stuck
  | .rd i, ρ => match ρ[i]? with
    | some (.val d) => .ok (false, d) ρ
    | some (.own d) => .ok (false, d) ρ
    | some (.io d) => .ok (false, d) ρ
    | some (.lkd d) => .ok (false, d) ρ
    | _ => .stuck
  | .cst d, ρ => .ok (false, d) ρ
  | .tup es, ρ => (evL es ρ).bind fun ds ρ => .ok (false, .tup ds) ρ
  | .lst es, ρ => (evL es ρ).bind fun ds ρ => .ok (true, .lst ds) ρ
  | .bin op a b, ρ => (evE a ρ).bind fun x ρ => (evE b ρ).bind fun y ρ => ofOpt (binD op x.2 y.2) ρ
  | .neg a, ρ => (evE a ρ).bind fun x ρ => match x.2 with
    | .int i => .ok (false, .int (-i)) ρ
    | _ => .stuck
  | .not a, ρ => (evE a ρ).bind fun x ρ => (ofOpt (truD x.2) ρ).bind fun b ρ => .ok (false, .bl (!b)) ρ
  | .and a b, ρ => (evE a ρ).bind fun x ρ => (ofOpt (truD x.2) ρ).bind fun c ρ => if c then evE b ρ else .ok (false, .bl false) ρ
  | .or a b, ρ => (evE a ρ).bind fun x ρ => (ofOpt (truD x.2) ρ).bind fun c ρ => if c then .ok (false, .bl true) ρ else evE b ρ
  | .cmp op a b, ρ => (evE a ρ).bind fun x ρ => (evE b ρ).bind fun y ρ => (ofOpt (cmpD op x.2 y.2) ρ).bind fun b ρ => .ok (false, .bl b) ρ
  | .chain op op' a b c, ρ => (evE a ρ).bind fun x ρ => (evE b ρ).bind fun y ρ => (ofOpt (cmpD op x.2 y.2) ρ).bind fun k ρ =>
      if k then (evE c ρ).bind fun z ρ => (ofOpt (cmpD op' y.2 z.2) ρ).bind fun b ρ => .ok (false, .bl b) ρ else .ok (false, .bl false) ρ
  | .ite c a b, ρ => (evE c ρ).bind fun x ρ => (ofOpt (truD x.2) ρ).bind fun k ρ => if k then evE a ρ else evE b ρ
  | .call f es, ρ => (evL es ρ).bind fun ds ρ => callF Φ f ds ρ
  | .callio f i es, ρ => if wrAt ρ i then (evL es ρ).bind fun ds ρ => callIo Φ f i ds ρ else .stuck
  | .bi f es, ρ => (evL es ρ).bind fun ds ρ => ofOpt (biD f ds) ρ
  | .isi a cs, ρ => (evE a ρ).bind fun x ρ => match cs with
    | [c] => (ofOpt (isiD x.2 c) ρ).bind fun b ρ => .ok (false, .bl b) ρ
    | _ => .stuck
  | .ix a b, ρ => (evE a ρ).bind fun x ρ => (evE b ρ).bind fun y ρ => (ofOpt (ixD x.2 y.2) ρ).bind fun d ρ => .ok (false, d) ρ
  | .slc a lo hi, ρ => (evE a ρ).bind fun x ρ => (evO lo ρ).bind fun l ρ => (evO hi ρ).bind fun h ρ => ofOpt (slcD x.2 l h) ρ
  | .dsp es, ρ => (evL es ρ).bind fun ds ρ => ofOpt (dspD ds) ρ
  | .lc elt vs tg k its tst, ρ0 => (evL its ρ0).bind fun ds ρ => (ofOpt (itD k (fresh ρ its ds)) ρ).bind fun xs ρ =>
      if xs.length ≤ lim ∧ (vs.all fun i => match ρ[i]? with
        | some s => !s.isOwn
        | none => false) then
        ((lcGo vs tg (fun ρ => match tst with
          | none => (evE elt ρ).bind fun x ρ => .ok (some x.2) ρ
          | some t => (evE t ρ).bind fun x ρ => (ofOpt (truD x.2) ρ).bind fun c ρ => if c then (evE elt ρ).bind fun x ρ => .ok (some x.2) ρ else .ok none ρ) xs (lockV ρ (rdIdx its))).noX).bind fun rs ρ' => .ok (true, .lst rs) (backV ρ' ρ (rdIdx its ++ vs))
      else .stuck
def evO : Option ME → Vn → Res (Option Int)
  | none, ρ => .ok none ρ
  | some m, ρ => (evE m ρ).bind fun x ρ => match x.2 with
    | .int i => .ok (some i) ρ
    | _ => .stuck
def evL : List ME → Vn → Res (List D)
  | [], ρ => .ok [] ρ
  | e :: es, ρ => (evE e ρ).bind fun x ρ => (evL es ρ).bind fun xs ρ => .ok (x.2 :: xs) ρ
end
/-! ### statements -/
inductive Out where
  | nx (ρ : Vn) | rt (fl : Bool) (d : D) (ρ : Vn) | bk (ρ : Vn) | ct (ρ : Vn) | exn (x : Exn) (ρ : Vn) | stuck
def Res.out {α : Type} (r : Res α) (f : α → Vn → Out) : Out := match r with
  | .ok a ρ => f a ρ
  | .exn x ρ => .exn x ρ
  | .stuck => .stuck
@[simp] theorem Res.out_ok {α : Type} {a : α} {ρ : Vn} {f : α → Vn → Out} : (Res.ok a ρ).out f = f a ρ := rfl
@[simp] theorem Res.out_exn {α : Type} {x : Exn} {ρ : Vn} {f : α → Vn → Out} : (Res.exn x ρ : Res α).out f = .exn x ρ := rfl
@[simp] theorem Res.out_stuck {α : Type} {f : α → Vn → Out} : (Res.stuck : Res α).out f = .stuck := rfl
/-- the locks go -/
def Out.back (o : Out) (ρ0 : Vn) (is : List Nat) : Out := match o with
  | .nx ρ => .nx (unlockV ρ ρ0 is)
  | .rt fl d ρ => .rt fl d (unlockV ρ ρ0 is)
  | .bk ρ => .bk (unlockV ρ ρ0 is)
  | .ct ρ => .ct (unlockV ρ ρ0 is)
  | .exn x ρ => .exn x (unlockV ρ ρ0 is)
  | .stuck => .stuck
def forGo (tg : MT) (body : Vn → Out) : List D → Vn → Out
  | [], ρ => .nx ρ
  | d :: ds, ρ => match asgT tg d ρ with
    | none => .stuck
    | some ρ1 => match body ρ1 with
      | .nx ρ2 => forGo tg body ds ρ2
      | .ct ρ2 => forGo tg body ds ρ2
      | .bk ρ2 => .nx ρ2
      | o => o
def whGo (c : Vn → Res (Bool × D)) (body : Vn → Out) : Nat → Vn → Out
  | 0, _ => .stuck
  | n + 1, ρ => (c ρ).out fun x ρ => (ofOpt (truD x.2) ρ).out fun b ρ => if b then match body ρ with
      | .nx ρ2 => whGo c body n ρ2
      | .ct ρ2 => whGo c body n ρ2
      | .bk ρ2 => .nx ρ2
      | o => o
    else .nx ρ
/-- an owned slot is taken, changed, put back -/
def updS (ρ : Vn) (i : Nat) (f : D → Option D) : Option Vn := match ρ[i]? with
  | some (.own d) => (f d).map fun d' => ρ.set i (.own d')
  | some (.io d) => (f d).map fun d' => ρ.set i (.io d')
  | _ => none
/-- a slot has a list of its own -/
def lstAt (ρ : Vn) (i : Nat) : Bool := match ρ[i]? with
  | some (.own (.lst _)) => true
  | some (.io (.lst _)) => true
  | _ => false
mutual
def exS (n : Nat) : MS → Vn → Out
  | .set tg e, ρ => (evE Φ e ρ).out fun x ρ => match tg with
    | .nm i => (ofOpt (setS ρ i (if x.1 then .own x.2 else .val x.2)) ρ).out fun ρ _ => .nx ρ
    | .tp is => (ofOpt (asgT (.tp is) x.2 ρ) ρ).out fun ρ _ => .nx ρ
  | .par i j a b, ρ => (evE Φ a ρ).out fun x ρ => (evE Φ b ρ).out fun y ρ => (ofOpt (setS ρ i (.val x.2)) ρ).out fun ρ _ => (ofOpt (setS ρ j (.val y.2)) ρ).out fun ρ _ => .nx ρ
  | .setIx i ix e, ρ => (evE Φ e ρ).out fun x ρ => if lstAt ρ i then (evE Φ ix ρ).out fun k ρ => (ofOpt (updS ρ i fun d => match d, k.2 with
      | .lst ds, .int j => if 0 ≤ j ∧ j < ds.length then some (.lst (ds.set j.toNat x.2)) else none
      | _, _ => none) ρ).out fun ρ _ => .nx ρ else .stuck
  | .expr e, ρ => (evE Φ e ρ).out fun _ ρ => .nx ρ
  | .app i e, ρ => if lstAt ρ i then (evE Φ e ρ).out fun x ρ => (ofOpt (updS ρ i fun d => match d with
      | .lst ds => if ds.length ≤ lim then some (.lst (ds ++ [x.2])) else none
      | _ => none) ρ).out fun ρ _ => .nx ρ else .stuck
  | .ins i p e, ρ => .stuck
  | .ite c a b, ρ => (evE Φ c ρ).out fun x ρ => (ofOpt (truD x.2) ρ).out fun k ρ => if k then exB n a ρ else exB n b ρ
  | .for tg k its body, ρ => (evL Φ its ρ).out fun ds ρ => (ofOpt (itD k (fresh ρ its ds)) ρ).out fun xs ρ => (forGo tg (exB n body) xs (lockV ρ (rdIdx its))).back ρ (rdIdx its)
  | .while c body, ρ => whGo (evE Φ c) (exB n body) n ρ
  | .ret e, ρ => match e with
    | .var i => match ρ[i]? with
      | some (.own d) => .rt true d (ρ.set i .non)
      | some (.val d) => .rt false d ρ
      | _ => .stuck
    | e => (evE Φ e ρ).out fun x ρ => .rt x.1 x.2 ρ
  | .raise C, ρ => .exn ⟨C, []⟩ ρ
  | .brk, ρ => .bk ρ
  | .pass, ρ => .nx ρ
  | .bad, _ => .stuck
def exB (n : Nat) : List MS → Vn → Out
  | [], ρ => .nx ρ
  | s :: ss, ρ => match exS n s ρ with
    | .nx ρ => exB n ss ρ
    | o => o
end
end
end Z

namespace Z
open PySem PySem.Spec L2
open PyProof.Rows hiding St
/-! ### a def's promise, its run -/
def addO (O : Addr → Prop) (p : Addr) : Addr → Prop := fun b => O b ∨ b = p
def ExnRep (K : PySem.W.Frag) (G H : Hp) (x : Exn) (od : Option Addr) : Prop := match x.fs with
  | [] => od = none
  | fs => ∃ d ws, od = some d ∧ H d = some (.xd ws) ∧ RepF K G fs ws
/-- the hidden things behind a call: a new object that the caller is to own is hidden too -/
def newO (fl : Bool) (O : Addr → Prop) (v : V) : Addr → Prop := fun b => O b ∨ (fl = true ∧ v = .ref b)
/-- what a result is -/
def ResOk (K : PySem.W.Frag) (fl : Bool) (O : Addr → Prop) (H H' : Hp) (d : D) (v : V) : Prop :=
  if fl = true then ∃ p, v = .ref p ∧ H p = none ∧ Top K (vis (newO fl O v) H') H' d p else Rep K (vis O H') d v
def spF (K : PySem.W.Frag) (fn : Fn) : Sp := fun vs H Q E => ∃ (ds : List D) (O : Addr → Prop) (a : Addr), vs.length = fn.ar ∧ (∀ b, O b → H b ≠ none) ∧
  (if fn.io = true then ∃ r d0 dr, vs = .ref a :: r ∧ ds = d0 :: dr ∧ O a ∧ Top K (vis O H) H d0 a ∧ Reps K (vis O H) dr r else Reps K (vis O H) ds vs) ∧
  match fn.run ds with
  | .ok d s => ∀ v H', Kp (fun b => fn.io = true ∧ b = a) H H' → ResOk K fn.fresh O H H' d v → (fn.io = true → Top K (vis (newO fn.fresh O v) H') H' s a) → Q v H'
  | .exn x s => ∀ od H', Kp (fun b => fn.io = true ∧ b = a) H H' → (fn.io = true → Top K (vis O H') H' s a) → ExnRep K (vis O H') H' x od → E (.ref (He.ga K x.C)) od H'
  | .stuck => False
/-- as FnOk, no repr under way -/
structure FnG (P : Program) (w : World) (K : PySem.W.Frag) (mg : Str → Option Value) (base : Heap) (k : Nat) (f : Addr) (fd : FuncData) (ps : List Str) (sp : Sp) : Prop where
  len : ∀ vs H Q E, sp vs H Q E → vs.length = ps.length
  run : ∀ (A : Around) (outer : List Env) (s : Shared) (H : Hp) (args : Args) (us : List Value) (vs : List V) (Q : VK) (E : XK), Room k A → A.guards = some [] → Env0 P w K mg base A outer s H → BindsTo s fd args (ps.zip us) → Vals vs us → sp vs H Q E →
    codeAny (model P w) A (.call (.ref f) args) (CR (L2.CX P w) outer P w H s Q E) s
theorem FnG.mono {P : Program} {w : World} {K : PySem.W.Frag} {mg : Str → Option Value} {base : Heap} {j k : Nat} {f : Addr} {fd : FuncData} {ps : List Str} {sp : Sp} (F : FnG P w K mg base j f fd ps sp) (h : j ≤ k) : FnG P w K mg base k f fd ps sp :=
  ⟨F.len, fun A outer s H args us vs Q E hr => F.run A outer s H args us vs Q E (hr.mono h)⟩
theorem FnG.imp {P : Program} {w : World} {K : PySem.W.Frag} {mg : Str → Option Value} {base : Heap} {k : Nat} {f : Addr} {fd : FuncData} {ps : List Str} {sp sp' : Sp} (F : FnG P w K mg base k f fd ps sp)
    (h : ∀ vs H Q E, sp' vs H Q E → sp vs H Q E) : FnG P w K mg base k f fd ps sp' :=
  ⟨fun vs H Q E q => F.len vs H Q E (h _ _ _ _ q), fun A outer s H args us vs Q E hr hg he hb hv hs => F.run A outer s H args us vs Q E hr hg he hb hv (h _ _ _ _ hs)⟩
theorem deeper_guards {A : Around} {env : Env} : (A.deeper env).guards = A.guards := by first | rfl | simp [Around.deeper]
/-- a def of the text keeps a promise that its body keeps -/
theorem fnG_of {P : Program} {w : World} {K : PySem.W.Frag} {mg : Str → Option Value} {base : Heap} {k : Nat} {x qual : Str} {params : Arguments} {body : List Stmt} {scope : Scope} {dvs : List V} {kws : List (Str × V)} {f : Addr} {fd : FuncData} {N ps : List Str} {sp : Sp}
    (F : FunD K x qual params body scope dvs kws f fd) (S : FnScope N ps scope) (len : ∀ vs H Q E, sp vs H Q E → vs.length = ps.length)
    (hb : ∀ (cdv : Value) (A : Around) (outer : List Env) (s : Shared) (H : Hp) (vs : List V) (Q : VK) (E : XK), Room k (A.deeper (envOfC qual scope s.heap.objs.size f cdv)) → (A.deeper (envOfC qual scope s.heap.objs.size f cdv)).guards = some [] → sp vs H Q E →
      ∃ t, PSs (cxOf (L2.CX P w) P w K mg base N qual scope f cdv A outer s H E) body t ∧ t { nx := fun _ H' => Q .non H', rt := Q } (start N vs) H) : FnG P w K mg base (k + 1) f fd ps sp := by
  obtain ⟨oc, od, dV, kV, doc, pm, an, cdv, ct, osl, rfl, lk, hcd, _, _⟩ := F.ex
  constructor
  · exact len
  · intro A outer s H args us vs Q E hr hgd e0 hbd rv hsp
    have hin : K.In s.heap := e0.mod.kin.keeps (fun b o e => (e0.bs b o e).1)
    have hlim : s.heap.NoLimit := e0.mod.nolimit.keeps (fun b o e => (e0.bs b o e).1)
    apply codeAny_call_function hr.depth (hin _ _ lk) rfl S.co S.gen rfl (PySem.W.codeRec_of hin hcd)
    apply hbd
    refine wpAny_newFunctionEnv_cells S.kind ?_ ?_
    · intro y hy
      have hp := S.par y.1 (List.of_mem_zip (show (y.1, y.2) ∈ ps.zip us from hy)).1
      rcases hp with q | q
      · exact Or.inl q
      · exact Or.inr ⟨q, PySem.W.cellsFrom_some _ _ _ (Or.inl q)⟩
    · intro env he s1 xc
      subst he
      refine ⟨hlim.keeps xc.toInCall.keep, codeAny_func ?_⟩
      have hsp' := hsp
      obtain ⟨t, ht, hq⟩ := hb cdv A outer s H vs Q E (hr.deeper _) (deeper_guards.trans hgd) hsp
      have J := inv_start (CX := L2.CX P w) (qual := qual) (f := f) (cd := cdv) (E := E) S hr.hd e0 (len _ _ _ _ hsp') rv xc
      apply wpAny_mono (ht.run [] s1 (start N vs) H _ J hq)
      · intro fl s' hs
        cases fl with
        | ret u =>
          obtain ⟨v, σ', H', J', r', q'⟩ := hs
          exact ⟨v, H', J'.os, J'.bare, J'.base, J'.hok, r', q'⟩
        | next =>
          obtain ⟨σ', H', J', q'⟩ := hs
          exact ⟨V.non, H', J'.os, J'.bare, J'.base, J'.hok, rfl, q'⟩
        | brk => exact hs.elim fun _ z => z.elim fun _ z => z.2.elim
        | cont => exact hs.elim fun _ z => z.elim fun _ z => z.2.elim
      · intro e s' hs
        exact hs
/-! ### what is run, by itself -/
section
variable (X : Cx)
def WE (e : Expr) : TE := fun σ H Q => ∀ pins s, Inv X pins σ H s → wpAny (model X.prog X.w) X.A (eval e X.env) (EP X pins σ Q) X.xe s
def WT (e : Expr) : TT := fun σ H Q => ∀ pins s, Inv X pins σ H s → wpAny (model X.prog X.w) X.A (isTrue e X.env (eval e X.env)) (TP X pins σ Q) X.xe s
def WA (es : List Expr) : TA := fun σ H Q => ∀ pos pins s, Inv X pins σ H s → wpAny (model X.prog X.w) X.A (spliced (backTo pos (starEach es X.env))) (AP X pins σ Q) X.xe s
def WS (st : Stmt) : TS := fun D σ H => ∀ pins s, Inv X pins σ H s → wpAny (model X.prog X.w) X.A (exec st X.env) (SP X pins D) X.xe s
def WB (st : List Stmt) : TS := fun D σ H => ∀ pins s, Inv X pins σ H s → wpAny (model X.prog X.w) X.A (execs st X.env) (SP X pins D) X.xe s
end
section
variable {X : Cx}
theorem pe_w {e : Expr} : PE X e (WE X e) := ⟨fun pins s σ H Q I h => h pins s I⟩
theorem pt_w {e : Expr} : PT X e (WT X e) := ⟨fun pins s σ H Q I h => h pins s I⟩
theorem pa_w {es : List Expr} : PA X es (WA X es) := ⟨fun pos pins s σ H Q I h => h pos pins s I⟩
theorem ps_w {st : Stmt} : PS X st (WS X st) := ⟨fun pins s σ H D I h => h pins s I⟩
theorem pss_w {st : List Stmt} : PSs X st (WB X st) := ⟨fun pins s σ H D I h => h pins s I⟩
theorem WE.by {e : Expr} {t : TE} (h : PE X e t) {σ : L2.St} {H : Hp} {Q : VK} (q : t σ H Q) : WE X e σ H Q := fun pins s I => h.run pins s σ H Q I q
theorem WT.by {e : Expr} {t : TT} (h : PT X e t) {σ : L2.St} {H : Hp} {Q : Bool → Hp → Prop} (q : t σ H Q) : WT X e σ H Q := fun pins s I => h.run pins s σ H Q I q
theorem WA.by {es : List Expr} {t : TA} (h : PA X es t) {σ : L2.St} {H : Hp} {Q : List V → Hp → Prop} (q : t σ H Q) : WA X es σ H Q := fun pos pins s I => h.run pos pins s σ H Q I q
theorem WS.by {e : Stmt} {t : TS} (h : PS X e t) {σ : L2.St} {H : Hp} {D : Ends} (q : t D σ H) : WS X e D σ H := fun pins s I => h.run pins s σ H D I q
theorem WB.by {e : List Stmt} {t : TS} (h : PSs X e t) {σ : L2.St} {H : Hp} {D : Ends} (q : t D σ H) : WB X e D σ H := fun pins s I => h.run pins s σ H D I q
/-! ### calls -/
def PassG (X : Cx) (σ : L2.St) (E : XK) : Prop := ∀ (pins : List (Addr × Obj)) (H : Hp) (s : Shared) (e : Value) (s' : Shared), Inv X pins σ H s → L2.CX X.prog X.w X.stack H s E e s' → X.xe e s'
theorem passG {W : WX} (tk : Takes X W) (σ : L2.St) : PassG X σ (fun c d H => W c d σ H) := fun _ _ _ e s' I c => tk e s' (XE.of_call I (fun _ _ _ h => h) c)
def tCallG (sp : Sp) (dvs : List V) (E : L2.St → XK) (t : TA) : TE := fun σ H Q => t σ H fun vs H1 => sp (vs ++ dvs) H1 Q (E σ)
variable {k : Nat} {f : Addr} {fd : FuncData} {ps : List Str} {sp : Sp} {dvs : List V} {ds : List Value} {E : L2.St → XK} {x : Str} {p pos : Pos} {e : Expr} {es : List Expr} {t : TA}
theorem run_fnG {pins : List (Addr × Obj)} {σ : L2.St} {H : Hp} {s : Shared} {Q : VK} {us : List Value} {vs : List V} {E : XK} (F : FnG X.prog X.w X.K X.mg X.base k f fd ps sp) (hr : Room k X.A) (hgd : X.A.guards = some []) (hb : Binds X.K fd ps ds) (hd : Vals dvs ds) (hx : PassG X σ E)
    (I : Inv X pins σ H s) (r : Vals vs us) (h : sp (vs ++ dvs) H Q E) : wpAny (model X.prog X.w) X.A (call (.ref f) us) (EP X pins σ Q) X.xe s := by
  have r2 := Vals.append r hd
  have hbd := hb s us I.kIn (r2.length.symm.trans (F.len _ _ _ _ h))
  apply wpAny_call
  apply codeAny_mono (F.run X.A X.stack s H ⟨us, []⟩ (us ++ ds) (vs ++ dvs) Q E hr hgd I.env0 hbd r2 h)
  rintro (e | fl) s' hq
  · exact hx pins H s e s' I hq
  · cases fl with
    | ret u => exact I.after hq
    | _ => exact hq.elim
theorem pe_callG (F : FnG X.prog X.w X.K X.mg X.base k f fd ps sp) (hr : Room k X.A) (hgd : X.A.guards = some []) (hg : Gl X x) (hm : X.mg x = some (.ref f)) (hk : PySem.W.keepIn X.K (.ref f) = true) (hb : Binds X.K fd ps ds) (hd : Vals dvs ds) (hx : ∀ σ, PassG X σ (E σ))
    (ha : PA X (e :: es) t) (hdb : (x == ("__debug__" : Str)) = false) (he : starEach (e :: es) X.env = (false, eval e X.env) :: starEach es X.env) (hpl : (backTo pos (starEach es X.env)).any (·.1) = false) :
    PE X (.Call (.Name x p) (e :: es) [] pos) (tCallG sp dvs E t) := by
  constructor
  intro pins s σ H Q I h
  apply wpAny_Call_Name_kw
  refine ld_glob I hg hm ?_ hdb
  refine PySem.W.callWith_K (h₀ := X.base) I.ok.mod.kin hk (thn (ha.run pos pins s σ H _ I h) ?_) he hpl
  rintro us s1 ⟨vs, H1, I1, r, q⟩
  exact ⟨I1.kIn, run_fnG F hr hgd hb hd (hx σ) I1 r q⟩
theorem pe_callG0 (F : FnG X.prog X.w X.K X.mg X.base k f fd ps sp) (hr : Room k X.A) (hgd : X.A.guards = some []) (hg : Gl X x) (hm : X.mg x = some (.ref f)) (hk : PySem.W.keepIn X.K (.ref f) = true) (hb : Binds X.K fd ps ds) (hd : Vals dvs ds) (hx : ∀ σ, PassG X σ (E σ))
    (hdb : (x == ("__debug__" : Str)) = false) : PE X (.Call (.Name x p) [] [] pos) (tCallG sp dvs E tNil) := by
  constructor
  intro pins s σ H Q I h
  apply wpAny_Call_Name_kw
  refine ld_glob I hg hm ?_ hdb
  exact PySem.W.callWith_K0 I.kIn hk (run_fnG (us := []) F hr hgd hb hd (hx σ) I .nil h)
end
end Z

namespace Z
open PySem PySem.Spec L2
open PyProof.Rows hiding St
/-! ### from the text to what is run -/
structure Cfg where
  N : List Str
  fns : List (Str × String × Bool)
  cst : List (Str × D)
  free : List Str
  excs : List Str
def fuelT : Nat := 60
def ME.isRd : ME → Bool
  | .rd _ => true
  | _ => false
mutual
/-- nothing that stands is changed -/
def ME.still : ME → Bool
  | .var _ => true | .rd _ => true | .cst _ => true
  | .tup es => stillL es | .lst es => stillL es
  | .bin _ a b => a.still && b.still
  | .neg a => a.still | .not a => a.still
  | .and a b => a.still && b.still | .or a b => a.still && b.still
  | .cmp _ a b => a.still && b.still
  | .chain _ _ a b c => a.still && b.still && c.still
  | .ite c a b => c.still && a.still && b.still
  | .call _ es => stillL es
  | .callio _ _ _ => false
  | .bi _ es => stillL es
  | .isi a _ => a.still
  | .ix a b => a.still && b.still
  | .slc a lo hi => a.still && stillO lo && stillO hi
  | .dsp es => stillL es
  | .lc _ _ _ _ _ _ => false
def stillO : Option ME → Bool
  | none => true
  | some m => m.still
def stillL : List ME → Bool
  | [] => true
  | e :: es => e.still && stillL es
end
def slotOf (c : Cfg) (x : Str) : Option Nat := c.N.findIdx? fun y => decide (y = x)
def isVis (sc : Scope) (x : Str) : Bool := match sc.names.lookup x with
  | some .local => true | some .cell => true | some .free => true | _ => false
def isLoc (sc : Scope) (x : Str) : Bool := match sc.names.lookup x with
  | some .local => true | some .cell => true | _ => false
def isGl (sc : Scope) (x : Str) : Bool := match sc.names.lookup x with
  | some .globalImplicit => true | _ => false
def okName (x : Str) : Bool := !(x == ("__debug__" : Str)) && !(x == ("__classdict__" : Str)) && decide (x ≠ "__name__")
def biNames : List (Str × String) := [("len", "len"), ("abs", "abs"), ("int", "int"), ("repr", "repr"), ("str", "str"), ("list", "list"), ("tuple", "tuple")]
def notStar : Expr → Bool
  | .Starred _ _ => false
  | _ => true
def isComp : Expr → Bool
  | .ListComp _ _ _ _ => true | .SetComp _ _ _ _ => true | .DictComp _ _ _ _ _ => true | _ => false
def notSet : Expr → Bool
  | .Set _ _ _ => false
  | _ => true
def isTup : Expr → Bool
  | .Tuple _ _ _ => true
  | _ => false
/-- may be asked for its truth -/
def okT : Expr → Bool
  | .NamedExpr _ _ _ => false
  | .IfExp _ _ _ _ => false
  | _ => true
/-- the first operand may be looked at, if the others leave all as it is -/
def rdIf (a : ME) (b : ME) (r : Option ME) : Option ME := if a.isRd && !b.still then none else r
def isLocal (sc : Scope) (x : Str) : Bool := match sc.names.lookup x with
  | some .local => true | _ => false
def ownOf (c : Cfg) (scope : Scope) : List (Str × Nat) := scope.names.filterMap fun y => match y.2 with
  | .local => (slotOf c y.1).map fun i => (y.1, i)
  | .cell => (slotOf c y.1).map fun i => (y.1, i)
  | _ => none
def MT.slots : MT → List Nat
  | .nm i => [i]
  | .tp is => is
/-- a name as a target -/
def trGn (c : Cfg) (all : Bool) (sc : Scope) : Expr → Option Nat
  | .Name x _ => if okName x && (if all then isLoc sc x else isLocal sc x) then slotOf c x else none
  | _ => none
def trGs (c : Cfg) (all : Bool) (sc : Scope) : List Expr → Option (List Nat)
  | [] => some []
  | e :: es => match trGn c all sc e, trGs c all sc es with
    | some i, some is => some (i :: is)
    | _, _ => none
def trG (c : Cfg) (all : Bool) (sc : Scope) (e : Expr) : Option MT := match e with
  | .Tuple es _ _ => (trGs c all sc es).map .tp
  | e => (trGn c all sc e).map .nm
def isiOk (C : Str) : Option String := if C = "int" then some "int" else if C = "bool" then some "bool" else if C = "str" then some "str" else if C = "tuple" then some "tuple" else if C = "list" then some "list" else if C = "dict" then some "dict" else none
def plainIxB : Expr → Bool
  | .Slice _ _ _ _ => false
  | .Tuple _ _ _ => false
  | _ => true
mutual
def trE (c : Cfg) : Nat → Scope → Bool → Expr → Option ME
  | 0, _, _, _ => none
  | n + 1, sc, rd, e => match e with
    | .Constant k _ _ => (match k with
      | .int i => some (.cst (.int i))
      | .str x => some (.cst (.str x))
      | .bool b => some (.cst (.bl b))
      | .none => some (.cst .non)
      | _ => none)
    | .Name x _ => if !okName x then none else if isVis sc x then (slotOf c x).map (if rd then .rd else .var) else if isGl sc x then (c.cst.lookup x).map .cst else none
    | .Tuple es _ _ => if es.length ≤ 1000 then (trL c n sc es).map .tup else none
    | .List es _ => if es.length ≤ 1000 then (trL c n sc es).map .lst else none
    | .Dict ks vs _ => if ks.length ≤ 15 then (trD c n sc ks vs).map .dsp else none
    | .BinOp a op b _ => (match trE c n sc true a, trE c n sc true b with
      | some a', some b' => if a'.isRd && !b'.still then (match trE c n sc false a with
          | some a2 => if a2.isRd then none else some (.bin op a2 b')
          | none => none) else some (.bin op a' b')
      | _, _ => none)
    | .UnaryOp op a _ => (match op with
      | .USub => (trE c n sc false a).map .neg
      | .Not => if okT a then (trE c n sc false a).map .not else none
      | _ => none)
    | .BoolOp op es _ => (match es with
      | _ :: _ :: _ => trB c n sc op es
      | _ => none)
    | .Compare a ops bs _ => (match ops, bs with
      | [op], [b] => if op = .In ∨ op = .NotIn then none else (match trE c n sc true a, trE c n sc true b with
        | some a', some b' => rdIf a' b' (some (.cmp op a' b'))
        | _, _ => none)
      | [op, op'], [b, d] => if op' = .In ∨ op' = .NotIn then none else (match trE c n sc false a, trE c n sc false b, trE c n sc false d with
        | some a', some b', some d' => some (.chain op op' a' b' d')
        | _, _, _ => none)
      | _, _ => none)
    | .IfExp t a b _ => if okT t then (match trE c n sc false t, trE c n sc false a, trE c n sc false b with
      | some t', some a', some b' => some (.ite t' a' b')
      | _, _, _ => none) else none
    | .Call fe args kws _ => (match fe, kws with
      | .Name f _, [] => if !okName f || !isGl sc f then none else (match c.fns.lookup f with
        | some (key, true) => (match args with
          | .Name x _ :: rest => if okName x && isVis sc x then (match slotOf c x, trL c n sc rest with
              | some i, some es => some (.callio key i es)
              | _, _ => none) else none
          | _ => none)
        | some (key, false) => (trL c n sc args).map (.call key)
        | none => if !(c.free.contains f) then none else (match args with
          | [a] => if notStar a then (match biNames.lookup f with
            | some b => (trE c n sc true a).map fun m => .bi b [m]
            | none => none) else none
          | [a, C] => if notStar a && decide (f = "isinstance") then (match C with
            | .Name C _ => if okName C && isGl sc C && c.free.contains C then (match isiOk C, trE c n sc true a with
              | some b, some m => some (.isi m [b])
              | _, _ => none) else none
            | _ => none) else none
          | _ => none))
      | _, _ => none)
    | .Subscript a b _ => (match b with
      | .Slice lo hi st _ => if st.isSome then none else (match trE c n sc true a, trO c n sc lo, trO c n sc hi with
        | some a', some l', some h' => if a'.isRd && !(stillO l' && stillO h') then (match trE c n sc false a with
            | some a2 => if a2.isRd then none else some (.slc a2 l' h')
            | none => none) else some (.slc a' l' h')
        | _, _, _ => none)
      | .Tuple _ _ _ => none
      | b => (match trE c n sc true a, trE c n sc false b with
        | some a', some b' => if a'.isRd && !b'.still then (match trE c n sc false a with
            | some a2 => if a2.isRd then none else some (.ix a2 b')
            | none => none) else some (.ix a' b')
        | _, _ => none))
    | .ListComp elt gs scope _ => (match gs with
      | [g] => if g.is_async = 0 then trC c n sc elt g.target g.iter g.ifs scope else none
      | _ => none)
    | _ => none
def trO (c : Cfg) : Nat → Scope → Option Expr → Option (Option ME)
  | 0, _, _ => none
  | n + 1, sc, e => match e with
    | none => some none
    | some e => (trE c n sc true e).map some
def trD (c : Cfg) : Nat → Scope → List (Option Expr) → List Expr → Option (List ME)
  | 0, _, _, _ => none
  | n + 1, sc, ks, vs => match ks, vs with
    | [], [] => some []
    | some k :: ks, v :: vs => (match trE c n sc false k, trE c n sc false v, trD c n sc ks vs with
      | some k, some v, some ms => some (k :: v :: ms)
      | _, _, _ => none)
    | _, _ => none
def trL (c : Cfg) : Nat → Scope → List Expr → Option (List ME)
  | 0, _, _ => none
  | n + 1, sc, es => match es with
    | [] => some []
    | e :: es => if !notStar e then none else match trE c n sc false e, trL c n sc es with
      | some m, some ms => some (m :: ms)
      | _, _ => none
def trB (c : Cfg) : Nat → Scope → BoolOp → List Expr → Option ME
  | 0, _, _, _ => none
  | n + 1, sc, op, es => match es with
    | [] => none
    | [e] => if okT e then trE c n sc false e else none
    | e :: e2 :: es => if okT e then (match trE c n sc false e, trB c n sc op (e2 :: es) with
      | some a, some b => some (match op with
        | .And => .and a b
        | .Or => .or a b)
      | _, _ => none) else none
def trC (c : Cfg) : Nat → Scope → Expr → Expr → Expr → List Expr → Scope → Option ME
  | 0, _, _, _, _, _, _ => none
  | n + 1, sc, elt, tgE, iter, ifs, scope =>
    if blkC c.N sc scope (ownOf c scope) then
      match trG c false (relS scope sc) tgE, trI c n sc tgE iter, trE c n (relS scope sc) false elt with
      | some tg, some (k, ms), some me =>
        if (tg.slots.all fun i => decide (i ∈ (ownOf c scope).map (·.2))) then
          (match ifs with
          | [] => some (.lc me ((ownOf c scope).map (·.2)) tg k ms none)
          | [t] => if okT t then (trE c n (relS scope sc) false t).map fun mt => .lc me ((ownOf c scope).map (·.2)) tg k ms (some mt) else none
          | _ => none)
        else none
      | _, _, _ => none
    else none
def trI (c : Cfg) : Nat → Scope → Expr → Expr → Option (Nat × List ME)
  | 0, _, _, _ => none
  | n + 1, sc, tgE, iter => match iter with
    | .Call (.Name f p) args [] pos => if okName f && isGl sc f && c.free.contains f then
        (if f = "range" then (match args with
          | [_] => (trL c n sc args).map fun ms => (1, ms)
          | [_, _] => (trL c n sc args).map fun ms => (1, ms)
          | _ => none)
        else if f = "enumerate" ∧ isTup tgE = true then (match args with
          | [a] => if notStar a then (trE c n sc true a).map fun m => (3, [m]) else none
          | _ => none)
        else if f = "zip" ∧ isTup tgE = true then (match args with
          | [a, b] => if notStar a && notStar b then (match trE c n sc true a, trE c n sc true b with
            | some a, some b => some (2, [a, b])
            | _, _ => none) else none
          | _ => none)
        else if notSet iter then (trE c n sc true iter).map fun m => (0, [m]) else none)
      else if notSet iter then (trE c n sc true iter).map fun m => (0, [m]) else none
    | _ => if notSet iter then (trE c n sc true iter).map fun m => (0, [m]) else none
end
/-! ### statements -/
/-- a, b = x, y: stored from the right -/
def swPair (sc : Scope) (ts vs : List Expr) : Bool := match ts, vs with
  | [.Name x px, .Name y py], [a, b] => isLocal sc x && isLocal sc y && decide (x ≠ y) && (py.line == px.line) && notStar a && notStar b && !(vs.all (foldedForSure 8)) && !(vs.all (constantsAlone 8))
  | _, _ => false
def trySlot (c : Cfg) (sc : Scope) (x : Str) : Option Nat := if okName x && isLoc sc x then slotOf c x else none
mutual
def trS (c : Cfg) : Nat → Scope → Stmt → Option MS
  | 0, _, _ => none
  | n + 1, sc, st => match st with
    | .Pass _ => some .pass
    | .Break _ => some .brk
    | .Expr e _ => (match e with
      | .Constant k _ _ => (match k with
        | .str _ => some .pass
        | _ => none)
      | .Call fe args kws cp => (match fe, args, kws with
        | .Attribute o m ap, [a], [] => if m = "append" ∧ (ap.endLine == cp.line) = true ∧ notStar a = true then (match o with
          | .Name x _ => if okName x && isVis sc x then (match slotOf c x, trE c fuelT sc false a with
            | some i, some ma => some (.app i ma)
            | _, _ => none) else none
          | _ => none) else none
        | _, _, _ => (trE c fuelT sc false e).map .expr)
      | e => if isComp e then none else (trE c fuelT sc false e).map .expr)
    | .Return e _ => (match e with
      | none => some (.ret (.cst .non))
      | some e => (trE c fuelT sc false e).map .ret)
    | .If t a b _ => if okT t then (trE c fuelT sc false t).map fun mt => .ite mt (trSs c n sc a) (trSs c n sc b) else none
    | .While t b orl _ => (match orl with
      | [] => if okT t then (trE c fuelT sc false t).map fun mt => .while mt (trSs c n sc b) else none
      | _ => none)
    | .For tgE iter b orl _ => (match orl with
      | [] => (match trG c true sc tgE, trI c fuelT sc tgE iter with
        | some tg, some (k, ms) => if notSet iter then some (.for tg k ms (trSs c n sc b)) else none
        | _, _ => none)
      | _ => none)
    | .Raise e cause _ => (match e, cause with
      | some (.Call fe args kws _), none => (match fe, args, kws with
        | .Name C _, [.Constant (.str _) _ _], [] => if okName C && isGl sc C && c.excs.contains C then some (.raise C) else none
        | _, _, _ => none)
      | _, _ => none)
    | .Assign tgs e _ => (match tgs with
      | [tgE] => (match tgE with
        | .Name x px => (match trySlot c sc x with
          | some i => (match e with
            | .ListComp elt gs scope lp => (match gs with
              | [g] => if g.is_async = 0 ∧ isLocal sc x = true ∧ (px.line == lp.line) = true ∧ (scope.names.any fun (n, k) => n == x && (k == .local || k == .cell)) = false then (trC c fuelT sc elt g.target g.iter g.ifs scope).map (.set (.nm i)) else none
              | _ => none)
            | e => if isComp e then none else (trE c fuelT sc false e).map (.set (.nm i)))
          | none => none)
        | .Tuple ts _ _ => (match e with
          | .Tuple vs _ _ => if swPair sc ts vs then (match ts, vs with
              | [.Name x _, .Name y _], [a, b] => (match trySlot c sc x, trySlot c sc y, trE c fuelT sc false a, trE c fuelT sc false b with
                | some i, some j, some ma, some mb => some (.par i j ma mb)
                | _, _, _, _ => none)
              | _, _ => none)
            else if vs.all (foldedForSure 8) || decide (ts.length > 3) then (match trGs c true sc ts, trE c fuelT sc false e with
              | some is, some m => some (.set (.tp is) m)
              | _, _ => none) else none
          | e => if isComp e then none else (match trGs c true sc ts, trE c fuelT sc false e with
              | some is, some m => some (.set (.tp is) m)
              | _, _ => none))
        | .Subscript o ix _ => if plainIxB ix then (match o with
          | .Name x _ => if okName x && isVis sc x then (match slotOf c x, trE c fuelT sc true ix, trE c fuelT sc false e with
            | some i, some mi, some me => some (.setIx i mi me)
            | _, _, _ => none) else none
          | _ => none) else none
        | _ => none)
      | _ => none)
    | _ => none
def trSs (c : Cfg) : Nat → Scope → List Stmt → List MS
  | 0, _, _ => [.bad]
  | n + 1, sc, ss => match ss with
    | [] => []
    | s :: ss => (trS c n sc s).getD .bad :: trSs c n sc ss
end
end Z

namespace Z
open PySem PySem.Spec L2
open PyProof.Rows hiding St
variable {K : PySem.W.Frag} {O O' : Addr → Prop} {ρ ρ' ρ1 ρ2 : Vn} {σ : St} {H H' H1 H2 G G' : Hp} {d : D} {a : Addr} {v : V} {fl : Bool}
/-! ### the environment goes on -/
theorem EnvOk.grow (E : EnvOk K O ρ σ H) (k : ∀ b o, H b = some o → H' b = some o) (ho : ∀ b, O b → O' b) (hn : ∀ b, O' b → O b ∨ H b = none) (dm : ∀ b, O' b → H' b ≠ none) : EnvOk K O' ρ σ H' := by
  have x : Ext (vis (Hid O ρ σ) H) (vis (Hid O' ρ σ) H') := vis_ext (fun b h n => h.elim (fun z => (hn b z).elim .inl fun q => absurd q n) .inr) fun b o _ e => k b o e
  refine ⟨E.len, dm, fun i d e => ?_, fun i d e => ?_, fun i d e => ?_, fun i d e => ?_, E.inj, fun i d a e s z => ?_⟩
  · obtain ⟨v, s, r⟩ := E.val i d e
    exact ⟨v, s, r.ext x⟩
  · obtain ⟨a, s, t⟩ := E.own i d e
    exact ⟨a, s, t.ext x fun o => k a o⟩
  · obtain ⟨a, s, z, t⟩ := E.io i d e
    exact ⟨a, s, ho a z, t.ext x fun o => k a o⟩
  · obtain ⟨a, s, t⟩ := E.lkd i d e
    exact ⟨a, s, t.ext x fun o => k a o⟩
  · obtain ⟨a', s', t⟩ := E.own i d e
    rw [s] at s'; cases s'
    rcases hn a z with q | q
    · exact E.sep i d a e s q
    · exact t.ne q
theorem EnvOk.kept (E : EnvOk K O ρ σ H) (k : ∀ b o, H b = some o → H' b = some o) : EnvOk K O ρ σ H' :=
  E.grow k (fun _ h => h) (fun _ h => .inl h) fun b h => by
    have := E.dom b h
    cases q : H b with
    | none => exact absurd q this
    | some o => rw [k b o q]; simp
theorem upd_kp {p : Addr} {o : HO} (hp : H p = none) : ∀ b u, H b = some u → upd H p o b = some u := fun b u e => by
  rw [upd_ne (ne_of_none e hp)]; exact e
/-- a new object is laid, and hidden -/
theorem EnvOk.laid (E : EnvOk K O ρ σ H) {p : Addr} {o : HO} (hp : H p = none) : EnvOk K (newO true O (.ref p)) ρ σ (upd H p o) :=
  E.grow (upd_kp hp) (fun _ h => .inl h) (fun b h => h.elim .inl fun ⟨_, e⟩ => by cases e; exact .inr hp) fun b h => by
    rcases h with h | ⟨_, e⟩
    · have := E.dom b h
      cases q : H b with
      | none => exact absurd q this
      | some o => rw [upd_kp hp b o q]; simp
    · cases e; rw [upd_same]; simp
theorem newO_false {v : V} : newO false O v = O := by
  funext b
  simp [newO]
/-- the slots' addresses are fresh things' no more -/
theorem Hid.mono (h : ∀ b, O b → O' b) {b : Addr} (x : Hid O ρ σ b) : Hid O' ρ σ b := x.elim (fun z => .inl (h b z)) .inr
/-- fewer things hidden -/
theorem EnvOk.less (E : EnvOk K O' ρ σ H) (ho : ∀ b, O b → O' b) (hio : ∀ (i : Nat) (d : D) (a : Addr), ρ[i]? = some (.io d) → σ[i]? = some (some (.ref a)) → O a) : EnvOk K O ρ σ H := by
  have x : Ext (vis (Hid O' ρ σ) H) (vis (Hid O ρ σ) H) := vis_ext (fun b h _ => h.mono ho) fun b o _ e => e
  refine ⟨E.len, fun b z => E.dom b (ho b z), fun i d e => ?_, fun i d e => ?_, fun i d e => ?_, fun i d e => ?_, E.inj, fun i d a e s z => E.sep i d a e s (ho a z)⟩
  · obtain ⟨v, s, r⟩ := E.val i d e
    exact ⟨v, s, r.ext x⟩
  · obtain ⟨a, s, t⟩ := E.own i d e
    exact ⟨a, s, t.ext x fun o e => e⟩
  · obtain ⟨a, s, z, t⟩ := E.io i d e
    exact ⟨a, s, hio i d a e s, t.ext x fun o e => e⟩
  · obtain ⟨a, s, t⟩ := E.lkd i d e
    exact ⟨a, s, t.ext x fun o e => e⟩
/-- what is shared: fl's object is let go -/
theorem EnvOk.share (E0 : EnvOk K O ρ σ H) (to : EvTo ρ ρ') (E : EnvOk K (newO fl O v) ρ' σ H') : EnvOk K O ρ' σ H' :=
  E.less (fun _ h => .inl h) fun i d a e s => by
    obtain ⟨s0, e0, t⟩ := to.back e
    cases s0 with
    | io d0 =>
      obtain ⟨a', s', z, _⟩ := E0.io i d0 e0
      rw [s] at s'; cases s'; exact z
    | own d0 => simp only [Sl.to] at t; rcases t with ⟨_, t⟩ | ⟨_, t⟩ <;> cases t
    | _ => simp only [Sl.to] at t; cases t
/-! ### what an expression leaves -/
structure PostS (K : PySem.W.Frag) (O : Addr → Prop) (ρ : Vn) (σ : St) (H : Hp) (m : ME) (d : D) (ρ' : Vn) (v : V) (H' : Hp) : Prop where
  env : EnvOk K O ρ' σ H'
  kp : Kp (fun b => m.still = false ∧ WrA ρ σ b) H H'
  dm : ∀ b, H b ≠ none → H' b ≠ none
  to : EvTo ρ ρ'
  rd : RdOk K (vis (Hid O ρ' σ) H') H' d v
  rep : m.isRd = false → Rep K (vis (Hid O ρ' σ) H') d v
structure PostE (K : PySem.W.Frag) (O : Addr → Prop) (ρ : Vn) (σ : St) (H : Hp) (m : ME) (fl : Bool) (d : D) (ρ' : Vn) (v : V) (H' : Hp) : Prop where
  env : EnvOk K (newO fl O v) ρ' σ H'
  kp : Kp (fun b => m.still = false ∧ WrA ρ σ b) H H'
  dm : ∀ b, H b ≠ none → H' b ≠ none
  to : EvTo ρ ρ'
  new : fl = true → ∃ p, v = .ref p ∧ H p = none ∧ Top K (vis (Hid (newO fl O v) ρ' σ) H') H' d p
  rd : fl = false → RdOk K (vis (Hid O ρ' σ) H') H' d v
  rep : fl = false → m.isRd = false → Rep K (vis (Hid O ρ' σ) H') d v
theorem PostE.share {m : ME} (E0 : EnvOk K O ρ σ H) (p : PostE K O ρ σ H m fl d ρ' v H') : PostS K O ρ σ H m d ρ' v H' := by
  have E := E0.share p.to p.env
  cases fl with
  | false => exact ⟨E, p.kp, p.dm, p.to, p.rd rfl, p.rep rfl⟩
  | true =>
    obtain ⟨q, rfl, hq, t⟩ := p.new rfl
    have hO : ¬ Hid O ρ' σ q := fun z => by
      have : H q ≠ none := E0.domH q (p.to.hid z)
      exact this hq
    have r : Rep K (vis (Hid O ρ' σ) H') d (.ref q) := t.rep (vis_ext (fun b z _ => z.mono fun _ h => .inl h) fun b o _ e => e) fun o e => by rw [vis_at hO]; exact e
    exact ⟨E, p.kp, p.dm, p.to, .inl r, fun _ => r⟩
/-- an exception's -/
structure PostX (K : PySem.W.Frag) (O : Addr → Prop) (ρ : Vn) (σ : St) (H : Hp) (x : Exn) (ρ' : Vn) (od : Option Addr) (H' : Hp) : Prop where
  env : EnvOk K O ρ' σ H'
  kp : Kp (WrA ρ σ) H H'
  dm : ∀ b, H b ≠ none → H' b ≠ none
  to : EvTo ρ ρ'
  rep : ExnRep K (vis (Hid O ρ' σ) H') H' x od
/-! ### what the context must be -/
def vOf : D → V
  | .bl b => .bl b
  | .int i => .int i
  | .str x => .str x
  | _ => .non
def scalD : D → Bool
  | .non => true | .bl _ => true | .int _ => true | .str _ => true | _ => false
theorem rep_vOf (h : scalD d = true) : Rep K H d (vOf d) := by cases d <;> first | rfl | cases h
structure FnAt (P : Program) (w : World) (K : PySem.W.Frag) (mg : Str → Option Value) (base : Heap) (L : Nat) (x : Str) (fn : Fn) : Prop where
  dfl : ∀ d ∈ fn.dfl, scalD d = true
  gl : mg x = some (.ref (He.ga K x))
  kp : PySem.W.keepIn K (.ref (He.ga K x)) = true
  fn : ∃ fd ps, ps.length = fn.ar ∧ FnG P w K mg base L (He.ga K x) fd ps (spF K fn) ∧ ∀ j, j ≤ fn.dfl.length → ∃ ds, Vals ((fn.dfl.drop j).map vOf) ds ∧ Binds K fd ps ds
theorem FnAt.mono {P : Program} {w : World} {mg : Str → Option Value} {base : Heap} {L L' : Nat} {x : Str} {fn : Fn} (h : FnAt P w K mg base L x fn) (le : L ≤ L') : FnAt P w K mg base L' x fn :=
  ⟨h.dfl, h.gl, h.kp, let ⟨fd, ps, l, F, b⟩ := h.fn; ⟨fd, ps, l, F.mono le, b⟩⟩
structure Good (c : Cfg) (Φ : String → Option Fn) (L : Nat) (X : Cx) (sc : Scope) : Prop where
  sc : X.env.scope = sc
  N : X.N = c.N
  nd : c.N.Nodup
  calm : X.calm = true
  free : ∀ x, c.free.contains x = true → X.mg x = none
  cst : ∀ x d, c.cst.lookup x = some d → scalD d = true ∧ ∃ u, X.mg x = some u ∧ RelV (vOf d) u
  fns : ∀ x key io, c.fns.lookup x = some (key, io) → ∃ fn, Φ key = some fn ∧ fn.io = io ∧ FnAt X.prog X.w X.K X.mg X.base L x fn
  room : Room L X.A
  gd : X.A.guards = some []
/-- what is shown of an expression -/
def SndE (Φ : String → Option Fn) (X : Cx) (W : WX) (e : Expr) (m : ME) : Prop := ∀ (O : Addr → Prop) (ρ : Vn) (σ : St) (H : Hp) (Q : VK), EnvOk X.K O ρ σ H →
  (evE Φ m ρ).holds (fun a ρ' => ∀ v H', PostE X.K O ρ σ H m a.1 a.2 ρ' v H' → Q v H') (fun x ρ' => ∀ od H', PostX X.K O ρ σ H x ρ' od H' → W (.ref (He.ga X.K x.C)) od σ H') → WE X e σ H Q
/-- an expression, then more -/
theorem SndE.sh {Φ : String → Option Fn} {X : Cx} {W : WX} {e : Expr} {m : ME} (h : SndE Φ X W e m) {O : Addr → Prop} {ρ : Vn} {σ : St} {H : Hp} {Q : VK} (E : EnvOk X.K O ρ σ H)
    (q : (evE Φ m ρ).holds (fun a ρ' => ∀ v H', PostS X.K O ρ σ H m a.2 ρ' v H' → Q v H') (fun x ρ' => ∀ od H', PostX X.K O ρ σ H x ρ' od H' → W (.ref (He.ga X.K x.C)) od σ H')) : WE X e σ H Q :=
  h O ρ σ H Q E (Res.holds_mono q (fun a ρ' z v H' p => z v H' (p.share E)) fun x ρ' z => z)
end Z

namespace Z
open PySem PySem.Spec L2
open PyProof.Rows hiding St
/-! ### operators on values, by themselves -/
section
variable (X : Cx)
def WOp (f : Value → Value → Sem Value) : R2 := fun x y H Q => ∀ (pins : List (Addr × Obj)) (s : Shared) (σ : St) (v u : Value), Inv X pins σ H s → RelV x v → RelV y u → wpAny (model X.prog X.w) X.A (f v u) (EP X pins σ Q) X.xe s
def WUn (f : Value → Sem Value) : V → Hp → VK → Prop := fun x H Q => ∀ (pins : List (Addr × Obj)) (s : Shared) (σ : St) (v : Value), Inv X pins σ H s → RelV x v → wpAny (model X.prog X.w) X.A (f v) (EP X pins σ Q) X.xe s
def WCall (f : Value) : List V → Hp → VK → Prop := fun xs H Q => ∀ (pins : List (Addr × Obj)) (s : Shared) (σ : St) (us : List Value), Inv X pins σ H s → Vals xs us → wpAny (model X.prog X.w) X.A (call f us) (EP X pins σ Q) X.xe s
end
section
variable {X : Cx}
theorem op_w {f : Value → Value → Sem Value} : OpR X f (WOp X f) := fun pins s σ H x y v u Q I rx ry h => h pins s σ v u I rx ry
theorem un_w {f : Value → Sem Value} : UnR X f (WUn X f) := fun pins s σ H x v Q I rx h => h pins s σ v I rx
theorem call_w {f : Value} : CallR X f (WCall X f) := fun pins s σ H xs us Q I r h => h pins s σ us I r
theorem WOp.by {f : Value → Value → Sem Value} {r : R2} (h : OpR X f r) {x y : V} {H : Hp} {Q : VK} (q : r x y H Q) : WOp X f x y H Q := fun pins s σ v u I rx ry => h pins s σ H x y v u Q I rx ry q
theorem WUn.by {f : Value → Sem Value} {r : V → Hp → VK → Prop} (h : UnR X f r) {x : V} {H : Hp} {Q : VK} (q : r x H Q) : WUn X f x H Q := fun pins s σ v I rx => h pins s σ H x v Q I rx q
theorem WCall.by {f : Value} {r : List V → Hp → VK → Prop} (h : CallR X f r) {xs : List V} {H : Hp} {Q : VK} (q : r xs H Q) : WCall X f xs H Q := fun pins s σ us I rs => h pins s σ H xs us Q I rs q
/-! ### data of the library's kind -/
mutual
theorem Rep.dp {K : PySem.W.Frag} {H : Hp} : ∀ {d : D} {v : V} {p : PyData}, Rep K H d v → d.py = some p → Dp K H v p
  | .non, _, _, h, e => by simp only [Rep] at h; subst h; simp only [D.py] at e; cases e; exact .non
  | .bl b, _, _, h, e => by simp only [Rep] at h; subst h; simp only [D.py] at e; cases e; exact .bl b
  | .int b, _, _, h, e => by simp only [Rep] at h; subst h; simp only [D.py] at e; cases e; exact .int b
  | .str b, _, _, h, e => by simp only [Rep] at h; subst h; simp only [D.py] at e; cases e; exact .str b
  | .tup ds, _, _, h, e => by
    simp only [Rep] at h
    obtain ⟨a, vs, rfl, s, r⟩ := h
    simp only [D.py] at e
    cases q : pyAll ds with
    | none => rw [q] at e; cases e
    | some ps => rw [q] at e; cases e; exact .tup s (Reps.dp r q)
  | .lst ds, _, _, h, e => by
    simp only [Rep] at h
    obtain ⟨a, vs, rfl, s, r⟩ := h
    simp only [D.py] at e
    cases q : pyAll ds with
    | none => rw [q] at e; cases e
    | some ps => rw [q] at e; cases e; exact .lst s (Reps.dp r q)
  | .dct _, _, _, _, e => by simp [D.py] at e
  | .dcT _, _, _, _, e => by simp [D.py] at e
  | .ins _ _, _, _, _, e => by simp [D.py] at e
theorem Reps.dp {K : PySem.W.Frag} {H : Hp} : ∀ {ds : List D} {vs : List V} {ps : List PyData}, Reps K H ds vs → pyAll ds = some ps → DpAll K H vs ps
  | [], _, _, h, e => by simp only [Reps] at h; subst h; simp only [pyAll] at e; cases e; exact .nil
  | d :: ds, _, _, h, e => by
    simp only [Reps] at h
    obtain ⟨v, r, rfl, s, t⟩ := h
    simp only [pyAll] at e
    cases q : d.py with
    | none => rw [q] at e; cases e
    | some p =>
      cases q2 : pyAll ds with
      | none => rw [q, q2] at e; cases e
      | some ps => rw [q, q2] at e; cases e; exact .cons (Rep.dp s q) (Reps.dp t q2)
end
/-! ### rules of any size -/
theorem op_mulB : OpR X (binaryOp .Mult) (rI (fun i j => mulOk i j = true) fun i j => .int (i * j)) := opI fun i j _ _ _ _ _ hc q => by
  refine mul_int q ?_
  have h := of_decide_eq_true hc
  have b : ∀ x : Int, Builtin.Int.intBits x ≤ x.natAbs.log2 + 1 := fun x => by
    unfold Builtin.Int.intBits
    split <;> omega
  have b1 := b i
  have b2 := b j
  unfold IntMulOk
  intro z
  rw [Bool.and_eq_true] at z
  have z2 := z.2
  unfold Builtin.Int.intTooBig at z2
  have z3 := of_decide_eq_true z2
  rw [show bitsLine = 134217728 by decide] at z3
  omega
theorem op_powB : OpR X (binaryOp .Pow) (rI (fun i j => powOk i j = true) fun i j => .int (i ^ j.toNat)) := opI fun i j _ _ _ _ _ hc q => by
  unfold powOk at hc
  rw [Bool.and_eq_true] at hc
  have h0 := of_decide_eq_true hc.1
  have h1 := of_decide_eq_true hc.2
  refine PyProof.Rows.pow_int h0 ?_ q
  have b : Builtin.Int.intBits i ≤ i.natAbs.log2 + 1 := by
    unfold Builtin.Int.intBits
    split <;> omega
  have e : (j.toNat : Int) = j := Int.toNat_of_nonneg h0
  have : (Builtin.Int.intBits i) * j.toNat ≤ (i.natAbs.log2 + 1) * j.toNat := Nat.mul_le_mul_right _ b
  have h2 : (((Builtin.Int.intBits i) * j.toNat : Nat) : Int) ≤ 100000000 := by omega
  rw [Int.natCast_mul, e] at h2
  omega
theorem op_fdivB : OpR X (binaryOp .FloorDiv) (rI (fun _ j => divOk j = true) fun i j => .int (i.fdiv j)) := by
  intro pins s σ H x y v u Q I rx ry h
  obtain ⟨i, j, rfl, rfl, hc, q⟩ := h
  obtain ⟨t, rfl⟩ := rx
  obtain ⟨t', rfl⟩ := ry
  unfold divOk at hc
  rw [Bool.and_eq_true] at hc
  exact PyProof.Rows.floordiv_int (of_decide_eq_true hc.1) ⟨.int _, H, I.tok _, ⟨_, rfl⟩, q⟩ (.inl (PyProof.noPylong_of_log2 (of_decide_eq_true hc.2)))
theorem op_catS : OpR X (binaryOp .Add) (fun x y H Q => ∃ l b xs zs, x = .ref l ∧ y = .ref b ∧ SqL X.K H l xs ∧ SqL X.K H b zs ∧ xs.length + zs.length ≤ sizeLine ∧ ∀ p, H p = none → Q (.ref p) (upd H p (.lst (xs ++ zs)))) := by
  intro pins s σ H x y v u Q I rx ry h
  obtain ⟨l, b, xs, zs, rfl, rfl, hl, hb, hz, q⟩ := h
  cases (show v = Value.ref l from rx)
  cases (show u = Value.ref b from ry)
  obtain ⟨its, r1, ⟨⟨c1, d1, t1, s1⟩, n1, g1, k1, m1, e1⟩, _⟩ := I.list hl
  obtain ⟨its2, r2, ⟨⟨c2, d2, t2, s2⟩, n2, g2, k2, m2, e2⟩, _⟩ := I.list hb
  simp only at k1 m1 e1 k2 m2 e2
  subst k1 m1 e1 k2 m2 e2
  have hs : its.toArray.size + its2.toArray.size ≤ sizeLine := by
    rw [List.size_toArray, List.size_toArray, ← r1.length, ← r2.length]; exact hz
  refine PySem.concat_meets ⟨_, g1, rfl⟩ ⟨_, g2, rfl⟩ noFill_list_add seq_list_add PySem.F.slot_list_add PySem.F.entry_list_add (PySem.F.args_list_add_2 _ _) (list_addW l b its.toArray its2.toArray n1 n2 none none s1 s2 hs) ⟨g1, g2, ?_⟩
  rw [show its.toArray ++ its2.toArray = (its ++ its2).toArray by simp]
  exact ⟨.ref _, _, I.lnew (t' := s.toks) (Vals.append r1 r2) (by rw [List.length_append]; omega), rfl, q _ I.fresh⟩
/-- repr of data -/
theorem call_reprD (hg : X.A.guards = some []) (hu : X.A.units + 64 < cLine) : CallR X (.builtin "repr") (fun xs H Q => ∃ x p, xs = [x] ∧ Dp X.K H x p ∧ p.showable = true ∧ p.hasDict = false ∧ p.depth ≤ 60 ∧ p.shown.length ≤ sizeLine ∧ Q (.str p.shown) H) := by
  intro pins s σ H xs us Q I r h
  obtain ⟨x, p, rfl, hd, h1, h2, h3, h4, q⟩ := h
  cases r with
  | cons rx rn =>
    rename_i u us
    cases rn
    obtain ⟨as, rd⟩ := Dp.reads I p x u hd rx
    cases rd with
    | none => exact PySem.P.repr_of_none ⟨.str _, H, I.tok _, ⟨_, rfl⟩, q⟩
    | bool b => exact PySem.P.repr_of_bool ⟨.str _, H, I.tok _, ⟨_, rfl⟩, q⟩
    | int i t => exact PySem.P.repr_of_int (of_decide_eq_true h1) ⟨.str _, H, I.tok _, ⟨_, rfl⟩, q⟩
    | str y t => exact PySem.P.repr_of_str ⟨.str _, H, I.tok _, ⟨_, rfl⟩, q⟩ h4
    | list a b c d =>
      refine PySem.repr_of_reads' (Reads.list a b c d) h1 (PySem.PyData.noDict_hsm h2) hg (by omega) (fun _ _ e => e) (fun h' u tk k => ?_) h4
      exact ⟨.str _, H, I.kept k, ⟨_, rfl⟩, q⟩
    | tuple a b c d =>
      refine PySem.repr_of_reads' (Reads.tuple a b c d) h1 (PySem.PyData.noDict_hsm h2) hg (by omega) (fun _ _ e => e) (fun h' u tk k => ?_) h4
      exact ⟨.str _, H, I.kept k, ⟨_, rfl⟩, q⟩
    | dict a b c d e => cases h2
end
end Z

namespace Z
open PySem PySem.Spec L2
open PyProof.Rows hiding St
/-! ### runs one behind another -/
structure PostC (K : PySem.W.Frag) (O : Addr → Prop) (ρ : Vn) (σ : L2.St) (H : Hp) (st : Bool) (ρ' : Vn) (H' : Hp) : Prop where
  env : EnvOk K O ρ' σ H'
  kp : Kp (fun b => st = false ∧ WrA ρ σ b) H H'
  dm : ∀ b, H b ≠ none → H' b ≠ none
  to : EvTo ρ ρ'
section
variable {K : PySem.W.Frag} {O : Addr → Prop} {ρ ρ1 ρ2 ρ' : Vn} {σ : L2.St} {H H1 H2 H' : Hp} {m m1 m2 : ME} {d d1 d2 : D} {v v1 v2 : V} {s1 s2 st : Bool}
theorem PostS.c (p : PostS K O ρ σ H m d ρ' v H') : PostC K O ρ σ H m.still ρ' H' := ⟨p.env, p.kp, p.dm, p.to⟩
theorem PostC.refl (E : EnvOk K O ρ σ H) : PostC K O ρ σ H st ρ H := ⟨E, Kp.refl, fun _ h => h, EvTo.refl _⟩
theorem PostC.trans (a : PostC K O ρ σ H s1 ρ1 H1) (b : PostC K O ρ1 σ H1 s2 ρ2 H2) : PostC K O ρ σ H (s1 && s2) ρ2 H2 := by
  refine ⟨b.env, (a.kp.mono fun c z => ⟨?_, z.2⟩).trans (b.kp.mono fun c z => ⟨?_, a.to.wr z.2⟩), fun c h => b.dm c (a.dm c h), a.to.trans b.to⟩
  · rw [z.1]; simp
  · rw [z.1]; simp
theorem PostC.weak (a : PostC K O ρ σ H s1 ρ1 H1) (h : s2 = true → s1 = true) : PostC K O ρ σ H s2 ρ1 H1 := by
  refine ⟨a.env, a.kp.mono fun c z => ⟨?_, z.2⟩, a.dm, a.to⟩
  cases q : s2 with
  | false => rfl
  | true =>
    have e := h q
    rw [z.1] at e
    cases e
theorem PostC.gone (a : PostC K O ρ σ H s1 ρ1 H1) {b : Addr} (h : H1 b = none) : H b = none := by
  cases q : H b with
  | none => rfl
  | some o => exact absurd h (a.dm b (by rw [q]; simp))
theorem PostC.ext (b : PostC K O ρ1 σ H1 st ρ2 H2) : Ext (vis (Hid O ρ1 σ) H1) (vis (Hid O ρ2 σ) H2) :=
  vis_ext (fun c h _ => b.to.hid h) fun c o h e => b.kp c o (fun z => h (.inr z.2.own)) e
theorem PostC.all (b : PostC K O ρ1 σ H1 true ρ2 H2) : ∀ c o, H1 c = some o → H2 c = some o := fun c o e => b.kp c o (fun z => by cases z.1) e
theorem PostX.fromC {x : Exn} {od : Option Addr} (p : PostC K O ρ σ H st ρ1 H1) (q : PostX K O ρ1 σ H1 x ρ' od H') : PostX K O ρ σ H x ρ' od H' :=
  ⟨q.env, (p.kp.mono fun b z => z.2).trans (q.kp.mono fun b z => p.to.wr z), fun b h => q.dm b (p.dm b h), p.to.trans q.to, q.rep⟩
/-- what was looked at ahead -/
theorem PostS.carry (p : PostS K O ρ σ H m d ρ1 v H1) (b : PostC K O ρ1 σ H1 st ρ2 H2) (h : m.isRd = true → st = true) : RdOk K (vis (Hid O ρ2 σ) H2) H2 d v := by
  cases q : m.isRd with
  | false => exact .inl ((p.rep q).ext b.ext)
  | true =>
    have e := h q
    subst e
    exact p.rd.ext b.ext b.all
theorem PostC.scal (c : PostC K O ρ σ H m.still ρ' H') (hs : scalD d = true) : PostE K O ρ σ H m false d ρ' (vOf d) H' :=
  { env := newO_false.symm ▸ c.env, kp := c.kp, dm := c.dm, to := c.to, new := fun z => Bool.noConfusion z, rd := fun _ => .inl (rep_vOf hs), rep := fun _ _ => rep_vOf hs }
theorem RdOk.scal {G : Hp} (h : RdOk K G H d v) (hs : scalD d = true) : v = vOf d := by
  rcases h with h | ⟨a, _, h⟩
  · cases d <;> first | exact h | cases hs
  · cases d <;> first | exact h.elim | cases hs
theorem upd_dm {p b : Addr} {o : HO} (h : H b ≠ none) : upd H p o b ≠ none := by
  unfold upd
  split
  · simp
  · exact h
theorem vis_new {p : Addr} {o : HO} (hp : H p = none) : Ext (vis (Hid O ρ σ) H) (vis (Hid (newO true O (.ref p)) ρ σ) (upd H p o)) := by
  refine vis_ext (fun b z n => ?_) fun b o _ z => upd_kp hp b o z
  rcases z with (z | ⟨_, z⟩) | z
  · exact .inl z
  · cases z; exact absurd hp n
  · exact .inr z
/-- a new object comes -/
theorem PostC.new (c : PostC K O ρ σ H m.still ρ' H') {p : Addr} {o : HO} (hp : H' p = none) (t : Top K (vis (Hid (newO true O (.ref p)) ρ' σ) (upd H' p o)) (upd H' p o) d p) : PostE K O ρ σ H m true d ρ' (.ref p) (upd H' p o) :=
  { env := c.env.laid hp, kp := fun b u n e => upd_kp hp b u (c.kp b u n e), dm := fun b h => upd_dm (c.dm b h), to := c.to, new := fun _ => ⟨p, rfl, c.gone hp, t⟩, rd := fun z => Bool.noConfusion z, rep := fun z => Bool.noConfusion z }
end
/-- a result that is made of what is seen in G -/
inductive Made' (K : PySem.W.Frag) (G H : Hp) : Bool → D → V → Hp → Prop
  | same {d : D} {v : V} (r : Rep K G d v) : Made' K G H false d v H
  | tup {ds : List D} {vs : List V} {p : Addr} (hp : H p = none) (r : Reps K G ds vs) : Made' K G H false (.tup ds) (.ref p) (upd H p (.tup vs))
  | lst {ds : List D} {vs : List V} {p : Addr} (hp : H p = none) (r : Reps K G ds vs) : Made' K G H true (.lst ds) (.ref p) (upd H p (.lst vs))
theorem PostC.made {K : PySem.W.Frag} {O : Addr → Prop} {ρ ρ' : Vn} {σ : L2.St} {H H' H2 : Hp} {m : ME} {fl : Bool} {d : D} {v : V} (c : PostC K O ρ σ H m.still ρ' H') (h : Made' K (vis (Hid O ρ' σ) H') H' fl d v H2) : PostE K O ρ σ H m fl d ρ' v H2 := by
  cases h with
  | same r => exact { env := newO_false.symm ▸ c.env, kp := c.kp, dm := c.dm, to := c.to, new := fun z => Bool.noConfusion z, rd := fun _ => .inl r, rep := fun _ _ => r }
  | @tup ds vs p hp r =>
    have r2 : Rep K (vis (Hid O ρ' σ) (upd H' p (.tup vs))) (.tup ds) (.ref p) := by
      simp only [Rep]
      have np : ¬ Hid O ρ' σ p := fun z => c.env.domH p z hp
      exact ⟨p, vs, rfl, SqT.of (by rw [vis_at np, upd_same]), r.ext (vis_ext (fun _ z _ => z) fun b o _ z => upd_kp hp b o z)⟩
    exact { env := newO_false.symm ▸ c.env.kept (upd_kp hp), kp := fun b u n e => upd_kp hp b u (c.kp b u n e), dm := fun b h => upd_dm (c.dm b h), to := c.to, new := fun z => Bool.noConfusion z, rd := fun _ => .inl r2, rep := fun _ _ => r2 }
  | lst hp r => exact c.new hp ⟨_, upd_same, r.ext (vis_new hp)⟩
theorem Made'.scal {K : PySem.W.Frag} {G H : Hp} {d : D} (hs : scalD d = true) : Made' K G H false d (vOf d) H := .same (rep_vOf hs)
section
variable {Φ : String → Option Fn} {X : Cx} {W : WX}
abbrev HoldE (Φ : String → Option Fn) (X : Cx) (W : WX) (O : Addr → Prop) (ρ : Vn) (σ : L2.St) (H : Hp) (m : ME) (P : Bool × D → Vn → Prop) : Prop :=
  (evE Φ m ρ).holds P (fun x ρ' => ∀ od H', PostX X.K O ρ σ H x ρ' od H' → W (.ref (He.ga X.K x.C)) od σ H')
/-- a first expression, then the rest of the run -/
theorem SndE.bd {e : Expr} {m : ME} (h : SndE Φ X W e m) {O : Addr → Prop} {ρ0 ρ : Vn} {σ : L2.St} {H0 H : Hp} {st : Bool} {Q : VK} (c : PostC X.K O ρ0 σ H0 st ρ H) {β : Type} {f : Bool × D → Vn → Res β} {P : β → Vn → Prop}
    (q : ((evE Φ m ρ).bind f).holds P (fun x ρ' => ∀ od H', PostX X.K O ρ0 σ H0 x ρ' od H' → W (.ref (He.ga X.K x.C)) od σ H'))
    (k : ∀ a ρ' v H', PostS X.K O ρ σ H m a.2 ρ' v H' → (f a ρ').holds P (fun x ρ' => ∀ od H', PostX X.K O ρ0 σ H0 x ρ' od H' → W (.ref (He.ga X.K x.C)) od σ H') → Q v H') : WE X e σ H Q :=
  h.sh c.env (Res.holds_mono (Res.holds_bind q) (fun a ρ' z v H' p => k a ρ' v H' p z) fun x ρ' z od H' p => z od H' (p.fromC c))
theorem holds_of {α : Type} {o : Option α} {ρ : Vn} {β : Type} {f : α → Vn → Res β} {P : β → Vn → Prop} {E : Exn → Vn → Prop} (h : ((ofOpt o ρ).bind f).holds P E) : ∃ a, o = some a ∧ (f a ρ).holds P E := by
  cases o with
  | none => exact h.elim
  | some a => exact ⟨a, rfl, h⟩
theorem holds_opt {α : Type} {o : Option α} {ρ : Vn} {P : α → Vn → Prop} {E : Exn → Vn → Prop} (h : (ofOpt o ρ).holds P E) : ∃ a, o = some a ∧ P a ρ := by
  cases o with
  | none => exact h.elim
  | some a => exact ⟨a, rfl, h⟩
theorem snd_cst {e : Expr} {d : D} (h : PE X e (tC (vOf d))) (hs : scalD d = true) : SndE Φ X W e (.cst d) := by
  intro O ρ σ H Q E q
  exact WE.by h (q _ _ ((PostC.refl E).scal (m := .cst d) hs))
theorem binD_ok {G H : Hp} (x : Ext G H) {op : Operator} {d1 d2 : D} {v1 v2 : V} (h1 : RdOk X.K G H d1 v1) (h2 : RdOk X.K G H d2 v2) {fl : Bool} {d : D} (e : binD op d1 d2 = some (fl, d)) {Q : VK}
    (q : ∀ v H', Made' X.K G H fl d v H' → Q v H') : WOp X (binaryOp op) v1 v2 H Q := by
  have lz : lim ≤ sizeLine := by rw [PySem.sizeLine_eq]; decide
  have sc : ∀ {d : D}, scalD d = true → (∀ v H', Made' X.K G H false d v H' → Q v H') → Q (vOf d) H := fun hs q => q _ _ (.scal hs)
  unfold binD at e
  split at e
  · cases e
    cases h1.scal rfl
    cases h2.scal rfl
    exact WOp.by op_add ⟨_, _, rfl, rfl, sc rfl q⟩
  · cases e
    cases h1.scal rfl
    cases h2.scal rfl
    exact WOp.by op_sub ⟨_, _, rfl, rfl, sc rfl q⟩
  · split at e
    · rename_i hc
      cases e
      cases h1.scal rfl
      cases h2.scal rfl
      exact WOp.by op_mulB ⟨_, _, rfl, rfl, hc, sc rfl q⟩
    · cases e
  · split at e
    · rename_i hc
      cases e
      cases h1.scal rfl
      cases h2.scal rfl
      exact WOp.by op_fdivB ⟨_, _, rfl, rfl, hc, sc rfl q⟩
    · cases e
  · split at e
    · cases e
    · rename_i hc
      cases e
      cases h1.scal rfl
      cases h2.scal rfl
      exact WOp.by op_modN ⟨_, _, rfl, rfl, hc, sc rfl q⟩
  · split at e
    · rename_i hc
      cases e
      cases h1.scal rfl
      cases h2.scal rfl
      exact WOp.by op_powB ⟨_, _, rfl, rfl, hc, sc rfl q⟩
    · cases e
  · split at e
    · rename_i hc
      cases e
      obtain ⟨a, vs, rfl, s1, r1⟩ := h1.lst x
      obtain ⟨b, ws, rfl, s2, r2⟩ := h2.lst x
      refine WOp.by op_catS ⟨a, b, vs, ws, rfl, rfl, s1, s2, ?_, fun p hp => q _ _ (.lst hp (r1.append r2))⟩
      rw [← r1.length, ← r2.length]; omega
    · cases e
  · split at e
    · rename_i hc
      cases e
      rcases h1 with h1 | ⟨_, _, h1⟩
      · rcases h2 with h2 | ⟨_, _, h2⟩
        · have g1 := h1
          have g2 := h2
          simp only [Rep] at h1 h2
          obtain ⟨a, vs, rfl, s1, r1⟩ := h1
          obtain ⟨b, ws, rfl, s2, r2⟩ := h2
          refine WOp.by op_catA ⟨a, b, vs, ws, rfl, rfl, sqT_ext x s1, sqT_ext x s2, ?_, fun z => ?_, fun _ z => ?_, fun _ _ p hp => q _ _ (.tup hp (r1.append r2))⟩
          · rw [← r1.length, ← r2.length]; omega
          · subst z
            have := r1.length
            rw [List.length_nil, List.length_eq_zero_iff] at this
            subst this
            exact q _ _ (.same g2)
          · subst z
            have := r2.length
            rw [List.length_nil, List.length_eq_zero_iff] at this
            subst this
            rw [List.append_nil] at q
            exact q _ _ (.same g1)
        · exact h2.elim
      · exact h1.elim
    · cases e
  · split at e
    · rename_i hc
      cases e
      cases h1.scal rfl
      cases h2.scal rfl
      exact WOp.by op_add_str ⟨_, _, rfl, rfl, by omega, sc rfl q⟩
    · cases e
  · cases e
theorem snd_bin {a b : Expr} {op : Operator} {pos : Pos} {ma mb : ME} (ha : SndE Φ X W a ma) (hb : SndE Φ X W b mb) (hr : ma.isRd = true → mb.still = true) : SndE Φ X W (.BinOp a op b pos) (.bin op ma mb) := by
  intro O ρ σ H Q E q
  simp only [evE] at q
  refine WE.by (pe_op op_w pe_w pe_w) ?_
  refine ha.bd (PostC.refl (st := true) E) q fun x ρ1 v1 H1 p1 q => ?_
  refine hb.bd (p1.c) q fun y ρ2 v2 H2 p2 q => ?_
  obtain ⟨⟨fl, d⟩, e, q⟩ := holds_opt q
  have c : PostC X.K O ρ σ H (ME.bin op ma mb).still ρ2 H2 := by simpa only [ME.still] using p1.c.trans p2.c
  exact binD_ok vis_le (p1.carry p2.c hr) p2.rd e fun v H' h => q _ _ (c.made h)
end
end Z

namespace Z
open PySem PySem.Spec L2
open PyProof.Rows hiding St
section
variable {Φ : String → Option Fn} {X : Cx} {W : WX}
theorem fn_nr {m : ME} (h : m.isRd = false) : m.isRd = true → false = true := fun z => by rw [h] at z; cases z
/-! ### names -/
theorem snd_rd {x : Str} {i : Nat} {pos : Pos} (h : PE X (.Name x pos) (tVar i)) : SndE Φ X W (.Name x pos) (.rd i) := by
  intro O ρ σ H Q E q
  refine WE.by h ?_
  have fin : ∀ {d : D} {v : V}, σ[i]? = some (some v) → RdOk X.K (vis (Hid O ρ σ) H) H d v → (∀ v H', PostE X.K O ρ σ H (.rd i) false d ρ v H' → Q v H') → tVar i σ H Q := fun e r k =>
    ⟨_, e, k _ _ { env := newO_false.symm ▸ E, kp := Kp.refl, dm := fun _ h => h, to := EvTo.refl _, new := fun z => Bool.noConfusion z, rd := fun _ => r, rep := fun _ z => Bool.noConfusion z }⟩
  simp only [evE] at q
  split at q
  · obtain ⟨v, e, r⟩ := E.val i _ (by assumption)
    exact fin e (.inl r) q
  · obtain ⟨a, e, r⟩ := E.own i _ (by assumption)
    exact fin e (.inr ⟨a, rfl, r.r⟩) q
  · obtain ⟨a, e, _, r⟩ := E.io i _ (by assumption)
    exact fin e (.inr ⟨a, rfl, r.r⟩) q
  · obtain ⟨a, e, r⟩ := E.lkd i _ (by assumption)
    exact fin e (.inr ⟨a, rfl, r⟩) q
  · exact q.elim
theorem getElem?_set_of {ρ : Vn} {i j : Nat} {s t : Sl} (h : (ρ.set i s)[j]? = some t) : (j = i ∧ t = s ∧ i < ρ.length) ∨ (j ≠ i ∧ ρ[j]? = some t) := by
  by_cases e : j = i
  · subst e
    by_cases l : j < ρ.length
    · rw [List.getElem?_set_self l] at h; cases h; exact .inl ⟨rfl, rfl, l⟩
    · rw [List.getElem?_eq_none (by simpa using l)] at h; cases h
  · rw [List.getElem?_set_ne (Ne.symm e)] at h; exact .inr ⟨e, h⟩
/-- an owned slot is given away -/
theorem EnvOk.give {K : PySem.W.Frag} {O : Addr → Prop} {ρ : Vn} {σ : L2.St} {H : Hp} {i : Nat} {d : D} (E : EnvOk K O ρ σ H) (e : ρ[i]? = some (.own d)) :
    EnvOk K O (ρ.set i (.val d)) σ H ∧ EvTo ρ (ρ.set i (.val d)) ∧ ∃ a, σ[i]? = some (some (.ref a)) ∧ Rep K (vis (Hid O (ρ.set i (.val d)) σ) H) d (.ref a) := by
  obtain ⟨a, s, t⟩ := E.own i d e
  have hl : i < ρ.length := (List.getElem?_eq_some_iff.mp e).1
  have to : EvTo ρ (ρ.set i (.val d)) := ⟨by simp, fun j sj ej => by
    by_cases h : j = i
    · subst h
      rw [e] at ej; cases ej
      exact ⟨_, List.getElem?_set_self hl, .inr ⟨d, rfl⟩⟩
    · exact ⟨sj, by rw [List.getElem?_set_ne (Ne.symm h)]; exact ej, sj.to_refl⟩⟩
  have x : Ext (vis (Hid O ρ σ) H) (vis (Hid O (ρ.set i (.val d)) σ) H) := vis_ext (fun b z _ => to.hid z) fun _ _ _ z => z
  have na : ¬ Hid O (ρ.set i (.val d)) σ a := by
    rintro (z | ⟨j, sj, ej, w, sa⟩)
    · exact E.sep i d a e s z
    · rcases getElem?_set_of ej with ⟨rfl, rfl, _⟩ | ⟨ne, ej⟩
      · cases w
      · exact ne (E.inj j i a sj _ ej e w rfl sa s)
  have r : Rep K (vis (Hid O (ρ.set i (.val d)) σ) H) d (.ref a) := t.rep x fun o h => by rw [vis_at na]; exact h
  refine ⟨⟨by simpa using E.len, E.dom, fun j dj ej => ?_, fun j dj ej => ?_, fun j dj ej => ?_, fun j dj ej => ?_, fun j k b sj sk ej ek wj wk aj ak => ?_, fun j dj b ej aj => ?_⟩, to, a, s, r⟩
  · rcases getElem?_set_of ej with ⟨rfl, h, _⟩ | ⟨ne, ej⟩
    · cases h; exact ⟨_, s, r⟩
    · obtain ⟨v, h, g⟩ := E.val j dj ej; exact ⟨v, h, g.ext x⟩
  · rcases getElem?_set_of ej with ⟨_, h, _⟩ | ⟨ne, ej⟩
    · cases h
    · obtain ⟨v, h, g⟩ := E.own j dj ej; exact ⟨v, h, g.ext x fun _ z => z⟩
  · rcases getElem?_set_of ej with ⟨_, h, _⟩ | ⟨ne, ej⟩
    · cases h
    · obtain ⟨v, h, o, g⟩ := E.io j dj ej; exact ⟨v, h, o, g.ext x fun _ z => z⟩
  · rcases getElem?_set_of ej with ⟨_, h, _⟩ | ⟨ne, ej⟩
    · cases h
    · obtain ⟨v, h, g⟩ := E.lkd j dj ej; exact ⟨v, h, g.ext x fun _ z => z⟩
  · rcases getElem?_set_of ej with ⟨_, rfl, _⟩ | ⟨_, ej⟩
    · cases wj
    · rcases getElem?_set_of ek with ⟨_, rfl, _⟩ | ⟨_, ek⟩
      · cases wk
      · exact E.inj j k b sj sk ej ek wj wk aj ak
  · rcases getElem?_set_of ej with ⟨_, h, _⟩ | ⟨_, ej⟩
    · cases h
    · exact E.sep j dj b ej aj
theorem snd_var {x : Str} {i : Nat} {pos : Pos} (h : PE X (.Name x pos) (tVar i)) : SndE Φ X W (.Name x pos) (.var i) := by
  intro O ρ σ H Q E q
  refine WE.by h ?_
  simp only [evE] at q
  split at q
  · obtain ⟨v, e, r⟩ := E.val i _ (by assumption)
    exact ⟨v, e, q _ _ { env := newO_false.symm ▸ E, kp := Kp.refl, dm := fun _ h => h, to := EvTo.refl _, new := fun z => Bool.noConfusion z, rd := fun _ => .inl r, rep := fun _ _ => r }⟩
  · obtain ⟨E2, to, a, s, r⟩ := E.give (by assumption)
    exact ⟨_, s, q _ _ { env := newO_false.symm ▸ E2, kp := Kp.refl, dm := fun _ h => h, to := to, new := fun z => Bool.noConfusion z, rd := fun _ => .inl r, rep := fun _ _ => r }⟩
  · exact q.elim
/-! ### truth -/
def SndT (Φ : String → Option Fn) (X : Cx) (W : WX) (e : Expr) (m : ME) : Prop := ∀ (O : Addr → Prop) (ρ : Vn) (σ : L2.St) (H : Hp) (Q : Bool → Hp → Prop), EnvOk X.K O ρ σ H →
  ((evE Φ m ρ).bind fun x ρ => ofOpt (truD x.2) ρ).holds (fun b ρ' => ∀ H', PostC X.K O ρ σ H m.still ρ' H' → Q b H') (fun x ρ' => ∀ od H', PostX X.K O ρ σ H x ρ' od H' → W (.ref (He.ga X.K x.C)) od σ H') → WT X e σ H Q
def isPlainT : Expr → Bool
  | .BoolOp _ _ _ => false
  | .Compare _ _ _ _ => false
  | .UnaryOp .Not _ _ => false
  | .NamedExpr _ _ _ => false
  | .IfExp _ _ _ _ => false
  | _ => true
theorem plainT {e : Expr} (h : isPlainT e = true) {env : PySem.Env} : ∀ whole, isTrue e env whole = (do let v ← whole; standAt e.pos; holding [v] (truthy v)) := by
  intro whole
  cases e with
  | UnaryOp op a p => cases op <;> first | rfl | cases h
  | BoolOp _ _ _ => cases h
  | Compare _ _ _ _ => cases h
  | NamedExpr _ _ _ => cases h
  | IfExp _ _ _ _ => cases h
  | _ => rfl
theorem truD_some {d : D} {b : Bool} (h : truD d = some b) : d = .bl b := by
  unfold truD at h
  split at h
  · cases h; rfl
  · cases h
theorem snd_tv {e : Expr} {m : ME} (h : SndE Φ X W e m) (hp : isPlainT e = true) : SndT Φ X W e m := by
  intro O ρ σ H Q E q
  refine WT.by (pt_val pe_w (plainT hp)) ?_
  refine h.bd (PostC.refl (st := true) E) q fun x ρ1 v1 H1 p1 q => ?_
  obtain ⟨b, e1, q⟩ := holds_opt q
  have r := p1.rd
  rw [truD_some e1] at r
  exact ⟨b, r.scal rfl, q _ p1.c⟩
theorem SndT.bd {e : Expr} {m : ME} (h : SndT Φ X W e m) {O : Addr → Prop} {ρ0 ρ : Vn} {σ : L2.St} {H0 H : Hp} {st : Bool} {Q : Bool → Hp → Prop} (c : PostC X.K O ρ0 σ H0 st ρ H) {β : Type} {f : Bool → Vn → Res β} {P : β → Vn → Prop}
    (q : ((evE Φ m ρ).bind fun x ρ => (ofOpt (truD x.2) ρ).bind f).holds P (fun x ρ' => ∀ od H', PostX X.K O ρ0 σ H0 x ρ' od H' → W (.ref (He.ga X.K x.C)) od σ H'))
    (k : ∀ b ρ' H', PostC X.K O ρ σ H m.still ρ' H' → (f b ρ').holds P (fun x ρ' => ∀ od H', PostX X.K O ρ0 σ H0 x ρ' od H' → W (.ref (He.ga X.K x.C)) od σ H') → Q b H') : WT X e σ H Q := by
  refine h O ρ σ H Q c.env ?_
  cases z : evE Φ m ρ with
  | ok a ρ' =>
    rw [z] at q
    simp only [Res.bind_ok] at q ⊢
    obtain ⟨b, e, q⟩ := holds_of q
    rw [e]
    exact fun H' p => k b ρ' H' p q
  | exn x ρ' =>
    rw [z] at q
    exact fun od H' p => q od H' (p.fromC c)
  | stuck => rw [z] at q; exact q
/-! ### not, and, or, if -/
theorem snd_not {a : Expr} {pos : Pos} {ma : ME} (ha : SndE Φ X W a ma) : SndE Φ X W (.UnaryOp .Not a pos) (.not ma) := by
  intro O ρ σ H Q E q
  simp only [evE] at q
  refine WE.by (pe_not pe_w) ?_
  refine ha.bd (PostC.refl (st := true) E) q fun x ρ1 v1 H1 p1 q => ?_
  obtain ⟨b, e1, q⟩ := holds_of q
  have r := p1.rd
  rw [truD_some e1] at r
  exact ⟨b, r.scal rfl, q _ _ (PostC.scal (m := .not ma) (by simpa only [ME.still] using p1.c) rfl)⟩
theorem PostE.fromC {K : PySem.W.Frag} {O : Addr → Prop} {ρ0 ρ ρ' : Vn} {σ : L2.St} {H0 H H' : Hp} {st fl : Bool} {m M : ME} {d : D} {v : V} (c : PostC K O ρ0 σ H0 st ρ H) (p : PostE K O ρ σ H m fl d ρ' v H') (hr : m.isRd = false) (hs : M.still = true → st = true ∧ m.still = true) :
    PostE K O ρ0 σ H0 M fl d ρ' v H' where
  env := p.env
  kp := by
    refine (c.kp.mono fun b z => ⟨?_, z.2⟩).trans (p.kp.mono fun b z => ⟨?_, c.to.wr z.2⟩)
    all_goals
      cases q : M.still with
      | false => rfl
      | true =>
        obtain ⟨h1, h2⟩ := hs q
        simp_all
  dm := fun b h => p.dm b (c.dm b h)
  to := c.to.trans p.to
  new := fun z => by
    obtain ⟨q, e, hq, t⟩ := p.new z
    exact ⟨q, e, c.gone hq, t⟩
  rd := p.rd
  rep := fun z _ => p.rep z hr
/-- the last expression of a run -/
theorem SndE.tl {e : Expr} {m M : ME} (h : SndE Φ X W e m) {O : Addr → Prop} {ρ0 ρ : Vn} {σ : L2.St} {H0 H : Hp} {st : Bool} {Q : VK} (c : PostC X.K O ρ0 σ H0 st ρ H) (hr : m.isRd = false) (hs : M.still = true → st = true ∧ m.still = true)
    (q : (evE Φ m ρ).holds (fun a ρ' => ∀ v H', PostE X.K O ρ0 σ H0 M a.1 a.2 ρ' v H' → Q v H') (fun x ρ' => ∀ od H', PostX X.K O ρ0 σ H0 x ρ' od H' → W (.ref (He.ga X.K x.C)) od σ H')) : WE X e σ H Q :=
  h O ρ σ H Q c.env (Res.holds_mono q (fun a ρ' z v H' p => z v H' (p.fromC c hr hs)) fun x ρ' z od H' p => z od H' (p.fromC c))
theorem still_and {a b : ME} (h : (ME.and a b).still = true) : a.still = true ∧ b.still = true := by simpa [ME.still] using h
theorem still_or {a b : ME} (h : (ME.or a b).still = true) : a.still = true ∧ b.still = true := by simpa [ME.still] using h
theorem snd_and {a b : Expr} {rest : List Expr} {pos : Pos} {ma mb : ME} (ha : SndE Φ X W a ma) (hb : SndE Φ X W (.BoolOp .And (b :: rest) pos) mb) (hr : mb.isRd = false) : SndE Φ X W (.BoolOp .And (a :: b :: rest) pos) (.and ma mb) := by
  intro O ρ σ H Q E q
  simp only [evE] at q
  refine WE.by (pe_and pe_w pe_w) ?_
  refine ha.bd (PostC.refl (st := true) E) q fun x ρ1 v1 H1 p1 q => ?_
  obtain ⟨c, e1, q⟩ := holds_of q
  have r := p1.rd
  rw [truD_some e1] at r
  refine ⟨c, r.scal rfl, ?_⟩
  cases c with
  | true => exact hb.tl p1.c hr still_and q
  | false => exact q _ _ (PostC.scal (m := .and ma mb) (p1.c.weak fun z => (still_and z).1) rfl)
theorem snd_or {a b : Expr} {rest : List Expr} {pos : Pos} {ma mb : ME} (ha : SndE Φ X W a ma) (hb : SndE Φ X W (.BoolOp .Or (b :: rest) pos) mb) (hr : mb.isRd = false) : SndE Φ X W (.BoolOp .Or (a :: b :: rest) pos) (.or ma mb) := by
  intro O ρ σ H Q E q
  simp only [evE] at q
  refine WE.by (pe_or pe_w pe_w) ?_
  refine ha.bd (PostC.refl (st := true) E) q fun x ρ1 v1 H1 p1 q => ?_
  obtain ⟨c, e1, q⟩ := holds_of q
  have r := p1.rd
  rw [truD_some e1] at r
  refine ⟨c, r.scal rfl, ?_⟩
  cases c with
  | false => exact hb.tl p1.c hr still_or q
  | true => exact q _ _ (PostC.scal (m := .or ma mb) (p1.c.weak fun z => (still_or z).1) rfl)
theorem snd_ite {t a b : Expr} {pos : Pos} {mt ma mb : ME} (ht : SndT Φ X W t mt) (ha : SndE Φ X W a ma) (hb : SndE Φ X W b mb) (hra : ma.isRd = false) (hrb : mb.isRd = false) : SndE Φ X W (.IfExp t a b pos) (.ite mt ma mb) := by
  intro O ρ σ H Q E q
  simp only [evE] at q
  refine WE.by (pe_ifExp pt_w pe_w pe_w) ?_
  refine ht.bd (PostC.refl (st := true) E) q fun c ρ1 H1 p1 q => ?_
  cases c with
  | true =>
    refine ha.tl p1 hra (fun z => ?_) q
    simp only [ME.still, Bool.and_eq_true] at z
    exact ⟨z.1.1, z.1.2⟩
  | false =>
    refine hb.tl p1 hrb (fun z => ?_) q
    simp only [ME.still, Bool.and_eq_true] at z
    exact ⟨z.1.1, z.2⟩
/-! ### tests of these forms -/
abbrev HT (Φ : String → Option Fn) (m : ME) (ρ : Vn) : Res Bool := (evE Φ m ρ).bind fun x ρ => ofOpt (truD x.2) ρ
theorem ht_not {m : ME} {ρ : Vn} : HT Φ (.not m) ρ = (HT Φ m ρ).bind fun b ρ => .ok (!b) ρ := by
  unfold HT
  simp only [evE]
  cases evE Φ m ρ with
  | ok x ρ' =>
    simp only [Res.bind_ok]
    cases truD x.2 <;> rfl
  | _ => rfl
theorem ht_and {a b : ME} {ρ : Vn} : HT Φ (.and a b) ρ = (HT Φ a ρ).bind fun c ρ => if c = true then HT Φ b ρ else .ok false ρ := by
  unfold HT
  simp only [evE]
  cases evE Φ a ρ with
  | ok x ρ' =>
    simp only [Res.bind_ok]
    cases truD x.2 with
    | none => rfl
    | some c => cases c <;> rfl
  | _ => rfl
theorem ht_or {a b : ME} {ρ : Vn} : HT Φ (.or a b) ρ = (HT Φ a ρ).bind fun c ρ => if c = true then .ok true ρ else HT Φ b ρ := by
  unfold HT
  simp only [evE]
  cases evE Φ a ρ with
  | ok x ρ' =>
    simp only [Res.bind_ok]
    cases truD x.2 with
    | none => rfl
    | some c => cases c <;> rfl
  | _ => rfl
/-- a test, then more -/
theorem SndT.run {e : Expr} {m : ME} (h : SndT Φ X W e m) {O : Addr → Prop} {ρ0 ρ : Vn} {σ : L2.St} {H0 H : Hp} {st : Bool} {Q : Bool → Hp → Prop} (c : PostC X.K O ρ0 σ H0 st ρ H) {β : Type} {f : Bool → Vn → Res β} {P : β → Vn → Prop}
    (q : ((HT Φ m ρ).bind f).holds P (fun x ρ' => ∀ od H', PostX X.K O ρ0 σ H0 x ρ' od H' → W (.ref (He.ga X.K x.C)) od σ H'))
    (k : ∀ b ρ' H', PostC X.K O ρ σ H m.still ρ' H' → (f b ρ').holds P (fun x ρ' => ∀ od H', PostX X.K O ρ0 σ H0 x ρ' od H' → W (.ref (He.ga X.K x.C)) od σ H') → Q b H') : WT X e σ H Q :=
  h O ρ σ H Q c.env (Res.holds_mono (Res.holds_bind q) (fun a ρ' z H' p => k a ρ' H' p z) fun x ρ' z od H' p => z od H' (p.fromC c))
theorem sndT_not {a : Expr} {pos : Pos} {ma : ME} (ha : SndT Φ X W a ma) : SndT Φ X W (.UnaryOp .Not a pos) (.not ma) := by
  intro O ρ σ H Q E q
  rw [show ((evE Φ (.not ma) ρ).bind fun x ρ => ofOpt (truD x.2) ρ) = HT Φ (.not ma) ρ from rfl, ht_not] at q
  refine WT.by (pt_not pt_w) ?_
  refine ha.run (PostC.refl (st := true) E) q fun b ρ1 H1 p1 q => ?_
  exact q _ (by simpa only [ME.still] using p1)
/-- .. whatever its whole is -/
def SndW (Φ : String → Option Fn) (X : Cx) (W : WX) (e : Expr) (m : ME) : Prop := ∀ (O : Addr → Prop) (ρ : Vn) (σ : L2.St) (H : Hp) (Q : Bool → Hp → Prop), EnvOk X.K O ρ σ H →
  (HT Φ m ρ).holds (fun b ρ' => ∀ H', PostC X.K O ρ σ H m.still ρ' H' → Q b H') (fun x ρ' => ∀ od H', PostX X.K O ρ σ H x ρ' od H' → W (.ref (He.ga X.K x.C)) od σ H') →
  ∀ (whole : Sem Value) pins s, Inv X pins σ H s → wpAny (model X.prog X.w) X.A (isTrue e X.env whole) (TP X pins σ Q) X.xe s
def WW (X : Cx) (e : Expr) : TT := fun σ H Q => ∀ (whole : Sem Value) pins s, Inv X pins σ H s → wpAny (model X.prog X.w) X.A (isTrue e X.env whole) (TP X pins σ Q) X.xe s
theorem pw_w {e : Expr} : PW X e (WW X e) := ⟨fun wh pins s σ H Q I h => h wh pins s I⟩
theorem WW.by {e : Expr} {t : TT} (h : PW X e t) {σ : L2.St} {H : Hp} {Q : Bool → Hp → Prop} (q : t σ H Q) : WW X e σ H Q := fun wh pins s I => h.run wh pins s σ H Q I q
theorem SndW.t {e : Expr} {m : ME} (h : SndW Φ X W e m) : SndT Φ X W e m := fun O ρ σ H Q E q => WT.by (PW.pt pw_w) (h O ρ σ H Q E q)
theorem SndW.tl {e : Expr} {m M : ME} (h : SndW Φ X W e m) {O : Addr → Prop} {ρ0 ρ : Vn} {σ : L2.St} {H0 H : Hp} {st : Bool} {Q : Bool → Hp → Prop} (c : PostC X.K O ρ0 σ H0 st ρ H) (hs : M.still = true → st = true ∧ m.still = true)
    (q : (HT Φ m ρ).holds (fun a ρ' => ∀ H', PostC X.K O ρ0 σ H0 M.still ρ' H' → Q a H') (fun x ρ' => ∀ od H', PostX X.K O ρ0 σ H0 x ρ' od H' → W (.ref (He.ga X.K x.C)) od σ H')) : WW X e σ H Q :=
  h O ρ σ H Q c.env (Res.holds_mono q (fun a ρ' z H' p => z H' ((c.trans p).weak fun z => by rw [(hs z).1, (hs z).2]; rfl)) fun x ρ' z od H' p => z od H' (p.fromC c))
theorem sndW_one {op : BoolOp} {a : Expr} {pos : Pos} {ma : ME} (ha : SndT Φ X W a ma) : SndW Φ X W (.BoolOp op [a] pos) ma := by
  intro O ρ σ H Q E q
  cases op with
  | And => exact WW.by (pw_and1 pt_w) (ha O ρ σ H Q E q)
  | Or => exact WW.by (pw_or1 pt_w) (ha O ρ σ H Q E q)
theorem sndW_and {a b : Expr} {rest : List Expr} {pos : Pos} {ma mb : ME} (ha : SndT Φ X W a ma) (hb : SndW Φ X W (.BoolOp .And (b :: rest) pos) mb) : SndW Φ X W (.BoolOp .And (a :: b :: rest) pos) (.and ma mb) := by
  intro O ρ σ H Q E q
  rw [ht_and] at q
  refine WW.by (pw_and pt_w pw_w) ?_
  refine ha.run (PostC.refl (st := true) E) q fun c ρ1 H1 p1 q => ?_
  cases c with
  | true => exact hb.tl p1 still_and q
  | false => exact q _ (p1.weak fun z => (still_and z).1)
theorem sndW_or {a b : Expr} {rest : List Expr} {pos : Pos} {ma mb : ME} (ha : SndT Φ X W a ma) (hb : SndW Φ X W (.BoolOp .Or (b :: rest) pos) mb) : SndW Φ X W (.BoolOp .Or (a :: b :: rest) pos) (.or ma mb) := by
  intro O ρ σ H Q E q
  rw [ht_or] at q
  refine WW.by (pw_or pt_w pw_w) ?_
  refine ha.run (PostC.refl (st := true) E) q fun c ρ1 H1 p1 q => ?_
  cases c with
  | false => exact hb.tl p1 still_or q
  | true => exact q _ (p1.weak fun z => (still_or z).1)
theorem snd_one {op : BoolOp} {a : Expr} {pos : Pos} {ma : ME} (ha : SndE Φ X W a ma) : SndE Φ X W (.BoolOp op [a] pos) ma := by
  intro O ρ σ H Q E q
  exact WE.by (pe_one pe_w) (ha O ρ σ H Q E q)
end
end Z

namespace Z
open PySem PySem.Spec L2
open PyProof.Rows hiding St
section
variable {Φ : String → Option Fn} {X : Cx} {W : WX}
/-! ### comparisons -/
theorem RdOk.isNon {K : PySem.W.Frag} {G H : Hp} {d : D} {v : V} (h : RdOk K G H d v) : decide (v = .non) = isNonD d := by
  cases d with
  | non => cases h.scal rfl; rfl
  | bl b => cases h.scal rfl; rfl
  | int b => cases h.scal rfl; rfl
  | str b => cases h.scal rfl; rfl
  | tup ds =>
    rcases h with h | ⟨a, _, h⟩
    · simp only [Rep] at h; obtain ⟨a, _, rfl, _⟩ := h; rfl
    · exact h.elim
  | lst ds =>
    rcases h with h | ⟨a, rfl, h⟩
    · simp only [Rep] at h; obtain ⟨a, _, rfl, _⟩ := h; rfl
    · rfl
  | dct ds =>
    rcases h with h | ⟨a, rfl, h⟩
    · simp only [Rep] at h; obtain ⟨a, _, rfl, _⟩ := h; rfl
    · rfl
  | dcT ds =>
    rcases h with h | ⟨a, rfl, h⟩
    · simp only [Rep] at h; obtain ⟨a, _, rfl, _⟩ := h; rfl
    · rfl
  | ins C ds =>
    rcases h with h | ⟨a, rfl, h⟩
    · simp only [Rep] at h; obtain ⟨a, _, _, rfl, _⟩ := h; rfl
    · rfl
theorem eqD_some {x y : D} {b : Bool} (h : eqD x y = some b) : ∃ p q, x.py = some p ∧ y.py = some q ∧ SeqAt.shaped p = true ∧ SeqAt.shaped q = true ∧ b = PyData.eqv p q := by
  unfold eqD at h
  split at h
  · rename_i p q h1 h2
    split at h
    · rename_i h3
      rw [Bool.and_eq_true] at h3
      cases h
      exact ⟨p, q, h1, h2, h3.1, h3.2, rfl⟩
    · cases h
  · cases h
theorem cmpD_ok (hu : X.A.units + 64 < cLine) {G H : Hp} (x : Ext G H) {op : CmpOp} {d1 d2 : D} {v1 v2 : V} (h1 : RdOk X.K G H d1 v1) (h2 : RdOk X.K G H d2 v2) {b : Bool} (e : cmpD op d1 d2 = some b) {Q : VK} (q : Q (.bl b) H) : WOp X (compareOp op) v1 v2 H Q := by
  unfold cmpD at e
  split at e
  · cases e; cases h1.scal rfl; cases h2.scal rfl; exact WOp.by op_lt ⟨_, _, rfl, rfl, q⟩
  · cases e; cases h1.scal rfl; cases h2.scal rfl; exact WOp.by op_le ⟨_, _, rfl, rfl, q⟩
  · cases e; cases h1.scal rfl; cases h2.scal rfl; exact WOp.by op_gt ⟨_, _, rfl, rfl, q⟩
  · cases e; cases h1.scal rfl; cases h2.scal rfl; exact WOp.by op_ge ⟨_, _, rfl, rfl, q⟩
  · rename_i a b
    cases e; cases h1.scal rfl; cases h2.scal rfl
    exact WOp.by op_eq ⟨rfl, by rw [show decide (vOf (.str a) = vOf (.str b)) = decide (a = b) from dec_str]; exact q⟩
  · rename_i a b
    cases e; cases h1.scal rfl; cases h2.scal rfl
    exact WOp.by op_ne ⟨rfl, by rw [show decide (vOf (.str a) = vOf (.str b)) = decide (a = b) from dec_str]; exact q⟩
  · obtain ⟨p1, p2, e1, e2, s1, s2, rfl⟩ := eqD_some e
    exact WOp.by (op_eqD hu) ⟨p1, p2, (h1.rep x).dp e1, (h2.rep x).dp e2, s1, s2, q⟩
  · cases z : eqD d1 d2 with
    | none => rw [z] at e; cases e
    | some c =>
      rw [z] at e; cases e
      obtain ⟨p1, p2, e1, e2, s1, s2, rfl⟩ := eqD_some z
      exact WOp.by (op_neD hu) ⟨p1, p2, (h1.rep x).dp e1, (h2.rep x).dp e2, s1, s2, q⟩
  · cases e
    refine WOp.by op_isN ⟨h2.scal rfl, ?_⟩
    rw [h1.isNon]; exact q
  · cases e
    refine WOp.by op_notN ⟨h2.scal rfl, ?_⟩
    rw [h1.isNon]; exact q
  · cases e; cases h1.scal rfl; cases h2.scal rfl; exact WOp.by op_isBl ⟨_, _, rfl, rfl, q⟩
  · cases e; cases h1.scal rfl; cases h2.scal rfl; exact WOp.by op_notBl ⟨_, _, rfl, rfl, q⟩
  · cases e
theorem opOk (op : CmpOp) (h : op ≠ .In ∧ op ≠ .NotIn) (b : Expr) : behindInMarks op b = false := nobehind b h.1 h.2
theorem cmp_still {op : CmpOp} {a b : ME} : (ME.cmp op a b).still = (a.still && b.still) := by simp only [ME.still]
theorem snd_cmp {a b : Expr} {op : CmpOp} {pos : Pos} {ma mb : ME} (hu : X.A.units + 64 < cLine) (hop : op ≠ .In ∧ op ≠ .NotIn) (ha : SndE Φ X W a ma) (hb : SndE Φ X W b mb) (hr : ma.isRd = true → mb.still = true) : SndE Φ X W (.Compare a [op] [b] pos) (.cmp op ma mb) := by
  intro O ρ σ H Q E q
  simp only [evE] at q
  refine WE.by (pe_cmpR op_w pe_w pe_w (opOk op hop b)) ?_
  refine ha.bd (PostC.refl (st := true) E) q fun x ρ1 v1 H1 p1 q => ?_
  refine hb.bd (p1.c) q fun y ρ2 v2 H2 p2 q => ?_
  obtain ⟨k, e, q⟩ := holds_of q
  have c : PostC X.K O ρ σ H (ME.cmp op ma mb).still ρ2 H2 := by rw [cmp_still]; exact p1.c.trans p2.c
  exact cmpD_ok hu vis_le (p1.carry p2.c hr) p2.rd e (q _ _ (c.scal (m := .cmp op ma mb) rfl))
theorem sndT_cmp {a b : Expr} {op : CmpOp} {pos : Pos} {ma mb : ME} (hu : X.A.units + 64 < cLine) (hop : op ≠ .In ∧ op ≠ .NotIn) (ha : SndE Φ X W a ma) (hb : SndE Φ X W b mb) (hr : ma.isRd = true → mb.still = true) : SndT Φ X W (.Compare a [op] [b] pos) (.cmp op ma mb) := by
  intro O ρ σ H Q E q
  simp only [evE] at q
  have q := Res.holds_bind q
  refine WT.by (pt_cmpR op_w pe_w pe_w (opOk op hop b)) ?_
  refine ha.bd (PostC.refl (st := true) E) q fun x ρ1 v1 H1 p1 q => ?_
  refine hb.bd (p1.c) q fun y ρ2 v2 H2 p2 q => ?_
  obtain ⟨k, e, q⟩ := holds_of q
  have c : PostC X.K O ρ σ H (ME.cmp op ma mb).still ρ2 H2 := by rw [cmp_still]; exact p1.c.trans p2.c
  exact cmpD_ok hu vis_le (p1.carry p2.c hr) p2.rd e ⟨k, rfl, q _ c⟩
theorem snd_chain {a b d : Expr} {op op' : CmpOp} {pos : Pos} {ma mb md : ME} (hu : X.A.units + 64 < cLine) (hop : op' ≠ .In ∧ op' ≠ .NotIn) (ha : SndE Φ X W a ma) (hb : SndE Φ X W b mb) (hd : SndE Φ X W d md) (hra : ma.isRd = false) (hrb : mb.isRd = false) : SndE Φ X W (.Compare a [op, op'] [b, d] pos) (.chain op op' ma mb md) := by
  intro O ρ σ H Q E q
  simp only [evE] at q
  refine WE.by (pe_chain op_w op_w pe_w pe_w pe_w (hm := opOk op' hop d)) ?_
  refine ha.bd (PostC.refl (st := true) E) q fun x ρ1 v1 H1 p1 q => ?_
  refine hb.bd (p1.c) q fun y ρ2 v2 H2 p2 q => ?_
  obtain ⟨k, e, q⟩ := holds_of q
  have c := p1.c.trans p2.c
  have hst : (ME.chain op op' ma mb md).still = (ma.still && mb.still && md.still) := by simp only [ME.still]
  refine cmpD_ok hu vis_le (p1.carry p2.c (fun z => by rw [hra] at z; cases z)) p2.rd e ⟨k, rfl, ?_⟩
  cases k with
  | true =>
    refine hd.bd c q fun z ρ3 v3 H3 p3 q => ?_
    obtain ⟨k, e, q⟩ := holds_of q
    have c3 : PostC X.K O ρ σ H (ME.chain op op' ma mb md).still ρ3 H3 := by rw [hst]; exact c.trans p3.c
    exact cmpD_ok hu vis_le (p2.carry p3.c (fun z => by rw [hrb] at z; cases z)) p3.rd e (q _ _ (c3.scal (m := .chain op op' ma mb md) rfl))
  | false =>
    refine q _ _ (PostC.scal (m := .chain op op' ma mb md) (c.weak fun z => ?_) rfl)
    rw [hst] at z
    simp at z
    simp [z.1.1, z.1.2]
theorem sndT_chain {a b d : Expr} {op op' : CmpOp} {pos : Pos} {ma mb md : ME} (hu : X.A.units + 64 < cLine) (hop : op' ≠ .In ∧ op' ≠ .NotIn) (ha : SndE Φ X W a ma) (hb : SndE Φ X W b mb) (hd : SndE Φ X W d md) (hra : ma.isRd = false) (hrb : mb.isRd = false) : SndT Φ X W (.Compare a [op, op'] [b, d] pos) (.chain op op' ma mb md) := by
  intro O ρ σ H Q E q
  simp only [evE] at q
  have q := Res.holds_bind q
  refine WT.by (pt_chain op_w op_w pe_w pe_w pe_w (hm := opOk op' hop d)) ?_
  refine ha.bd (PostC.refl (st := true) E) q fun x ρ1 v1 H1 p1 q => ?_
  refine hb.bd (p1.c) q fun y ρ2 v2 H2 p2 q => ?_
  obtain ⟨k, e, q⟩ := holds_of q
  have c := p1.c.trans p2.c
  have hst : (ME.chain op op' ma mb md).still = (ma.still && mb.still && md.still) := by simp only [ME.still]
  refine cmpD_ok hu vis_le (p1.carry p2.c (fun z => by rw [hra] at z; cases z)) p2.rd e ⟨k, rfl, ?_⟩
  cases k with
  | true =>
    refine hd.bd c q fun z ρ3 v3 H3 p3 q => ?_
    obtain ⟨k, e, q⟩ := holds_of q
    have c3 : PostC X.K O ρ σ H (ME.chain op op' ma mb md).still ρ3 H3 := by rw [hst]; exact c.trans p3.c
    exact cmpD_ok hu vis_le (p2.carry p3.c (fun z => by rw [hrb] at z; cases z)) p3.rd e ⟨_, rfl, q _ c3⟩
  | false =>
    refine ⟨_, rfl, q _ (c.weak fun z => ?_)⟩
    rw [hst] at z
    simp at z
    simp [z.1.1, z.1.2]
/-! ### rows of expressions -/
def SndL (Φ : String → Option Fn) (X : Cx) (W : WX) (es : List Expr) (ms : List ME) : Prop := ∀ (O : Addr → Prop) (ρ : Vn) (σ : L2.St) (H : Hp) (Q : List V → Hp → Prop), EnvOk X.K O ρ σ H →
  (evL Φ ms ρ).holds (fun ds ρ' => ∀ vs H', PostC X.K O ρ σ H (stillL ms) ρ' H' → Reps X.K (vis (Hid O ρ' σ) H') ds vs → Q vs H') (fun x ρ' => ∀ od H', PostX X.K O ρ σ H x ρ' od H' → W (.ref (He.ga X.K x.C)) od σ H') → WA X es σ H Q
theorem starAt {e : Expr} {es : List Expr} (h : notStar e = true) (env : PySem.Env) : starEach (e :: es) env = (false, eval e env) :: starEach es env := by
  cases e <;> first | rfl | cases h
theorem SndL.bd {es : List Expr} {ms : List ME} (h : SndL Φ X W es ms) {O : Addr → Prop} {ρ0 ρ : Vn} {σ : L2.St} {H0 H : Hp} {st : Bool} {Q : List V → Hp → Prop} (c : PostC X.K O ρ0 σ H0 st ρ H) {β : Type} {f : List D → Vn → Res β} {P : β → Vn → Prop}
    (q : ((evL Φ ms ρ).bind f).holds P (fun x ρ' => ∀ od H', PostX X.K O ρ0 σ H0 x ρ' od H' → W (.ref (He.ga X.K x.C)) od σ H'))
    (k : ∀ ds ρ' vs H', PostC X.K O ρ σ H (stillL ms) ρ' H' → Reps X.K (vis (Hid O ρ' σ) H') ds vs → (f ds ρ').holds P (fun x ρ' => ∀ od H', PostX X.K O ρ0 σ H0 x ρ' od H' → W (.ref (He.ga X.K x.C)) od σ H') → Q vs H') : WA X es σ H Q :=
  h O ρ σ H Q c.env (Res.holds_mono (Res.holds_bind q) (fun a ρ' z vs H' p r => k a ρ' vs H' p r z) fun x ρ' z od H' p => z od H' (p.fromC c))
theorem sndL_nil : SndL Φ X W [] [] := by
  intro O ρ σ H Q E q
  refine WA.by pa_nil (q [] H (PostC.refl E) ?_)
  simp only [Reps]
theorem stillL_cons {m : ME} {ms : List ME} : stillL (m :: ms) = (m.still && stillL ms) := by simp only [stillL]
theorem sndL_cons {e : Expr} {es : List Expr} {m : ME} {ms : List ME} (hs : notStar e = true) (he : SndE Φ X W e m) (hes : SndL Φ X W es ms) (hr : m.isRd = false) : SndL Φ X W (e :: es) (m :: ms) := by
  intro O ρ σ H Q E q
  simp only [evL] at q
  refine WA.by (pa_cons pe_w pa_w (starAt hs _)) ?_
  refine he.bd (PostC.refl (st := true) E) q fun x ρ1 v1 H1 p1 q => ?_
  refine hes.bd p1.c q fun ds ρ2 vs H2 c r q => ?_
  refine q (v1 :: vs) H2 (by rw [stillL_cons]; exact p1.c.trans c) ?_
  simp only [Reps]
  exact ⟨v1, vs, rfl, (p1.rep hr).ext c.ext, r⟩
theorem sndL_len : ∀ {ms : List ME} {ρ : Vn} {P : List D → Vn → Prop} {F : Exn → Vn → Prop}, (evL Φ ms ρ).holds P F → (evL Φ ms ρ).holds (fun ds ρ' => ds.length = ms.length ∧ P ds ρ') F := by
  intro ms
  induction ms with
  | nil => intro ρ P F h; exact ⟨rfl, h⟩
  | cons m ms ih =>
    intro ρ P F h
    simp only [evL] at h ⊢
    cases z : evE Φ m ρ with
    | ok x ρ1 =>
      rw [z] at h
      simp only [Res.bind_ok] at h ⊢
      have h2 := ih (Res.holds_bind h)
      cases z2 : evL Φ ms ρ1 with
      | ok xs ρ2 =>
        rw [z2] at h2
        exact ⟨by simp [h2.1], h2.2⟩
      | exn x ρ2 => rw [z2] at h2; exact h2
      | stuck => rw [z2] at h2; exact h2.elim
    | exn x ρ1 => rw [z] at h; exact h
    | stuck => rw [z] at h; exact h.elim
theorem snd_tup {es : List Expr} {ms : List ME} {k : Nat} {pos : Pos} (h : SndL Φ X W es ms) (hl : ms.length ≤ 1000) : SndE Φ X W (.Tuple es k pos) (.tup ms) := by
  intro O ρ σ H Q E q
  simp only [evE] at q
  refine WE.by (pe_tup pa_w) ?_
  have lz : 1000 ≤ sizeLine := by rw [PySem.sizeLine_eq]; decide
  have q2 := sndL_len (Res.holds_bind q)
  refine h O ρ σ H _ E (Res.holds_mono q2 (fun ds ρ' z vs H' c r => ?_) fun x ρ' z => z)
  obtain ⟨zl, z⟩ := z
  refine ⟨by rw [← r.length]; omega, fun p hp => ?_⟩
  have c2 : PostC X.K O ρ σ H (ME.tup ms).still ρ' (upd H' p (.tup vs)) := by
    have e : (ME.tup ms).still = stillL ms := by simp only [ME.still]
    rw [e]
    exact ⟨c.env.kept (upd_kp hp), fun b u n e => upd_kp hp b u (c.kp b u n e), fun b h => upd_dm (c.dm b h), c.to⟩
  have r2 : Rep X.K (vis (Hid O ρ' σ) (upd H' p (.tup vs))) (.tup ds) (.ref p) := by
    simp only [Rep]
    have np : ¬ Hid O ρ' σ p := fun z => c.env.domH p z hp
    exact ⟨p, vs, rfl, SqT.of (by rw [vis_at np, upd_same]), r.ext (vis_ext (fun _ z _ => z) fun b o _ z => upd_kp hp b o z)⟩
  exact z _ _ { env := newO_false.symm ▸ c2.env, kp := c2.kp, dm := c2.dm, to := c2.to, new := fun z => Bool.noConfusion z, rd := fun _ => .inl r2, rep := fun _ _ => r2 }
theorem snd_lst {es : List Expr} {ms : List ME} {pos : Pos} (h : SndL Φ X W es ms) (hl : ms.length ≤ 1000) : SndE Φ X W (.List es pos) (.lst ms) := by
  intro O ρ σ H Q E q
  simp only [evE] at q
  refine WE.by (pe_lst pa_w) ?_
  have lz : 1000 ≤ sizeLine := by rw [PySem.sizeLine_eq]; decide
  have q2 := sndL_len (Res.holds_bind q)
  refine h O ρ σ H _ E (Res.holds_mono q2 (fun ds ρ' z vs H' c r => ?_) fun x ρ' z => z)
  obtain ⟨zl, z⟩ := z
  refine ⟨by rw [← r.length]; omega, fun p hp => ?_⟩
  have c2 : PostC X.K O ρ σ H (ME.lst ms).still ρ' H' := by
    have e : (ME.lst ms).still = stillL ms := by simp only [ME.still]
    rw [e]; exact c
  exact z _ _ (c2.new (m := .lst ms) hp ⟨vs, upd_same, r.ext (vis_new hp)⟩)
/-! ### places -/
abbrev plainIx := plainIxB
theorem plainIx_ok {b : Expr} (h : plainIx b = true) : PlainIx b := by
  intro o i
  cases b <;> first | rfl | cases h
theorem atI_of {K : PySem.W.Frag} {G : Hp} {ds : List D} {vs : List V} {i : Int} {d : D} (r : Reps K G ds vs) (e : (if 0 ≤ i then ds[i.toNat]? else if -(ds.length : Int) ≤ i then ds[((ds.length : Int) + i).toNat]? else none) = some d) :
    ∃ v, atI vs i = some v ∧ Rep K G d v := by
  have hl := r.length
  unfold atI ixN
  by_cases h0 : 0 ≤ i
  · rw [if_pos h0] at e ⊢
    obtain ⟨v, e1, q⟩ := r.get e
    have hi : i.toNat < vs.length := (List.getElem?_eq_some_iff.mp e1).1
    rw [if_pos (by omega)]
    exact ⟨v, e1, q⟩
  · rw [if_neg h0] at e ⊢
    by_cases h1 : -(ds.length : Int) ≤ i
    · rw [if_pos h1] at e
      rw [if_pos (by omega)]
      obtain ⟨v, e1, q⟩ := r.get e
      refine ⟨v, ?_, q⟩
      rw [show (i + (vs.length : Int)).toNat = ((ds.length : Int) + i).toNat by omega]
      exact e1
    · rw [if_neg h1] at e; cases e
theorem snd_ix {a b : Expr} {pos : Pos} {ma mb : ME} (ha : SndE Φ X W a ma) (hb : SndE Φ X W b mb) (hp : plainIx b = true) (hr : ma.isRd = true → mb.still = true) : SndE Φ X W (.Subscript a b pos) (.ix ma mb) := by
  intro O ρ σ H Q E q
  simp only [evE] at q
  refine WE.by (pe_ix (IxR.or ix_list ix_tup) pe_w pe_w (plainIx_ok hp)) ?_
  refine ha.bd (PostC.refl (st := true) E) q fun x ρ1 v1 H1 p1 q => ?_
  refine hb.bd (p1.c) q fun y ρ2 v2 H2 p2 q => ?_
  obtain ⟨d, e, q⟩ := holds_of q
  have c : PostC X.K O ρ σ H (ME.ix ma mb).still ρ2 H2 := by simpa only [ME.still] using p1.c.trans p2.c
  have r1 := p1.carry p2.c hr
  have r2 := p2.rd
  have fin : ∀ {v : V}, Rep X.K (vis (Hid O ρ2 σ) H2) d v → Q v H2 := fun {v} r => q _ _ { env := newO_false.symm ▸ c.env, kp := c.kp, dm := c.dm, to := c.to, new := fun z => Bool.noConfusion z, rd := fun _ => .inl r, rep := fun _ _ => r }
  unfold ixD at e
  split at e
  · rename_i ds i e1 e2
    rw [e1] at r1
    rw [e2] at r2
    cases r2.scal rfl
    obtain ⟨a, vs, rfl, s, rs⟩ := r1.lst vis_le
    obtain ⟨v, h1, h2⟩ := atI_of rs e
    exact .inl ⟨a, vs, i, v, rfl, rfl, s, h1, fin h2⟩
  · rename_i ds i e1 e2
    rw [e1] at r1
    rw [e2] at r2
    cases r2.scal rfl
    rcases r1 with r1 | ⟨_, _, r1⟩
    · simp only [Rep] at r1
      obtain ⟨a, vs, rfl, s, rs⟩ := r1
      obtain ⟨v, h1, h2⟩ := atI_of rs e
      exact .inr ⟨a, vs, i, v, rfl, rfl, sqT_ext vis_le s, h1, fin h2⟩
    · exact r1.elim
  · cases e
theorem snd_neg {a : Expr} {pos : Pos} {ma : ME} (ha : SndE Φ X W a ma) : SndE Φ X W (.UnaryOp .USub a pos) (.neg ma) := by
  intro O ρ σ H Q E q
  simp only [evE] at q
  refine WE.by (pe_un un_neg pe_w) ?_
  refine ha.bd (PostC.refl (st := true) E) q fun x ρ1 v1 H1 p1 q => ?_
  have r := p1.rd
  split at q
  · rename_i i e
    rw [e] at r
    exact ⟨i, r.scal rfl, q _ _ (PostC.scal (m := .neg ma) (by simpa only [ME.still] using p1.c) rfl)⟩
  · exact q.elim
end
end Z

namespace Z
open PySem PySem.Spec L2
open PyProof.Rows hiding St
section
variable {Φ : String → Option Fn} {X : Cx} {W : WX}
/-! ### calls of defs -/
theorem backAny {es : List Expr} (h : ∀ e ∈ es, notStar e = true) (env : PySem.Env) (pos : Pos) : (backTo pos (starEach es env)).any (·.1) = false := by
  have h1 : ∀ es : List Expr, (∀ e ∈ es, notStar e = true) → (starEach es env).any (·.1) = false := by
    intro es
    induction es with
    | nil => intro _; rfl
    | cons e es ih =>
      intro h
      rw [starAt (h e (List.mem_cons_self ..))]
      simp only [List.any_cons, Bool.false_or]
      exact ih fun x hx => h x (List.mem_cons_of_mem _ hx)
  have h2 : ∀ l : List (Bool × Sem Value), (backTo pos l).any (·.1) = l.any (·.1) := by
    intro l
    unfold backTo
    induction l with
    | nil => rfl
    | cons x l ih => first | (simp only [List.map_cons, List.any_cons, ih]) | (cases l <;> simp_all)
  rw [h2]; exact h1 es h
theorem reps_dfl {K : PySem.W.Frag} {G : Hp} : ∀ {ds : List D}, (∀ d ∈ ds, scalD d = true) → Reps K G ds (ds.map vOf)
  | [], _ => by simp [Reps]
  | d :: ds, h => by
    simp only [Reps, List.map_cons]
    exact ⟨_, _, rfl, rep_vOf (h d (List.mem_cons_self ..)), reps_dfl fun x hx => h x (List.mem_cons_of_mem _ hx)⟩
theorem newO_hid {O : Addr → Prop} {ρ : Vn} {σ : L2.St} {fl : Bool} {v : V} : newO fl (Hid O ρ σ) v = Hid (newO fl O v) ρ σ := by
  funext b
  simp only [newO, Hid]
  apply propext
  constructor
  · rintro ((h | h) | h)
    · exact .inl (.inl h)
    · exact .inr h
    · exact .inl (.inr h)
  · rintro ((h | h) | h)
    · exact .inl (.inl h)
    · exact .inr h
    · exact .inl (.inr h)
theorem snd_call {x : Str} {p pos : Pos} {key : String} {es : List Expr} {ms : List ME} {fn : Fn} {L : Nat} (hΦ : Φ key = some fn) (hio : fn.io = false) (F : FnAt X.prog X.w X.K X.mg X.base L x fn) (hr : Room L X.A) (hgd : X.A.guards = some []) (tk : Takes X W)
    (hg : Gl X x) (hdb : (x == ("__debug__" : Str)) = false) (hst : ∀ e ∈ es, notStar e = true) (h : SndL Φ X W es ms) (hlen : es.length = ms.length) : SndE Φ X W (.Call (.Name x p) es [] pos) (.call key ms) := by
  intro O ρ σ H Q E q
  simp only [evE] at q
  obtain ⟨fd, ps, hps, FG, hb⟩ := F.fn
  -- the reading, whatever the number of arguments
  have core : ∀ vs ds (H1 : Hp) ρ1 (dv : List V), dv = (fn.dfl.drop (fn.dfl.length - (fn.ar - ms.length))).map vOf → ds.length = ms.length → PostC X.K O ρ σ H (stillL ms) ρ1 H1 → Reps X.K (vis (Hid O ρ1 σ) H1) ds vs →
      (callF Φ key ds ρ1).holds (fun a ρ' => ∀ v H', PostE X.K O ρ σ H (.call key ms) a.1 a.2 ρ' v H' → Q v H') (fun x ρ' => ∀ od H', PostX X.K O ρ σ H x ρ' od H' → W (.ref (He.ga X.K x.C)) od σ H') →
      spF X.K fn (vs ++ dv) H1 Q (fun c d H => W c d σ H) := by
    intro vs ds H1 ρ1 dv hdv hl c r q
    unfold callF at q
    rw [hΦ] at q
    simp only [hio, Bool.false_eq_true, if_false] at q
    split at q
    · rename_i hn
      rw [← hl] at hdv
      have rr := r.append (reps_dfl (K := X.K) (G := vis (Hid O ρ1 σ) H1) (ds := fn.dfl.drop (fn.dfl.length - (fn.ar - ds.length))) fun d hd => F.dfl d (List.mem_of_mem_drop hd))
      rw [← hdv] at rr
      refine ⟨ds ++ fn.dfl.drop (fn.dfl.length - (fn.ar - ds.length)), Hid O ρ1 σ, 0, ?_, c.env.domH, ?_, ?_⟩
      · rw [← rr.length, List.length_append, List.length_drop]; omega
      · rw [hio]; simpa using rr
      · split at q
        · rename_i d s e
          try rw [e]
          intro v H' k res _
          have k0 : ∀ b o, H1 b = some o → H' b = some o := fun b o z => k b o (fun z2 => by rw [hio] at z2; cases z2.1) z
          have dm0 : ∀ b, H1 b ≠ none → H' b ≠ none := fun b z => by
            cases y : H1 b with
            | none => exact absurd y z
            | some o => rw [k0 b o y]; simp
          have E' : EnvOk X.K (newO fn.fresh O v) ρ1 σ H' := by
            cases hf : fn.fresh with
            | false => rw [newO_false]; exact c.env.kept k0
            | true =>
              unfold ResOk at res
              rw [hf, if_pos rfl] at res
              obtain ⟨p, rfl, hp, t⟩ := res
              refine c.env.grow k0 (fun b z => .inl z) (fun b z => z.elim .inl fun ⟨_, z⟩ => by cases z; exact .inr hp) fun b z => ?_
              rcases z with z | ⟨_, z⟩
              · exact dm0 b (c.env.dom b z)
              · cases z; exact t.ne
          refine q v H' { env := E', kp := fun b o n e => k0 b o (c.kp b o (fun z => n ⟨by simpa only [ME.still] using z.1, z.2⟩) e), dm := fun b z => dm0 b (c.dm b z), to := c.to, new := fun z => ?_, rd := fun z => ?_, rep := fun z _ => ?_ }
          · have z : fn.fresh = true := z
            unfold ResOk at res
            rw [z, if_pos rfl] at res
            obtain ⟨p, e1, hp, t⟩ := res
            refine ⟨p, e1, c.gone hp, ?_⟩
            have t2 := t
            rw [newO_hid] at t2
            show Top X.K (vis (Hid (newO fn.fresh O v) ρ1 σ) H') H' d p
            rw [z]; exact t2
          · have z : fn.fresh = false := z
            unfold ResOk at res
            rw [z, if_neg (by decide)] at res
            exact .inl res
          · have z : fn.fresh = false := z
            unfold ResOk at res
            rw [z, if_neg (by decide)] at res
            exact res
        · rename_i x s e
          try rw [e]
          intro od H' k _ xr
          have k0 : ∀ b o, H1 b = some o → H' b = some o := fun b o z => k b o (fun z2 => by rw [hio] at z2; cases z2.1) z
          refine q od H' ⟨c.env.kept k0, fun b o n e => k0 b o (c.kp b o (fun z => n z.2) e), fun b z => ?_, c.to, xr⟩
          have z := c.dm b z
          cases y : H1 b with
          | none => exact absurd y z
          | some o => rw [k0 b o y]; simp
        · exact q.elim
    · exact q.elim
  have q2 := sndL_len (Res.holds_bind q)
  obtain ⟨ds0, hd0, hb0⟩ := hb (fn.dfl.length - (fn.ar - ms.length)) (Nat.sub_le _ _)
  cases es with
  | nil =>
    refine WE.by (pe_callG0 FG hr hgd hg F.gl F.kp hb0 hd0 (fun σ => passG tk σ) hdb) ?_
    have hm : ms = [] := by cases ms with
      | nil => rfl
      | cons => cases hlen
    subst hm
    simp only [evL] at q
    unfold tCallG tNil
    exact core [] [] H ρ _ rfl rfl (PostC.refl E) (by simp only [Reps]) q
  | cons e es =>
    refine WE.by (pe_callG FG hr hgd hg F.gl F.kp hb0 hd0 (fun σ => passG tk σ) pa_w hdb (starAt (hst e (List.mem_cons_self ..)) _) (backAny (fun y hy => hst y (List.mem_cons_of_mem _ hy)) _ _)) ?_
    unfold tCallG
    exact h O ρ σ H _ E (Res.holds_mono q2 (fun ds ρ' z vs H' c r => core vs ds H' ρ' _ rfl z.1 c r z.2) fun x ρ' z => z)
/-! ### calls that change their first argument -/
theorem own_iff {ρ : Vn} {σ : L2.St} {i : Nat} {s0 s1 : Sl} (e : ρ[i]? = some s0) (h0 : s0.isOwn = true) (h1 : s1.isOwn = true) {b : Addr} : OwnA (ρ.set i s1) σ b ↔ OwnA ρ σ b := by
  have hl : i < ρ.length := (List.getElem?_eq_some_iff.mp e).1
  constructor
  · rintro ⟨j, s, ej, w, a⟩
    rcases getElem?_set_of ej with ⟨rfl, rfl, _⟩ | ⟨_, ej⟩
    · exact ⟨j, s0, e, h0, a⟩
    · exact ⟨j, s, ej, w, a⟩
  · rintro ⟨j, s, ej, w, a⟩
    by_cases h : j = i
    · subst h
      exact ⟨j, s1, List.getElem?_set_self hl, h1, a⟩
    · exact ⟨j, s, by rw [List.getElem?_set_ne (Ne.symm h)]; exact ej, w, a⟩
theorem hid_iff {O : Addr → Prop} {ρ : Vn} {σ : L2.St} {i : Nat} {s0 s1 : Sl} (e : ρ[i]? = some s0) (h0 : s0.isOwn = true) (h1 : s1.isOwn = true) : Hid O (ρ.set i s1) σ = Hid O ρ σ := by
  funext b
  simp only [Hid, own_iff e h0 h1]
/-- slot i is changed in place: s0 (own, io) becomes s1 of the same kind -/
theorem EnvOk.chg {K : PySem.W.Frag} {O O' : Addr → Prop} {ρ : Vn} {σ : L2.St} {H H' : Hp} {i : Nat} {d0 d1 : D} {a : Addr} {s0 s1 : Sl} (E : EnvOk K O ρ σ H) (e : ρ[i]? = some s0) (hs : (s0 = .own d0 ∧ s1 = .own d1) ∨ (s0 = .io d0 ∧ s1 = .io d1)) (ea : σ[i]? = some (some (.ref a)))
    (k : ∀ b o, b ≠ a → H b = some o → H' b = some o) (ho : ∀ b, O b → O' b) (hn : ∀ b, O' b → O b ∨ H b = none) (dm : ∀ b, O' b → H' b ≠ none) (t : Top K (vis (Hid O' ρ σ) H') H' d1 a) : EnvOk K O' (ρ.set i s1) σ H' ∧ EvTo ρ (ρ.set i s1) := by
  have hl : i < ρ.length := (List.getElem?_eq_some_iff.mp e).1
  have h0 : s0.isOwn = true := by rcases hs with ⟨rfl, _⟩ | ⟨rfl, _⟩ <;> rfl
  have h1 : s1.isOwn = true := by rcases hs with ⟨_, rfl⟩ | ⟨_, rfl⟩ <;> rfl
  have ha : Hid O ρ σ a := .inr ⟨i, s0, e, h0, ea⟩
  have x : Ext (vis (Hid O ρ σ) H) (vis (Hid O' ρ σ) H') := vis_ext (fun b h n => h.elim (fun z => (hn b z).elim .inl fun q => absurd q n) .inr) fun b o n z => k b o (fun y => n (y ▸ ha)) z
  have oth : ∀ {j : Nat} {sj : Sl} {b : Addr}, j ≠ i → ρ[j]? = some sj → sj.isOwn = true → σ[j]? = some (some (.ref b)) → b ≠ a := fun {j sj b} ne ej wj aj z => by
    subst z
    exact ne (E.inj j i b sj s0 ej e wj h0 aj ea)
  refine ⟨⟨by simpa using E.len, dm, fun j dj ej => ?_, fun j dj ej => ?_, fun j dj ej => ?_, fun j dj ej => ?_, fun j l b sj sl ej el wj wl aj al => ?_, fun j dj b ej aj => ?_⟩, by simp, fun j sj ej => ?_⟩
  · rw [hid_iff e h0 h1]
    rcases getElem?_set_of ej with ⟨rfl, h, _⟩ | ⟨ne, ej⟩
    · rcases hs with ⟨_, rfl⟩ | ⟨_, rfl⟩ <;> cases h
    · obtain ⟨v, h, g⟩ := E.val j dj ej; exact ⟨v, h, g.ext x⟩
  · rw [hid_iff e h0 h1]
    rcases getElem?_set_of ej with ⟨rfl, h, _⟩ | ⟨ne, ej⟩
    · rcases hs with ⟨rfl, rfl⟩ | ⟨_, rfl⟩
      · cases h; exact ⟨a, ea, t⟩
      · cases h
    · obtain ⟨v, h, g⟩ := E.own j dj ej; exact ⟨v, h, g.ext x fun o z => k v o (oth ne ej rfl h) z⟩
  · rw [hid_iff e h0 h1]
    rcases getElem?_set_of ej with ⟨rfl, h, _⟩ | ⟨ne, ej⟩
    · rcases hs with ⟨_, rfl⟩ | ⟨rfl, rfl⟩
      · cases h
      · cases h
        obtain ⟨b, h, o, _⟩ := E.io j d0 e
        rw [ea] at h; cases h
        exact ⟨a, ea, ho a o, t⟩
    · obtain ⟨v, h, o, g⟩ := E.io j dj ej; exact ⟨v, h, ho v o, g.ext x fun o z => k v o (oth ne ej rfl h) z⟩
  · rw [hid_iff e h0 h1]
    rcases getElem?_set_of ej with ⟨rfl, h, _⟩ | ⟨ne, ej⟩
    · rcases hs with ⟨_, rfl⟩ | ⟨_, rfl⟩ <;> cases h
    · obtain ⟨v, h, g⟩ := E.lkd j dj ej; exact ⟨v, h, g.ext x fun o z => k v o (oth ne ej rfl h) z⟩
  · have back : ∀ {j : Nat} {sj : Sl}, (ρ.set i s1)[j]? = some sj → ∃ sj', ρ[j]? = some sj' ∧ (sj.isOwn = true → sj'.isOwn = true) := fun {j sj} z => by
      rcases getElem?_set_of z with ⟨rfl, rfl, _⟩ | ⟨_, z⟩
      · exact ⟨s0, e, fun _ => h0⟩
      · exact ⟨sj, z, id⟩
    obtain ⟨sj', ej', tj⟩ := back ej
    obtain ⟨sl', el', tl⟩ := back el
    exact E.inj j l b sj' sl' ej' el' (tj wj) (tl wl) aj al
  · intro z
    rcases getElem?_set_of ej with ⟨rfl, h, _⟩ | ⟨ne, ej⟩
    · rcases hs with ⟨rfl, rfl⟩ | ⟨_, rfl⟩
      · cases h
        rw [ea] at aj; cases aj
        rcases hn a z with z | z
        · exact E.sep j d0 a e ea z
        · exact E.domH a ha z
      · cases h
    · rcases hn b z with z | z
      · exact E.sep j dj b ej aj z
      · exact E.domH b (.inr ⟨j, _, ej, rfl, aj⟩) z
  · by_cases h : j = i
    · subst h
      rw [e] at ej; cases ej
      refine ⟨s1, List.getElem?_set_self hl, ?_⟩
      rcases hs with ⟨rfl, rfl⟩ | ⟨rfl, rfl⟩
      · exact .inl ⟨d1, rfl⟩
      · exact ⟨d1, rfl⟩
    · exact ⟨sj, by rw [List.getElem?_set_ne (Ne.symm h)]; exact ej, sj.to_refl⟩
end
end Z

namespace Z
open PySem PySem.Spec L2
open PyProof.Rows hiding St
section
variable {Φ : String → Option Fn} {X : Cx} {W : WX}
/-- what callIo leaves -/
theorem io_core {K : PySem.W.Frag} {O : Addr → Prop} {ρ ρ1 : Vn} {σ : L2.St} {H H1 : Hp} {i : Nat} {d0 : D} {a : Addr} {s0 : Sl} {fn : Fn} {st : Bool} {m : ME} {ds : List D} {vs : List V} {Q : VK} {E : XK} (c : PostC K O ρ σ H st ρ1 H1) (hm : m.still = false)
    (e : ρ1[i]? = some s0) (ea : σ[i]? = some (some (.ref a))) (mk : D → Sl) (hs : ∀ d1, (s0 = .own d0 ∧ mk d1 = .own d1) ∨ (s0 = .io d0 ∧ mk d1 = .io d1)) (hio : fn.io = true) (hn : ds.length + 1 = fn.ar) (r : Reps K (vis (Hid O ρ1 σ) H1) ds vs)
    (q : (match fn.run (d0 :: ds) with
      | .ok d s => Res.ok (fn.fresh, d) (ρ1.set i (mk s))
      | .exn x s => .exn x (ρ1.set i (mk s))
      | .stuck => .stuck : Res (Bool × D)).holds (fun a ρ' => ∀ v H', PostE K O ρ σ H m a.1 a.2 ρ' v H' → Q v H') (fun x ρ' => ∀ od H', PostX K O ρ σ H x ρ' od H' → E (.ref (He.ga K x.C)) od H')) :
    spF K fn (.ref a :: vs) H1 Q E := by
  have h0 : s0.isOwn = true := by rcases hs .non with ⟨rfl, _⟩ | ⟨rfl, _⟩ <;> rfl
  have h0w : s0.isWr = true := by rcases hs .non with ⟨rfl, _⟩ | ⟨rfl, _⟩ <;> rfl
  have ha : Hid O ρ1 σ a := .inr ⟨i, s0, e, h0, ea⟩
  have haw : WrA ρ1 σ a := ⟨i, s0, e, h0w, ea⟩
  have top : Top K (vis (Hid O ρ1 σ) H1) H1 d0 a := by
    rcases hs .non with ⟨rfl, _⟩ | ⟨rfl, _⟩
    · obtain ⟨b, s, t⟩ := c.env.own i d0 e
      rw [ea] at s; cases s; exact t
    · obtain ⟨b, s, _, t⟩ := c.env.io i d0 e
      rw [ea] at s; cases s; exact t
  refine ⟨d0 :: ds, Hid O ρ1 σ, a, ?_, c.env.domH, ?_, ?_⟩
  · rw [List.length_cons, ← r.length]; exact hn
  · rw [hio]; exact ⟨vs, d0, ds, rfl, rfl, ha, top, r⟩
  · split at q
    · rename_i d s e1
      try rw [e1]
      intro v H' k res t
      have t := t hio
      have k0 : ∀ b o, b ≠ a → H1 b = some o → H' b = some o := fun b o n z => k b o (fun y => n y.2) z
      have fr : ∀ b, newO fn.fresh O v b → O b ∨ H1 b = none := by
        intro b z
        rcases z with z | ⟨hf, rfl⟩
        · exact .inl z
        · unfold ResOk at res
          rw [hf, if_pos rfl] at res
          obtain ⟨p, e2, hp, _⟩ := res
          cases e2; exact .inr hp
      have dm0 : ∀ b, H1 b ≠ none → H' b ≠ none := fun b z => by
        by_cases hb : b = a
        · subst hb; exact t.ne
        · cases y : H1 b with
          | none => exact absurd y z
          | some o => rw [k0 b o hb y]; simp
      have dm : ∀ b, newO fn.fresh O v b → H' b ≠ none := by
        intro b z
        rcases z with z | ⟨hf, rfl⟩
        · exact dm0 b (c.env.dom b z)
        · unfold ResOk at res
          rw [hf, if_pos rfl] at res
          obtain ⟨p, e2, hp, t⟩ := res
          cases e2; exact t.ne
      have t2 := t
      rw [newO_hid] at t2
      obtain ⟨E', to'⟩ := c.env.chg e (hs s) ea k0 (fun b z => .inl z) fr dm t2
      have hh : ∀ {O' : Addr → Prop}, Hid O' (ρ1.set i (mk s)) σ = Hid O' ρ1 σ := hid_iff e h0 (by rcases hs s with ⟨_, z⟩ | ⟨_, z⟩ <;> rw [z] <;> rfl)
      refine q v H' { env := E', kp := fun b o n z => k0 b o (fun y => ?_) (c.kp b o (fun y => n ⟨hm, y.2⟩) z), dm := fun b z => dm0 b (c.dm b z), to := c.to.trans to', new := fun z => ?_, rd := fun z => ?_, rep := fun z _ => ?_ }
      · subst y; exact n ⟨hm, c.to.wr haw⟩
      · have z : fn.fresh = true := z
        unfold ResOk at res
        rw [z, if_pos rfl] at res
        obtain ⟨p, e2, hp, t⟩ := res
        refine ⟨p, e2, c.gone hp, ?_⟩
        show Top K (vis (Hid (newO fn.fresh O v) (ρ1.set i (mk s)) σ) H') H' d p
        rw [hh, z, ← newO_hid]; exact t
      · have z : fn.fresh = false := z
        unfold ResOk at res
        rw [z, if_neg (by decide)] at res
        refine .inl ?_
        rw [hh]; exact res
      · have z : fn.fresh = false := z
        unfold ResOk at res
        rw [z, if_neg (by decide)] at res
        rw [hh]; exact res
    · rename_i x s e1
      try rw [e1]
      intro od H' k t xr
      have t := t hio
      have k0 : ∀ b o, b ≠ a → H1 b = some o → H' b = some o := fun b o n z => k b o (fun y => n y.2) z
      have dm0 : ∀ b, H1 b ≠ none → H' b ≠ none := fun b z => by
        by_cases hb : b = a
        · subst hb; exact t.ne
        · cases y : H1 b with
          | none => exact absurd y z
          | some o => rw [k0 b o hb y]; simp
      obtain ⟨E', to'⟩ := c.env.chg (O' := O) e (hs s) ea k0 (fun b z => z) (fun b z => .inl z) (fun b z => dm0 b (c.env.dom b z)) t
      have hh : Hid O (ρ1.set i (mk s)) σ = Hid O ρ1 σ := hid_iff e h0 (by rcases hs s with ⟨_, z⟩ | ⟨_, z⟩ <;> rw [z] <;> rfl)
      refine q od H' ⟨E', fun b o n z => k0 b o (fun y => ?_) (c.kp b o (fun y => n y.2) z), fun b z => dm0 b (c.dm b z), c.to.trans to', by rw [hh]; exact xr⟩
      subst y; exact n (c.to.wr haw)
    · exact q.elim
theorem snd_callio {x y : Str} {p p1 pos : Pos} {key : String} {i : Nat} {es : List Expr} {ms : List ME} {fn : Fn} {L : Nat} (hΦ : Φ key = some fn) (F : FnAt X.prog X.w X.K X.mg X.base L x fn) (hr : Room L X.A) (hgd : X.A.guards = some []) (tk : Takes X W)
    (hg : Gl X x) (hdb : (x == ("__debug__" : Str)) = false) (hv : PE X (.Name y p1) (tVar i)) (hst : ∀ e ∈ es, notStar e = true) (h : SndL Φ X W es ms) (hlen : es.length = ms.length) : SndE Φ X W (.Call (.Name x p) (.Name y p1 :: es) [] pos) (.callio key i ms) := by
  intro O ρ σ H Q E q
  simp only [evE] at q
  obtain ⟨fd, ps, hps, FG, hb⟩ := F.fn
  obtain ⟨ds0, hd0, hb0⟩ := hb fn.dfl.length (Nat.le_refl _)
  rw [List.drop_length] at hd0
  refine WE.by (pe_callG FG hr hgd hg F.gl F.kp hb0 hd0 (fun σ => passG tk σ) (pa_cons (t := WA X es) hv pa_w) hdb rfl (backAny hst _ _)) ?_
  split at q
  · rename_i hw
    -- the slot's address
    have hs0 : ∃ a s0, ρ[i]? = some s0 ∧ s0.isWr = true ∧ σ[i]? = some (some (.ref a)) := by
      unfold wrAt at hw
      cases z : ρ[i]? with
      | none => rw [z] at hw; cases hw
      | some s0 =>
        rw [z] at hw
        cases s0 with
        | own d => obtain ⟨a, s, _⟩ := E.own i d z; exact ⟨a, _, rfl, rfl, s⟩
        | io d => obtain ⟨a, s, _⟩ := E.io i d z; exact ⟨a, _, rfl, rfl, s⟩
        | _ => simp [Sl.isWr] at hw
    obtain ⟨a, s0, _, _, ea⟩ := hs0
    unfold tCallG
    refine ⟨.ref a, ea, ?_⟩
    have q2 := sndL_len (Res.holds_bind q)
    refine h O ρ σ H _ E (Res.holds_mono q2 (fun ds ρ1 z vs H1 c r => ?_) fun x ρ' z => z)
    obtain ⟨zl, z⟩ := z
    show spF X.K fn (.ref a :: vs ++ []) H1 Q _
    rw [List.append_nil]
    unfold callIo at z
    rw [hΦ] at z
    split at z
    · rename_i fn' d0 e1 e2
      cases e1
      split at z
      · rename_i hc
        exact io_core c (m := .callio key i ms) (by simp only [ME.still]) e2 ea Sl.own (fun d1 => .inl ⟨rfl, rfl⟩) hc.1 hc.2 r z
      · exact z.elim
    · rename_i fn' d0 e1 e2
      cases e1
      split at z
      · rename_i hc
        exact io_core c (m := .callio key i ms) (by simp only [ME.still]) e2 ea Sl.io (fun d1 => .inr ⟨rfl, rfl⟩) hc.1 hc.2 r z
      · exact z.elim
    · exact z.elim
  · exact q.elim
/-! ### built-ins -/
def biVal (f : String) : Value := if f = "len" then .builtin "len" else if f = "abs" then .builtin "abs" else if f = "repr" then .builtin "repr" else if f = "int" then .type "int" else if f = "list" then .type "list" else if f = "tuple" then .type "tuple" else .type "str"
theorem biD_ok (hgd : X.A.guards = some []) (hu : X.A.units + 64 < cLine) {G H : Hp} (x : Ext G H) {f : String} {d1 : D} {v1 : V} (h1 : RdOk X.K G H d1 v1) {fl : Bool} {d : D} (e : biD f [d1] = some (fl, d)) {Q : VK} (q : ∀ v H', Made' X.K G H fl d v H' → Q v H') :
    WCall X (biVal f) [v1] H Q := by
  have lz : lim ≤ sizeLine := by rw [PySem.sizeLine_eq]; decide
  have sc : ∀ {d : D}, scalD d = true → (∀ v H', Made' X.K G H false d v H' → Q v H') → Q (vOf d) H := fun hs q => q _ _ (.scal hs)
  unfold biD at e
  split at e
  · rename_i _ ds hd
    cases hd; cases e
    obtain ⟨a, vs, rfl, s, r⟩ := h1.lst x
    have q := sc rfl q
    exact WCall.by call_len_seq ⟨a, vs, rfl, .inl s, by rw [← r.length]; exact q⟩
  · rename_i _ ds hd
    cases hd; cases e
    rcases h1 with h1 | ⟨_, _, h1⟩
    · simp only [Rep] at h1
      obtain ⟨a, vs, rfl, s, r⟩ := h1
      have q := sc rfl q
      exact WCall.by call_len_seq ⟨a, vs, rfl, .inr (sqT_ext x s), by rw [← r.length]; exact q⟩
    · exact h1.elim
  · rename_i _ ds hd
    cases hd; cases e
    obtain ⟨a, ws, rfl, r, rk⟩ := h1.dct x
    have q := sc rfl q
    intro pins s σ us I rv
    cases rv with
    | cons ru rn =>
      cases rn
      cases ru
      have hl : ds.length = ws.length := rk.length
      exact d_len I r fun t s' I' => ⟨.int ds.length, H, I', ⟨t, by rw [hl]⟩, q⟩
  · rename_i _ s hd
    cases hd
    split at e
    · cases e
      cases h1.scal rfl
      exact WCall.by call_len_str ⟨_, rfl, by omega, sc rfl q⟩
    · cases e
  · rename_i _ i hd
    cases hd; cases e
    cases h1.scal rfl
    have q := sc rfl q
    refine WCall.by call_abs ⟨i, rfl, ?_⟩
    have e2 : (if i < 0 then -i else i) = (i.natAbs : Int) := by split <;> omega
    rw [e2]; exact q
  · rename_i _ i hd
    cases hd; cases e
    cases h1.scal rfl
    exact WCall.by call_int1 (.inl ⟨i, rfl, sc rfl q⟩)
  · rename_i _ b hd
    cases hd; cases e
    cases h1.scal rfl
    exact WCall.by call_int1 (.inr ⟨b, rfl, sc rfl q⟩)
  · rename_i _ d' hd
    cases hd
    cases z : d1.py with
    | none => rw [z] at e; cases e
    | some p =>
      rw [z] at e
      simp only at e
      split at e
      · rename_i hc
        cases e
        simp only [Bool.and_eq_true, Bool.not_eq_true', decide_eq_true_eq] at hc
        obtain ⟨⟨⟨c1, c2⟩, c3⟩, c4⟩ := hc
        exact WCall.by (call_reprD hgd hu) ⟨v1, p, rfl, (h1.rep x).dp z, c1, c2, c3, by omega, sc rfl q⟩
      · cases e
  · rename_i _ ds hd
    cases hd; cases e
    obtain ⟨a, vs, rfl, s, r⟩ := h1.lst x
    exact WCall.by call_list_of ⟨a, vs, rfl, .inl s, fun p hp => q _ _ (.lst hp r)⟩
  · rename_i _ ds hd
    cases hd; cases e
    rcases h1 with h1 | ⟨_, _, h1⟩
    · simp only [Rep] at h1
      obtain ⟨a, vs, rfl, s, r⟩ := h1
      exact WCall.by call_list_of ⟨a, vs, rfl, .inr (sqT_ext x s), fun p hp => q _ _ (.lst hp r)⟩
    · exact h1.elim
  · rename_i _ ds hd
    cases hd; cases e
    obtain ⟨a, vs, rfl, s, r⟩ := h1.lst x
    exact WCall.by call_tuple_of ⟨a, vs, rfl, .inl ⟨s, fun p hp => q _ _ (.tup hp r)⟩⟩
  · rename_i _ ds hd
    cases hd; cases e
    rcases h1 with h1 | ⟨_, _, h1⟩
    · have g1 := h1
      simp only [Rep] at h1
      obtain ⟨a, vs, rfl, s, r⟩ := h1
      exact WCall.by call_tuple_of ⟨a, vs, rfl, .inr ⟨sqT_ext x s, q _ _ (.same g1)⟩⟩
    · exact h1.elim
  · rename_i _ i hd
    cases hd
    split at e
    · rename_i hc
      cases e
      cases h1.scal rfl
      exact WCall.by call_str_int ⟨i, rfl, hc, sc rfl q⟩
    · cases e
  · cases e
end
end Z

namespace Z
open PySem PySem.Spec L2
open PyProof.Rows hiding St
section
variable {Φ : String → Option Fn} {X : Cx} {W : WX}
theorem snd_bi {f : Str} {key : String} {a : Expr} {p pos : Pos} {m : ME} (hgd : X.A.guards = some []) (hu : X.A.units + 64 < cLine) (hb : (∃ id, bootBuiltins f = some (.builtin id) ∧ biVal key = .builtin id) ∨ ∃ T, bootBuiltins f = some (.type T) ∧ biVal key = .type T)
    (hg : Gl X f) (hm : X.mg f = none) (hn : f ≠ "__name__") (hdb : (f == ("__debug__" : Str)) = false) (hs : notStar a = true) (h : SndE Φ X W a m) : SndE Φ X W (.Call (.Name f p) [a] [] pos) (.bi key [m]) := by
  intro O ρ σ H Q E q
  have e0 : evE Φ (.bi key [m]) ρ = (evE Φ m ρ).bind fun x ρ => ofOpt (biD key [x.2]) ρ := by
    simp only [evE, evL]
    cases evE Φ m ρ <;> rfl
  rw [e0] at q
  have core : WE X a σ H (fun x H1 => WCall X (biVal key) [x] H1 Q) := by
    refine h.bd (PostC.refl (st := true) E) q fun x ρ1 v1 H1 p1 q => ?_
    · obtain ⟨⟨fl, d⟩, e, q⟩ := holds_opt q
      exact biD_ok hgd hu vis_le p1.rd e fun v H' h => q _ _ (PostC.made (m := .bi key [m]) (by simpa only [ME.still, stillL, Bool.and_true] using p1.c) h)
  rcases hb with ⟨id, h1, h2⟩ | ⟨T, h1, h2⟩
  · rw [h2] at core
    exact WE.by (pe_callB call_w hg hm h1 (pa_cons pe_w pa_nil (starAt hs _)) hn hdb (starAt hs _)) core
  · rw [h2] at core
    exact WE.by (pe_callTy call_w hg hm h1 (pa_cons pe_w pa_nil (starAt hs _)) hn hdb (starAt hs _)) core
/-! ### isinstance -/
def tyName : D → String
  | .non => "NoneType" | .bl _ => "bool" | .int _ => "int" | .str _ => "str" | .tup _ => "tuple" | .lst _ => "list" | .dct _ => "dict" | _ => "?"
theorem isiD_kit {d : D} {c : String} {b : Bool} (h : isiD d c = some b) (hc : c = "int" ∨ c = "bool" ∨ c = "str" ∨ c = "tuple" ∨ c = "list" ∨ c = "dict") : kitB (tyName d) c = some b ∧ tyName d ≠ "?" := by
  cases d <;> simp only [isiD] at h <;> (try (cases h; done)) <;> rcases hc with rfl | rfl | rfl | rfl | rfl | rfl <;> simp at h <;> subst h <;> (refine ⟨?_, by simp [tyName]⟩; simp only [tyName]; decide +kernel)
theorem RdOk.tyx {K : PySem.W.Frag} {G H : Hp} {d : D} {v : V} (x : Ext G H) (h : RdOk K G H d v) (hn : tyName d ≠ "?") : TyX K H v (.type (tyName d)) := by
  cases d with
  | non => cases h.scal rfl; exact .base .non
  | bl b => cases h.scal rfl; exact .base (.bl b)
  | int b => cases h.scal rfl; exact .base (.int b)
  | str b => cases h.scal rfl; exact .base (.str b)
  | tup ds =>
    rcases h with h | ⟨_, _, h⟩
    · simp only [Rep] at h
      obtain ⟨a, vs, rfl, s, _⟩ := h
      rcases sqT_ext x s with (e | ⟨o, e⟩) | ⟨o, its, n, e, c, _⟩
      · exact .base (.tup e)
      · exact .fTuple e
      · exact .kTuple e c
    · exact h.elim
  | lst ds =>
    obtain ⟨a, vs, rfl, s, _⟩ := h.lst x
    rcases s with (e | ⟨o, e⟩) | ⟨o, its, n, e, c, _⟩
    · exact .base (.lst e)
    · exact .base (.frz e)
    · exact .kList e c
  | dct ds =>
    obtain ⟨a, vs, rfl, s, _⟩ := h.dct x
    rcases s with e | ⟨o, e⟩
    · exact .base (.dK e)
    · exact .fDict e
  | dcT _ => exact absurd rfl hn
  | ins _ _ => exact absurd rfl hn
theorem snd_isi {a : Expr} {C : Str} {c : String} {p p2 pos : Pos} {m : ME} (hg : Gl X "isinstance") (hm : X.mg "isinstance" = none) (hgC : Gl X C) (hmC : X.mg C = none) (hvC : bootBuiltins C = some (.type c))
    (hC1 : C ≠ "__name__") (hC2 : (C == ("__debug__" : Str)) = false)
    (hc : c = "int" ∨ c = "bool" ∨ c = "str" ∨ c = "tuple" ∨ c = "list" ∨ c = "dict") (hs : notStar a = true) (h : SndE Φ X W a m) : SndE Φ X W (.Call (.Name "isinstance" p) [a, .Name C p2] [] pos) (.isi m [c]) := by
  intro O ρ σ H Q E q
  simp only [evE] at q
  refine WE.by (pe_callB call_isi hg hm (by decide +kernel) (pa_cons pe_w (pa_cons (pe_bltn (v := .ty c) hgC hmC hvC rfl hC1 hC2) pa_nil) (starAt hs _)) (he := starAt hs _)) ?_
  refine h.bd (PostC.refl (st := true) E) q fun x ρ1 v1 H1 p1 q => ?_
  obtain ⟨b, e, q⟩ := holds_of q
  obtain ⟨k, hn⟩ := isiD_kit e hc
  exact ⟨v1, .ty c, _, _, b, rfl, .ty c, p1.rd.tyx vis_le hn, kit_ty k, q _ _ (PostC.scal (m := .isi m [c]) (by simpa only [ME.still] using p1.c) rfl)⟩
/-! ### walks -/
def WI (X : Cx) (tg iter : Expr) : TI := fun σ H R => ∀ pins s, Inv X pins σ H s → wpAny (model X.prog X.w) X.A (eval iter X.env) (fun v s1 => wpAny (model X.prog X.w) X.A (pyIter v) (PIE X pins σ tg R) X.xe s1) X.xe s
theorem pi_w {tg iter : Expr} : PI X tg iter (WI X tg iter) := ⟨fun pins s σ H R I h => h pins s I⟩
theorem WI.by {tg iter : Expr} {wi : TI} (h : PI X tg iter wi) {σ : L2.St} {H : Hp} {R : It → Hp → Prop} (q : wi σ H R) : WI X tg iter σ H R := fun pins s I => h.run pins s σ H R I q
/-- what comes at turn i -/
def YOk (K : PySem.W.Frag) (G0 : Hp) (xs : List D) (i : Nat) (Hc : Hp) (x : V) (Hn : Hp) : Prop :=
  (Hn = Hc ∧ ∃ d, xs[i]? = some d ∧ Rep K G0 d x) ∨ ∃ T a b va vb, xs[i]? = some (.tup [a, b]) ∧ x = .ref T ∧ Hc T = none ∧ Hn = upd Hc T (.tup [va, vb]) ∧ Rep K G0 a va ∧ Rep K G0 b vb
/-- the walk's own steps, while nothing but what ρ may write is written -/
def WalkOk (K : PySem.W.Frag) (G0 : Hp) (Wr : Addr → Prop) (H0 : Hp) (J : It) (xs : List D) : Prop := Walk J xs.length (fun Hc => Kp Wr H0 Hc) (YOk K G0 xs)
def SndI (Φ : String → Option Fn) (X : Cx) (W : WX) (tg iter : Expr) (k : Nat) (ms : List ME) : Prop := ∀ (O : Addr → Prop) (ρ : Vn) (σ : L2.St) (H : Hp) (R : It → Hp → Prop), EnvOk X.K O ρ σ H →
  ((evL Φ ms ρ).bind fun ds ρ => ofOpt (itD k (fresh ρ ms ds)) ρ).holds (fun xs ρ' => ∀ J H', PostC X.K O ρ σ H (stillL ms) ρ' H' → WalkOk X.K (vis (Hid O ρ' σ) H') (WrA (lockV ρ' (rdIdx ms)) σ) H' J xs → R J H')
    (fun x ρ' => ∀ od H', PostX X.K O ρ σ H x ρ' od H' → W (.ref (He.ga X.K x.C)) od σ H') → WI X tg iter σ H R
end
end Z

namespace Z
open PySem PySem.Spec L2
open PyProof.Rows hiding St
section
variable {Φ : String → Option Fn} {X : Cx} {W : WX}
/-! ### sources of walks -/
/-- a source's value, until the walk begins -/
def SrcAt (K : PySem.W.Frag) (O : Addr → Prop) (ρ : Vn) (σ : L2.St) (H : Hp) (m : ME) (d : D) (v : V) : Prop := (∃ i, m = .rd i ∧ σ[i]? = some (some v)) ∨ (m.isRd = false ∧ Rep K (vis (Hid O ρ σ) H) d v)
theorem SrcAt.carry {K : PySem.W.Frag} {O : Addr → Prop} {ρ ρ' : Vn} {σ : L2.St} {H H' : Hp} {m : ME} {d : D} {v : V} {st : Bool} (h : SrcAt K O ρ σ H m d v) (c : PostC K O ρ σ H st ρ' H') : SrcAt K O ρ' σ H' m d v :=
  h.elim .inl fun ⟨a, b⟩ => .inr ⟨a, b.ext c.ext⟩
def SndS (Φ : String → Option Fn) (X : Cx) (W : WX) (e : Expr) (m : ME) : Prop := ∀ (O : Addr → Prop) (ρ0 ρ : Vn) (σ : L2.St) (H0 H : Hp) (st : Bool) (Q : VK), PostC X.K O ρ0 σ H0 st ρ H → ∀ {β : Type} {f : Bool × D → Vn → Res β} {P : β → Vn → Prop},
  ((evE Φ m ρ).bind f).holds P (fun x ρ' => ∀ od H', PostX X.K O ρ0 σ H0 x ρ' od H' → W (.ref (He.ga X.K x.C)) od σ H') →
  (∀ a ρ' v H', PostC X.K O ρ σ H m.still ρ' H' → SrcAt X.K O ρ' σ H' m a.2 v → (f a ρ').holds P (fun x ρ' => ∀ od H', PostX X.K O ρ0 σ H0 x ρ' od H' → W (.ref (He.ga X.K x.C)) od σ H') → Q v H') → WE X e σ H Q
theorem snds_of {e : Expr} {m : ME} (h : SndE Φ X W e m) (hr : m.isRd = false) : SndS Φ X W e m := fun O ρ0 ρ σ H0 H st Q c β f P q k => h.bd c q fun a ρ' v H' p q => k a ρ' v H' p.c (.inr ⟨hr, p.rep hr⟩) q
theorem snds_rd {x : Str} {i : Nat} {pos : Pos} (h : PE X (.Name x pos) (tVar i)) : SndS Φ X W (.Name x pos) (.rd i) := by
  intro O ρ0 ρ σ H0 H st Q c β f P q k
  refine WE.by h ?_
  simp only [evE] at q
  have fin : ∀ {d : D}, (∃ v, σ[i]? = some (some v)) → (f (false, d) ρ).holds P (fun x ρ' => ∀ od H', PostX X.K O ρ0 σ H0 x ρ' od H' → W (.ref (He.ga X.K x.C)) od σ H') → tVar i σ H Q := fun ⟨v, e⟩ q => ⟨v, e, k _ ρ v H (PostC.refl c.env) (.inl ⟨i, rfl, e⟩) q⟩
  split at q
  · obtain ⟨v, e, _⟩ := c.env.val i _ (by assumption)
    exact fin ⟨v, e⟩ q
  · obtain ⟨v, e, _⟩ := c.env.own i _ (by assumption)
    exact fin ⟨_, e⟩ q
  · obtain ⟨v, e, _⟩ := c.env.io i _ (by assumption)
    exact fin ⟨_, e⟩ q
  · obtain ⟨v, e, _⟩ := c.env.lkd i _ (by assumption)
    exact fin ⟨_, e⟩ q
  · exact q.elim
/-- the data that the walk sees -/
def Rfr (ρ : Vn) (m : ME) (d : D) : D := match m with
  | .rd i => (ρ[i]?.bind Sl.data).getD .non
  | _ => d
theorem fresh_cons {ρ : Vn} {m : ME} {ms : List ME} {d : D} {ds : List D} : fresh ρ (m :: ms) (d :: ds) = Rfr ρ m d :: fresh ρ ms ds := by
  cases m <;> rfl
theorem lockV_wr {ρ : Vn} {σ : L2.St} : ∀ {is : List Nat} {b : Addr}, WrA (lockV ρ is) σ b → WrA ρ σ b ∧ ∀ i ∈ is, ∀ (s : Sl), ρ[i]? = some s → s.isWr = true → (∀ (j k : Nat) (sj sk : Sl), ρ[j]? = some sj → ρ[k]? = some sk → sj.isOwn = true → sk.isOwn = true → σ[j]? = some (some (.ref b)) → σ[k]? = some (some (.ref b)) → j = k) → σ[i]? ≠ some (some (.ref b)) := by
  intro is
  have key : ∀ (is : List Nat) (j : Nat) (s : Sl), (lockV ρ is)[j]? = some s → s.isWr = true → ρ[j]? = some s ∧ j ∉ is := by
    intro is
    induction is with
    | nil => intro j s h w; exact ⟨h, by simp⟩
    | cons i is ih =>
      intro j s h w
      unfold lockV at h
      split at h
      · rcases getElem?_set_of h with ⟨rfl, rfl, _⟩ | ⟨ne, h⟩
        · cases w
        · obtain ⟨a, b⟩ := ih j s h w; exact ⟨a, by simp [ne, b]⟩
      · rcases getElem?_set_of h with ⟨rfl, rfl, _⟩ | ⟨ne, h⟩
        · cases w
        · obtain ⟨a, b⟩ := ih j s h w; exact ⟨a, by simp [ne, b]⟩
      · rename_i n1 n2
        obtain ⟨a, b⟩ := ih j s h w
        refine ⟨a, ?_⟩
        simp only [List.mem_cons, not_or]
        refine ⟨fun e => ?_, b⟩
        subst e
        cases s with
        | own d => exact n1 d h
        | io d => exact n2 d h
        | _ => cases w
  intro b ⟨j, s, h, w, e⟩
  obtain ⟨h1, h2⟩ := key is j s h w
  refine ⟨⟨j, s, h1, w, e⟩, fun i hi si hsi wi inj ei => ?_⟩
  have : j = i := inj j i s si h1 hsi (by cases s <;> first | rfl | cases w) (by cases si <;> first | rfl | cases wi) e ei
  subst this
  exact h2 hi
theorem lockV_wr2 {ρ : Vn} {σ : L2.St} {is : List Nat} {b : Addr} {i : Nat} {s : Sl} (inj : ∀ (i j : Nat) (a : Addr) (si sj : Sl), ρ[i]? = some si → ρ[j]? = some sj → si.isOwn = true → sj.isOwn = true → σ[i]? = some (some (.ref a)) → σ[j]? = some (some (.ref a)) → i = j)
    (hi : i ∈ is) (hs : ρ[i]? = some s) (ho : s.isOwn = true) (e : σ[i]? = some (some (.ref b))) : ¬ WrA (lockV ρ is) σ b := fun h => by
  obtain ⟨⟨j, sj, hj, wj, ej⟩, k⟩ := lockV_wr h
  have hjo : sj.isOwn = true := by cases sj <;> first | rfl | cases wj
  have : j = i := inj j i b sj s hj hs hjo ho ej e
  subst this
  exact k j hi sj hj wj (fun a c sa sc ha hc oa oc ea ec => inj a c b sa sc ha hc oa oc ea ec) e
theorem mem_rdIdx {i : Nat} : ∀ {ms : List ME}, .rd i ∈ ms → i ∈ rdIdx ms
  | m :: ms, h => by
    rcases List.mem_cons.mp h with rfl | h
    · simp only [rdIdx]; exact List.mem_cons_self ..
    · have := mem_rdIdx h
      cases m <;> simp only [rdIdx] <;> first | exact List.mem_cons_of_mem _ this | exact this
/-- a list that is walked: where it stands, and that it stays -/
theorem SrcAt.lst {K : PySem.W.Frag} {O : Addr → Prop} {ρ : Vn} {σ : L2.St} {H : Hp} {m : ME} {d : D} {v : V} {ms : List ME} {ds : List D} (E : EnvOk K O ρ σ H) (h : SrcAt K O ρ σ H m d v) (hm : m ∈ ms) (e : Rfr ρ m d = .lst ds) :
    ∃ a vs, v = .ref a ∧ SqL K H a vs ∧ Reps K (vis (Hid O ρ σ) H) ds vs ∧ ∀ Hc, Kp (WrA (lockV ρ (rdIdx ms)) σ) H Hc → SqL K Hc a vs := by
  have keep : ∀ {a : Addr} {vs : List V}, SqL K H a vs → ¬ WrA (lockV ρ (rdIdx ms)) σ a → ∀ Hc, Kp (WrA (lockV ρ (rdIdx ms)) σ) H Hc → SqL K Hc a vs := fun {a vs} s n Hc k => by
    rcases s with (s | ⟨o, s⟩) | s
    · exact .inl (.inl (k a _ n s))
    · exact .inl (.inr ⟨o, k a _ n s⟩)
    · exact .inr s
  have rp : ∀ {v : V}, Rep K (vis (Hid O ρ σ) H) (.lst ds) v → ∃ a vs, v = .ref a ∧ SqL K H a vs ∧ Reps K (vis (Hid O ρ σ) H) ds vs ∧ ∀ Hc, Kp (WrA (lockV ρ (rdIdx ms)) σ) H Hc → SqL K Hc a vs := fun {v} r => by
    simp only [Rep] at r
    obtain ⟨a, vs, e, s, r⟩ := r
    have nw : (∃ o its n, K.lookup a = some o ∧ o.cls = .type "list" ∧ o.dict = none ∧ o.data = .seq its n ∧ its.size ≤ sizeLine ∧ Vals vs its.toList) ∨ ¬ Hid O ρ σ a := by
      rcases s with (s | ⟨o, s⟩) | s
      · exact .inr (vis_some s).1
      · exact .inr (vis_some s).1
      · exact .inl s
    refine ⟨a, vs, e, sqL_ext vis_le s, r, ?_⟩
    rcases nw with z | z
    · exact fun Hc _ => .inr z
    · exact keep (sqL_ext vis_le s) fun y => z (.inr (lockV_wr y).1.own)
  rcases h with ⟨i, rfl, ev⟩ | ⟨hr, r⟩
  · have hmem : i ∈ rdIdx ms := mem_rdIdx hm
    simp only [Rfr] at e
    cases z : ρ[i]? with
    | none =>
      have : i < σ.length := (List.getElem?_eq_some_iff.mp ev).1
      rw [← E.len] at this
      rw [List.getElem?_eq_none_iff] at z
      omega
    | some s =>
      rw [z] at e
      have topc : ∀ {a : Addr}, s.isOwn = true → σ[i]? = some (some (.ref a)) → TopR K (vis (Hid O ρ σ) H) H (.lst ds) a → ∃ a vs, v = .ref a ∧ SqL K H a vs ∧ Reps K (vis (Hid O ρ σ) H) ds vs ∧ ∀ Hc, Kp (WrA (lockV ρ (rdIdx ms)) σ) H Hc → SqL K Hc a vs := fun {a} so ea t => by
        obtain ⟨vs, r, rs⟩ := t
        rw [ev] at ea; cases ea
        exact ⟨a, vs, rfl, .inl r, rs, keep (.inl r) (lockV_wr2 E.inj hmem z so ev)⟩
      cases s with
      | non =>
        simp only [Option.bind_some, Sl.data, Option.getD_none] at e
        cases e
      | val d' =>
        simp only [Option.bind_some, Sl.data, Option.getD_some] at e
        subst e
        obtain ⟨v', e', r⟩ := E.val i _ z
        rw [ev] at e'; cases e'
        exact rp r
      | own d' =>
        simp only [Option.bind_some, Sl.data, Option.getD_some] at e
        subst e
        obtain ⟨a, ea, t⟩ := E.own i _ z
        exact topc rfl ea t.r
      | io d' =>
        simp only [Option.bind_some, Sl.data, Option.getD_some] at e
        subst e
        obtain ⟨a, ea, _, t⟩ := E.io i _ z
        exact topc rfl ea t.r
      | lkd d' =>
        simp only [Option.bind_some, Sl.data, Option.getD_some] at e
        subst e
        obtain ⟨a, ea, t⟩ := E.lkd i _ z
        exact topc rfl ea t
  · have e2 : d = .lst ds := by cases m <;> first | exact e | cases hr
    subst e2
    exact rp r
end
end Z

namespace Z
open PySem PySem.Spec L2
open PyProof.Rows hiding St
section
variable {Φ : String → Option Fn} {X : Cx} {W : WX}
theorem SrcAt.tup {K : PySem.W.Frag} {O : Addr → Prop} {ρ : Vn} {σ : L2.St} {H : Hp} {m : ME} {d : D} {v : V} {ms : List ME} {ds : List D} (E : EnvOk K O ρ σ H) (h : SrcAt K O ρ σ H m d v) (e : Rfr ρ m d = .tup ds) :
    ∃ a vs, v = .ref a ∧ SqT K H a vs ∧ Reps K (vis (Hid O ρ σ) H) ds vs ∧ ∀ Hc, Kp (WrA (lockV ρ (rdIdx ms)) σ) H Hc → SqT K Hc a vs := by
  have rp : ∀ {v : V}, Rep K (vis (Hid O ρ σ) H) (.tup ds) v → ∃ a vs, v = .ref a ∧ SqT K H a vs ∧ Reps K (vis (Hid O ρ σ) H) ds vs ∧ ∀ Hc, Kp (WrA (lockV ρ (rdIdx ms)) σ) H Hc → SqT K Hc a vs := fun {v} r => by
    simp only [Rep] at r
    obtain ⟨a, vs, e, s, r⟩ := r
    refine ⟨a, vs, e, sqT_ext vis_le s, r, fun Hc k => ?_⟩
    rcases s with (s | ⟨o, s⟩) | s
    · obtain ⟨n, s⟩ := vis_some s
      exact .inl (.inl (k a _ (fun y => n (.inr (lockV_wr y).1.own)) s))
    · obtain ⟨n, s⟩ := vis_some s
      exact .inl (.inr ⟨o, k a _ (fun y => n (.inr (lockV_wr y).1.own)) s⟩)
    · exact .inr s
  rcases h with ⟨i, rfl, ev⟩ | ⟨hr, r⟩
  · simp only [Rfr] at e
    cases z : ρ[i]? with
    | none => rw [z] at e; cases e
    | some s =>
      rw [z] at e
      cases s with
      | non => cases e
      | val d' =>
        simp only [Option.bind_some, Sl.data, Option.getD_some] at e
        subst e
        obtain ⟨v', e', r⟩ := E.val i _ z
        rw [ev] at e'; cases e'
        exact rp r
      | own d' =>
        simp only [Option.bind_some, Sl.data, Option.getD_some] at e
        subst e
        obtain ⟨a, ea, t⟩ := E.own i _ z
        exact t.elim
      | io d' =>
        simp only [Option.bind_some, Sl.data, Option.getD_some] at e
        subst e
        obtain ⟨a, ea, _, t⟩ := E.io i _ z
        exact t.elim
      | lkd d' =>
        simp only [Option.bind_some, Sl.data, Option.getD_some] at e
        subst e
        obtain ⟨a, ea, t⟩ := E.lkd i _ z
        exact t.elim
  · have e2 : d = .tup ds := by cases m <;> first | exact e | cases hr
    subst e2
    exact rp r
theorem walkOk_list {K : PySem.W.Frag} {G0 : Hp} {Wr : Addr → Prop} {H0 : Hp} {a : Addr} {vs : List V} {ds : List D} (r : Reps K G0 ds vs) (k : ∀ Hc, Kp Wr H0 Hc → SqL K Hc a vs) : WalkOk K G0 Wr H0 (Itl K a) ds := by
  unfold WalkOk
  rw [r.length]
  refine walk_list.mono (fun Hc h => k Hc h) fun i Hc x Hn hi _ y => ?_
  obtain ⟨rfl, e⟩ := y
  exact .inl ⟨rfl, r.getV e⟩
theorem walkOk_tup {K : PySem.W.Frag} {G0 : Hp} {Wr : Addr → Prop} {H0 : Hp} {a : Addr} {vs : List V} {ds : List D} (r : Reps K G0 ds vs) (k : ∀ Hc, Kp Wr H0 Hc → SqT K Hc a vs) : WalkOk K G0 Wr H0 (Itt K a) ds := by
  unfold WalkOk
  rw [r.length]
  refine walk_tup.mono (fun Hc h => k Hc h) fun i Hc x Hn hi _ y => ?_
  obtain ⟨rfl, e⟩ := y
  exact .inl ⟨rfl, r.getV e⟩
theorem evL_one {m : ME} {ρ : Vn} {β : Type} {f : List D → Vn → Res β} : (evL Φ [m] ρ).bind f = (evE Φ m ρ).bind fun x ρ => f [x.2] ρ := by
  simp only [evL]
  cases evE Φ m ρ <;> rfl
theorem stillL_one {m : ME} : stillL [m] = m.still := by simp only [stillL, Bool.and_true]
/-- over a list or a tuple -/
theorem sndi_bare {tg e : Expr} {m : ME} (h : SndS Φ X W e m) : SndI Φ X W tg e 0 [m] := by
  intro O ρ σ H R E q
  rw [evL_one] at q
  cases z : evE Φ m ρ with
  | stuck => rw [z] at q; exact q.elim
  | exn x ρ1 =>
    rw [z] at q
    refine WI.by (pi_list pe_w) ?_
    exact h O ρ ρ σ H H true _ (PostC.refl E) (f := fun _ _ => (.stuck : Res Unit)) (P := fun _ _ => False) (by rw [z]; exact q) fun a ρ' v H' _ _ q => q.elim
  | ok x ρ1 =>
    rw [z] at q
    simp only [Res.bind_ok, fresh_cons] at q
    obtain ⟨xs, e1, q⟩ := holds_opt q
    cases y : Rfr ρ1 m x.2 with
    | lst ds =>
      refine WI.by (pi_list pe_w) ?_
      refine h O ρ ρ σ H H true _ (PostC.refl E) (f := fun a ρ' => match Rfr ρ' m a.2 with
        | .lst ds => Res.ok ds ρ'
        | _ => .stuck) (P := fun ds ρ' => ∀ J H', PostC X.K O ρ σ H (stillL [m]) ρ' H' → WalkOk X.K (vis (Hid O ρ' σ) H') (WrA (lockV ρ' (rdIdx [m])) σ) H' J ds → R J H') ?_ fun a ρ' v H' c s q => ?_
      · rw [z]
        simp only [Res.bind_ok, y]
        rw [y] at e1
        cases e1
        exact q
      · split at q
        · rename_i ds' e2
          obtain ⟨b, vs, rfl, s1, r, k⟩ := s.lst (ms := [m]) c.env (List.mem_cons_self ..) e2
          exact ⟨b, rfl, ⟨vs, s1⟩, q _ _ (by rw [stillL_one]; exact c) (walkOk_list r k)⟩
        · exact q.elim
    | tup ds =>
      refine WI.by (pi_tup pe_w) ?_
      refine h O ρ ρ σ H H true _ (PostC.refl E) (f := fun a ρ' => match Rfr ρ' m a.2 with
        | .tup ds => Res.ok ds ρ'
        | _ => .stuck) (P := fun ds ρ' => ∀ J H', PostC X.K O ρ σ H (stillL [m]) ρ' H' → WalkOk X.K (vis (Hid O ρ' σ) H') (WrA (lockV ρ' (rdIdx [m])) σ) H' J ds → R J H') ?_ fun a ρ' v H' c s q => ?_
      · rw [z]
        simp only [Res.bind_ok, y]
        rw [y] at e1
        cases e1
        exact q
      · split at q
        · rename_i ds' e2
          obtain ⟨b, vs, rfl, s1, r, k⟩ := s.tup (ms := [m]) c.env e2
          exact ⟨b, rfl, ⟨vs, s1⟩, q _ _ (by rw [stillL_one]; exact c) (walkOk_tup r k)⟩
        · exact q.elim
    | _ => rw [y] at e1; cases e1
/-! ### ranges -/
theorem fresh_nord : ∀ {ms : List ME} {ds : List D} {ρ : Vn}, (∀ m ∈ ms, m.isRd = false) → ds.length = ms.length → fresh ρ ms ds = ds
  | [], [], _, _, _ => rfl
  | m :: ms, d :: ds, ρ, h, hl => by
    rw [fresh_cons, fresh_nord (fun x hx => h x (List.mem_cons_of_mem _ hx)) (by simpa using hl)]
    have := h m (List.mem_cons_self ..)
    cases m <;> first | rfl | cases this
  | [], _ :: _, _, _, hl => by simp at hl
  | _ :: _, [], _, _, hl => by simp at hl
theorem walkOk_range {K : PySem.W.Frag} {G0 : Hp} {Wr : Addr → Prop} {H0 : Hp} {lo : Int} {n : Nat} : WalkOk K G0 Wr H0 (Itr lo n) ((List.range n).map fun i => .int (lo + (i : Nat))) := by
  unfold WalkOk
  rw [List.length_map, List.length_range]
  refine walk_range.mono (fun _ _ => trivial) fun i Hc x Hn hi _ y => ?_
  obtain ⟨rfl, rfl⟩ := y
  exact .inl ⟨rfl, .int (lo + (i : Nat)), by simp [hi], by simp only [Rep]⟩
theorem lim62 : (lim : Int) < 2 ^ 62 := by decide
theorem itD_1 {d : D} {xs : List D} (h : itD 1 [d] = some xs) : ∃ n : Int, d = .int n ∧ -(lim : Int) ≤ n ∧ n ≤ lim ∧ xs = (List.range n.toNat).map fun i => .int (i : Nat) := by
  cases d with
  | int n =>
    unfold itD at h
    simp only at h
    split at h
    · rename_i hc
      simp only [Bool.and_eq_true, decide_eq_true_eq] at hc
      cases h
      exact ⟨n, rfl, hc.1, hc.2, rfl⟩
    · cases h
  | _ => cases h
theorem itD_2 {d e : D} {xs : List D} (h : itD 1 [d, e] = some xs) : ∃ n k : Int, d = .int n ∧ e = .int k ∧ -(lim : Int) ≤ n ∧ n ≤ lim ∧ -(lim : Int) ≤ k ∧ k ≤ lim ∧ xs = (List.range (k - n).toNat).map fun i => .int (n + (i : Nat)) := by
  cases d with
  | int n =>
    cases e with
    | int k =>
      unfold itD at h
      simp only at h
      split at h
      · rename_i hc
        simp only [Bool.and_eq_true, decide_eq_true_eq] at hc
        cases h
        exact ⟨n, k, rfl, rfl, hc.1.1.1, hc.1.1.2, hc.1.2, hc.2, rfl⟩
      · cases h
    | _ => cases h
  | _ => cases h
theorem sndi_range1 {tg a : Expr} {p pos : Pos} {ms : List ME} (hg : Gl X "range") (hm : X.mg "range" = none) (hs : notStar a = true) (h : SndL Φ X W [a] ms) (hn : ∀ m ∈ ms, m.isRd = false) (hl : ms.length = 1) : SndI Φ X W tg (.Call (.Name "range" p) [a] [] pos) 1 ms := by
  intro O ρ σ H R E q
  refine WI.by (pi_range1 hg hm pa_w (starAt hs _)) ?_
  refine h O ρ σ H _ E (Res.holds_mono (sndL_len (Res.holds_bind q)) (fun ds ρ' z vs H' c r => ?_) fun x ρ' z => z)
  obtain ⟨l, z⟩ := z
  rw [fresh_nord hn l] at z
  obtain ⟨xs, e, z⟩ := holds_opt z
  rw [hl] at l
  match ds, l with
  | [d], _ =>
    obtain ⟨n, rfl, h1, h2, rfl⟩ := itD_1 e
    simp only [Reps] at r
    obtain ⟨v, rr, rfl, r1, rfl⟩ := r
    simp only [Rep] at r1
    subst r1
    have l62 := lim62
    refine ⟨n, rfl, by omega, by omega, z _ _ c ?_⟩
    have := walkOk_range (K := X.K) (G0 := vis (Hid O ρ' σ) H') (Wr := WrA (lockV ρ' (rdIdx ms)) σ) (H0 := H') (lo := 0) (n := n.toNat)
    simpa using this
theorem sndi_range2 {tg a b : Expr} {p pos : Pos} {ms : List ME} (hg : Gl X "range") (hm : X.mg "range" = none) (hs : notStar a = true) (hs2 : notStar b = true) (h : SndL Φ X W [a, b] ms) (hn : ∀ m ∈ ms, m.isRd = false) (hl : ms.length = 2) : SndI Φ X W tg (.Call (.Name "range" p) [a, b] [] pos) 1 ms := by
  intro O ρ σ H R E q
  refine WI.by (pi_range2 hg hm pa_w (by rw [starAt hs, starAt hs2]; rfl) (starAt hs2 _)) ?_
  refine h O ρ σ H _ E (Res.holds_mono (sndL_len (Res.holds_bind q)) (fun ds ρ' z vs H' c r => ?_) fun x ρ' z => z)
  obtain ⟨l, z⟩ := z
  rw [fresh_nord hn l] at z
  obtain ⟨xs, e, z⟩ := holds_opt z
  rw [hl] at l
  match ds, l with
  | [d, d'], _ =>
    obtain ⟨n, k, rfl, rfl, h1, h2, h3, h4, rfl⟩ := itD_2 e
    simp only [Reps] at r
    obtain ⟨v, rr, rfl, r1, v', rr', rfl, r2, rfl⟩ := r
    simp only [Rep] at r1 r2
    subst r1 r2
    have l62 := lim62
    exact ⟨n, k, rfl, ⟨by omega, by omega, by omega, by omega⟩, z _ _ c walkOk_range⟩
/-! ### zip, enumerate -/
theorem stillL_two {m m' : ME} : stillL [m, m'] = (m.still && m'.still) := by simp only [stillL, Bool.and_true]
theorem sndi_enum {e : Expr} {elts : List Expr} {kk : Nat} {tpos p pos : Pos} {m : ME} (hg : Gl X "enumerate") (hm : X.mg "enumerate" = none) (hs : notStar e = true) (h : SndS Φ X W e m) : SndI Φ X W (.Tuple elts kk tpos) (.Call (.Name "enumerate" p) [e] [] pos) 3 [m] := by
  intro O ρ σ H R E q
  rw [evL_one] at q
  refine WI.by (pi_enum hg hm (pa_cons pe_w pa_nil (starAt hs _)) (starAt hs _)) ?_
  refine h O ρ ρ σ H H true _ (PostC.refl E) q fun a ρ' v H' c s q => ?_
  rw [fresh_cons] at q
  obtain ⟨xs, e1, q⟩ := holds_opt q
  cases y : Rfr ρ' m a.2 with
  | lst ds =>
    rw [y] at e1
    have e1 : some (ds.zipIdx.map fun p => D.tup [.int (p.2 : Nat), p.1]) = some xs := e1
    cases e1
    obtain ⟨b, vs, rfl, s1, r, k⟩ := s.lst (ms := [m]) c.env (List.mem_cons_self ..) y
    refine ⟨b, vs, rfl, s1, q _ _ (by rw [stillL_one]; exact c) ?_⟩
    unfold WalkOk
    rw [List.length_map, List.length_zipIdx, r.length]
    refine walk_enum.mono (fun Hc h => k Hc h) fun i Hc x Hn hi _ y => ?_
    obtain ⟨T, va, vb, rfl, hT, rfl, ea, eb⟩ := y
    obtain ⟨d, ed, rd⟩ := r.getV eb
    cases ea
    refine .inr ⟨T, .int (i : Nat), d, _, vb, ?_, rfl, hT, rfl, by simp only [Rep], rd⟩
    rw [List.getElem?_map, List.getElem?_zipIdx, ed]
    simp
  | _ => rw [y] at e1; cases e1
theorem sndi_zip {e e2 : Expr} {elts : List Expr} {kk : Nat} {tpos p pos : Pos} {m m2 : ME} (hg : Gl X "zip") (hm : X.mg "zip" = none) (hs : notStar e = true) (hs2 : notStar e2 = true) (h : SndS Φ X W e m) (h2 : SndS Φ X W e2 m2) : SndI Φ X W (.Tuple elts kk tpos) (.Call (.Name "zip" p) [e, e2] [] pos) 2 [m, m2] := by
  intro O ρ σ H R E q
  have e0 : ((evL Φ [m, m2] ρ).bind fun ds ρ => ofOpt (itD 2 (fresh ρ [m, m2] ds)) ρ) = (evE Φ m ρ).bind fun x ρ => (evE Φ m2 ρ).bind fun y ρ => ofOpt (itD 2 (fresh ρ [m, m2] [x.2, y.2])) ρ := by
    simp only [evL]
    cases evE Φ m ρ with
    | ok x ρ1 =>
      simp only [Res.bind_ok]
      cases evE Φ m2 ρ1 <;> rfl
    | _ => rfl
  rw [e0] at q
  refine WI.by (pi_zip hg hm (pa_cons pe_w (pa_cons pe_w pa_nil (starAt hs2 _)) (starAt hs _)) (starAt hs _) (backAny (es := [e2]) (fun y hy => by cases hy with
    | head => exact hs2
    | tail _ z => cases z) _ _)) ?_
  refine h O ρ ρ σ H H true _ (PostC.refl E) q fun a ρ1 v1 H1 c1 s1 q => ?_
  refine h2 O ρ ρ1 σ H H1 _ _ c1 q fun b ρ2 v2 H2 c2 s2 q => ?_
  have s1 := s1.carry c2
  rw [fresh_cons, fresh_cons] at q
  obtain ⟨xs, e1, q⟩ := holds_opt q
  cases y : Rfr ρ2 m a.2 with
  | lst ds =>
    cases y2 : Rfr ρ2 m2 b.2 with
    | lst es =>
      rw [y, y2] at e1
      have e1 : some ((ds.zip es).map fun p => D.tup [p.1, p.2]) = some xs := e1
      cases e1
      obtain ⟨A, vs, rfl, t1, r, k⟩ := s1.lst (ms := [m, m2]) c2.env (List.mem_cons_self ..) y
      obtain ⟨B, ws, rfl, t2, r2, k2⟩ := s2.lst (ms := [m, m2]) c2.env (List.mem_cons_of_mem _ (List.mem_cons_self ..)) y2
      refine ⟨A, B, vs, ws, rfl, t1, t2, q _ _ (by rw [stillL_two]; exact c1.trans c2) ?_⟩
      unfold WalkOk
      rw [List.length_map, List.length_zip, r.length, r2.length]
      refine (walk_zip rfl).mono (fun Hc h => ⟨k Hc h, k2 Hc h⟩) fun i Hc x Hn hi _ y => ?_
      obtain ⟨T, va, vb, rfl, hT, rfl, ea, eb⟩ := y
      obtain ⟨d, ed, rd⟩ := r.getV ea
      obtain ⟨d', ed', rd'⟩ := r2.getV eb
      refine .inr ⟨T, d, d', va, vb, ?_, rfl, hT, rfl, rd, rd'⟩
      rw [List.getElem?_map, show (ds.zip es)[i]? = some (d, d') from List.getElem?_zip_eq_some.mpr ⟨ed, ed'⟩]
      rfl
    | _ => rw [y, y2] at e1; cases e1
  | _ => rw [y] at e1; cases e1
end
end Z

namespace Z
open PySem PySem.Spec L2
open PyProof.Rows hiding St
/-! ### slot by slot -/
def SlotOk (K : PySem.W.Frag) (O : Addr → Prop) (G H : Hp) : Sl → Option (Option V) → Prop
  | .non, _ => True
  | .val d, sv => ∃ v, sv = some (some v) ∧ Rep K G d v
  | .own d, sv => ∃ a, sv = some (some (.ref a)) ∧ Top K G H d a ∧ ¬ O a
  | .io d, sv => ∃ a, sv = some (some (.ref a)) ∧ Top K G H d a ∧ O a
  | .lkd d, sv => ∃ a, sv = some (some (.ref a)) ∧ TopR K G H d a
section
variable {K : PySem.W.Frag} {O O' : Addr → Prop} {ρ ρ' ρ0 ρ1 : Vn} {σ σ' : L2.St} {H H' G G' : Hp} {d : D} {v : V} {a : Addr} {i : Nat} {s : Sl}
theorem EnvOk.slot (E : EnvOk K O ρ σ H) (e : ρ[i]? = some s) : SlotOk K O (vis (Hid O ρ σ) H) H s σ[i]? := by
  cases s with
  | non => trivial
  | val d => exact E.val i d e
  | own d =>
    obtain ⟨a, s, t⟩ := E.own i d e
    exact ⟨a, s, t, E.sep i d a e s⟩
  | io d =>
    obtain ⟨a, s, o, t⟩ := E.io i d e
    exact ⟨a, s, t, o⟩
  | lkd d => exact E.lkd i d e
theorem EnvOk.of (len : ρ.length = σ.length) (dom : ∀ b, O b → H b ≠ none) (inj : ∀ (i j : Nat) (a : Addr) (si sj : Sl), ρ[i]? = some si → ρ[j]? = some sj → si.isOwn = true → sj.isOwn = true → σ[i]? = some (some (.ref a)) → σ[j]? = some (some (.ref a)) → i = j)
    (h : ∀ (i : Nat) (s : Sl), ρ[i]? = some s → SlotOk K O (vis (Hid O ρ σ) H) H s σ[i]?) : EnvOk K O ρ σ H where
  len := len
  dom := dom
  val := fun i d e => h i _ e
  own := fun i d e => let ⟨a, s, t, _⟩ := h i _ e; ⟨a, s, t⟩
  io := fun i d e => let ⟨a, s, t, o⟩ := h i _ e; ⟨a, s, o, t⟩
  lkd := fun i d e => h i _ e
  inj := inj
  sep := fun i d a e s => by
    obtain ⟨b, s', _, n⟩ := h i _ e
    rw [s] at s'; cases s'; exact n
/-- a slot's thing, seen from further on -/
theorem SlotOk.ext {sv : Option (Option V)} (h : SlotOk K O G H s sv) (x : Ext G G') (k : ∀ b, s.isOwn = true → sv = some (some (.ref b)) → ∀ o, H b = some o → H' b = some o) (hO : ∀ b, s.isOwn = true → sv = some (some (.ref b)) → (O b ↔ O' b)) : SlotOk K O' G' H' s sv := by
  cases s with
  | non => trivial
  | val d => obtain ⟨v, e, r⟩ := h; exact ⟨v, e, r.ext x⟩
  | own d => obtain ⟨a, e, t, n⟩ := h; exact ⟨a, e, t.ext x (k a rfl e), fun z => n ((hO a rfl e).mpr z)⟩
  | io d => obtain ⟨a, e, t, n⟩ := h; exact ⟨a, e, t.ext x (k a rfl e), (hO a rfl e).mp n⟩
  | lkd d => obtain ⟨a, e, t⟩ := h; exact ⟨a, e, t.ext x (k a rfl e)⟩
theorem getElem?_set_st {σ : L2.St} {i j : Nat} {x y : Option V} (h : (σ.set i x)[j]? = some y) : (j = i ∧ y = x ∧ i < σ.length) ∨ (j ≠ i ∧ σ[j]? = some y) := by
  by_cases e : j = i
  · subst e
    by_cases l : j < σ.length
    · rw [List.getElem?_set_self l] at h; cases h; exact .inl ⟨rfl, rfl, l⟩
    · rw [List.getElem?_eq_none (by simpa using l)] at h; cases h
  · rw [List.getElem?_set_ne (Ne.symm e)] at h; exact .inr ⟨e, h⟩
theorem setS_some {i : Nat} {t : Sl} (h : setS ρ i t = some ρ') : ∃ s, ρ[i]? = some s ∧ s.free = true ∧ ρ' = ρ.set i t := by
  unfold setS at h
  split at h
  · rename_i s e
    split at h
    · rename_i f
      cases h
      exact ⟨s, e, f, rfl⟩
    · cases h
  · cases h
theorem own_set {i : Nat} {t : Sl} {x : Option V} {b : Addr} (hlt : t.isOwn = true → x = some (.ref a)) (h : OwnA (ρ.set i t) (σ.set i x) b) : OwnA ρ σ b ∨ (t.isOwn = true ∧ b = a) := by
  obtain ⟨j, sj, ej, w, e⟩ := h
  rcases getElem?_set_of ej with ⟨rfl, rfl, _⟩ | ⟨ne, ej⟩
  · rcases getElem?_set_st e with ⟨_, e, _⟩ | ⟨n, _⟩
    · rw [hlt w] at e; cases e; exact .inr ⟨w, rfl⟩
    · exact absurd rfl n
  · rcases getElem?_set_st e with ⟨n, _⟩ | ⟨_, e⟩
    · exact absurd n ne
    · exact .inl ⟨j, sj, ej, w, e⟩
theorem wr_set {i : Nat} {t : Sl} {x : Option V} {b : Addr} (hlt : t.isOwn = true → x = some (.ref a)) (h : WrA (ρ.set i t) (σ.set i x) b) : WrA ρ σ b ∨ (t.isOwn = true ∧ b = a) := by
  obtain ⟨j, sj, ej, w, e⟩ := h
  rcases getElem?_set_of ej with ⟨rfl, rfl, _⟩ | ⟨ne, ej⟩
  · have w' : sj.isOwn = true := by cases sj <;> first | rfl | cases w
    rcases getElem?_set_st e with ⟨_, e, _⟩ | ⟨n, _⟩
    · rw [hlt w'] at e; cases e; exact .inr ⟨w', rfl⟩
    · exact absurd rfl n
  · rcases getElem?_set_st e with ⟨n, _⟩ | ⟨_, e⟩
    · exact absurd n ne
    · exact .inl ⟨j, sj, ej, w, e⟩
/-- a slot holds a shared value, or nothing -/
theorem EnvOk.setVal (E : EnvOk K O ρ σ H) {t : Sl} {x : Option V} (ht : t = .non ∨ ∃ d v, t = .val d ∧ x = some v ∧ Rep K (vis (Hid O ρ σ) H) d v) : EnvOk K O (ρ.set i t) (σ.set i x) H := by
  have nt : t.isOwn = false := by rcases ht with rfl | ⟨d, v, rfl, _⟩ <;> rfl
  have hh : ∀ b, Hid O (ρ.set i t) (σ.set i x) b → Hid O ρ σ b := fun b z => z.elim .inl fun z => (own_set (a := 0) (fun w => by rw [nt] at w; cases w) z).elim .inr fun z => by rw [nt] at z; cases z.1
  have xx : Ext (vis (Hid O ρ σ) H) (vis (Hid O (ρ.set i t) (σ.set i x)) H) := vis_ext (fun b z _ => hh b z) fun _ _ _ z => z
  refine EnvOk.of (by simpa using E.len) E.dom (fun j k b sj sk ej ek wj wk aj ak => ?_) fun j sj ej => ?_
  · rcases getElem?_set_of ej with ⟨rfl, rfl, _⟩ | ⟨nj, ej⟩
    · rw [nt] at wj; cases wj
    · rcases getElem?_set_of ek with ⟨rfl, rfl, _⟩ | ⟨nk, ek⟩
      · rw [nt] at wk; cases wk
      · rcases getElem?_set_st aj with ⟨n, _⟩ | ⟨_, aj⟩
        · exact absurd n nj
        · rcases getElem?_set_st ak with ⟨n, _⟩ | ⟨_, ak⟩
          · exact absurd n nk
          · exact E.inj j k b sj sk ej ek wj wk aj ak
  · rcases getElem?_set_of ej with ⟨rfl, rfl, hl⟩ | ⟨nj, ej⟩
    · rcases ht with rfl | ⟨d, v, rfl, rfl, r⟩
      · trivial
      · exact ⟨v, List.getElem?_set_self (by rw [← E.len]; exact hl), r.ext xx⟩
    · rw [List.getElem?_set_ne (Ne.symm nj)]
      exact (E.slot ej).ext xx (fun b _ _ o z => z) fun b _ _ => Iff.rfl
/-- a slot takes a new object -/
theorem EnvOk.setOwn {p : Addr} (E : EnvOk K (newO true O (.ref p)) ρ σ H) (hio : ∀ (j : Nat) (d : D) (b : Addr), ρ[j]? = some (.io d) → σ[j]? = some (some (.ref b)) → O b) (hn : ∀ b, OwnA ρ σ b → b ≠ p) (np : ¬ O p) (t : Top K (vis (Hid (newO true O (.ref p)) ρ σ) H) H d p) : EnvOk K O (ρ.set i (.own d)) (σ.set i (some (.ref p))) H := by
  have hh : ∀ b, Hid O (ρ.set i (.own d)) (σ.set i (some (.ref p))) b → Hid (newO true O (.ref p)) ρ σ b := fun b z => by
    rcases z with z | z
    · exact .inl (.inl z)
    · rcases own_set (a := p) (fun _ => rfl) z with z | ⟨_, rfl⟩
      · exact .inr z
      · exact .inl (.inr ⟨rfl, rfl⟩)
  have xx : Ext (vis (Hid (newO true O (.ref p)) ρ σ) H) (vis (Hid O (ρ.set i (.own d)) (σ.set i (some (.ref p)))) H) := vis_ext (fun b z _ => hh b z) fun _ _ _ z => z
  refine EnvOk.of (by simpa using E.len) (fun b z => E.dom b (.inl z)) (fun j k b sj sk ej ek wj wk aj ak => ?_) fun j sj ej => ?_
  · rcases getElem?_set_of ej with ⟨rfl, rfl, _⟩ | ⟨nj, ej1⟩
    · rcases getElem?_set_of ek with ⟨rfl, rfl, _⟩ | ⟨nk, ek1⟩
      · rfl
      · rcases getElem?_set_st aj with ⟨_, z, _⟩ | ⟨n, _⟩
        · cases z
          rcases getElem?_set_st ak with ⟨n, _⟩ | ⟨_, ak1⟩
          · exact absurd n nk
          · exact absurd rfl (hn p ⟨k, sk, ek1, wk, ak1⟩)
        · exact absurd rfl n
    · rcases getElem?_set_of ek with ⟨rfl, rfl, _⟩ | ⟨nk, ek1⟩
      · rcases getElem?_set_st ak with ⟨_, z, _⟩ | ⟨n, _⟩
        · cases z
          rcases getElem?_set_st aj with ⟨n, _⟩ | ⟨_, aj1⟩
          · exact absurd n nj
          · exact absurd rfl (hn p ⟨j, sj, ej1, wj, aj1⟩)
        · exact absurd rfl n
      · rcases getElem?_set_st aj with ⟨n, _⟩ | ⟨_, aj1⟩
        · exact absurd n nj
        · rcases getElem?_set_st ak with ⟨n, _⟩ | ⟨_, ak1⟩
          · exact absurd n nk
          · exact E.inj j k b sj sk ej1 ek1 wj wk aj1 ak1
  · rcases getElem?_set_of ej with ⟨rfl, rfl, hl⟩ | ⟨nj, ej⟩
    · exact ⟨p, List.getElem?_set_self (by rw [← E.len]; exact hl), t.ext xx fun o z => z, np⟩
    · rw [List.getElem?_set_ne (Ne.symm nj)]
      refine (E.slot ej).ext xx (fun b _ _ o z => z) fun b w eb => ⟨fun z => ?_, .inl⟩
      rcases z with z | ⟨_, z⟩
      · exact z
      · cases z; exact absurd rfl (hn p ⟨j, sj, ej, w, eb⟩)
end
/-! ### targets -/
def gNames : List Nat → TGs
  | [] => gNil
  | i :: is => gCons (gName i) (gNames is)
def gOf (K : PySem.W.Frag) : MT → TG
  | .nm i => gName i
  | .tp is => gTup K is.length (gNames is)
/-- the environment after some slots took shared values -/
structure PostV (K : PySem.W.Frag) (O : Addr → Prop) (ρ : Vn) (σ : L2.St) (H : Hp) (is : List Nat) (ρ' : Vn) (σ' : L2.St) : Prop where
  env : EnvOk K O ρ' σ' H
  own : ∀ b, OwnA ρ' σ' b → OwnA ρ σ b
  wr : ∀ b, WrA ρ' σ' b → WrA ρ σ b
  out : ∀ i, i ∉ is → ρ'[i]? = ρ[i]? ∧ σ'[i]? = σ[i]?
  prot : ∀ (i : Nat) (s : Sl), ρ[i]? = some s → s.free = false → ρ'[i]? = ρ[i]? ∧ σ'[i]? = σ[i]?
  len : ρ'.length = ρ.length
section
variable {K : PySem.W.Frag} {O : Addr → Prop} {ρ ρ' : Vn} {σ : L2.St} {H : Hp}
theorem sets_ok : ∀ {is : List Nat} {ds : List D} {vs : List V} {ρ ρ' : Vn} {σ : L2.St} {Q : L2.St → Hp → Prop}, EnvOk K O ρ σ H → sets ρ is ds = some ρ' → Reps K (vis (Hid O ρ σ) H) ds vs → (∀ σ', PostV K O ρ σ H is ρ' σ' → Q σ' H) → gNames is vs σ H Q
  | [], [], vs, ρ, ρ', σ, Q, E, e, r, k => by
    simp only [sets] at e
    cases e
    simp only [Reps] at r
    subst r
    exact ⟨rfl, k σ ⟨E, fun _ h => h, fun _ h => h, fun _ _ => ⟨rfl, rfl⟩, fun _ _ _ _ => ⟨rfl, rfl⟩, rfl⟩⟩
  | i :: is, d :: ds, vs, ρ, ρ', σ, Q, E, e, r, k => by
    simp only [sets] at e
    cases z : setS ρ i (.val d) with
    | none => rw [z] at e; cases e
    | some ρ1 =>
      rw [z] at e
      obtain ⟨s0, e0, f0, rfl⟩ := setS_some z
      simp only [Reps] at r
      obtain ⟨v, rr, rfl, r1, r2⟩ := r
      have E1 : EnvOk K O (ρ.set i (.val d)) (σ.set i (some v)) H := E.setVal (.inr ⟨d, v, rfl, rfl, r1⟩)
      have hown : ∀ b, OwnA (ρ.set i (.val d)) (σ.set i (some v)) b → OwnA ρ σ b := fun b z => (own_set (a := 0) (fun w => by cases w) z).elim id fun z => by cases z.1
      have hwr : ∀ b, WrA (ρ.set i (.val d)) (σ.set i (some v)) b → WrA ρ σ b := fun b z => (wr_set (a := 0) (fun w => by cases w) z).elim id fun z => by cases z.1
      refine ⟨v, rr, rfl, ?_⟩
      refine sets_ok E1 e (r2.ext (vis_ext (fun b z _ => z.elim .inl fun z => .inr (hown b z)) fun _ _ _ z => z)) fun σ' p => k σ' ⟨p.env, fun b z => hown b (p.own b z), fun b z => hwr b (p.wr b z), fun j hj => ?_, fun j s ej fj => ?_, by rw [p.len]; simp⟩
      · simp only [List.mem_cons, not_or] at hj
        obtain ⟨a, b⟩ := p.out j hj.2
        rw [a, b, List.getElem?_set_ne (Ne.symm hj.1), List.getElem?_set_ne (Ne.symm hj.1)]
        exact ⟨rfl, rfl⟩
      · have ne : j ≠ i := fun h => by subst h; rw [e0] at ej; cases ej; rw [f0] at fj; cases fj
        obtain ⟨a, b⟩ := p.prot j s (by rw [List.getElem?_set_ne (Ne.symm ne)]; exact ej) fj
        rw [a, b, List.getElem?_set_ne (Ne.symm ne), List.getElem?_set_ne (Ne.symm ne)]
        exact ⟨rfl, rfl⟩
  | [], _ :: _, _, _, _, _, _, _, e, _, _ => by simp [sets] at e
  | _ :: _, [], _, _, _, _, _, _, e, _, _ => by simp [sets] at e
theorem sets_len : ∀ {is : List Nat} {ds : List D} {ρ ρ' : Vn}, sets ρ is ds = some ρ' → ds.length = is.length
  | [], [], _, _, _ => rfl
  | i :: is, d :: ds, ρ, ρ', e => by
    simp only [sets] at e
    split at e
    · simp [sets_len e]
    · cases e
  | [], _ :: _, _, _, e => by simp [sets] at e
  | _ :: _, [], _, _, e => by simp [sets] at e
/-- an assignment to a target -/
theorem asgT_ok {tg : MT} {d : D} {v : V} {Q : L2.St → Hp → Prop} (E : EnvOk K O ρ σ H) (e : asgT tg d ρ = some ρ') (r : Rep K (vis (Hid O ρ σ) H) d v) (k : ∀ σ', PostV K O ρ σ H tg.slots ρ' σ' → Q σ' H) : gOf K tg v σ H Q := by
  cases tg with
  | nm i =>
    have e : setS ρ i (.val d) = some ρ' := e
    have := sets_ok (is := [i]) (ds := [d]) (vs := [v]) (ρ := ρ) (ρ' := ρ') (σ := σ) (Q := Q) E (by simp only [sets, e]) (by simp only [Reps]; exact ⟨v, [], rfl, r, rfl⟩) k
    obtain ⟨v', rr, e1, e2⟩ := this
    cases e1
    obtain ⟨_, e2⟩ := e2
    exact e2
  | tp is =>
    cases d with
    | tup ds =>
      have e : sets ρ is ds = some ρ' := e
      simp only [Rep] at r
      obtain ⟨a, vs, rfl, s, r⟩ := r
      have hl : ds.length = is.length := sets_len e
      exact ⟨a, vs, rfl, sqT_ext vis_le s, by rw [← r.length, hl], sets_ok E e r k⟩
    | _ => cases e
end
end Z

namespace Z
open PySem PySem.Spec L2
open PyProof.Rows hiding St
/-! ### wiped slots -/
theorem wipeV_len {ρ : Vn} : ∀ {vs : List Nat}, (wipeV ρ vs).length = ρ.length
  | [] => rfl
  | v :: vs => by unfold wipeV; rw [List.length_set, wipeV_len]
theorem wipeV_out {ρ : Vn} {j : Nat} : ∀ {vs : List Nat}, j ∉ vs → (wipeV ρ vs)[j]? = ρ[j]?
  | [], _ => rfl
  | v :: vs, h => by
    simp only [List.mem_cons, not_or] at h
    unfold wipeV
    rw [List.getElem?_set_ne (Ne.symm h.1), wipeV_out h.2]
theorem wipeV_in {ρ : Vn} {j : Nat} : ∀ {vs : List Nat}, j ∈ vs → j < ρ.length → (wipeV ρ vs)[j]? = some .non
  | [], h, _ => by cases h
  | v :: vs, h, hl => by
    unfold wipeV
    by_cases e : v = j
    · subst e; rw [List.getElem?_set_self (by rw [wipeV_len]; exact hl)]
    · rw [List.getElem?_set_ne e]
      rcases List.mem_cons.mp h with h | h
      · exact absurd h.symm e
      · exact wipeV_in h hl
theorem wipeV_cases {ρ : Vn} {vs : List Nat} {j : Nat} {s : Sl} (h : (wipeV ρ vs)[j]? = some s) : (j ∈ vs ∧ s = .non) ∨ (j ∉ vs ∧ ρ[j]? = some s) := by
  by_cases hj : j ∈ vs
  · have hl : j < ρ.length := by
      have := (List.getElem?_eq_some_iff.mp h).1
      rwa [wipeV_len] at this
    rw [wipeV_in hj hl] at h
    cases h; exact .inl ⟨hj, rfl⟩
  · rw [wipeV_out hj] at h; exact .inr ⟨hj, h⟩
theorem wipe_out' {σ : L2.St} {j : Nat} {vs : List Nat} (h : j ∉ vs) : (wipe σ vs)[j]? = σ[j]? := wipe_out h
theorem wipe_in' {σ : L2.St} {j : Nat} {x : V} {vs : List Nat} (h : (wipe σ vs)[j]? = some (some x)) : σ[j]? = some (some x) ∧ j ∉ vs := wipe_some h
theorem own_wipe {ρ : Vn} {σ : L2.St} {vs : List Nat} {b : Addr} (h : OwnA (wipeV ρ vs) (wipe σ vs) b) : OwnA ρ σ b := by
  obtain ⟨j, s, e, w, q⟩ := h
  obtain ⟨q, hj⟩ := wipe_in' q
  rw [wipeV_out hj] at e
  exact ⟨j, s, e, w, q⟩
theorem wr_wipe {ρ : Vn} {σ : L2.St} {vs : List Nat} {b : Addr} (h : WrA (wipeV ρ vs) (wipe σ vs) b) : WrA ρ σ b := by
  obtain ⟨j, s, e, w, q⟩ := h
  obtain ⟨q, hj⟩ := wipe_in' q
  rw [wipeV_out hj] at e
  exact ⟨j, s, e, w, q⟩
section
variable {K : PySem.W.Frag} {O O' : Addr → Prop} {ρ ρ' ρ0 ρ1 : Vn} {σ σ' : L2.St} {H H' G G' : Hp} {d : D} {v : V} {a : Addr} {i : Nat} {s : Sl}
theorem EnvOk.wiped (E : EnvOk K O ρ σ H) : ∀ vs : List Nat, EnvOk K O (wipeV ρ vs) (wipe σ vs) H
  | [] => E
  | v :: vs => by
    unfold wipeV wipe
    exact (E.wiped vs).setVal (.inl rfl)
/-- a hidden thing is changed that no slot owns -/
theorem EnvOk.updHid (E : EnvOk K O ρ σ H) {p : Addr} {o : HO} (hO : O p) (hn : ¬ OwnA ρ σ p) : EnvOk K O ρ σ (upd H p o) := by
  have x : Ext (vis (Hid O ρ σ) H) (vis (Hid O ρ σ) (upd H p o)) := vis_ext (fun _ z _ => z) fun b u n e => by
    have ne : b ≠ p := fun h => by subst h; exact n (.inl hO)
    rw [upd_ne ne]; exact e
  refine EnvOk.of E.len (fun b h => upd_dm (E.dom b h)) E.inj fun j sj ej => (E.slot ej).ext x (fun b w eb u e => ?_) fun b _ _ => Iff.rfl
  have ne : b ≠ p := fun h => by subst h; exact hn ⟨j, sj, ej, w, eb⟩
  rw [upd_ne ne]; exact e
theorem lockV_cases : ∀ {is : List Nat} {j : Nat} {s : Sl}, (lockV ρ is)[j]? = some s → ρ[j]? = some s ∨ (j ∈ is ∧ ∃ d, s = .lkd d ∧ (ρ[j]? = some (.own d) ∨ ρ[j]? = some (.io d)))
  | [], _, _, h => .inl h
  | i :: is, j, s, h => by
    unfold lockV at h
    split at h
    · rename_i d e
      rcases getElem?_set_of h with ⟨rfl, rfl, _⟩ | ⟨_, h⟩
      · rcases lockV_cases e with e | ⟨_, _, e, _⟩
        · exact .inr ⟨List.mem_cons_self .., d, rfl, .inl e⟩
        · cases e
      · rcases lockV_cases h with e | ⟨hm, z⟩
        · exact .inl e
        · exact .inr ⟨List.mem_cons_of_mem _ hm, z⟩
    · rename_i d e
      rcases getElem?_set_of h with ⟨rfl, rfl, _⟩ | ⟨_, h⟩
      · rcases lockV_cases e with e | ⟨_, _, e, _⟩
        · exact .inr ⟨List.mem_cons_self .., d, rfl, .inr e⟩
        · cases e
      · rcases lockV_cases h with e | ⟨hm, z⟩
        · exact .inl e
        · exact .inr ⟨List.mem_cons_of_mem _ hm, z⟩
    · rcases lockV_cases h with e | ⟨hm, z⟩
      · exact .inl e
      · exact .inr ⟨List.mem_cons_of_mem _ hm, z⟩
theorem lockV_len : ∀ {is : List Nat}, (lockV ρ is).length = ρ.length
  | [] => rfl
  | i :: is => by
    unfold lockV
    split
    · rw [List.length_set, lockV_len]
    · rw [List.length_set, lockV_len]
    · exact lockV_len
theorem own_lock {is : List Nat} {b : Addr} : OwnA (lockV ρ is) σ b ↔ OwnA ρ σ b := by
  constructor
  · rintro ⟨j, s, e, w, q⟩
    rcases lockV_cases e with e | ⟨_, d, rfl, e | e⟩
    · exact ⟨j, s, e, w, q⟩
    · exact ⟨j, _, e, rfl, q⟩
    · exact ⟨j, _, e, rfl, q⟩
  · rintro ⟨j, s, e, w, q⟩
    have hl : j < (lockV ρ is).length := by rw [lockV_len]; exact (List.getElem?_eq_some_iff.mp e).1
    have e2 : (lockV ρ is)[j]? = some (lockV ρ is)[j] := by simp [hl]
    refine ⟨j, _, e2, ?_, q⟩
    rcases lockV_cases e2 with e3 | ⟨_, d, e3, _⟩
    · rw [e] at e3; cases e3; exact w
    · rw [e3]; rfl
theorem EnvOk.locked (E : EnvOk K O ρ σ H) (is : List Nat) : EnvOk K O (lockV ρ is) σ H := by
  have hh : Hid O (lockV ρ is) σ = Hid O ρ σ := by
    funext b
    simp only [Hid, own_lock]
  refine EnvOk.of (by rw [lockV_len]; exact E.len) E.dom (fun j k b sj sk ej ek wj wk aj ak => ?_) fun j sj ej => ?_
  · have back : ∀ {j : Nat} {sj : Sl}, (lockV ρ is)[j]? = some sj → sj.isOwn = true → ∃ sj', ρ[j]? = some sj' ∧ sj'.isOwn = true := fun {j sj} e w => by
      rcases lockV_cases e with e | ⟨_, d, rfl, e | e⟩
      · exact ⟨sj, e, w⟩
      · exact ⟨_, e, rfl⟩
      · exact ⟨_, e, rfl⟩
    obtain ⟨sj', ej', wj'⟩ := back ej wj
    obtain ⟨sk', ek', wk'⟩ := back ek wk
    exact E.inj j k b sj' sk' ej' ek' wj' wk' aj ak
  · rw [hh]
    rcases lockV_cases ej with e | ⟨_, d, rfl, e | e⟩
    · exact E.slot e
    · obtain ⟨a, s, t⟩ := E.own j d e; exact ⟨a, s, t.r⟩
    · obtain ⟨a, s, _, t⟩ := E.io j d e; exact ⟨a, s, t.r⟩
theorem backV_len : ∀ {is : List Nat}, (backV ρ ρ0 is).length = ρ.length
  | [] => rfl
  | i :: is => by unfold backV; rw [List.length_set, backV_len]
theorem backV_out {j : Nat} : ∀ {is : List Nat}, j ∉ is → (backV ρ ρ0 is)[j]? = ρ[j]?
  | [], _ => rfl
  | i :: is, h => by
    simp only [List.mem_cons, not_or] at h
    unfold backV
    rw [List.getElem?_set_ne (Ne.symm h.1), backV_out h.2]
theorem backV_in {j : Nat} : ∀ {is : List Nat}, j ∈ is → j < ρ.length → (backV ρ ρ0 is)[j]? = some (ρ0[j]?.getD .non)
  | [], h, _ => by cases h
  | i :: is, h, hl => by
    unfold backV
    by_cases e : i = j
    · subst e; rw [List.getElem?_set_self (by rw [backV_len]; exact hl)]
    · rw [List.getElem?_set_ne e]
      rcases List.mem_cons.mp h with h | h
      · exact absurd h.symm e
      · exact backV_in h hl
/-- a walk's or a comprehension's end: the wiped and the locked slots are as they were -/
theorem EnvOk.restore {O2 : Addr → Prop} {is vs : List Nat} {ρc : Vn} {H1 Hc : Hp} (E1 : EnvOk K O ρ1 σ H1) (Eb : EnvOk K O2 (wipeV ρc vs) (wipe σ vs) Hc) (to : EvTo (wipeV (lockV ρ1 is) vs) (wipeV ρc vs)) (kp : Kp (WrA (lockV ρ1 is) σ) H1 Hc)
    (hO : ∀ b, O b → O2 b) (hO2 : ∀ b, O2 b → O b ∨ H1 b = none) (hvs : ∀ i ∈ vs, ∀ s, ρ1[i]? = some s → s.isOwn = false) : EnvOk K O2 (backV ρc ρ1 (is ++ vs)) σ Hc ∧ EvTo ρ1 (backV ρc ρ1 (is ++ vs)) ∧ ∀ b, OwnA (backV ρc ρ1 (is ++ vs)) σ b → OwnA (wipeV ρc vs) (wipe σ vs) b := by
  have lc : ρc.length = ρ1.length := by
    have := to.1
    rw [wipeV_len, wipeV_len, lockV_len] at this
    exact this
  have lσ : ρ1.length = σ.length := E1.len
  -- each slot at the end
  have char : ∀ {j : Nat} {s : Sl}, (backV ρc ρ1 (is ++ vs))[j]? = some s → (j ∈ is ++ vs ∧ ρ1[j]? = some s) ∨ (j ∉ is ∧ j ∉ vs ∧ (wipeV ρc vs)[j]? = some s) := fun {j s} e => by
    have hl : j < ρc.length := by have := (List.getElem?_eq_some_iff.mp e).1; rwa [backV_len] at this
    by_cases hj : j ∈ is ++ vs
    · rw [backV_in hj hl] at e
      have : ρ1[j]? = some ρ1[j] := by simp [lc ▸ hl]
      rw [this] at e
      simp only [Option.getD_some] at e
      cases e
      exact .inl ⟨hj, this⟩
    · rw [backV_out hj] at e
      simp only [List.mem_append, not_or] at hj
      exact .inr ⟨hj.1, hj.2, by rw [wipeV_out hj.2]; exact e⟩
  have to' : EvTo ρ1 (backV ρc ρ1 (is ++ vs)) := ⟨by rw [backV_len, lc], fun j s e => by
    have hl : j < ρc.length := by rw [lc]; exact (List.getElem?_eq_some_iff.mp e).1
    by_cases hj : j ∈ is ++ vs
    · exact ⟨s, by rw [backV_in hj hl, e]; rfl, s.to_refl⟩
    · rw [backV_out hj]
      simp only [List.mem_append, not_or] at hj
      have hl2 : j < (lockV ρ1 is).length := by rw [lockV_len, ← lc]; exact hl
      have e2 : (lockV ρ1 is)[j]? = some (lockV ρ1 is)[j] := by simp [hl2]
      rcases lockV_cases e2 with e3 | ⟨hm, _⟩
      · rw [e] at e3; cases e3
        obtain ⟨s', e4, t⟩ := to.2 j _ (by rw [wipeV_out hj.2]; exact e2)
        rw [wipeV_out hj.2] at e4
        exact ⟨s', e4, t⟩
      · exact absurd hm hj.1⟩
  have ownb : ∀ b, OwnA (backV ρc ρ1 (is ++ vs)) σ b → OwnA (wipeV ρc vs) (wipe σ vs) b := by
    rintro b ⟨j, s, e, w, q⟩
    rcases char e with ⟨hj, e⟩ | ⟨_, hj, e⟩
    · have hv : j ∉ vs := fun hv => by rw [hvs j hv s e] at w; cases w
      have hi : j ∈ is := (List.mem_append.mp hj).resolve_right hv
      have e2 : OwnA (lockV ρ1 is) σ b := own_lock.mpr ⟨j, s, e, w, q⟩
      have hl : j < (lockV ρ1 is).length := by rw [lockV_len]; exact (List.getElem?_eq_some_iff.mp e).1
      have e3 : (lockV ρ1 is)[j]? = some (lockV ρ1 is)[j] := by simp [hl]
      obtain ⟨s', e4, t⟩ := to.2 j _ (by rw [wipeV_out hv]; exact e3)
      refine ⟨j, s', e4, ?_, by rw [wipe_out' hv]; exact q⟩
      -- the slot was locked, and stays so
      rcases lockV_cases e3 with e5 | ⟨_, d, e5, _⟩
      · have nl : ∀ (is : List Nat) (j : Nat) (s : Sl), (lockV ρ1 is)[j]? = some s → j ∈ is → s.isWr = false := by
          intro is
          induction is with
          | nil => intro j s _ h; cases h
          | cons i is ih =>
            intro j s h hm
            unfold lockV at h
            split at h
            · rcases getElem?_set_of h with ⟨rfl, rfl, _⟩ | ⟨ne, h⟩
              · rfl
              · exact ih j s h ((List.mem_cons.mp hm).resolve_left ne)
            · rcases getElem?_set_of h with ⟨rfl, rfl, _⟩ | ⟨ne, h⟩
              · rfl
              · exact ih j s h ((List.mem_cons.mp hm).resolve_left ne)
            · rename_i n1 n2
              rcases List.mem_cons.mp hm with rfl | hm
              · cases s with
                | own d => exact absurd h (n1 d)
                | io d => exact absurd h (n2 d)
                | _ => rfl
              · exact ih j s h hm
        have nw := nl is j _ e3 hi
        have wo : ((lockV ρ1 is)[j]).isOwn = true := by rw [e] at e5; cases e5; exact w
        generalize (lockV ρ1 is)[j] = sl at *
        cases sl with
        | lkd d => simp only [Sl.to] at t; subst t; rfl
        | own d => cases nw
        | io d => cases nw
        | _ => cases wo
      · rw [e5] at t
        simp only [Sl.to] at t; subst t; rfl
    · exact ⟨j, s, e, w, by rw [wipe_out' hj]; exact q⟩
  have own1 : ∀ b, OwnA (backV ρc ρ1 (is ++ vs)) σ b → OwnA ρ1 σ b := fun b z => to'.own z
  have x1 : Ext (vis (Hid O ρ1 σ) H1) (vis (Hid O2 (backV ρc ρ1 (is ++ vs)) σ) Hc) := vis_ext (fun b z n => z.elim (fun z => (hO2 b z).elim .inl fun y => absurd y n) fun z => .inr (own1 b z)) fun b o n e => kp b o (fun z => n (.inr (lockV_wr z).1.own)) e
  have x2 : Ext (vis (Hid O2 (wipeV ρc vs) (wipe σ vs)) Hc) (vis (Hid O2 (backV ρc ρ1 (is ++ vs)) σ) Hc) := vis_ext (fun b z _ => z.elim .inl fun z => .inr (ownb b z)) fun _ _ _ e => e
  refine ⟨EnvOk.of (by rw [backV_len, lc, lσ]) Eb.dom (fun j k b sj sk ej ek wj wk aj ak => ?_) fun j s e => ?_, to', ownb⟩
  · obtain ⟨sj', ej', tj⟩ := to'.back ej
    obtain ⟨sk', ek', tk⟩ := to'.back ek
    exact E1.inj j k b sj' sk' ej' ek' (Sl.to_own tj wj) (Sl.to_own tk wk) aj ak
  · rcases char e with ⟨hj, e⟩ | ⟨_, hj, e⟩
    · refine (E1.slot e).ext x1 (fun b w q o h => kp b o (fun z => ?_) h) fun b w q => ⟨hO b, fun z => (hO2 b z).resolve_right (E1.domH b (.inr ⟨j, s, e, w, q⟩))⟩
      have hv : j ∉ vs := fun hv => by rw [hvs j hv s e] at w; cases w
      exact lockV_wr2 E1.inj ((List.mem_append.mp hj).resolve_right hv) e w q z
    · have y := Eb.slot e
      rw [wipe_out' hj] at y
      exact y.ext x2 (fun _ _ _ _ h => h) fun _ _ _ => Iff.rfl
end
end Z

namespace Z
open PySem PySem.Spec L2
open PyProof.Rows hiding St
section
variable {Φ : String → Option Fn} {X : Cx} {W : WX}
/-! ### comprehensions -/
def IsBlk (X : Cx) (scope : Scope) (X' : Cx) : Prop := ∃ (s : Shared) (H : Hp) (C : Addr) (cl : List (Str × Addr)) (fp : List Addr), X' = X.blk s H scope (compEnvC scope cl C X.env) fp
abbrev WF : WX := fun _ _ _ _ => False
theorem takes_blk {scope : Scope} {X' : Cx} : Takes X' WF := fun u s' ⟨_, _, _, _, _, _, _, _, _, _, _, _, _, _, _, _, w⟩ => w.elim
def teB (X : Cx) (scope : Scope) (e : Expr) : TE := fun σ H Q => ∀ X', IsBlk X scope X' → WE X' e σ H Q
def ttB (X : Cx) (scope : Scope) (t : Option Expr) : TT := match t with
  | none => tYes
  | some e => fun σ H Q => ∀ X', IsBlk X scope X' → WT X' e σ H Q
def ifsOf : Option Expr → List Expr
  | none => []
  | some e => [e]
theorem teB_ok {scope : Scope} {e : Expr} (s : Shared) (H : Hp) (C : Addr) (cl : List (Str × Addr)) (fp : List Addr) : PE (X.blk s H scope (compEnvC scope cl C X.env) fp) e (teB X scope e) := ⟨fun pins s' σ H' Q I h => h _ ⟨s, H, C, cl, fp, rfl⟩ pins s' I⟩
theorem ttB_ok {scope : Scope} {t : Option Expr} (s : Shared) (H : Hp) (C : Addr) (cl : List (Str × Addr)) (fp : List Addr) : PTs (X.blk s H scope (compEnvC scope cl C X.env) fp) (ifsOf t) (ttB X scope t) := by
  cases t with
  | none => exact pts_nil
  | some e => exact pts_one ⟨fun pins s' σ H' Q I h => h _ ⟨s, H, C, cl, fp, rfl⟩ pins s' I⟩
theorem noX_bind {α β : Type} {r : Res α} {f : α → Vn → Res β} {P : β → Vn → Prop} {E : Exn → Vn → Prop} (h : ((r.bind f).noX).holds P E) : r.holds (fun a ρ => ((f a ρ).noX).holds P E) (fun _ _ => False) := by
  cases r <;> first | exact h | exact h.elim
theorem noX_holds {α : Type} {r : Res α} {P : α → Vn → Prop} {E : Exn → Vn → Prop} (h : r.noX.holds P E) : ∃ a ρ, r = .ok a ρ ∧ P a ρ := by
  cases r with
  | ok a ρ => exact ⟨a, ρ, rfl, h⟩
  | exn => exact h.elim
  | stuck => exact h.elim
/-- the run of one turn -/
def lcBody (Φ : String → Option Fn) (elt : ME) (tst : Option ME) (ρ : Vn) : Res (Option D) := match tst with
  | none => (evE Φ elt ρ).bind fun x ρ => .ok (some x.2) ρ
  | some t => (evE Φ t ρ).bind fun x ρ => (ofOpt (truD x.2) ρ).bind fun c ρ => if c then (evE Φ elt ρ).bind fun x ρ => .ok (some x.2) ρ else .ok none ρ
def SndTo (Φ : String → Option Fn) (X : Cx) (W : WX) : Option Expr → Option ME → Prop
  | none, none => True
  | some e, some m => SndT Φ X W e m
  | _, _ => False
theorem wipe_at {σ : L2.St} {j : Nat} : ∀ {vs : List Nat}, j ∈ vs → j < σ.length → (wipe σ vs)[j]? = some none
  | [], h, _ => by cases h
  | v :: vs, h, hl => by
    unfold wipe
    by_cases e : v = j
    · subst e; rw [List.getElem?_set_self (by rw [wipe_length]; exact hl)]
    · rw [List.getElem?_set_ne e]
      exact wipe_at ((List.mem_cons.mp h).resolve_left fun h => e h.symm) hl
theorem lc_run {tgE iter elt : Expr} {t : Option Expr} {scope : Scope} {tg : MT} {vs : List Nat} {k : Nat} {ms : List ME} {me : ME} {mt : Option ME} (hi : SndI Φ X W tgE iter k ms)
    (he : ∀ X', IsBlk X scope X' → SndE Φ X' WF elt me) (hr : me.isRd = false) (ht : (t = none ∧ mt = none) ∨ ∃ te mt', t = some te ∧ mt = some mt' ∧ ∀ X', IsBlk X scope X' → SndT Φ X' WF te mt') (hts : ∀ i ∈ tg.slots, i ∈ vs)
    {O : Addr → Prop} {ρ : Vn} {σ : L2.St} {H : Hp} {Q : VK} (E : EnvOk X.K O ρ σ H)
    (q : (evE Φ (.lc me vs tg k ms mt) ρ).holds (fun a ρ' => ∀ v H', PostE X.K O ρ σ H (.lc me vs tg k ms mt) a.1 a.2 ρ' v H' → Q v H') (fun x ρ' => ∀ od H', PostX X.K O ρ σ H x ρ' od H' → W (.ref (He.ga X.K x.C)) od σ H')) :
    tLc (WI X tgE iter) (gOf X.K tg) (ttB X scope t) (teB X scope elt) vs σ H Q := by
  have lz : lim ≤ sizeLine := by rw [PySem.sizeLine_eq]; decide
  have e0 : evE Φ (.lc me vs tg k ms mt) ρ = ((evL Φ ms ρ).bind fun ds ρ => ofOpt (itD k (fresh ρ ms ds)) ρ).bind fun xs ρ =>
      if xs.length ≤ lim ∧ (vs.all fun i => match ρ[i]? with
        | some s => !s.isOwn
        | none => false) then ((lcGo vs tg (lcBody Φ me mt) xs (lockV ρ (rdIdx ms))).noX).bind fun rs ρ' => .ok (true, .lst rs) (backV ρ' ρ (rdIdx ms ++ vs)) else .stuck := by
    simp only [evE]
    cases evL Φ ms ρ with
    | ok ds ρ1 =>
      simp only [Res.bind_ok]
      cases itD k (fresh ρ1 ms ds) <;> rfl
    | _ => rfl
  rw [e0] at q
  refine hi O ρ σ H _ E (Res.holds_mono (Res.holds_bind q) (fun xs ρ1 z J H1 c wk => ?_) fun x ρ' z => z)
  split at z
  · rename_i hc
    obtain ⟨hxl, hva⟩ := hc
    have hvs : ∀ i ∈ vs, ∀ s, ρ1[i]? = some s → s.isOwn = false := fun i hi s e => by
      have := List.all_eq_true.mp hva i hi
      rw [e] at this
      simpa using this
    intro D hD
    have E1 := c.env
    have zz := Res.holds_bind z
    have nD : ¬ OwnA ρ1 σ D := fun y => E1.domH D (.inr y) hD
    have nO : ¬ O D := fun y => E1.dom D y hD
    -- the invariant
    refine lc_it wk (fun i Hc => ∃ ρc accD accV, EnvOk X.K (newO true O (.ref D)) (wipeV ρc vs) (wipe σ vs) Hc ∧ Kp (WrA (lockV ρ1 (rdIdx ms)) σ) H1 Hc ∧ (∀ b, H1 b ≠ none → Hc b ≠ none) ∧ EvTo (wipeV (lockV ρ1 (rdIdx ms)) vs) (wipeV ρc vs) ∧
      Hc D = some (.lst accV) ∧ Reps X.K (vis (Hid (newO true O (.ref D)) (wipeV ρc vs) (wipe σ vs)) Hc) accD accV ∧ accD.length ≤ i ∧
      (lcGo vs tg (lcBody Φ me mt) (xs.drop i) ρc).noX.holds (fun rs ρ' => ∀ v H', PostE X.K O ρ σ H (.lc me vs tg k ms mt) true (.lst (accD ++ rs)) (backV ρ' ρ1 (rdIdx ms ++ vs)) v H' → Q v H') (fun _ _ => True)) ?_ ?_ ?_ ?_
    · -- the start
      refine ⟨lockV ρ1 (rdIdx ms), [], [], ((E1.locked _).wiped vs).laid hD, fun b o _ e => upd_kp hD b o e, fun b h => upd_dm h, EvTo.refl _, upd_same, by simp only [Reps], Nat.zero_le _, ?_⟩
      rw [List.drop_zero]
      obtain ⟨rs, ρ', e, h⟩ := noX_holds (Res.holds_mono zz (fun _ _ h => h) fun _ _ h => h)
      rw [e]
      exact h
    · -- what the walk asks
      rintro i Hc hi ⟨ρc, accD, accV, A, B, C, T, D1, R, L, G⟩
      exact B
    · -- a turn
      rintro i x Hc Hn hi ⟨ρc, accD, accV, A, B, C, T, D1, R, L, G⟩ y
      obtain ⟨d, ed⟩ : ∃ d, xs[i]? = some d := ⟨xs[i], by simp [hi]⟩
      rw [show xs.drop i = d :: xs.drop (i + 1) by
        rw [List.drop_eq_getElem_cons hi]
        have : xs[i] = d := by rw [List.getElem?_eq_getElem hi] at ed; cases ed; rfl
        rw [this]] at G
      simp only [lcGo] at G
      have G1 := noX_bind G
      cases ea : asgT tg d (wipeV ρc vs) with
      | none => rw [ea] at G1; exact G1.elim
      | some ρ1' =>
        rw [ea] at G1
        have G2 := noX_bind G1
        -- the item
        have xin : Ext (vis (Hid O ρ1 σ) H1) (vis (Hid (newO true O (.ref D)) (wipeV ρc vs) (wipe σ vs)) Hc) := vis_ext (fun b z n => by
          rcases z with (z | ⟨_, z⟩) | z
          · exact .inl z
          · cases z; exact absurd hD n
          · exact .inr (own_lock.mp (own_wipe (T.own z)))) fun b o n e => B b o (fun z => n (.inr (lockV_wr z).1.own)) e
        have item : ∃ (An : EnvOk X.K (newO true O (.ref D)) (wipeV ρc vs) (wipe σ vs) Hn), Rep X.K (vis (Hid (newO true O (.ref D)) (wipeV ρc vs) (wipe σ vs)) Hn) d x ∧ ∀ b o, Hc b = some o → Hn b = some o := by
          rcases y with ⟨rfl, d', e', r⟩ | ⟨T', a', b', va, vb, e', rfl, hT, rfl, ra, rb⟩
          · rw [ed] at e'; cases e'
            exact ⟨A, r.ext xin, fun _ _ e => e⟩
          · rw [ed] at e'; cases e'
            have An := A.kept (upd_kp (o := HO.tup [va, vb]) hT)
            have nT : ¬ Hid (newO true O (.ref D)) (wipeV ρc vs) (wipe σ vs) T' := fun z => A.domH T' z hT
            have x2 : Ext (vis (Hid (newO true O (.ref D)) (wipeV ρc vs) (wipe σ vs)) Hc) (vis (Hid (newO true O (.ref D)) (wipeV ρc vs) (wipe σ vs)) (upd Hc T' (.tup [va, vb]))) := vis_ext (fun _ z _ => z) fun b o _ z => upd_kp hT b o z
            refine ⟨An, ?_, upd_kp hT⟩
            simp only [Rep, Reps]
            exact ⟨T', [va, vb], rfl, SqT.of (by rw [vis_at nT, upd_same]), va, [vb], rfl, (ra.ext xin).ext x2, vb, [], rfl, (rb.ext xin).ext x2, rfl⟩
        obtain ⟨An, rx, kn⟩ := item
        refine asgT_ok An ea rx fun σ2 p => ?_
        have hw : wipe σ2 vs = wipe σ vs := by
          have hl : σ2.length = σ.length := by rw [← p.env.len, p.len, wipeV_len]; have := A.len; rw [wipeV_len, wipe_length] at this; exact this
          apply List.ext_getElem?
          intro j
          by_cases hj : j ∈ vs
          · have two : ∀ (σ : L2.St), j < σ.length → (wipe σ vs)[j]? = some none := fun σ hl => wipe_at hj hl
            by_cases hjl : j < σ.length
            · rw [two σ hjl, two σ2 (by omega)]
            · rw [List.getElem?_eq_none (by rw [wipe_length]; omega), List.getElem?_eq_none (by rw [wipe_length]; omega)]
          · rw [wipe_out hj, wipe_out hj, (p.out j fun h => hj (hts j h)).2, wipe_out hj]
        refine ⟨hw, ?_⟩
        -- what is left behind the body's run
        have wrb : ∀ b, WrA ρ1' σ2 b → WrA (lockV ρ1 (rdIdx ms)) σ b := fun b z => wr_wipe (T.wr (p.wr b z))
        have nDb : ¬ WrA ρ1' σ2 D := fun z => nD (own_lock.mp (wrb D z).own)
        have kBn : Kp (WrA (lockV ρ1 (rdIdx ms)) σ) H1 Hn := fun b o n e => kn b o (B b o n e)
        have dBn : ∀ b, H1 b ≠ none → Hn b ≠ none := fun b h => by
          have h2 := C b h
          cases z : Hc b with
          | none => exact absurd z h2
          | some o => rw [kn b o z]; simp
        have evn : ∀ {ρ2 : Vn}, EvTo ρ1' ρ2 → EvTo (wipeV (lockV ρ1 (rdIdx ms)) vs) (wipeV ρ2 vs) := fun {ρ2} t => by
          refine ⟨by rw [wipeV_len, t.1, p.len, ← T.1], fun j s e => ?_⟩
          rcases wipeV_cases e with ⟨hj, rfl⟩ | ⟨hj, e'⟩
          · have hl : j < ρ2.length := by rw [t.1, p.len, T.1]; exact (List.getElem?_eq_some_iff.mp e).1
            exact ⟨.non, wipeV_in hj hl, rfl⟩
          · obtain ⟨s1, e1, t1⟩ := T.2 j s e
            obtain ⟨s2, e2, t2⟩ := t.2 j s1 (by rw [(p.out j fun h => hj (hts j h)).1]; exact e1)
            exact ⟨s2, by rw [wipeV_out hj]; exact e2, Sl.to_trans t1 t2⟩
        -- the next turn's start, from a run's end; nothing kept
        have nxt : ∀ {st : Bool} {ρ2 : Vn} {H3 : Hp}, PostC X.K (newO true O (.ref D)) ρ1' σ2 Hn st ρ2 H3 → EnvOk X.K (newO true O (.ref D)) (wipeV ρ2 vs) (wipe σ vs) H3 ∧ Kp (WrA (lockV ρ1 (rdIdx ms)) σ) H1 H3 ∧ (∀ b, H1 b ≠ none → H3 b ≠ none) ∧ EvTo (wipeV (lockV ρ1 (rdIdx ms)) vs) (wipeV ρ2 vs) ∧ H3 D = some (.lst accV) ∧
            Reps X.K (vis (Hid (newO true O (.ref D)) (wipeV ρ2 vs) (wipe σ vs)) H3) accD accV := fun {st ρ2 H3} c2 => by
          have En : EnvOk X.K (newO true O (.ref D)) (wipeV ρ2 vs) (wipe σ vs) H3 := by rw [← hw]; exact c2.env.wiped vs
          refine ⟨En, fun b o n e => c2.kp b o (fun z => n (wrb b z.2)) (kBn b o n e), fun b h => c2.dm b (dBn b h), evn c2.to, c2.kp D _ (fun z => nDb z.2) (kn D _ D1), R.ext ?_⟩
          refine vis_ext (fun b z _ => z.elim .inl fun z => .inr ?_) fun b o n e => ?_
          · have z2 : OwnA ρ2 σ2 b := own_wipe (by rw [hw]; exact z)
            exact p.own b (c2.to.own z2)
          · exact c2.kp b o (fun z => n (.inr (p.wr b z.2).own)) (kn b o e)
        -- a kept item's end
        have done : ∀ {st : Bool} {ρ2 ρ3 : Vn} {H3 H4 : Hp} {dx : Z.D} {v : V}, PostC X.K (newO true O (.ref D)) ρ1' σ2 Hn st ρ2 H3 → PostS X.K (newO true O (.ref D)) ρ2 σ2 H3 me dx ρ3 v H4 →
            (Res.holds (((lcGo vs tg (lcBody Φ me mt) (xs.drop (i + 1)) ρ3).bind fun rs ρ4 => Res.ok ((some dx).toList ++ rs) ρ4).noX) (fun rs ρ' => ∀ v H', PostE X.K O ρ σ H (.lc me vs tg k ms mt) true (.lst (accD ++ rs)) (backV ρ' ρ1 (rdIdx ms ++ vs)) v H' → Q v H') (fun _ _ => True)) →
            ∃ acc, H4 D = some (.lst acc) ∧ acc.length < sizeLine ∧ ∃ ρc accD accV, EnvOk X.K (newO true O (.ref D)) (wipeV ρc vs) (wipe σ vs) (upd H4 D (.lst (acc ++ [v]))) ∧ Kp (WrA (lockV ρ1 (rdIdx ms)) σ) H1 (upd H4 D (.lst (acc ++ [v]))) ∧ (∀ b, H1 b ≠ none → (upd H4 D (.lst (acc ++ [v]))) b ≠ none) ∧ EvTo (wipeV (lockV ρ1 (rdIdx ms)) vs) (wipeV ρc vs) ∧
              (upd H4 D (.lst (acc ++ [v]))) D = some (.lst accV) ∧ Reps X.K (vis (Hid (newO true O (.ref D)) (wipeV ρc vs) (wipe σ vs)) (upd H4 D (.lst (acc ++ [v])))) accD accV ∧ accD.length ≤ i + 1 ∧
              (lcGo vs tg (lcBody Φ me mt) (xs.drop (i + 1)) ρc).noX.holds (fun rs ρ' => ∀ v H', PostE X.K O ρ σ H (.lc me vs tg k ms mt) true (.lst (accD ++ rs)) (backV ρ' ρ1 (rdIdx ms ++ vs)) v H' → Q v H') (fun _ _ => True) := fun {st ρ2 ρ3 H3 H4 dx v} c2 ps h => by
          obtain ⟨En, K3, dm3, to3, D3, R3⟩ := nxt (c2.trans ps.c)
          obtain ⟨rs, ρf, e, hf⟩ := noX_holds h
          have nd : Hid (newO true O (.ref D)) (wipeV ρ3 vs) (wipe σ vs) D := .inl (.inr ⟨rfl, rfl⟩)
          refine ⟨accV, D3, by rw [← R.length]; omega, ρ3, accD ++ [dx], accV ++ [v], En.updHid (.inr ⟨rfl, rfl⟩) (fun z => nD (own_lock.mp (own_wipe (to3.own z)))), fun b o n e => ?_, fun b h => upd_dm (dm3 b h), to3, upd_same, ?_, by simp; omega, ?_⟩
          · have ne : b ≠ D := fun hb => by subst hb; rw [hD] at e; cases e
            rw [upd_ne ne]; exact K3 b o n e
          · refine Reps.ext (vis_ext (fun b z _ => z) fun b o n e => ?_) (R3.append ?_)
            · have ne : b ≠ D := fun hb => by subst hb; exact n nd
              rw [upd_ne ne]; exact e
            · simp only [Reps]
              exact ⟨v, [], rfl, (ps.rep hr).ext (vis_ext (fun b z _ => z.elim .inl fun z => .inr (own_wipe (by rw [hw]; exact z))) fun _ _ _ e => e), rfl⟩
          · cases e2 : lcGo vs tg (lcBody Φ me mt) (xs.drop (i + 1)) ρ3 with
            | ok rs2 ρ4 =>
              rw [e2] at e
              simp only [Res.bind_ok] at e
              cases e
              intro v' H' pe
              refine hf v' H' ?_
              simpa using pe
            | exn x ρ4 => rw [e2] at e; cases e
            | stuck => rw [e2] at e; cases e
        rcases ht with ⟨rfl, rfl⟩ | ⟨te, mt', rfl, rfl, ht⟩
        · simp only [ttB, tYes]
          rw [if_pos trivial]
          intro X' hX'
          have hK : X'.K = X.K := by obtain ⟨s, H, C, cl, fp, rfl⟩ := hX'; rfl
          simp only [lcBody] at G2
          refine (he X' hX').sh (O := newO true O (.ref D)) (ρ := ρ1') (by rw [hK]; exact p.env) (Res.holds_mono (Res.holds_bind G2) (fun a ρ2 h v H3 ps => ?_) fun x ρ2 h => h.elim)
          rw [hK] at ps
          exact done (PostC.refl (st := true) p.env) ps h
        · simp only [ttB]
          intro X' hX'
          have hK : X'.K = X.K := by obtain ⟨s, H, C, cl, fp, rfl⟩ := hX'; rfl
          simp only [lcBody] at G2
          refine (ht X' hX').bd (O := newO true O (.ref D)) (ρ0 := ρ1') (H0 := Hn) (PostC.refl (st := true) (by rw [hK]; exact p.env)) (Res.holds_mono G2 (fun _ _ h => h) fun _ _ h => h.elim) fun b ρ2 H3 c2 h => ?_
          rw [hK] at c2
          cases b with
          | false =>
            rw [if_neg (by decide)]
            obtain ⟨En, K3, dm3, to3, D3, R3⟩ := nxt c2
            rw [if_neg (by decide)] at h
            obtain ⟨rs, ρf, e, hf⟩ := noX_holds h
            refine ⟨ρ2, accD, accV, En, K3, dm3, to3, D3, R3, by omega, ?_⟩
            cases e2 : lcGo vs tg (lcBody Φ me (some mt')) (xs.drop (i + 1)) ρ2 with
            | ok rs2 ρ3 =>
              rw [e2] at e
              simp only [Res.bind_ok] at e
              cases e
              intro v' H' pe
              refine hf v' H' ?_
              simpa using pe
            | exn x ρ3 => rw [e2] at e; cases e
            | stuck => rw [e2] at e; cases e
          | true =>
            rw [if_pos rfl]
            intro X2 hX2
            have hK2 : X2.K = X.K := by obtain ⟨s, H, C, cl, fp, rfl⟩ := hX2; rfl
            rw [if_pos rfl] at h
            refine (he X2 hX2).sh (O := newO true O (.ref D)) (ρ := ρ2) (by rw [hK2]; exact c2.env) (Res.holds_mono (Res.holds_bind h) (fun a ρ3 h v H4 ps => ?_) fun x ρ2 h od H' px => h od H' ?_)
            · rw [hK2] at ps
              exact done c2 ps h
            · rw [hK2] at px
              rw [hK]
              exact px.fromC c2
    · -- the end
      rintro Hc ⟨ρc, accD, accV, A, B, C, T, D1, R, L, G⟩
      rw [List.drop_length] at G
      simp only [lcGo, Res.noX_ok] at G
      obtain ⟨Ef, tof, ob⟩ := E1.restore A T B (fun b z => .inl z) (fun b z => z.elim .inl fun ⟨_, z⟩ => by cases z; exact .inr hD) hvs
      refine G _ _ { env := Ef, kp := fun b o n e => ?_, dm := fun b h => C b (c.dm b h), to := c.to.trans tof, new := fun _ => ⟨D, rfl, c.gone hD, ?_⟩, rd := fun z => Bool.noConfusion z, rep := fun z => Bool.noConfusion z }
      · have ns : (ME.lc me vs tg k ms mt).still = false := by simp only [ME.still]
        exact B b o (fun z => n ⟨ns, c.to.wr (lockV_wr z).1⟩) (c.kp b o (fun z => n ⟨ns, z.2⟩) e)
      · rw [List.append_nil]
        refine ⟨accV, D1, R.ext (vis_ext (fun b z nb => ?_) fun _ _ _ e => e)⟩
        rcases z with z | z
        · exact .inl z
        · exact .inr (ob b z)
  · exact z.elim
end
end Z

namespace Z
open PySem PySem.Spec L2
open PyProof.Rows hiding St
section
variable {Φ : String → Option Fn} {X : Cx} {W : WX}
/-! ### slices -/
def tO (X : Cx) (e : Option Expr) : TO := match e with
  | none => tNoPart
  | some e => tPart (WE X e)
theorem po_w {e : Option Expr} : PO X e (tO X e) := by
  cases e with
  | none => exact po_none
  | some e => exact po_some pe_w
inductive SndO (Φ : String → Option Fn) (X : Cx) (W : WX) : Option Expr → Option ME → Prop
  | no : SndO Φ X W none none
  | yes {e : Expr} {m : ME} (h : SndE Φ X W e m) : SndO Φ X W (some e) (some m)
theorem SndO.bd {e : Option Expr} {m : Option ME} (h : SndO Φ X W e m) {O : Addr → Prop} {ρ0 ρ : Vn} {σ : L2.St} {H0 H : Hp} {st : Bool} {Q : Option Int → Hp → Prop} (c : PostC X.K O ρ0 σ H0 st ρ H) {β : Type} {f : Option Int → Vn → Res β} {P : β → Vn → Prop}
    (q : ((evO Φ m ρ).bind f).holds P (fun x ρ' => ∀ od H', PostX X.K O ρ0 σ H0 x ρ' od H' → W (.ref (He.ga X.K x.C)) od σ H'))
    (k : ∀ l ρ' H', PostC X.K O ρ σ H (stillO m) ρ' H' → (f l ρ').holds P (fun x ρ' => ∀ od H', PostX X.K O ρ0 σ H0 x ρ' od H' → W (.ref (He.ga X.K x.C)) od σ H') → Q l H') : tO X e σ H Q := by
  cases h with
  | no => exact k none ρ H (PostC.refl c.env) q
  | @yes e m h =>
    simp only [evO] at q
    have q2 : ((evE Φ m ρ).bind fun x ρ => (match x.2 with
      | .int i => Res.ok (some i) ρ
      | _ => .stuck).bind f).holds P (fun x ρ' => ∀ od H', PostX X.K O ρ0 σ H0 x ρ' od H' → W (.ref (He.ga X.K x.C)) od σ H') := by
      revert q
      cases evE Φ m ρ <;> exact id
    refine h.bd c q2 fun x ρ1 v H1 p q => ?_
    have r := p.rd
    cases z : x.2 with
    | int i =>
      rw [z] at r q
      exact ⟨i, r.scal rfl, k (some i) ρ1 H1 p.c q⟩
    | _ => rw [z] at q; exact q.elim
theorem cutD_reps {K : PySem.W.Frag} {G : Hp} {ds : List D} {vs : List V} (r : Reps K G ds vs) (lo hi : Option Int) : Reps K G (cutD ds lo hi) (cutV vs lo hi) := by
  unfold cutD cutV
  rw [r.length]
  exact (r.drop _).take _
theorem sIx_whole {n : Nat} {lo hi : Option Int} {α : Type} {xs : List α} (hn : xs.length = n) (h : HT.sIx n 0 lo = 0 ∧ HT.sIx n n hi = n) : cutD xs lo hi = xs := by
  unfold cutD
  rw [hn, h.1, h.2, List.drop_zero, Nat.sub_zero, ← hn, List.take_length]
theorem snd_slc {a : Expr} {lo hi : Option Expr} {pos p2 : Pos} {ma : ME} {ml mh : Option ME} (ha : SndE Φ X W a ma) (hl : SndO Φ X W lo ml) (hh : SndO Φ X W hi mh) (hr : ma.isRd = true → (stillO ml && stillO mh) = true) : SndE Φ X W (.Subscript a (.Slice lo hi none p2) pos) (.slc ma ml mh) := by
  intro O ρ σ H Q E q
  have lz : lim ≤ sizeLine := by rw [PySem.sizeLine_eq]; decide
  simp only [evE] at q
  refine WE.by (pe_slice (SlR.or sl_list (SlR.or sl_tupA sl_str)) pe_w po_w po_w) ?_
  refine ha.bd (PostC.refl (st := true) E) q fun x ρ1 v1 H1 p1 q => ?_
  refine hl.bd p1.c q fun l ρ2 H2 c2 q => ?_
  refine hh.bd (p1.c.trans c2) q fun u ρ3 H3 c3 q => ?_
  obtain ⟨⟨fl, d⟩, e, q⟩ := holds_opt q
  have c : PostC X.K O ρ σ H (ME.slc ma ml mh).still ρ3 H3 := by simpa only [ME.still] using (p1.c.trans c2).trans c3
  have r1 := p1.carry (c2.trans c3) hr
  have fin : ∀ v H', Made' X.K (vis (Hid O ρ3 σ) H3) H3 fl d v H' → Q v H' := fun v H' h => q _ _ (c.made h)
  unfold slcD at e
  split at e
  · rename_i ds hd
    rw [hd] at r1
    cases e
    obtain ⟨a, vs, rfl, s, rs⟩ := r1.lst vis_le
    exact .inl ⟨a, vs, rfl, s, fun p hp => fin _ _ (.lst hp (cutD_reps rs l u))⟩
  · rename_i ds hd
    rw [hd] at r1
    cases e
    rcases r1 with r1 | ⟨_, _, r1⟩
    · have g1 := r1
      simp only [Rep] at r1
      obtain ⟨a, vs, rfl, s, rs⟩ := r1
      refine .inr (.inl ⟨a, vs, rfl, sqT_ext vis_le s, fun z => ?_, fun _ p hp => fin _ _ (.tup hp (cutD_reps rs l u))⟩)
      rw [sIx_whole rs.length z] at fin
      exact fin _ _ (.same g1)
    · exact r1.elim
  · rename_i z hd
    rw [hd] at r1
    split at e
    · cases e
      cases r1.scal rfl
      exact .inr (.inr ⟨z, rfl, by omega, fin _ _ (.scal (d := .str _) rfl)⟩)
    · cases e
  · cases e
/-! ### dict displays -/
inductive SndD (Φ : String → Option Fn) (X : Cx) (W : WX) : List (Option Expr) → List Expr → List ME → Prop
  | nil : SndD Φ X W [] [] []
  | cons {k v : Expr} {ks : List (Option Expr)} {vs : List Expr} {mk mv : ME} {ms : List ME} (hk : SndE Φ X W k mk) (hv : SndE Φ X W v mv) (rk : mk.isRd = false) (rv : mv.isRd = false) (h : SndD Φ X W ks vs ms) : SndD Φ X W (some k :: ks) (v :: vs) (mk :: mv :: ms)
def prT (X : Cx) : List (Option Expr) → List Expr → List (TE × TE)
  | some k :: ks, v :: vs => (WE X k, WE X v) :: prT X ks vs
  | _, _ => []
theorem SndD.pps {pos : Pos} {ks : List (Option Expr)} {vs : List Expr} {ms : List ME} (h : SndD Φ X W ks vs ms) : PPs X pos ks vs (prT X ks vs) := by
  induction h with
  | nil => exact pps_nil
  | cons hk hv _ _ _ ih => exact pps_cons pe_w pe_w ih
theorem SndD.len {ks : List (Option Expr)} {vs : List Expr} {ms : List ME} (h : SndD Φ X W ks vs ms) : ks.length = vs.length ∧ ks.all (·.isSome) = true ∧ ms.length = 2 * ks.length := by
  induction h with
  | nil => exact ⟨rfl, rfl, rfl⟩
  | cons _ _ _ _ _ ih =>
    obtain ⟨a, b, c⟩ := ih
    simp [a, b, c]
    omega
def flatP : List (V × V) → List V
  | [] => []
  | p :: r => p.1 :: p.2 :: flatP r
theorem SndD.bd {ks : List (Option Expr)} {vs : List Expr} {ms : List ME} (h : SndD Φ X W ks vs ms) : ∀ {O : Addr → Prop} {ρ0 ρ : Vn} {σ : L2.St} {H0 H : Hp} {st : Bool} {Q : List (V × V) → Hp → Prop} (c : PostC X.K O ρ0 σ H0 st ρ H) {β : Type} {f : List D → Vn → Res β} {P : β → Vn → Prop}
    (q : ((evL Φ ms ρ).bind f).holds P (fun x ρ' => ∀ od H', PostX X.K O ρ0 σ H0 x ρ' od H' → W (.ref (He.ga X.K x.C)) od σ H'))
    (k : ∀ ds ρ' ps H', PostC X.K O ρ σ H (stillL ms) ρ' H' → Reps X.K (vis (Hid O ρ' σ) H') ds (flatP ps) → (f ds ρ').holds P (fun x ρ' => ∀ od H', PostX X.K O ρ0 σ H0 x ρ' od H' → W (.ref (He.ga X.K x.C)) od σ H') → Q ps H'), tPairs (prT X ks vs) σ H Q := by
  induction h with
  | nil =>
    intro O ρ0 ρ σ H0 H st Q c β f P q k
    simp only [evL, Res.bind_ok] at q
    exact k [] ρ [] H (PostC.refl c.env) (by simp only [flatP, Reps]) q
  | @cons ke ve ks vs mk mv ms hk hv rk rv _ ih =>
    intro O ρ0 ρ σ H0 H st Q c β f P q k
    have q2 : ((evE Φ mk ρ).bind fun x ρ => (evE Φ mv ρ).bind fun y ρ => (evL Φ ms ρ).bind fun xs ρ => f (x.2 :: y.2 :: xs) ρ).holds P (fun x ρ' => ∀ od H', PostX X.K O ρ0 σ H0 x ρ' od H' → W (.ref (He.ga X.K x.C)) od σ H') := by
      revert q
      simp only [evL]
      cases evE Φ mk ρ with
      | ok x ρ1 =>
        simp only [Res.bind_ok]
        cases evE Φ mv ρ1 with
        | ok y ρ2 =>
          simp only [Res.bind_ok]
          cases evL Φ ms ρ2 <;> exact id
        | _ => exact id
      | _ => exact id
    refine hk.bd c q2 fun x ρ1 v1 H1 p1 q => ?_
    refine hv.bd (c.trans p1.c) q fun y ρ2 v2 H2 p2 q => ?_
    refine ih ((c.trans p1.c).trans p2.c) q fun ds ρ3 ps H3 c3 r q => ?_
    refine k _ ρ3 ((v1, v2) :: ps) H3 ?_ ?_ q
    · have e : stillL (mk :: mv :: ms) = (mk.still && (mv.still && stillL ms)) := by simp only [stillL]
      rw [e]
      exact p1.c.trans (p2.c.trans c3)
    · simp only [flatP, Reps]
      exact ⟨v1, _, rfl, (p1.rep rk).ext (p2.c.trans c3).ext, v2, _, rfl, (p2.rep rv).ext c3.ext, r⟩
theorem prs_ok {K : PySem.W.Frag} {G : Hp} : ∀ {ds : List D} {ps : List (V × V)} {kvs : List (Key × D)}, Reps K G ds (flatP ps) → prsD ds = some kvs → ∃ ws : List (Key × V), ps = ws.map (fun kv => (kV kv.1, kv.2)) ∧ RepK K G kvs ws
  | ds, [], kvs, r, e => by
    simp only [flatP] at r
    have := r.length
    rw [List.length_nil, List.length_eq_zero_iff] at this
    subst this
    simp only [prsD] at e
    cases e
    exact ⟨[], rfl, by simp only [RepK]⟩
  | ds, p :: ps, kvs, r, e => by
    simp only [flatP] at r
    have hl := r.length
    match ds, hl with
    | d1 :: d2 :: ds, _ =>
      simp only [Reps] at r
      obtain ⟨v1, r1, e1, s1, v2, r2, e2, s2, r⟩ := r
      cases e1; cases e2
      simp only [prsD] at e
      cases z1 : keyD d1 with
      | none => rw [z1] at e; cases e
      | some k =>
        cases z2 : prsD ds with
        | none => rw [z1, z2] at e; cases e
        | some kr =>
          rw [z1, z2] at e
          cases e
          obtain ⟨ws, e3, rk⟩ := prs_ok r z2
          refine ⟨(k, p.2) :: ws, ?_, ?_⟩
          · rw [List.map_cons, ← e3]
            have : p.1 = kV k := by
              cases d1 with
              | int i => cases z1; simp only [Rep] at s1; exact s1
              | str i => cases z1; simp only [Rep] at s1; exact s1
              | _ => cases z1
            rw [← this]
          · simp only [RepK]
            exact ⟨p.2, ws, rfl, s2, rk⟩
    | [_], h => simp at h
theorem RepK.any {K : PySem.W.Frag} {G : Hp} (k : Key) : ∀ {ds : List (Key × D)} {ws : List (Key × V)}, RepK K G ds ws → (ds.any fun kv => decide (kv.1 = k)) = (ws.any fun kv => decide (kv.1 = k))
  | [], _, r => by simp only [RepK] at r; subst r; rfl
  | (k', d) :: ds, _, r => by
    simp only [RepK] at r
    obtain ⟨v, r1, rfl, _, t⟩ := r
    simp only [List.any_cons, RepK.any k t]
theorem RepK.append {K : PySem.W.Frag} {G : Hp} : ∀ {ds es : List (Key × D)} {vs ws : List (Key × V)}, RepK K G ds vs → RepK K G es ws → RepK K G (ds ++ es) (vs ++ ws)
  | [], _, _, _, h, g => by simp only [RepK] at h; subst h; simpa using g
  | (k, d) :: ds, _, _, _, h, g => by
    simp only [RepK] at h
    obtain ⟨v, r, rfl, s, t⟩ := h
    simp only [List.cons_append, RepK]
    exact ⟨v, _, rfl, s, RepK.append t g⟩
theorem RepK.repl {K : PySem.W.Frag} {G : Hp} {k : Key} {d : D} {v : V} (rv : Rep K G d v) : ∀ {ds : List (Key × D)} {ws : List (Key × V)}, RepK K G ds ws → RepK K G (ds.map fun kv => if kv.1 = k then (kv.1, d) else kv) (ws.map fun kv => if kv.1 = k then (kv.1, v) else kv)
  | [], _, r => by simp only [RepK] at r; subst r; simp [RepK]
  | (k', d') :: ds, _, r => by
    simp only [RepK] at r
    obtain ⟨v', r1, rfl, s, t⟩ := r
    simp only [List.map_cons]
    by_cases h : k' = k
    · simp only [h, if_true, RepK]
      exact ⟨v, _, rfl, rv, RepK.repl rv t⟩
    · simp only [h, if_false, RepK]
      exact ⟨v', _, rfl, s, RepK.repl rv t⟩
theorem RepK.put {K : PySem.W.Frag} {G : Hp} {k : Key} {d : D} {v : V} {ds : List (Key × D)} {ws : List (Key × V)} (r : RepK K G ds ws) (rv : Rep K G d v) : RepK K G (putD ds k d) (putK ws k v) := by
  unfold putD putK
  rw [r.any k]
  split
  · exact r.repl rv
  · refine r.append ?_
    simp only [RepK]
    exact ⟨v, [], rfl, rv, rfl⟩
theorem RepK.merge {K : PySem.W.Frag} {G : Hp} : ∀ {es ds : List (Key × D)} {vs ws : List (Key × V)}, RepK K G ds ws → RepK K G es vs → RepK K G (es.foldl (fun acc kv => putD acc kv.1 kv.2) ds) (mergeK ws vs)
  | [], _, _, _, r, g => by simp only [RepK] at g; subst g; exact r
  | (k, d) :: es, _, _, _, r, g => by
    simp only [RepK] at g
    obtain ⟨v, r1, rfl, s, t⟩ := g
    simp only [List.foldl_cons]
    rw [show mergeK _ ((k, v) :: r1) = mergeK (putK _ k v) r1 from rfl]
    exact RepK.merge (r.put s) t
theorem PostX.shrink {K : PySem.W.Frag} {O : Addr → Prop} {ρ ρ' : Vn} {σ : L2.St} {H H' : Hp} {p : Addr} {o : HO} {x : Exn} {od : Option Addr} (E0 : EnvOk K O ρ σ H) (hp : H p = none) (h : PostX K (newO true O (.ref p)) ρ σ (upd H p o) x ρ' od H') : PostX K O ρ σ H x ρ' od H' where
  env := E0.share h.to h.env
  kp := fun b u n e => h.kp b u n (upd_kp hp b u e)
  dm := fun b e => h.dm b (upd_dm e)
  to := h.to
  rep := by
    have r := h.rep
    unfold ExnRep at r ⊢
    split
    · rename_i e; rw [e] at r; exact r
    · rename_i fs e
      split at r
      · rename_i e2; exact absurd e2 e
      · obtain ⟨d, ws, a, b, c⟩ := r
        exact ⟨d, ws, a, b, c.ext (vis_ext (fun b z _ => z.mono fun _ h => .inl h) fun _ _ _ e => e)⟩
theorem snd_dsp {ks : List (Option Expr)} {vs : List Expr} {ms : List ME} {pos : Pos} (h : SndD Φ X W ks vs ms) (h15 : ks.length ≤ 15) : SndE Φ X W (.Dict ks vs pos) (.dsp ms) := by
  intro O ρ σ H Q E q
  simp only [evE] at q
  have hst : (ME.dsp ms).still = stillL ms := by simp only [ME.still]
  by_cases h0 : ks = []
  · subst h0
    cases h
    simp only [evL, Res.bind_ok] at q
    refine WE.by pe_dnewK fun p hp => ?_
    have c : PostC X.K O ρ σ H (ME.dsp []).still ρ H := PostC.refl E
    exact q _ _ (c.new hp ⟨[], upd_same, show RepK X.K _ [] [] by simp only [RepK]⟩)
  · obtain ⟨hl, hall, _⟩ := h.len
    refine WE.by (pe_disp h.pps hall hl h0 h15) fun p hp => ?_
    have E1 := E.laid (o := .dK []) hp
    refine h.bd (PostC.refl (st := true) E1) (Res.holds_mono q (fun a ρ' z => z) fun x ρ' z od H' px => z od H' (px.shrink E hp)) fun ds ρ1 ps H2 c r q => ?_
    have np : ¬ OwnA ρ σ p := fun z => E.domH p (.inr z) hp
    have e2 : H2 p = some (.dK []) := c.kp p _ (fun z => np z.2.own) upd_same
    obtain ⟨⟨fl, d⟩, e, q⟩ := holds_opt q
    unfold dspD at e
    cases z : prsD ds with
    | none => rw [z] at e; cases e
    | some kvs =>
      rw [z] at e
      simp only at e
      split at e
      · rename_i hk
        cases e
        obtain ⟨ws, e3, rk⟩ := prs_ok r z
        refine ⟨e2, ws, e3, by rw [← rk.length]; exact hk, ?_⟩
        have np1 : ¬ OwnA ρ1 σ p := fun z => np (c.to.own z)
        refine q _ _ { env := c.env.updHid (.inr ⟨rfl, rfl⟩) np1, kp := fun b u n e => ?_, dm := fun b h => upd_dm (c.dm b (upd_dm h)), to := c.to, new := fun _ => ⟨p, rfl, hp, ?_⟩, rd := fun z => Bool.noConfusion z, rep := fun z => Bool.noConfusion z }
        · have ne : b ≠ p := ne_of_none e hp
          rw [upd_ne ne]
          refine c.kp b u (fun z => n ⟨by rw [hst]; exact z.1, z.2⟩) (upd_kp hp b u e)
        · refine ⟨_, upd_same, RepK.merge (by simp only [RepK]) (rk.ext (vis_ext (fun _ z _ => z) fun b o n e => ?_))⟩
          have ne : b ≠ p := fun z => by subst z; exact n (.inl (.inr ⟨rfl, rfl⟩))
          rw [upd_ne ne]; exact e
      · cases e
end
end Z

namespace Z
open PySem PySem.Spec L2
open PyProof.Rows hiding St
/-! ### what a statement leaves -/
structure PostT (K : PySem.W.Frag) (O : Addr → Prop) (ρ : Vn) (σ : L2.St) (H : Hp) (ρ' : Vn) (σ' : L2.St) (H' : Hp) : Prop where
  env : EnvOk K O ρ' σ' H'
  kp : Kp (WrA ρ σ) H H'
  dm : ∀ b, H b ≠ none → H' b ≠ none
  own : ∀ b, OwnA ρ' σ' b → OwnA ρ σ b ∨ H b = none
  wr : ∀ b, WrA ρ' σ' b → WrA ρ σ b ∨ H b = none
  prot : ∀ (i : Nat) (s : Sl), ρ[i]? = some s → s.free = false → (∃ s', ρ'[i]? = some s' ∧ s.to s') ∧ σ'[i]? = σ[i]?
  len : ρ'.length = ρ.length
structure PostR (K : PySem.W.Frag) (O : Addr → Prop) (ρ : Vn) (σ : L2.St) (H : Hp) (fl : Bool) (d : D) (ρ' : Vn) (v : V) (σ' : L2.St) (H' : Hp) : Prop where
  env : EnvOk K (newO fl O v) ρ' σ' H'
  kp : Kp (WrA ρ σ) H H'
  dm : ∀ b, H b ≠ none → H' b ≠ none
  prot : ∀ (i : Nat) (s : Sl), ρ[i]? = some s → s.free = false → (∃ s', ρ'[i]? = some s' ∧ s.to s') ∧ σ'[i]? = σ[i]?
  len : ρ'.length = ρ.length
  own : ∀ b, OwnA ρ' σ' b → OwnA ρ σ b ∨ H b = none
  new : fl = true → ∃ p, v = .ref p ∧ ¬ O p ∧ (OwnA ρ σ p ∨ H p = none) ∧ Top K (vis (Hid (newO fl O v) ρ' σ') H') H' d p
  rep : fl = false → Rep K (vis (Hid O ρ' σ') H') d v
  sep : fl = true → ∀ b, v = .ref b → ¬ OwnA ρ' σ' b
structure PostTX (K : PySem.W.Frag) (O : Addr → Prop) (ρ : Vn) (σ : L2.St) (H : Hp) (x : Exn) (ρ' : Vn) (od : Option Addr) (σ' : L2.St) (H' : Hp) : Prop where
  env : EnvOk K O ρ' σ' H'
  kp : Kp (WrA ρ σ) H H'
  dm : ∀ b, H b ≠ none → H' b ≠ none
  own : ∀ b, OwnA ρ' σ' b → OwnA ρ σ b ∨ H b = none
  prot : ∀ (i : Nat) (s : Sl), ρ[i]? = some s → s.free = false → (∃ s', ρ'[i]? = some s' ∧ s.to s') ∧ σ'[i]? = σ[i]?
  len : ρ'.length = ρ.length
  rep : ExnRep K (vis (Hid O ρ' σ') H') H' x od
theorem Sl.to_free {a b : Sl} (h : a.to b) (f : a.free = false) : b.free = false := by
  cases a with
  | io d => simp only [Sl.to] at h; obtain ⟨d', rfl⟩ := h; rfl
  | lkd d => simp only [Sl.to] at h; subst h; rfl
  | _ => cases f
section
variable {K : PySem.W.Frag} {O : Addr → Prop} {ρ ρ1 ρ2 ρ' : Vn} {σ σ1 σ2 σ' : L2.St} {H H1 H2 H' : Hp} {d : D} {v : V} {fl st : Bool}
theorem PostT.refl (E : EnvOk K O ρ σ H) : PostT K O ρ σ H ρ σ H := ⟨E, Kp.refl, fun _ h => h, fun _ h => .inl h, fun _ h => .inl h, fun i s e _ => ⟨⟨s, e, s.to_refl⟩, rfl⟩, rfl⟩
theorem PostC.t (c : PostC K O ρ σ H st ρ' H') : PostT K O ρ σ H ρ' σ H' := ⟨c.env, c.kp.mono fun _ z => z.2, c.dm, fun _ h => .inl (c.to.own h), fun _ h => .inl (c.to.wr h), fun i s e _ => ⟨c.to.2 i s e, rfl⟩, c.to.1⟩
theorem PostX.t {x : Exn} {od : Option Addr} (p : PostX K O ρ σ H x ρ' od H') : PostTX K O ρ σ H x ρ' od σ H' := ⟨p.env, p.kp, p.dm, fun _ h => .inl (p.to.own h), fun i s e _ => ⟨p.to.2 i s e, rfl⟩, p.to.1, p.rep⟩
theorem PostT.gone (a : PostT K O ρ σ H ρ1 σ1 H1) {b : Addr} (h : H1 b = none) : H b = none := by
  cases q : H b with
  | none => rfl
  | some o => exact absurd h (a.dm b (by rw [q]; simp))
theorem PostT.kp2 (a : PostT K O ρ σ H ρ1 σ1 H1) (h : Kp (WrA ρ1 σ1) H1 H2) : Kp (WrA ρ σ) H H2 := fun b o n e => h b o (fun z => (a.wr b z).elim n fun z => by rw [z] at e; cases e) (a.kp b o n e)
theorem PostT.own2 (a : PostT K O ρ σ H ρ1 σ1 H1) {b : Addr} (h : OwnA ρ1 σ1 b ∨ H1 b = none) : OwnA ρ σ b ∨ H b = none := h.elim (a.own b) fun z => .inr (a.gone z)
theorem PostT.prot2 (a : PostT K O ρ σ H ρ1 σ1 H1) (h : ∀ (i : Nat) (s : Sl), ρ1[i]? = some s → s.free = false → (∃ s', ρ2[i]? = some s' ∧ s.to s') ∧ σ2[i]? = σ1[i]?) : ∀ (i : Nat) (s : Sl), ρ[i]? = some s → s.free = false → (∃ s', ρ2[i]? = some s' ∧ s.to s') ∧ σ2[i]? = σ[i]? := fun i s e f => by
  obtain ⟨⟨s1, e1, t1⟩, q1⟩ := a.prot i s e f
  obtain ⟨⟨s2, e2, t2⟩, q2⟩ := h i s1 e1 (Sl.to_free t1 f)
  exact ⟨⟨s2, e2, Sl.to_trans t1 t2⟩, q2.trans q1⟩
theorem PostT.trans (a : PostT K O ρ σ H ρ1 σ1 H1) (b : PostT K O ρ1 σ1 H1 ρ2 σ2 H2) : PostT K O ρ σ H ρ2 σ2 H2 :=
  ⟨b.env, a.kp2 b.kp, fun c h => b.dm c (a.dm c h), fun c h => a.own2 (b.own c h), fun c h => (b.wr c h).elim (a.wr c) fun z => .inr (a.gone z), a.prot2 b.prot, b.len.trans a.len⟩
theorem PostR.trans (a : PostT K O ρ σ H ρ1 σ1 H1) (b : PostR K O ρ1 σ1 H1 fl d ρ2 v σ2 H2) : PostR K O ρ σ H fl d ρ2 v σ2 H2 :=
  ⟨b.env, a.kp2 b.kp, fun c h => b.dm c (a.dm c h), a.prot2 b.prot, b.len.trans a.len, fun c h => a.own2 (b.own c h), fun z => let ⟨p, e, n, g, t⟩ := b.new z; ⟨p, e, n, a.own2 g, t⟩, b.rep, b.sep⟩
theorem PostTX.trans {x : Exn} {od : Option Addr} (a : PostT K O ρ σ H ρ1 σ1 H1) (b : PostTX K O ρ1 σ1 H1 x ρ2 od σ2 H2) : PostTX K O ρ σ H x ρ2 od σ2 H2 :=
  ⟨b.env, a.kp2 b.kp, fun c h => b.dm c (a.dm c h), fun c h => a.own2 (b.own c h), a.prot2 b.prot, b.len.trans a.len, b.rep⟩
end
/-! ### ends -/
structure Hs where
  nx : Vn → Prop
  rt : Bool → D → Vn → Prop
  bk : Vn → Prop
  ct : Vn → Prop
  exn : Exn → Vn → Prop
def Out.holds (o : Out) (h : Hs) : Prop := match o with
  | .nx ρ => h.nx ρ
  | .rt fl d ρ => h.rt fl d ρ
  | .bk ρ => h.bk ρ
  | .ct ρ => h.ct ρ
  | .exn x ρ => h.exn x ρ
  | .stuck => False
structure Hs.le (h g : Hs) : Prop where
  nx : ∀ ρ, h.nx ρ → g.nx ρ
  rt : ∀ fl d ρ, h.rt fl d ρ → g.rt fl d ρ
  bk : ∀ ρ, h.bk ρ → g.bk ρ
  ct : ∀ ρ, h.ct ρ → g.ct ρ
  exn : ∀ x ρ, h.exn x ρ → g.exn x ρ
theorem Out.holds_mono {o : Out} {h g : Hs} (q : o.holds h) (l : h.le g) : o.holds g := by
  cases o with
  | nx ρ => exact l.nx _ q
  | rt fl d ρ => exact l.rt _ _ _ q
  | bk ρ => exact l.bk _ q
  | ct ρ => exact l.ct _ q
  | exn x ρ => exact l.exn _ _ q
  | stuck => exact q
theorem out_holds {α : Type} {r : Res α} {f : α → Vn → Out} {h : Hs} (q : (r.out f).holds h) : r.holds (fun a ρ => (f a ρ).holds h) h.exn := by
  cases r <;> exact q
theorem out_opt {α : Type} {o : Option α} {ρ : Vn} {f : α → Vn → Out} {h : Hs} (q : ((ofOpt o ρ).out f).holds h) : ∃ a, o = some a ∧ (f a ρ).holds h := by
  cases o with
  | none => exact q.elim
  | some a => exact ⟨a, rfl, q⟩
def hsOf (K : PySem.W.Frag) (W : WX) (O : Addr → Prop) (ρ : Vn) (σ : L2.St) (H : Hp) (D : Ends) : Hs where
  nx := fun ρ' => ∀ σ' H', PostT K O ρ σ H ρ' σ' H' → D.nx σ' H'
  rt := fun fl d ρ' => ∀ v σ' H', PostR K O ρ σ H fl d ρ' v σ' H' → D.rt v H'
  bk := fun ρ' => ∀ σ' H', PostT K O ρ σ H ρ' σ' H' → D.bk σ' H'
  ct := fun ρ' => ∀ σ' H', PostT K O ρ σ H ρ' σ' H' → D.ct σ' H'
  exn := fun x ρ' => ∀ od σ' H', PostTX K O ρ σ H x ρ' od σ' H' → W (.ref (He.ga K x.C)) od σ' H'
theorem hs_on {K : PySem.W.Frag} {W : WX} {O : Addr → Prop} {ρ ρ1 : Vn} {σ σ1 : L2.St} {H H1 : Hp} {D : Ends} (a : PostT K O ρ σ H ρ1 σ1 H1) : (hsOf K W O ρ σ H D).le (hsOf K W O ρ1 σ1 H1 D) where
  nx := fun _ h σ' H' p => h σ' H' (a.trans p)
  rt := fun _ _ _ h v σ' H' p => h v σ' H' (PostR.trans a p)
  bk := fun _ h σ' H' p => h σ' H' (a.trans p)
  ct := fun _ h σ' H' p => h σ' H' (a.trans p)
  exn := fun _ _ h od σ' H' p => h od σ' H' (PostTX.trans a p)
section
variable (Φ : String → Option Fn) (X : Cx) (W : WX)
def SndSt (n : Nat) (st : Stmt) (s : MS) : Prop := ∀ (O : Addr → Prop) (ρ : Vn) (σ : L2.St) (H : Hp) (D : Ends), EnvOk X.K O ρ σ H → (exS Φ n s ρ).holds (hsOf X.K W O ρ σ H D) → WS X st D σ H
def SndSs (n : Nat) (st : List Stmt) (s : List MS) : Prop := ∀ (O : Addr → Prop) (ρ : Vn) (σ : L2.St) (H : Hp) (D : Ends), EnvOk X.K O ρ σ H → (exB Φ n s ρ).holds (hsOf X.K W O ρ σ H D) → WB X st D σ H
end
section
variable {Φ : String → Option Fn} {X : Cx} {W : WX} {n : Nat}
theorem ss_nil : SndSs Φ X W n [] [] := by
  intro O ρ σ H D E q
  simp only [exB] at q
  exact WB.by pss_nil (q σ H (PostT.refl E))
theorem ss_cons {st : Stmt} {rest : List Stmt} {s : MS} {ss : List MS} (h1 : SndSt Φ X W n st s) (h2 : SndSs Φ X W n rest ss) : SndSs Φ X W n (st :: rest) (s :: ss) := by
  intro O ρ σ H D E q
  simp only [exB] at q
  refine WB.by (pss_cons ps_w pss_w) ?_
  refine h1 O ρ σ H _ E ?_
  revert q
  cases exS Φ n s ρ with
  | nx ρ1 =>
    intro q σ1 H1 p
    exact h2 O ρ1 σ1 H1 D p.env (Out.holds_mono q (hs_on p))
  | _ => exact id
/-- an expression, then the statement's end -/
theorem SndE.st {e : Expr} {m : ME} (h : SndE Φ X W e m) {O : Addr → Prop} {ρ : Vn} {σ : L2.St} {H : Hp} {D : Ends} {Q : VK} (E : EnvOk X.K O ρ σ H) {f : Bool × Z.D → Vn → Out}
    (q : ((evE Φ m ρ).out f).holds (hsOf X.K W O ρ σ H D)) (k : ∀ a ρ' v H', PostE X.K O ρ σ H m a.1 a.2 ρ' v H' → (f a ρ').holds (hsOf X.K W O ρ σ H D) → Q v H') : WE X e σ H Q :=
  h O ρ σ H Q E (Res.holds_mono (out_holds q) (fun a ρ' z v H' p => k a ρ' v H' p z) fun x ρ' z od H' p => z od σ H' p.t)
/-- .. its object let go -/
theorem SndE.sts {e : Expr} {m : ME} (h : SndE Φ X W e m) {O : Addr → Prop} {ρ0 ρ : Vn} {σ0 σ : L2.St} {H0 H : Hp} {D : Ends} {Q : VK} (a : PostT X.K O ρ0 σ0 H0 ρ σ H) {f : Bool × Z.D → Vn → Out}
    (q : ((evE Φ m ρ).out f).holds (hsOf X.K W O ρ0 σ0 H0 D)) (k : ∀ a ρ' v H', PostS X.K O ρ σ H m a.2 ρ' v H' → (f a ρ').holds (hsOf X.K W O ρ0 σ0 H0 D) → Q v H') : WE X e σ H Q :=
  h.sh a.env (Res.holds_mono (out_holds q) (fun a ρ' z v H' p => k a ρ' v H' p z) fun x ρ' z od H' p => z od σ H' (PostTX.trans a p.t))
theorem st_bad {st : Stmt} : SndSt Φ X W n st .bad := by
  intro O ρ σ H D E q
  simp only [exS] at q
  exact q.elim
theorem st_pass {pos : Pos} : SndSt Φ X W n (.Pass pos) .pass := by
  intro O ρ σ H D E q
  simp only [exS] at q
  exact WS.by ps_pass (q σ H (PostT.refl E))
theorem st_doc {x : Str} {j : Nat} {pos pos' : Pos} : SndSt Φ X W n (.Expr (.Constant (.str x) j pos) pos') .pass := by
  intro O ρ σ H D E q
  simp only [exS] at q
  exact WS.by ps_doc (q σ H (PostT.refl E))
theorem st_brk {pos : Pos} : SndSt Φ X W n (.Break pos) .brk := by
  intro O ρ σ H D E q
  simp only [exS] at q
  exact WS.by ps_break (q σ H (PostT.refl E))
theorem st_expr {e : Expr} {m : ME} {pos : Pos} (he : SndE Φ X W e m) (hc : isComp e = false) : SndSt Φ X W n (.Expr e pos) (.expr m) := by
  intro O ρ σ H D E q
  simp only [exS] at q
  have hs : swapsWith e none pos.line X.env = pure false := by cases e <;> first | rfl | cases hc
  refine WS.by (ps_expr pe_w hs) ?_
  exact he.sts (PostT.refl E) q fun a ρ1 v H1 p q => q σ H1 p.c.t
theorem st_ite {c : Expr} {a b : List Stmt} {mc : ME} {ma mb : List MS} {pos : Pos} (hc : SndT Φ X W c mc) (ha : SndSs Φ X W n a ma) (hb : SndSs Φ X W n b mb) : SndSt Φ X W n (.If c a b pos) (.ite mc ma mb) := by
  intro O ρ σ H D E q
  simp only [exS] at q
  refine WS.by (ps_if pt_w pss_w pss_w) ?_
  have q2 : (HT Φ mc ρ).holds (fun k ρ' => (if k then exB Φ n ma ρ' else exB Φ n mb ρ').holds (hsOf X.K W O ρ σ H D)) (fun x ρ' => (hsOf X.K W O ρ σ H D).exn x ρ') := by
    unfold HT
    revert q
    cases evE Φ mc ρ with
    | ok x ρ1 =>
      simp only [Res.out_ok, Res.bind_ok]
      cases truD x.2 <;> exact id
    | _ => exact id
  refine hc O ρ σ H _ E (Res.holds_mono q2 (fun k ρ1 z H1 p => ?_) fun x ρ' z od H' p => z od σ H' p.t)
  cases k with
  | true => exact ha O ρ1 σ H1 D p.env (Out.holds_mono z (hs_on p.t))
  | false => exact hb O ρ1 σ H1 D p.env (Out.holds_mono z (hs_on p.t))
/-! ### a name takes a value -/
theorem PostE.hio {K : PySem.W.Frag} {O : Addr → Prop} {ρ ρ1 : Vn} {σ : L2.St} {H : Hp} (E : EnvOk K O ρ σ H) (to : EvTo ρ ρ1) : ∀ (j : Nat) (d : Z.D) (b : Addr), ρ1[j]? = some (.io d) → σ[j]? = some (some (.ref b)) → O b := fun j d b e s => by
  obtain ⟨s0, e0, t⟩ := to.back e
  cases s0 with
  | io d0 =>
    obtain ⟨a', s', z, _⟩ := E.io j d0 e0
    rw [s] at s'; cases s'; exact z
  | own d0 => simp only [Sl.to] at t; rcases t with ⟨_, t⟩ | ⟨_, t⟩ <;> cases t
  | _ => simp only [Sl.to] at t; cases t
theorem PostE.put {K : PySem.W.Frag} {O : Addr → Prop} {ρ ρ1 ρ2 : Vn} {σ : L2.St} {H H1 : Hp} {m : ME} {fl : Bool} {d : Z.D} {v : V} {i : Nat} (E : EnvOk K O ρ σ H) (p : PostE K O ρ σ H m fl d ρ1 v H1) (hr : m.isRd = false) (e : setS ρ1 i (if fl then .own d else .val d) = some ρ2) : PostT K O ρ σ H ρ2 (σ.set i (some v)) H1 := by
  obtain ⟨s0, e0, f0, rfl⟩ := setS_some e
  have protA : ∀ (t : Sl), ∀ (j : Nat) (s : Sl), ρ[j]? = some s → s.free = false → (∃ s', (ρ1.set i t)[j]? = some s' ∧ s.to s') ∧ (σ.set i (some v))[j]? = σ[j]? := fun t j s ej fj => by
    obtain ⟨s', e', t'⟩ := p.to.2 j s ej
    have ne : j ≠ i := fun h => by
      subst h
      rw [e0] at e'; cases e'
      have := Sl.to_free t' fj
      rw [f0] at this; cases this
    exact ⟨⟨s', by rw [List.getElem?_set_ne (Ne.symm ne)]; exact e', t'⟩, by rw [List.getElem?_set_ne (Ne.symm ne)]⟩
  cases fl with
  | true =>
    obtain ⟨q, rfl, hq, t⟩ := p.new rfl
    have nq : ¬ OwnA ρ σ q := fun z => E.domH q (.inr z) hq
    refine ⟨EnvOk.setOwn p.env (PostE.hio E p.to) (fun b z hb => by subst hb; exact nq (p.to.own z)) (fun z => E.dom q z hq) t, p.kp.mono fun _ z => z.2, p.dm, fun b z => ?_, fun b z => ?_, protA _, by rw [List.length_set]; exact p.to.1⟩
    · rcases own_set (a := q) (fun _ => rfl) z with z | ⟨_, rfl⟩
      · exact .inl (p.to.own z)
      · exact .inr hq
    · rcases wr_set (a := q) (fun _ => rfl) z with z | ⟨_, rfl⟩
      · exact .inl (p.to.wr z)
      · exact .inr hq
  | false =>
    have E1 := p.env
    rw [newO_false] at E1
    refine ⟨E1.setVal (.inr ⟨d, v, rfl, rfl, p.rep rfl hr⟩), p.kp.mono fun _ z => z.2, p.dm, fun b z => ?_, fun b z => ?_, protA _, by rw [List.length_set]; exact p.to.1⟩
    · rcases own_set (a := 0) (fun w => by cases w) z with z | ⟨w, _⟩
      · exact .inl (p.to.own z)
      · cases w
    · rcases wr_set (a := 0) (fun w => by cases w) z with z | ⟨w, _⟩
      · exact .inl (p.to.wr z)
      · cases w
theorem st_set {x : Str} {i : Nat} {e : Expr} {m : ME} {px pos : Pos} (hN : X.N.Nodup) (hi : X.N[i]? = some x) (hx : Loc X.env.scope x) (hf : X.fn x = true ∨ X.env.scope.names.lookup x = some .local) (he : SndE Φ X W e m) (hr : m.isRd = false) (hc : isComp e = false) :
    SndSt Φ X W n (.Assign [.Name x px] e pos) (.set (.nm i) m) := by
  intro O ρ σ H D E q
  simp only [exS] at q
  have hs : swapsWith e (some (.Name x px)) pos.line X.env = pure false := by cases e <;> first | rfl | cases hc
  refine WS.by (ps_set hN hi hx pe_w hs hf) ?_
  refine he.st E q fun a ρ1 v H1 p q => ?_
  obtain ⟨ρ2, e2, q⟩ := out_opt q
  exact q _ _ (p.put E hr e2)
/-- name = [.. for ..] -/
theorem st_setLc {y : Str} {py pos spos : Pos} {i : Nat} {elt tgE iter : Expr} {t : Option Expr} {scope : Scope} {own : List (Str × Nat)} {tg : MT} {k : Nat} {ms : List ME} {me : ME} {mt : Option ME} (hca : X.calm = true) (hN : X.N.Nodup) (hy : X.N[i]? = some y) (hyl : X.env.scope.names.lookup y = some .local)
    (hsw : swapsWith (.ListComp elt [⟨tgE, iter, ifsOf t, 0⟩] scope pos) (some (.Name y py)) spos.line X.env = pure true) (ok : BlkOk X.N X.env.scope scope own) (hg : ∀ (s : Shared) (H : Hp) (C : Addr) (cl : List (Str × Addr)) (fp : List Addr), PG (X.blk s H scope (compEnvC scope cl C X.env) fp) tgE (gOf X.K tg))
    (hs : ∀ x, foldedSetIterable iter X.env x = pure x)
    (hi : SndI Φ X W tgE iter k ms) (he : ∀ X', IsBlk X scope X' → SndE Φ X' WF elt me) (hr : me.isRd = false) (ht : (t = none ∧ mt = none) ∨ ∃ te mt', t = some te ∧ mt = some mt' ∧ ∀ X', IsBlk X scope X' → SndT Φ X' WF te mt') (hts : ∀ i ∈ tg.slots, i ∈ own.map (·.2)) :
    SndSt Φ X W n (.Assign [.Name y py] (.ListComp elt [⟨tgE, iter, ifsOf t, 0⟩] scope pos) spos) (.set (.nm i) (.lc me (own.map (·.2)) tg k ms mt)) := by
  intro O ρ σ H D E q
  simp only [exS] at q
  refine WS.by (ps_setLc hca hN hy hyl hsw pi_w ok hg ttB_ok teB_ok hs) ?_
  refine lc_run hi he hr ht hts E (Res.holds_mono (out_holds q) (fun a ρ1 z v H1 p => ?_) fun x ρ' z od H' p => z od σ H' p.t)
  obtain ⟨ρ2, e2, z⟩ := out_opt z
  exact z _ _ (p.put E rfl e2)
theorem PostT.ofV {K : PySem.W.Frag} {O : Addr → Prop} {ρ ρ1 ρ2 : Vn} {σ σ2 : L2.St} {H H1 : Hp} {st : Bool} {is : List Nat} (c : PostC K O ρ σ H st ρ1 H1) (p : PostV K O ρ1 σ H1 is ρ2 σ2) : PostT K O ρ σ H ρ2 σ2 H1 :=
  c.t.trans ⟨p.env, Kp.refl, fun _ h => h, fun b z => .inl (p.own b z), fun b z => .inl (p.wr b z), fun i s e f => ⟨⟨s, by rw [(p.prot i s e f).1]; exact e, s.to_refl⟩, (p.prot i s e f).2⟩, p.len⟩
theorem st_asg {tgE e : Expr} {m : ME} {is : List Nat} {pos : Pos} (he : SndE Φ X W e m) (hr : m.isRd = false) (hg : PG X tgE (gOf X.K (.tp is))) (hs : swapsWithSole [tgE] e pos.line X.env = pure false) (hw : swappedStores [tgE] e X.env = pure none) (h1 : (assignEach [tgE] X.env).map (·.2) = [assign tgE X.env]) :
    SndSt Φ X W n (.Assign [tgE] e pos) (.set (.tp is) m) := by
  intro O ρ σ H D E q
  simp only [exS] at q
  refine WS.by (ps_asg pe_w hg hs hw h1) ?_
  refine he.sts (PostT.refl E) q fun a ρ1 v H1 p q => ?_
  obtain ⟨ρ2, e2, q⟩ := out_opt q
  exact asgT_ok p.env e2 (p.rep hr) fun σ2 pv => q _ _ (PostT.ofV p.c pv)
/-- two names, stored from the right -/
theorem st_par {x y : Str} {i j : Nat} {a b : Expr} {ma mb : ME} {px py pt pos : Pos} {kt k2 : Nat} {pt2 : Pos} (hca : X.calm = true) (hN : X.N.Nodup) (hi : X.N[i]? = some x) (hj : X.N[j]? = some y) (hij : i ≠ j) (hx : X.env.scope.names.lookup x = some .local) (hy : X.env.scope.names.lookup y = some .local)
    (ha : SndE Φ X W a ma) (hb : SndE Φ X W b mb) (ra : ma.isRd = false) (rb : mb.isRd = false) (na : notStar a = true) (nb : notStar b = true)
    (hw : swappedStores [.Tuple [.Name x px, .Name y py] kt pt] (.Tuple [a, b] k2 pt2) X.env = pure (some [x, y])) :
    SndSt Φ X W n (.Assign [.Tuple [.Name x px, .Name y py] kt pt] (.Tuple [a, b] k2 pt2) pos) (.par i j ma mb) := by
  intro O ρ σ H D E q
  simp only [exS] at q
  refine WS.by (ps_par hca hN hi hj hij hx hy (pa_cons pe_w (pa_cons pe_w pa_nil (starAt nb _)) (starAt na _)) hw) ?_
  refine ha.sts (PostT.refl E) q fun a1 ρ1 v H1 p1 q => ?_
  refine hb.sts p1.c.t q fun a2 ρ2 w H2 p2 q => ?_
  obtain ⟨ρ3, e3, q⟩ := out_opt q
  obtain ⟨ρ4, e4, q⟩ := out_opt q
  refine ⟨v, w, rfl, ?_⟩
  have c := p1.c.trans p2.c
  have key := sets_ok (is := [i, j]) (ds := [a1.2, a2.2]) (vs := [v, w]) (Q := fun σ' H' => H' = H2 ∧ PostV X.K O ρ2 σ H2 [i, j] ρ4 σ') p2.env (by simp only [sets, e3, e4]) (by
    simp only [Reps]
    exact ⟨v, [w], rfl, (p1.rep ra).ext p2.c.ext, w, [], rfl, p2.rep rb, rfl⟩) fun σ' pv => ⟨rfl, pv⟩
  obtain ⟨v', r', e1, w', r'', e2, hnil, _, pv⟩ := key
  cases e1; cases e2
  exact q _ _ (PostT.ofV c pv)
/-! ### return, raise -/
theorem st_ret {e : Expr} {m : ME} {pos : Pos} (he : SndE Φ X W e m) (hr : m.isRd = false) (hv : ∀ i, m = .var i → PE X e (tVar i)) : SndSt Φ X W n (.Return (some e) pos) (.ret m) := by
  intro O ρ σ H D E q
  have gen : ((evE Φ m ρ).out fun x ρ => Out.rt x.1 x.2 ρ).holds (hsOf X.K W O ρ σ H D) → WS X (.Return (some e) pos) D σ H := fun q => by
    refine WS.by (ps_ret pe_w) ?_
    refine he.st E q fun a ρ1 v H1 p q => ?_
    refine q v σ H1 ⟨p.env, p.kp.mono fun _ z => z.2, p.dm, fun i s e _ => ⟨p.to.2 i s e, rfl⟩, p.to.1, fun _ h => .inl (p.to.own h), fun z => ?_, fun z => p.rep z hr, fun z b eb h => ?_⟩
    · obtain ⟨a, ea, hn, t⟩ := p.new z
      exact ⟨a, ea, fun z => E.dom a z hn, .inr hn, t⟩
    · obtain ⟨a, ea, hn, t⟩ := p.new z
      rw [eb] at ea; cases ea
      exact E.domH b (.inr (p.to.own h)) hn
  cases m with
  | var i =>
    have hv := hv i rfl
    simp only [exS] at q
    cases z : ρ[i]? with
    | none => rw [z] at q; exact q.elim
    | some s =>
      rw [z] at q
      cases s with
      | own d =>
        obtain ⟨a, ea, t⟩ := E.own i d z
        have na := E.sep i d a z ea
        refine WS.by (ps_ret hv) ⟨_, ea, ?_⟩
        have hil : i < ρ.length := (List.getElem?_eq_some_iff.mp z).1
        have hh : ∀ b, Hid (newO true O (.ref a)) (ρ.set i .non) σ b ↔ Hid O ρ σ b := fun b => by
          constructor
          · rintro ((h | ⟨_, h⟩) | ⟨j, sj, ej, wj, sj'⟩)
            · exact .inl h
            · cases h; exact .inr ⟨i, _, z, rfl, ea⟩
            · rcases getElem?_set_of ej with ⟨rfl, rfl, _⟩ | ⟨_, ej⟩
              · cases wj
              · exact .inr ⟨j, sj, ej, wj, sj'⟩
          · rintro (h | ⟨j, sj, ej, wj, sj'⟩)
            · exact .inl (.inl h)
            · by_cases hj : j = i
              · subst hj
                rw [ea] at sj'; cases sj'
                exact .inl (.inr ⟨rfl, rfl⟩)
              · exact .inr ⟨j, sj, by rw [List.getElem?_set_ne (Ne.symm hj)]; exact ej, wj, sj'⟩
        have xx : Ext (vis (Hid O ρ σ) H) (vis (Hid (newO true O (.ref a)) (ρ.set i .non) σ) H) := vis_ext (fun b h _ => (hh b).mp h) fun _ _ _ e => e
        have own' : ∀ b, OwnA (ρ.set i .non) σ b → OwnA ρ σ b := fun b ⟨j, sj, ej, wj, sj'⟩ => by
          rcases getElem?_set_of ej with ⟨rfl, rfl, _⟩ | ⟨_, ej⟩
          · cases wj
          · exact ⟨j, sj, ej, wj, sj'⟩
        have E' : EnvOk X.K (newO true O (.ref a)) (ρ.set i .non) σ H := by
          refine EnvOk.of (by rw [List.length_set]; exact E.len) (fun b h => ?_) (fun j k b sj sk ej ek wj wk aj ak => ?_) fun j sj ej => ?_
          · rcases h with h | ⟨_, h⟩
            · exact E.dom b h
            · cases h; exact t.ne
          · rcases getElem?_set_of ej with ⟨rfl, rfl, _⟩ | ⟨nj, ej⟩
            · cases wj
            · rcases getElem?_set_of ek with ⟨rfl, rfl, _⟩ | ⟨nk, ek⟩
              · cases wk
              · exact E.inj j k b sj sk ej ek wj wk aj ak
          · rcases getElem?_set_of ej with ⟨rfl, rfl, _⟩ | ⟨nj, ej⟩
            · trivial
            · refine (E.slot ej).ext xx (fun _ _ _ o e => e) fun b wb eb => ⟨.inl, fun h => ?_⟩
              rcases h with h | ⟨_, h⟩
              · exact h
              · cases h
                exact absurd (E.inj j i a sj _ ej z wb rfl eb ea) nj
        refine q _ σ H ⟨E', Kp.refl, fun _ h => h, fun j s ej fj => ?_, by rw [List.length_set], fun b h => .inl (own' b h), fun _ => ⟨a, rfl, na, .inl ⟨i, _, z, rfl, ea⟩, t.ext xx fun _ e => e⟩, fun z => Bool.noConfusion z, fun _ b eb ⟨j, sj, ej, wj, sj'⟩ => ?_⟩
        rotate_left
        · cases eb
          rcases getElem?_set_of ej with ⟨rfl, rfl, _⟩ | ⟨nj, ej⟩
          · cases wj
          · exact nj (E.inj j i a sj _ ej z wj rfl sj' ea)
        have ne : j ≠ i := fun h => by subst h; rw [z] at ej; cases ej; cases fj
        exact ⟨⟨s, by rw [List.getElem?_set_ne (Ne.symm ne)]; exact ej, s.to_refl⟩, rfl⟩
      | val d =>
        obtain ⟨v, ev, r⟩ := E.val i d z
        refine WS.by (ps_ret hv) ⟨v, ev, ?_⟩
        exact q v σ H ⟨newO_false.symm ▸ E, Kp.refl, fun _ h => h, fun i s e _ => ⟨⟨s, e, s.to_refl⟩, rfl⟩, rfl, fun _ h => .inl h, fun z => Bool.noConfusion z, fun _ => r, fun z => Bool.noConfusion z⟩
      | _ => exact q.elim
  | _ => simp only [exS] at q; exact gen q
theorem st_retN {pos : Pos} : SndSt Φ X W n (.Return none pos) (.ret (.cst .non)) := by
  intro O ρ σ H D E q
  simp only [exS, evE, Res.out_ok] at q
  exact WS.by ps_retN (q .non σ H ⟨newO_false.symm ▸ E, Kp.refl, fun _ h => h, fun i s e _ => ⟨⟨s, e, s.to_refl⟩, rfl⟩, rfl, fun _ h => .inl h, fun z => Bool.noConfusion z, fun _ => rfl, fun z => Bool.noConfusion z⟩)
theorem st_raise {e : Expr} {C : Str} {pos : Pos} (hca : X.calm = true) (tk : Takes X W) (he : PMk X e (fun _ H Q => Q (.ref (He.ga X.K C)) none H)) : SndSt Φ X W n (.Raise (some e) none pos) (.raise C) := by
  intro O ρ σ H D E q
  simp only [exS] at q
  refine WS.by (ps_raise hca tk he) ?_
  exact q none σ H ⟨E, Kp.refl, fun _ h => h, fun _ h => .inl h, fun i s e _ => ⟨⟨s, e, s.to_refl⟩, rfl⟩, rfl, rfl⟩
end
end Z

namespace Z
open PySem PySem.Spec L2
open PyProof.Rows hiding St
/-! ### a slot's list is changed -/
theorem upd_ok {K : PySem.W.Frag} {O : Addr → Prop} {ρ ρ2 : Vn} {σ : L2.St} {H : Hp} {i : Nat} {f : D → Option D} (E : EnvOk K O ρ σ H) (e : updS ρ i f = some ρ2) : ∃ d d' a, f d = some d' ∧ σ[i]? = some (some (.ref a)) ∧ Top K (vis (Hid O ρ σ) H) H d a ∧ Hid O ρ σ a ∧
    ∀ o, Top K (vis (Hid O ρ σ) (upd H a o)) (upd H a o) d' a → PostT K O ρ σ H ρ2 σ (upd H a o) := by
  have gen : ∀ {d d' : D} {a : Addr} {s0 s1 : Sl}, ρ[i]? = some s0 → ((s0 = .own d ∧ s1 = .own d') ∨ (s0 = .io d ∧ s1 = .io d')) → σ[i]? = some (some (.ref a)) → ∀ o, Top K (vis (Hid O ρ σ) (upd H a o)) (upd H a o) d' a → PostT K O ρ σ H (ρ.set i s1) σ (upd H a o) := fun {d d' a s0 s1} z hs ea o t => by
    have w0 : s0.isWr = true := by rcases hs with ⟨rfl, _⟩ | ⟨rfl, _⟩ <;> rfl
    obtain ⟨E', to⟩ := E.chg z hs ea (H' := upd H a o) (fun b u n e => by rw [upd_ne n]; exact e) (fun _ h => h) (fun _ h => .inl h) (fun b h => upd_dm (E.dom b h)) t
    have c : PostC K O ρ σ H false (ρ.set i s1) (upd H a o) := ⟨E', fun b u n e => by
      have ne : b ≠ a := fun h => by subst h; exact n ⟨rfl, i, s0, z, w0, ea⟩
      rw [upd_ne ne]; exact e, fun b h => upd_dm h, to⟩
    exact c.t
  unfold updS at e
  split at e
  · rename_i d z
    cases q : f d with
    | none => rw [q] at e; cases e
    | some d' =>
      rw [q] at e; cases e
      obtain ⟨a, ea, t⟩ := E.own i d z
      exact ⟨d, d', a, q, ea, t, .inr ⟨i, _, z, rfl, ea⟩, gen z (.inl ⟨rfl, rfl⟩) ea⟩
  · rename_i d z
    cases q : f d with
    | none => rw [q] at e; cases e
    | some d' =>
      rw [q] at e; cases e
      obtain ⟨a, ea, _, t⟩ := E.io i d z
      exact ⟨d, d', a, q, ea, t, .inr ⟨i, _, z, rfl, ea⟩, gen z (.inr ⟨rfl, rfl⟩) ea⟩
  · cases e
theorem vis_updHid {O : Addr → Prop} {H : Hp} {a : Addr} {o : HO} (h : O a) : Ext (vis O H) (vis O (upd H a o)) := vis_ext (fun _ z _ => z) fun b u n e => by
  have ne : b ≠ a := fun z => by subst z; exact n h
  rw [upd_ne ne]; exact e
section
variable {Φ : String → Option Fn} {X : Cx} {W : WX} {n : Nat}
theorem lstAt_ok {K : PySem.W.Frag} {O : Addr → Prop} {ρ : Vn} {σ : L2.St} {H : Hp} {i : Nat} (E : EnvOk K O ρ σ H) (h : lstAt ρ i = true) : ∃ a vs, σ[i]? = some (some (.ref a)) ∧ H a = some (.lst vs) := by
  unfold lstAt at h
  split at h
  · rename_i ds z
    obtain ⟨a, ea, vs, e, _⟩ := E.own i _ z
    exact ⟨a, vs, ea, e⟩
  · rename_i ds z
    obtain ⟨a, ea, _, vs, e, _⟩ := E.io i _ z
    exact ⟨a, vs, ea, e⟩
  · cases h
theorem st_setIx {x : Str} {i : Nat} {ix e : Expr} {mi me : ME} {px pt pos : Pos} (hv : PE X (.Name x px) (tVar i)) (he : SndE Φ X W e me) (hix : SndE Φ X W ix mi) (hr : me.isRd = false) (hp : plainIx ix = true) :
    SndSt Φ X W n (.Assign [.Subscript (.Name x px) ix pt] e pos) (.setIx i mi me) := by
  intro O ρ σ H D E q
  simp only [exS] at q
  have ha : ∀ v, assign (.Subscript (.Name x px) ix pt) X.env v = (do
      let ov ← holding [v] (eval (.Name x px) X.env)
      let iv ← holding [v, ov] (eval ix X.env)
      standAt pt
      holding [v, ov, iv] (setItem ov iv v)
      release [v, ov, iv] []) := by
    intro v
    cases ix <;> first | rfl | cases hp
  refine WS.by (ps_asg pe_w (pg_sub hv pe_w set_list ha) (by cases e <;> rfl) (by cases e <;> rfl) rfl) ?_
  refine he.sts (PostT.refl E) q fun a1 ρ1 v H1 p1 q => ?_
  split at q
  · rename_i hl
    obtain ⟨a, vs, ea, _⟩ := lstAt_ok p1.env hl
    refine ⟨_, ea, ?_⟩
    refine hix.sts p1.c.t q fun a2 ρ2 w H2 p2 q => ?_
    obtain ⟨ρ3, e3, q⟩ := out_opt q
    obtain ⟨d, d', a', ef, ea', t, ha', k⟩ := upd_ok p2.env e3
    rw [ea] at ea'; cases ea'
    split at ef
    · rename_i ds j h2
      split at ef
      · rename_i hj
        cases ef
        obtain ⟨vs2, e4, r⟩ := t
        have r2 := p2.rd
        rw [h2] at r2
        have hw := r2.scal rfl
        refine ⟨a, vs2, j, j.toNat, rfl, hw, e4, ?_, ?_⟩
        · unfold ixN
          rw [if_pos hj.1, if_pos (by rw [← r.length]; omega)]
        · refine q σ _ ((p1.c.t.trans p2.c.t).trans (k _ ⟨_, upd_same, ?_⟩))
          exact (r.set j.toNat ((p1.rep hr).ext p2.c.ext)).ext (vis_updHid ha')
      · cases ef
    · cases ef
  · exact q.elim
theorem fewAt {e : Expr} (h : notStar e = true) (cpos : Pos) : ((backTo cpos (starEach [e] X.env)).all (fun x => !x.1) && (backToKw cpos (keywordEach [] X.env)).all (fun x => x.1.isSome)
      && decide (([e] : List Expr).length + ([] : List Keyword).length + (if ([] : List Keyword).isEmpty then 0 else 1) < 30)) = true := by
  rw [starAt h]; rfl
theorem st_app {x : Str} {i : Nat} {e : Expr} {me : ME} {px apos cpos pos : Pos} (hv : PE X (.Name x px) (tVar i)) (he : SndE Φ X W e me) (hr : me.isRd = false) (hs : notStar e = true) (hl : (apos.endLine == cpos.line) = true) :
    SndSt Φ X W n (.Expr (.Call (.Attribute (.Name x px) "append" apos) [e] [] cpos) pos) (.app i me) := by
  intro O ρ σ H D E q
  have lz : lim < sizeLine := by rw [PySem.sizeLine_eq]; decide
  simp only [exS] at q
  split at q
  · rename_i hla
    obtain ⟨a, vs, ea, e0⟩ := lstAt_ok E hla
    refine WS.by (ps_expr (pe_bm PySem.F.plainAttrs_list PySem.F.slot_list_append PySem.F.type_list_append mt_append hv (pa_cons pe_w pa_nil (starAt hs _)) rfl (fewAt hs _) hl (starAt hs _) rfl) rfl) ?_
    refine ⟨.ref a, ea, .inl ⟨rfl, _, .inl (.inl e0)⟩, ?_⟩
    refine he.sts (PostT.refl E) q fun a1 ρ1 v H1 p1 q => ?_
    obtain ⟨ρ3, e3, q⟩ := out_opt q
    obtain ⟨d, d', a', ef, ea', t, ha', k⟩ := upd_ok p1.env e3
    rw [ea] at ea'; cases ea'
    split at ef
    · rename_i ds
      split at ef
      · rename_i hj
        cases ef
        obtain ⟨vs2, e4, r⟩ := t
        refine ⟨a, vs2, v, rfl, rfl, e4, by rw [← r.length]; omega, ?_⟩
        refine q σ _ (p1.c.t.trans (k _ ⟨_, upd_same, ?_⟩))
        refine (r.append ?_).ext (vis_updHid ha')
        simp only [Reps]
        exact ⟨v, [], rfl, p1.rep hr, rfl⟩
      · cases ef
    · cases ef
  · exact q.elim
/-! ### while -/
theorem st_while {c : Expr} {body : List Stmt} {mc : ME} {mb : List MS} {pos : Pos} (hp : PassesOwn (model X.prog X.w) X.A X.env X.xe) (hc : SndT Φ X W c mc) (hb : SndSs Φ X W n body mb) : SndSt Φ X W n (.While c body [] pos) (.while mc mb) := by
  intro O ρ σ H D E q
  simp only [exS] at q
  refine WS.by (ps_while hp pt_w pss_w) ?_
  refine ⟨fun m σc Hc => ∃ ρc, PostT X.K O ρ σ H ρc σc Hc ∧ (whGo (evE Φ mc) (exB Φ n mb) m ρc).holds (hsOf X.K W O ρ σ H D), ⟨n, ρ, PostT.refl E, q⟩, ?_⟩
  rintro m σc Hc ⟨ρc, P, q⟩
  cases m with
  | zero => exact q.elim
  | succ m =>
    simp only [whGo] at q
    have q2 : (HT Φ mc ρc).holds (fun k ρ' => (if k then match exB Φ n mb ρ' with
        | .nx ρ2 => whGo (evE Φ mc) (exB Φ n mb) m ρ2
        | .ct ρ2 => whGo (evE Φ mc) (exB Φ n mb) m ρ2
        | .bk ρ2 => .nx ρ2
        | o => o
      else .nx ρ').holds (hsOf X.K W O ρ σ H D)) (fun x ρ' => (hsOf X.K W O ρ σ H D).exn x ρ') := by
      unfold HT
      revert q
      cases evE Φ mc ρc with
      | ok x ρ1 =>
        simp only [Res.out_ok, Res.bind_ok]
        cases truD x.2 <;> exact id
      | _ => exact id
    refine hc O ρc σc Hc _ P.env (Res.holds_mono q2 (fun k ρ1 z H1 p => ?_) fun x ρ' z od H' p => z od σc H' (PostTX.trans P p.t))
    have P1 := P.trans p.t
    cases k with
    | false => exact z σc H1 P1
    | true =>
      rw [if_pos rfl]
      refine ⟨_, fun σ' H' h => ⟨m, Nat.lt_succ_self m, h⟩, ?_⟩
      refine hb O ρ1 σc H1 _ p.env ?_
      rw [if_pos rfl] at z
      revert z
      cases exB Φ n mb ρ1 with
      | nx ρ2 => exact fun z σ' H' p2 => ⟨ρ2, P1.trans p2, z⟩
      | ct ρ2 => exact fun z σ' H' p2 => ⟨ρ2, P1.trans p2, z⟩
      | bk ρ2 => exact fun z σ' H' p2 => z σ' H' (P1.trans p2)
      | rt fl d ρ2 => exact fun z v σ' H' p2 => z v σ' H' (PostR.trans P1 p2)
      | exn x ρ2 => exact fun z od σ' H' p2 => z od σ' H' (PostTX.trans P1 p2)
      | stuck => exact id
end
/-! ### the locks of a walk -/
def Sl.lk : Sl → Sl
  | .own d => .lkd d
  | .io d => .lkd d
  | s => s
theorem lockV_at {ρ : Vn} {j : Nat} {s : Sl} (e : ρ[j]? = some s) : ∀ {is : List Nat}, (lockV ρ is)[j]? = some (if j ∈ is then s.lk else s)
  | [] => by simpa [lockV] using e
  | i :: is => by
    have ih := lockV_at e (is := is)
    have hl : j < (lockV ρ is).length := (List.getElem?_eq_some_iff.mp ih).1
    by_cases hj : j = i
    · subst hj
      rw [if_pos (List.mem_cons_self ..)]
      unfold lockV
      rw [ih]
      by_cases hm : j ∈ is
      · rw [if_pos hm]
        cases s with
        | own d => simp only [Sl.lk]; rw [ih, if_pos hm]; rfl
        | io d => simp only [Sl.lk]; rw [ih, if_pos hm]; rfl
        | _ => simp only [Sl.lk]; rw [ih, if_pos hm]; rfl
      · rw [if_neg hm]
        cases s with
        | own d => simp only [Sl.lk]; rw [List.getElem?_set_self hl]
        | io d => simp only [Sl.lk]; rw [List.getElem?_set_self hl]
        | _ => simp only [Sl.lk]; rw [ih, if_neg hm]
    · have hmem : j ∈ i :: is ↔ j ∈ is := by simp [hj]
      simp only [hmem]
      unfold lockV
      split
      · rw [List.getElem?_set_ne (Ne.symm hj)]; exact ih
      · rw [List.getElem?_set_ne (Ne.symm hj)]; exact ih
      · exact ih
theorem unlockV_len {ρ ρ0 : Vn} : ∀ {is : List Nat}, (unlockV ρ ρ0 is).length = ρ.length
  | [] => rfl
  | i :: is => by
    unfold unlockV
    split
    · rw [List.length_set, unlockV_len]
    · rw [List.length_set, unlockV_len]
    · exact unlockV_len
theorem unlockV_in {ρ ρ0 : Vn} {j : Nat} {s0 : Sl} (e0 : ρ0[j]? = some s0) (w : s0.isWr = true) : ∀ {is : List Nat}, j ∈ is → j < ρ.length → (unlockV ρ ρ0 is)[j]? = some s0
  | [], h, _ => by cases h
  | i :: is, h, hl => by
    by_cases hj : j = i
    · subst hj
      unfold unlockV
      rw [e0]
      cases s0 with
      | own d => simp only; rw [List.getElem?_set_self (by rw [unlockV_len]; exact hl)]
      | io d => simp only; rw [List.getElem?_set_self (by rw [unlockV_len]; exact hl)]
      | _ => cases w
    · have ih := unlockV_in (ρ := ρ) e0 w ((List.mem_cons.mp h).resolve_left hj) hl
      unfold unlockV
      split
      · rw [List.getElem?_set_ne (Ne.symm hj)]; exact ih
      · rw [List.getElem?_set_ne (Ne.symm hj)]; exact ih
      · exact ih
theorem unlockV_out {ρ ρ0 : Vn} {j : Nat} : ∀ {is : List Nat}, (j ∈ is → ∀ s0, ρ0[j]? = some s0 → s0.isWr = false) → (unlockV ρ ρ0 is)[j]? = ρ[j]?
  | [], _ => rfl
  | i :: is, h => by
    have ih := unlockV_out (ρ := ρ) (ρ0 := ρ0) (j := j) (is := is) fun z => h (List.mem_cons_of_mem _ z)
    unfold unlockV
    split
    · rename_i d e
      have ne : j ≠ i := fun z => by subst z; have := h (List.mem_cons_self ..) _ e; cases this
      rw [List.getElem?_set_ne (Ne.symm ne)]; exact ih
    · rename_i d e
      have ne : j ≠ i := fun z => by subst z; have := h (List.mem_cons_self ..) _ e; cases this
      rw [List.getElem?_set_ne (Ne.symm ne)]; exact ih
    · exact ih
/-- what an unlocked slot holds -/
theorem unlockV_cases {ρ ρ0 : Vn} {j : Nat} {is : List Nat} {s : Sl} (h : (unlockV ρ ρ0 is)[j]? = some s) : (j ∈ is ∧ ρ0[j]? = some s ∧ s.isWr = true) ∨ ρ[j]? = some s := by
  by_cases hj : j ∈ is
  · cases z : ρ0[j]? with
    | none => rw [unlockV_out fun _ s0 e => by rw [z] at e; cases e] at h; exact .inr h
    | some s0 =>
      cases w : s0.isWr with
      | false => rw [unlockV_out fun _ s1 e => by rw [z] at e; cases e; exact w] at h; exact .inr h
      | true =>
        have hl : j < ρ.length := by have := (List.getElem?_eq_some_iff.mp h).1; rwa [unlockV_len] at this
        rw [unlockV_in z w hj hl] at h
        cases h
        exact .inl ⟨hj, rfl, w⟩
  · rw [unlockV_out fun z => absurd z hj] at h; exact .inr h
theorem wr_own {s : Sl} (h : s.isWr = true) : s.isOwn = true := by cases s <;> first | rfl | cases h
section
variable {K : PySem.W.Frag} {O O3 : Addr → Prop} {ρ1 ρ3 : Vn} {σ σ3 : L2.St} {H1 H3 : Hp} {is : List Nat}
/-- a locked slot behind the walk -/
theorem lk_at (prot : ∀ (i : Nat) (s : Sl), (lockV ρ1 is)[i]? = some s → s.free = false → (∃ s', ρ3[i]? = some s' ∧ s.to s') ∧ σ3[i]? = σ[i]?) {j : Nat} {s : Sl} (hj : j ∈ is) (e : ρ1[j]? = some s) (w : s.isWr = true) : (∃ d, ρ3[j]? = some (.lkd d)) ∧ σ3[j]? = σ[j]? := by
  have e2 := lockV_at e (is := is)
  rw [if_pos hj] at e2
  cases s with
  | own d =>
    obtain ⟨⟨s', e', t⟩, q⟩ := prot j _ e2 rfl
    simp only [Sl.lk, Sl.to] at t
    subst t; exact ⟨⟨d, e'⟩, q⟩
  | io d =>
    obtain ⟨⟨s', e', t⟩, q⟩ := prot j _ e2 rfl
    simp only [Sl.lk, Sl.to] at t
    subst t; exact ⟨⟨d, e'⟩, q⟩
  | _ => cases w
theorem own_unlock (prot : ∀ (i : Nat) (s : Sl), (lockV ρ1 is)[i]? = some s → s.free = false → (∃ s', ρ3[i]? = some s' ∧ s.to s') ∧ σ3[i]? = σ[i]?) {b : Addr} : OwnA (unlockV ρ3 ρ1 is) σ3 b ↔ OwnA ρ3 σ3 b := by
  constructor
  · rintro ⟨j, s, e, w, q⟩
    rcases unlockV_cases e with ⟨hj, e0, w0⟩ | e
    · obtain ⟨⟨d, e3⟩, _⟩ := lk_at prot hj e0 w0
      exact ⟨j, _, e3, rfl, q⟩
    · exact ⟨j, s, e, w, q⟩
  · rintro ⟨j, s, e, w, q⟩
    have hl : j < ρ3.length := (List.getElem?_eq_some_iff.mp e).1
    by_cases h : j ∈ is ∧ ∃ s0, ρ1[j]? = some s0 ∧ s0.isWr = true
    · obtain ⟨hj, s0, e0, w0⟩ := h
      exact ⟨j, s0, unlockV_in e0 w0 hj hl, wr_own w0, q⟩
    · refine ⟨j, s, ?_, w, q⟩
      rw [unlockV_out fun hj s0 e0 => ?_]
      · exact e
      · cases w0 : s0.isWr with
        | false => rfl
        | true => exact absurd ⟨hj, s0, e0, w0⟩ h
theorem EnvOk.unlock (E1 : EnvOk K O ρ1 σ H1) (E3 : EnvOk K O3 ρ3 σ3 H3) (kp : Kp (WrA (lockV ρ1 is) σ) H1 H3) (prot : ∀ (i : Nat) (s : Sl), (lockV ρ1 is)[i]? = some s → s.free = false → (∃ s', ρ3[i]? = some s' ∧ s.to s') ∧ σ3[i]? = σ[i]?)
    (own : ∀ b, OwnA ρ3 σ3 b → OwnA (lockV ρ1 is) σ b ∨ H1 b = none) (hO : ∀ b, O b → O3 b) (hO3 : ∀ b, O3 b → O b ∨ ((OwnA ρ1 σ b ∨ H1 b = none) ∧ ¬ OwnA ρ3 σ3 b)) : EnvOk K O3 (unlockV ρ3 ρ1 is) σ3 H3 := by
  have hh : Hid O3 (unlockV ρ3 ρ1 is) σ3 = Hid O3 ρ3 σ3 := by
    funext b
    simp only [Hid, own_unlock prot]
  have ow : ∀ {j : Nat} {s : Sl}, (unlockV ρ3 ρ1 is)[j]? = some s → s.isOwn = true → ∃ s', ρ3[j]? = some s' ∧ s'.isOwn = true := fun {j s} e w => by
    rcases unlockV_cases e with ⟨hj, e0, w0⟩ | e
    · obtain ⟨⟨d, e3⟩, _⟩ := lk_at prot hj e0 w0
      exact ⟨_, e3, rfl⟩
    · exact ⟨s, e, w⟩
  have xx : Ext (vis (Hid O ρ1 σ) H1) (vis (Hid O3 ρ3 σ3) H3) := vis_ext (fun b h n => by
    rcases h with h | h
    · rcases hO3 b h with h | ⟨h | h, _⟩
      · exact .inl h
      · exact .inr h
      · exact absurd h n
    · rcases own b h with h | h
      · exact .inr (own_lock.mp h)
      · exact absurd h n) fun b o n e => kp b o (fun z => n (.inr (lockV_wr z).1.own)) e
  refine EnvOk.of (by rw [unlockV_len]; exact E3.len) E3.dom (fun j k b sj sk ej ek wj wk aj ak => ?_) fun j s e => ?_
  · obtain ⟨sj', ej', wj'⟩ := ow ej wj
    obtain ⟨sk', ek', wk'⟩ := ow ek wk
    exact E3.inj j k b sj' sk' ej' ek' wj' wk' aj ak
  · rw [hh]
    rcases unlockV_cases e with ⟨hj, e0, w0⟩ | e
    · obtain ⟨⟨d3, e3⟩, q3⟩ := lk_at prot hj e0 w0
      rw [q3]
      have same : ∀ {a : Addr} {o : HO}, σ[j]? = some (some (.ref a)) → H1 a = some o → H3 a = some o := fun {a o} ea h => kp a o (lockV_wr2 E1.inj hj e0 (wr_own w0) ea) h
      cases s with
      | own d =>
        obtain ⟨a, ea, t⟩ := E1.own j d e0
        refine ⟨a, ea, t.ext xx fun o => same ea, fun h => ?_⟩
        rcases hO3 a h with h | ⟨_, h⟩
        · exact E1.sep j d a e0 ea h
        · exact h ⟨j, _, e3, rfl, by rw [q3]; exact ea⟩
      | io d =>
        obtain ⟨a, ea, ho, t⟩ := E1.io j d e0
        exact ⟨a, ea, t.ext xx fun o => same ea, hO a ho⟩
      | _ => cases w0
    · exact E3.slot e
theorem unlock_prot (len : ρ3.length = (lockV ρ1 is).length) (prot : ∀ (i : Nat) (s : Sl), (lockV ρ1 is)[i]? = some s → s.free = false → (∃ s', ρ3[i]? = some s' ∧ s.to s') ∧ σ3[i]? = σ[i]?) : ∀ (i : Nat) (s : Sl), ρ1[i]? = some s → s.free = false → (∃ s', (unlockV ρ3 ρ1 is)[i]? = some s' ∧ s.to s') ∧ σ3[i]? = σ[i]? := fun j s e f => by
  have e2 := lockV_at e (is := is)
  have hl : j < ρ3.length := by rw [len]; exact (List.getElem?_eq_some_iff.mp e2).1
  by_cases h : j ∈ is ∧ s.isWr = true
  · obtain ⟨hj, w⟩ := h
    exact ⟨⟨s, unlockV_in e w hj hl, s.to_refl⟩, (lk_at prot hj e w).2⟩
  · have ho : (unlockV ρ3 ρ1 is)[j]? = ρ3[j]? := unlockV_out fun hj s0 e0 => by
      rw [e] at e0; cases e0
      cases w : s.isWr with
      | false => rfl
      | true => exact absurd ⟨hj, w⟩ h
    have e3 : (lockV ρ1 is)[j]? = some s := by
      rw [e2]
      by_cases hj : j ∈ is
      · rw [if_pos hj]
        cases s with
        | own d => cases f
        | io d => exact absurd ⟨hj, rfl⟩ h
        | _ => rfl
      · rw [if_neg hj]
    obtain ⟨⟨s', e', t⟩, q⟩ := prot j s e3 f
    exact ⟨⟨s', by rw [ho]; exact e', t⟩, q⟩
theorem unlock_wr (prot : ∀ (i : Nat) (s : Sl), (lockV ρ1 is)[i]? = some s → s.free = false → (∃ s', ρ3[i]? = some s' ∧ s.to s') ∧ σ3[i]? = σ[i]?) {b : Addr} (h : WrA (unlockV ρ3 ρ1 is) σ3 b) : WrA ρ1 σ b ∨ WrA ρ3 σ3 b := by
  obtain ⟨j, s, e, w, q⟩ := h
  rcases unlockV_cases e with ⟨hj, e0, w0⟩ | e
  · refine .inl ⟨j, s, e0, w0, ?_⟩
    rw [← (lk_at prot hj e0 w0).2]; exact q
  · exact .inr ⟨j, s, e, w, q⟩
theorem PostT.unlock (E1 : EnvOk K O ρ1 σ H1) (P : PostT K O (lockV ρ1 is) σ H1 ρ3 σ3 H3) : PostT K O ρ1 σ H1 (unlockV ρ3 ρ1 is) σ3 H3 where
  env := E1.unlock P.env P.kp P.prot P.own (fun _ h => h) fun _ h => .inl h
  kp := P.kp.mono fun b z => (lockV_wr z).1
  dm := P.dm
  own := fun b h => (P.own b ((own_unlock P.prot).mp h)).imp_left own_lock.mp
  wr := fun b h => (unlock_wr P.prot h).elim .inl fun h => (P.wr b h).imp_left fun z => (lockV_wr z).1
  prot := unlock_prot P.len P.prot
  len := by rw [unlockV_len, P.len, lockV_len]
theorem PostR.unlock {fl : Bool} {d : D} {v : V} (E1 : EnvOk K O ρ1 σ H1) (P : PostR K O (lockV ρ1 is) σ H1 fl d ρ3 v σ3 H3) : PostR K O ρ1 σ H1 fl d (unlockV ρ3 ρ1 is) v σ3 H3 := by
  have hh : ∀ O' : Addr → Prop, Hid O' (unlockV ρ3 ρ1 is) σ3 = Hid O' ρ3 σ3 := fun O' => by
    funext b
    simp only [Hid, own_unlock P.prot]
  refine ⟨E1.unlock P.env P.kp P.prot P.own (fun _ h => .inl h) fun b h => ?_, P.kp.mono fun b z => (lockV_wr z).1, P.dm, unlock_prot P.len P.prot, by rw [unlockV_len, P.len, lockV_len], fun b h => (P.own b ((own_unlock P.prot).mp h)).imp_left own_lock.mp, fun z => ?_, fun z => ?_, fun z b e h => P.sep z b e ((own_unlock P.prot).mp h)⟩
  · rcases h with h | ⟨hf, h⟩
    · exact .inl h
    · obtain ⟨p, e, np, g, _⟩ := P.new hf
      rw [h] at e; cases e
      exact .inr ⟨g.imp_left own_lock.mp, P.sep hf b h⟩
  · obtain ⟨p, e, np, g, t⟩ := P.new z
    exact ⟨p, e, np, g.imp_left own_lock.mp, by rw [hh]; exact t⟩
  · rw [hh]; exact P.rep z
theorem PostTX.unlock {x : Exn} {od : Option Addr} (E1 : EnvOk K O ρ1 σ H1) (P : PostTX K O (lockV ρ1 is) σ H1 x ρ3 od σ3 H3) : PostTX K O ρ1 σ H1 x (unlockV ρ3 ρ1 is) od σ3 H3 where
  env := E1.unlock P.env P.kp P.prot P.own (fun _ h => h) fun _ h => .inl h
  kp := P.kp.mono fun b z => (lockV_wr z).1
  dm := P.dm
  own := fun b h => (P.own b ((own_unlock P.prot).mp h)).imp_left own_lock.mp
  prot := unlock_prot P.len P.prot
  len := by rw [unlockV_len, P.len, lockV_len]
  rep := by
    have hh : Hid O (unlockV ρ3 ρ1 is) σ3 = Hid O ρ3 σ3 := by
      funext b
      simp only [Hid, own_unlock P.prot]
    rw [hh]; exact P.rep
end
section
variable {Φ : String → Option Fn} {X : Cx} {W : WX} {n : Nat}
/-! ### for -/
theorem st_for {tgE iter : Expr} {body : List Stmt} {tg : MT} {k : Nat} {ms : List ME} {mb : List MS} {pos : Pos} (hp : PassesOwn (model X.prog X.w) X.A X.env X.xe) (hca : X.calm = true) (hi : SndI Φ X W tgE iter k ms) (hg : PG X tgE (gOf X.K tg)) (hb : SndSs Φ X W n body mb)
    (hs : ∀ x, foldedSetIterable iter X.env x = pure x) : SndSt Φ X W n (.For tgE iter body [] pos) (.for tg k ms mb) := by
  intro O ρ σ H D E q
  simp only [exS] at q
  refine WS.by (ps_for hp hca pi_w hg pss_w hs) ?_
  have q2 : ((evL Φ ms ρ).bind fun ds ρ => ofOpt (itD k (fresh ρ ms ds)) ρ).holds (fun xs ρ' => ((forGo tg (exB Φ n mb) xs (lockV ρ' (rdIdx ms))).back ρ' (rdIdx ms)).holds (hsOf X.K W O ρ σ H D)) (fun x ρ' => (hsOf X.K W O ρ σ H D).exn x ρ') := by
    revert q
    cases evL Φ ms ρ with
    | ok ds ρ1 =>
      simp only [Res.out_ok, Res.bind_ok]
      cases itD k (fresh ρ1 ms ds) <;> exact id
    | _ => exact id
  refine hi O ρ σ H _ E (Res.holds_mono q2 (fun xs ρ1 z J H1 c wk => ?_) fun x ρ' z od H' p => z od σ H' p.t)
  have E1 := c.env
  have EL := E1.locked (rdIdx ms)
  have back : ∀ {o : Out}, (o.back ρ1 (rdIdx ms)).holds (hsOf X.K W O ρ σ H D) → o.holds (hsOf X.K W O (lockV ρ1 (rdIdx ms)) σ H1 D) := fun {o} h => by
    cases o with
    | nx ρ2 => exact fun σ' H' p => h σ' H' (c.t.trans (PostT.unlock E1 p))
    | bk ρ2 => exact fun σ' H' p => h σ' H' (c.t.trans (PostT.unlock E1 p))
    | ct ρ2 => exact fun σ' H' p => h σ' H' (c.t.trans (PostT.unlock E1 p))
    | rt fl d ρ2 => exact fun v σ' H' p => h v σ' H' (PostR.trans c.t (PostR.unlock E1 p))
    | exn x ρ2 => exact fun od σ' H' p => h od σ' H' (PostTX.trans c.t (PostTX.unlock E1 p))
    | stuck => exact h
  have z := back z
  clear back
  refine for_it wk (fun i σc Hc => ∃ ρc, PostT X.K O (lockV ρ1 (rdIdx ms)) σ H1 ρc σc Hc ∧ (forGo tg (exB Φ n mb) (xs.drop i) ρc).holds (hsOf X.K W O (lockV ρ1 (rdIdx ms)) σ H1 D)) ?_ ?_ ?_ ?_
  · exact ⟨_, PostT.refl EL, by rw [List.drop_zero]; exact z⟩
  · rintro i σc Hc _ ⟨ρc, P, _⟩
    exact P.kp
  · rintro i x σc Hc Hn hi' ⟨ρc, P, q⟩ y
    obtain ⟨d, ed⟩ : ∃ d, xs[i]? = some d := ⟨xs[i], by simp [hi']⟩
    rw [show xs.drop i = d :: xs.drop (i + 1) by
      rw [List.drop_eq_getElem_cons hi']
      have : xs[i] = d := by rw [List.getElem?_eq_getElem hi'] at ed; cases ed; rfl
      rw [this]] at q
    simp only [forGo] at q
    have xin : Ext (vis (Hid O ρ1 σ) H1) (vis (Hid O ρc σc) Hc) := vis_ext (fun b h ne => by
      rcases h with h | h
      · exact .inl h
      · rcases P.own b h with h | h
        · exact .inr (own_lock.mp h)
        · exact absurd h ne) fun b o ne e => P.kp b o (fun z => ne (.inr (lockV_wr z).1.own)) e
    have item : Rep X.K (vis (Hid O ρc σc) Hn) d x ∧ ∀ b o, Hc b = some o → Hn b = some o := by
      rcases y with ⟨rfl, d', e', r⟩ | ⟨T', a', b', va, vb, e', rfl, hT, rfl, ra, rb⟩
      · rw [ed] at e'; cases e'
        exact ⟨r.ext xin, fun _ _ e => e⟩
      · rw [ed] at e'; cases e'
        have nT : ¬ Hid O ρc σc T' := fun z => P.env.domH T' z hT
        have x2 : Ext (vis (Hid O ρc σc) Hc) (vis (Hid O ρc σc) (upd Hc T' (.tup [va, vb]))) := vis_ext (fun _ z _ => z) fun b o _ z => upd_kp hT b o z
        refine ⟨?_, upd_kp hT⟩
        simp only [Rep, Reps]
        exact ⟨T', [va, vb], rfl, SqT.of (by rw [vis_at nT, upd_same]), va, [vb], rfl, (ra.ext xin).ext x2, vb, [], rfl, (rb.ext xin).ext x2, rfl⟩
    obtain ⟨rx, kn⟩ := item
    have En := P.env.kept kn
    have Pn : PostT X.K O (lockV ρ1 (rdIdx ms)) σ H1 ρc σc Hn := P.trans (PostC.t (st := true) ⟨En, fun b o _ e => kn b o e, fun b h => by
      cases z : Hc b with
      | none => exact absurd z h
      | some o => rw [kn b o z]; simp, EvTo.refl _⟩)
    cases ea : asgT tg d ρc with
    | none => rw [ea] at q; exact q.elim
    | some ρ2 =>
      rw [ea] at q
      simp only at q
      refine asgT_ok En ea rx fun σ2 pv => ?_
      have P2 : PostT X.K O (lockV ρ1 (rdIdx ms)) σ H1 ρ2 σ2 Hn := Pn.trans (PostT.ofV (PostC.refl (st := true) En) pv)
      refine hb O ρ2 σ2 Hn _ pv.env ?_
      revert q
      cases exB Φ n mb ρ2 with
      | nx ρ3 => exact fun z σ' H' p2 => ⟨ρ3, P2.trans p2, z⟩
      | ct ρ3 => exact fun z σ' H' p2 => ⟨ρ3, P2.trans p2, z⟩
      | bk ρ3 => exact fun z σ' H' p2 => z σ' H' (P2.trans p2)
      | rt fl d ρ3 => exact fun z v σ' H' p2 => z v σ' H' (PostR.trans P2 p2)
      | exn x ρ3 => exact fun z od σ' H' p2 => z od σ' H' (PostTX.trans P2 p2)
      | stuck => exact id
  · rintro σc Hc ⟨ρc, P, q⟩
    rw [List.drop_length] at q
    simp only [forGo] at q
    exact q σc Hc P
end
end Z

namespace Z
open PySem PySem.Spec L2
open PyProof.Rows hiding St
/-! ### names -/
theorem vis_of {sc : Scope} {x : Str} (h : isVis sc x = true) : Vis sc x := by
  unfold isVis at h
  split at h
  · exact .inl (by assumption)
  · exact .inr (.inl (by assumption))
  · exact .inr (.inr (by assumption))
  · cases h
theorem loc_of {sc : Scope} {x : Str} (h : isLoc sc x = true) : Loc sc x := by
  unfold isLoc at h
  split at h
  · exact .inl (by assumption)
  · exact .inr (by assumption)
  · cases h
theorem local_of {sc : Scope} {x : Str} (h : isLocal sc x = true) : sc.names.lookup x = some .local := by
  unfold isLocal at h
  split at h
  · assumption
  · cases h
theorem gl_of {X : Cx} {sc : Scope} {x : Str} (hs : X.env.scope = sc) (h : isGl sc x = true) : Gl X x := by
  unfold isGl at h
  split at h
  · subst hs; assumption
  · cases h
theorem slot_of {c : Cfg} {x : Str} {i : Nat} (h : slotOf c x = some i) : c.N[i]? = some x := by
  unfold slotOf at h
  have := List.findIdx?_eq_some_iff_getElem.mp h
  obtain ⟨hl, hp, _⟩ := this
  rw [List.getElem?_eq_getElem hl]
  simpa using hp
theorem okName_of {x : Str} (h : okName x = true) : (x == ("__debug__" : Str)) = false ∧ (x == ("__classdict__" : Str)) = false ∧ x ≠ "__name__" := by
  unfold okName at h
  simp only [Bool.and_eq_true, Bool.not_eq_true', decide_eq_true_eq] at h
  exact ⟨h.1.1, h.1.2, h.2⟩
section
variable {Φ : String → Option Fn} {X : Cx} {W : WX} {c : Cfg} {L : Nat} {sc : Scope}
theorem Good.var (G : Good c Φ L X sc) {x : Str} {i : Nat} {p : Pos} (h1 : okName x = true) (h2 : isVis sc x = true) (h3 : slotOf c x = some i) : PE X (.Name x p) (tVar i) := by
  obtain ⟨a, b, _⟩ := okName_of h1
  exact pe_var (by rw [G.N]; exact slot_of h3) (by rw [G.sc]; exact vis_of h2) a b
theorem Good.units (G : Good c Φ L X sc) : X.A.units + 64 < cLine := by
  have := G.room.un
  omega
/-! ### targets -/
theorem pgn_of {all : Bool} {e : Expr} {i : Nat} (hs : X.env.scope = sc) (hN : X.N = c.N) (nd : c.N.Nodup) (hf : all = true → ∀ x, X.fn x = true) (h : trGn c all sc e = some i) : PG X e (gName i) ∧ notStar e = true := by
  cases e with
  | Name x p =>
    simp only [trGn] at h
    cases all with
    | true =>
      simp only [if_true] at h
      split at h
      · rename_i hc
        rw [Bool.and_eq_true] at hc
        exact ⟨pg_name (by rw [hN]; exact nd) (by rw [hN]; exact slot_of h) (by rw [hs]; exact loc_of hc.2) (.inl (hf rfl x)), rfl⟩
      · cases h
    | false =>
      simp only [Bool.false_eq_true, if_false] at h
      split at h
      · rename_i hc
        rw [Bool.and_eq_true] at hc
        have hl := local_of hc.2
        exact ⟨pg_name (by rw [hN]; exact nd) (by rw [hN]; exact slot_of h) (by rw [hs]; exact .inl hl) (.inr (by rw [hs]; exact hl)), rfl⟩
      · cases h
  | _ => cases h
theorem asgEach {e : Expr} {es : List Expr} (h : notStar e = true) (env : PySem.Env) : assignEach (e :: es) env = (false, assign e env) :: assignEach es env := by
  cases e <;> first | rfl | cases h
theorem pgs_of {all : Bool} (hs : X.env.scope = sc) (hN : X.N = c.N) (nd : c.N.Nodup) (hf : all = true → ∀ x, X.fn x = true) : ∀ {es : List Expr} {is : List Nat}, trGs c all sc es = some is → PGs X es (gNames is) ∧ (assignEach es X.env).length = is.length ∧ (assignEach es X.env).findIdx? (·.1) = none
  | [], is, h => by
    simp only [trGs] at h
    cases h
    exact ⟨pgs_nil, rfl, rfl⟩
  | e :: es, is, h => by
    simp only [trGs] at h
    split at h
    · rename_i i is' h1 h2
      cases h
      obtain ⟨g1, n1⟩ := pgn_of hs hN nd hf h1
      obtain ⟨g2, l2, f2⟩ := pgs_of hs hN nd hf h2
      refine ⟨pgs_cons g1 g2 (by rw [asgEach n1]; rfl), by rw [asgEach n1]; simp [l2], ?_⟩
      rw [asgEach n1, List.findIdx?_cons]
      simp only [Bool.false_eq_true, if_false]
      rw [f2]; rfl
    · cases h
theorem pg_of {all : Bool} {e : Expr} {tg : MT} (hca : X.calm = true) (hs : X.env.scope = sc) (hN : X.N = c.N) (nd : c.N.Nodup) (hf : all = true → ∀ x, X.fn x = true) (h : trG c all sc e = some tg) : PG X e (gOf X.K tg) := by
  have one : ∀ {e : Expr}, (trGn c all sc e).map MT.nm = some tg → PG X e (gOf X.K tg) := fun {e} h => by
    cases z : trGn c all sc e with
    | none => rw [z] at h; cases h
    | some i =>
      rw [z] at h; cases h
      exact (pgn_of hs hN nd hf z).1
  unfold trG at h
  split at h
  · rename_i es k p
    cases z : trGs c all sc es with
    | none => rw [z] at h; cases h
    | some is =>
      rw [z] at h; cases h
      obtain ⟨g, l, f⟩ := pgs_of hs hN nd hf z
      exact pg_tup hca g l f
  · exact one h
end
/-! ### what is shown of expressions -/
structure ExpOk (Φ : String → Option Fn) (X : Cx) (W : WX) (e : Expr) (m : ME) (rd : Bool) : Prop where
  snd : SndE Φ X W e m
  rd : m.isRd = false ∨ ∃ x pos i, e = .Name x pos ∧ m = .rd i ∧ rd = true ∧ PE X e (tVar i)
  var : ∀ i, m = .var i → PE X e (tVar i)
  tst : okT e = true → SndT Φ X W e m
section
variable {Φ : String → Option Fn} {X : Cx} {W : WX} {c : Cfg} {L : Nat} {sc : Scope} {e : Expr} {m : ME} {rd : Bool}
theorem ExpOk.nr (h : ExpOk Φ X W e m false) : m.isRd = false := h.rd.elim id fun ⟨_, _, _, _, _, z, _⟩ => by cases z
theorem ExpOk.s (h : ExpOk Φ X W e m rd) : SndS Φ X W e m := by
  rcases h.rd with hr | ⟨x, pos, i, rfl, rfl, _, hp⟩
  · exact snds_of h.snd hr
  · exact snds_rd hp
theorem ExpOk.of (h : SndE Φ X W e m) (hr : m.isRd = false) (hv : ∀ i, m ≠ .var i) (ht : isPlainT e = true) : ExpOk Φ X W e m rd := ⟨h, .inl hr, fun i z => absurd z (hv i), fun _ => snd_tv h ht⟩
theorem bi_of {f : Str} {b : String} (h : biNames.lookup f = some b) : (∃ id, bootBuiltins f = some (.builtin id) ∧ biVal b = .builtin id) ∨ ∃ T, bootBuiltins f = some (.type T) ∧ biVal b = .type T := by
  unfold biNames at h
  simp only [List.lookup] at h
  split at h
  · rename_i z; rw [beq_iff_eq] at z; subst z; cases h; exact .inl ⟨"len", by decide +kernel, by decide⟩
  split at h
  · rename_i z; rw [beq_iff_eq] at z; subst z; cases h; exact .inl ⟨"abs", by decide +kernel, by decide⟩
  split at h
  · rename_i z; rw [beq_iff_eq] at z; subst z; cases h; exact .inr ⟨"int", by decide +kernel, by decide⟩
  split at h
  · rename_i z; rw [beq_iff_eq] at z; subst z; cases h; exact .inl ⟨"repr", by decide +kernel, by decide⟩
  split at h
  · rename_i z; rw [beq_iff_eq] at z; subst z; cases h; exact .inr ⟨"str", by decide +kernel, by decide⟩
  split at h
  · rename_i z; rw [beq_iff_eq] at z; subst z; cases h; exact .inr ⟨"list", by decide +kernel, by decide⟩
  split at h
  · rename_i z; rw [beq_iff_eq] at z; subst z; cases h; exact .inr ⟨"tuple", by decide +kernel, by decide⟩
  cases h
theorem isi_of {C : Str} {b : String} (h : isiOk C = some b) : bootBuiltins C = some (.type b) ∧ (b = "int" ∨ b = "bool" ∨ b = "str" ∨ b = "tuple" ∨ b = "list" ∨ b = "dict") := by
  unfold isiOk at h
  split at h
  · rename_i z; subst z; cases h; exact ⟨by decide +kernel, by simp⟩
  split at h
  · rename_i z; subst z; cases h; exact ⟨by decide +kernel, by simp⟩
  split at h
  · rename_i z; subst z; cases h; exact ⟨by decide +kernel, by simp⟩
  split at h
  · rename_i z; subst z; cases h; exact ⟨by decide +kernel, by simp⟩
  split at h
  · rename_i z; subst z; cases h; exact ⟨by decide +kernel, by simp⟩
  split at h
  · rename_i z; subst z; cases h; exact ⟨by decide +kernel, by simp⟩
  cases h
end
end Z

namespace Z
open PySem PySem.Spec L2
open PyProof.Rows hiding St
section
variable (Φ : String → Option Fn) (c : Cfg) (L : Nat)
def IHE (n : Nat) : Prop := ∀ (sc : Scope) (rd : Bool) (e : Expr) (m : ME) (X : Cx) (W : WX), trE c n sc rd e = some m → Good c Φ L X sc → Takes X W → ExpOk Φ X W e m rd
def IHO (n : Nat) : Prop := ∀ (sc : Scope) (e : Option Expr) (m : Option ME) (X : Cx) (W : WX), trO c n sc e = some m → Good c Φ L X sc → Takes X W → SndO Φ X W e m
def IHD (n : Nat) : Prop := ∀ (sc : Scope) (ks : List (Option Expr)) (vs : List Expr) (ms : List ME) (X : Cx) (W : WX), trD c n sc ks vs = some ms → Good c Φ L X sc → Takes X W → SndD Φ X W ks vs ms
def IHL (n : Nat) : Prop := ∀ (sc : Scope) (es : List Expr) (ms : List ME) (X : Cx) (W : WX), trL c n sc es = some ms → Good c Φ L X sc → Takes X W → SndL Φ X W es ms ∧ es.length = ms.length ∧ (∀ e ∈ es, notStar e = true) ∧ ∀ m ∈ ms, m.isRd = false
def IHB (n : Nat) : Prop := ∀ (sc : Scope) (op : BoolOp) (es : List Expr) (m : ME) (X : Cx) (W : WX), trB c n sc op es = some m → Good c Φ L X sc → Takes X W → ∀ pos, SndE Φ X W (.BoolOp op es pos) m ∧ SndW Φ X W (.BoolOp op es pos) m ∧ m.isRd = false ∧ (2 ≤ es.length → ∀ i, m ≠ .var i)
structure LcOk (X : Cx) (W : WX) (elt tgE iter : Expr) (ifs : List Expr) (scope : Scope) (m : ME) : Prop where
  ex : ∃ (tg : MT) (k : Nat) (ms : List ME) (me : ME) (mt : Option ME) (t : Option Expr) (own : List (Str × Nat)), m = .lc me (own.map (·.2)) tg k ms mt ∧ ifs = ifsOf t ∧ SndI Φ X W tgE iter k ms ∧ (∀ X', IsBlk X scope X' → SndE Φ X' WF elt me) ∧ me.isRd = false ∧
    ((t = none ∧ mt = none) ∨ ∃ te mt', t = some te ∧ mt = some mt' ∧ ∀ X', IsBlk X scope X' → SndT Φ X' WF te mt') ∧ (∀ i ∈ tg.slots, i ∈ own.map (·.2)) ∧ BlkOk X.N X.env.scope scope own ∧
    (∀ (s : Shared) (H : Hp) (C : Addr) (cl : List (Str × Addr)) (fp : List Addr), PG (X.blk s H scope (compEnvC scope cl C X.env) fp) tgE (gOf X.K tg)) ∧ ∀ x, foldedSetIterable iter X.env x = pure x
def IHC (n : Nat) : Prop := ∀ (sc : Scope) (elt tgE iter : Expr) (ifs : List Expr) (scope : Scope) (m : ME) (X : Cx) (W : WX), trC c n sc elt tgE iter ifs scope = some m → Good c Φ L X sc → Takes X W → LcOk Φ X W elt tgE iter ifs scope m
def IHI (n : Nat) : Prop := ∀ (sc : Scope) (tgE iter : Expr) (k : Nat) (ms : List ME) (X : Cx) (W : WX), trI c n sc tgE iter = some (k, ms) → Good c Φ L X sc → Takes X W → SndI Φ X W tgE iter k ms ∧ ∀ x, foldedSetIterable iter X.env x = pure x
end
section
variable {Φ : String → Option Fn} {c : Cfg} {L : Nat}
theorem Good.blk {X X' : Cx} {sc scope : Scope} (G : Good c Φ L X sc) (h : IsBlk X scope X') : Good c Φ L X' (relS scope sc) := by
  obtain ⟨s, H, C, cl, fp, rfl⟩ := h
  have e := G.sc
  subst e
  exact ⟨rfl, G.N, G.nd, G.calm, G.free, G.cst, G.fns, G.room, G.gd⟩
theorem opt_map {α β : Type} {o : Option α} {f : α → β} {b : β} (h : o.map f = some b) : ∃ a, o = some a ∧ f a = b := by
  cases o with
  | none => cases h
  | some a => cases h; exact ⟨a, rfl, rfl⟩
theorem rd_still {a b : ME} (h : ¬ (a.isRd && !b.still) = true) : a.isRd = true → b.still = true := fun z => by
  rw [z] at h
  simpa using h
theorem ihL_step {n : Nat} (hE : IHE Φ c L n) (hL : IHL Φ c L n) : IHL Φ c L (n + 1) := by
  intro sc es ms X W h G tk
  simp only [trL] at h
  split at h
  · cases h
    refine ⟨sndL_nil, rfl, ?_, ?_⟩ <;> intro _ z <;> cases z
  · rename_i e es
    split at h
    · cases h
    · rename_i hs
      have hs : notStar e = true := by simpa using hs
      split at h
      · rename_i m ms' h1 h2
        cases h
        have a := hE sc false e m X W h1 G tk
        obtain ⟨b1, b2, b3, b4⟩ := hL sc es ms' X W h2 G tk
        refine ⟨sndL_cons hs a.snd b1 a.nr, by simp [b2], fun x hx => ?_, fun x hx => ?_⟩
        · rcases List.mem_cons.mp hx with rfl | hx
          · exact hs
          · exact b3 x hx
        · rcases List.mem_cons.mp hx with rfl | hx
          · exact a.nr
          · exact b4 x hx
      · cases h
theorem ihO_step {n : Nat} (hE : IHE Φ c L n) : IHO Φ c L (n + 1) := by
  intro sc e m X W h G tk
  simp only [trO] at h
  split at h
  · cases h; exact .no
  · obtain ⟨m', h1, rfl⟩ := opt_map h
    exact .yes (hE sc true _ m' X W h1 G tk).snd
theorem ihD_step {n : Nat} (hE : IHE Φ c L n) (hD : IHD Φ c L n) : IHD Φ c L (n + 1) := by
  intro sc ks vs ms X W h G tk
  simp only [trD] at h
  split at h
  · cases h; exact .nil
  · split at h
    · rename_i k v ms' h1 h2 h3
      cases h
      have a := hE sc false _ k X W h1 G tk
      have b := hE sc false _ v X W h2 G tk
      exact .cons a.snd b.snd a.nr b.nr (hD sc _ _ ms' X W h3 G tk)
    · cases h
  · cases h
theorem ihB_step {n : Nat} (hE : IHE Φ c L n) (hB : IHB Φ c L n) : IHB Φ c L (n + 1) := by
  intro sc op es m X W h G tk pos
  simp only [trB] at h
  split at h
  · cases h
  · rename_i e
    split at h
    · rename_i ht
      have a := hE sc false _ m X W h G tk
      exact ⟨snd_one a.snd, sndW_one (a.tst ht), a.nr, fun z => by simp at z⟩
    · cases h
  · rename_i e e2 es
    split at h
    · rename_i ht
      split at h
      · rename_i ma mb h1 h2
        have a := hE sc false _ ma X W h1 G tk
        obtain ⟨b1, b2, b3, _⟩ := hB sc op _ mb X W h2 G tk pos
        cases op with
        | And => cases h; exact ⟨snd_and a.snd b1 b3, sndW_and (a.tst ht) b2, rfl, fun _ i z => by cases z⟩
        | Or => cases h; exact ⟨snd_or a.snd b1 b3, sndW_or (a.tst ht) b2, rfl, fun _ i z => by cases z⟩
      · cases h
    · cases h
theorem notSet_ok {e : Expr} (h : notSet e = true) (env : PySem.Env) : ∀ x, foldedSetIterable e env x = pure x := by
  intro x
  cases e <;> first | rfl | cases h
theorem ihI_step {n : Nat} (hE : IHE Φ c L n) (hL : IHL Φ c L n) : IHI Φ c L (n + 1) := by
  intro sc tgE iter k ms X W h G tk
  have bare : (if notSet iter = true then (trE c n sc true iter).map fun m => (0, [m]) else none) = some (k, ms) → SndI Φ X W tgE iter k ms ∧ ∀ x, foldedSetIterable iter X.env x = pure x := fun h => by
    split at h
    · rename_i hn
      obtain ⟨m, h1, h2⟩ := opt_map h
      cases h2
      exact ⟨sndi_bare (hE sc true _ m X W h1 G tk).s, notSet_ok hn _⟩
    · cases h
  simp only [trI] at h
  split at h
  · rename_i f p args pos
    split at h
    · rename_i hf
      simp only [Bool.and_eq_true] at hf
      obtain ⟨⟨hf1, hf2⟩, hf3⟩ := hf
      have hg := gl_of G.sc hf2
      have hm := G.free f hf3
      split at h
      · rename_i e
        subst e
        split at h
        · rename_i a
          obtain ⟨ms', h1, h2⟩ := opt_map h
          cases h2
          obtain ⟨b1, b2, b3, b4⟩ := hL sc _ ms X W h1 G tk
          exact ⟨sndi_range1 hg hm (b3 _ (List.mem_cons_self ..)) b1 b4 b2.symm, fun _ => rfl⟩
        · rename_i a b
          obtain ⟨ms', h1, h2⟩ := opt_map h
          cases h2
          obtain ⟨b1, b2, b3, b4⟩ := hL sc _ ms X W h1 G tk
          exact ⟨sndi_range2 hg hm (b3 _ (List.mem_cons_self ..)) (b3 _ (by simp)) b1 b4 b2.symm, fun _ => rfl⟩
        · cases h
      · split at h
        · rename_i e
          obtain ⟨e, ht⟩ := e
          subst e
          split at h
          · rename_i a
            split at h
            · rename_i hs
              obtain ⟨m, h1, h2⟩ := opt_map h
              cases h2
              cases tgE with
              | Tuple => exact ⟨sndi_enum hg hm hs (hE sc true _ m X W h1 G tk).s, fun _ => rfl⟩
              | _ => cases ht
            · cases h
          · cases h
        · split at h
          · rename_i e
            obtain ⟨e, ht⟩ := e
            subst e
            split at h
            · rename_i a b
              split at h
              · rename_i hs
                rw [Bool.and_eq_true] at hs
                split at h
                · rename_i ma mb h1 h2
                  cases h
                  cases tgE with
                  | Tuple => exact ⟨sndi_zip hg hm hs.1 hs.2 (hE sc true _ ma X W h1 G tk).s (hE sc true _ mb X W h2 G tk).s, fun _ => rfl⟩
                  | _ => cases ht
                · cases h
              · cases h
            · cases h
          · exact bare h
    · exact bare h
  · exact bare h
theorem ihC_step {n : Nat} (hE : IHE Φ c L n) (hI : IHI Φ c L n) : IHC Φ c L (n + 1) := by
  intro sc elt tgE iter ifs scope m X W h G tk
  simp only [trC] at h
  split at h
  · rename_i hblk
    split at h
    · rename_i tg k ms me h1 h2 h3
      split at h
      · rename_i hall
        have hts : ∀ i ∈ tg.slots, i ∈ (ownOf c scope).map (·.2) := fun i hi => of_decide_eq_true (List.all_eq_true.mp hall i hi)
        obtain ⟨i1, i2⟩ := hI sc tgE iter k ms X W h2 G tk
        have ok : BlkOk X.N X.env.scope scope (ownOf c scope) := by rw [G.N, G.sc]; exact blkOk_by hblk
        have hg : ∀ (s : Shared) (H : Hp) (C : Addr) (cl : List (Str × Addr)) (fp : List Addr), PG (X.blk s H scope (compEnvC scope cl C X.env) fp) tgE (gOf X.K tg) := fun s H C cl fp => by
          have G' := G.blk (scope := scope) (X' := X.blk s H scope (compEnvC scope cl C X.env) fp) ⟨s, H, C, cl, fp, rfl⟩
          exact pg_of (X := X.blk s H scope (compEnvC scope cl C X.env) fp) G'.calm G'.sc G'.N G'.nd (fun z => by cases z) h1
        have a := fun X' (hX : IsBlk X scope X') => hE _ false _ me X' WF h3 (G.blk hX) (takes_blk (scope := scope))
        have hr : me.isRd = false := (a _ ⟨X.s_0, X.H_0, 0, [], [], rfl⟩).nr
        split at h
        · cases h
          exact ⟨tg, k, ms, me, none, none, ownOf c scope, rfl, rfl, i1, fun X' hX => (a X' hX).snd, hr, .inl ⟨rfl, rfl⟩, hts, ok, hg, i2⟩
        · rename_i te
          split at h
          · rename_i hot
            obtain ⟨mt, h4, rfl⟩ := opt_map h
            exact ⟨tg, k, ms, me, some mt, some te, ownOf c scope, rfl, rfl, i1, fun X' hX => (a X' hX).snd, hr, .inr ⟨te, mt, rfl, rfl, fun X' hX => (hE _ false _ mt X' WF h4 (G.blk hX) (takes_blk (scope := scope))).tst hot⟩, hts, ok, hg, i2⟩
          · cases h
        · cases h
      · cases h
    · cases h
  · cases h
theorem lc_snd {X : Cx} {W : WX} {sc : Scope} {elt tgE iter : Expr} {ifs : List Expr} {scope : Scope} {m : ME} {pos : Pos} (G : Good c Φ L X sc) (h : LcOk Φ X W elt tgE iter ifs scope m) : SndE Φ X W (.ListComp elt [⟨tgE, iter, ifs, 0⟩] scope pos) m ∧ m.isRd = false ∧ ∀ i, m ≠ .var i := by
  obtain ⟨tg, k, ms, me, mt, t, own, rfl, rfl, i1, he, hr, ht, hts, ok, hg, hs⟩ := h.ex
  refine ⟨fun O ρ σ H Q E q => ?_, rfl, fun i z => by cases z⟩
  exact WE.by (pe_lc G.calm (by rw [G.N]; exact G.nd) pi_w ok hg ttB_ok teB_ok hs) (lc_run i1 he hr ht hts E q)
end
end Z

namespace Z
open PySem PySem.Spec L2
open PyProof.Rows hiding St
section
variable {Φ : String → Option Fn} {c : Cfg} {L : Nat}
theorem sndT_neg {X : Cx} {W : WX} {a : Expr} {pos : Pos} {ma : ME} (h : SndE Φ X W (.UnaryOp .USub a pos) (.neg ma)) : SndT Φ X W (.UnaryOp .USub a pos) (.neg ma) := snd_tv h rfl
theorem ihE_step {n : Nat} (hE : IHE Φ c L n) (hO : IHO Φ c L n) (hD : IHD Φ c L n) (hL : IHL Φ c L n) (hB : IHB Φ c L n) (hC : IHC Φ c L n) : IHE Φ c L (n + 1) := by
  intro sc rd e m X W h G tk
  cases e with
  | Constant k j p =>
    simp only [trE] at h
    split at h <;> cases h
    · exact .of (snd_cst pe_int rfl) rfl (fun _ z => by cases z) rfl
    · exact .of (snd_cst pe_str rfl) rfl (fun _ z => by cases z) rfl
    · exact .of (snd_cst pe_bl rfl) rfl (fun _ z => by cases z) rfl
    · exact .of (snd_cst pe_non rfl) rfl (fun _ z => by cases z) rfl
  | Name x p =>
    simp only [trE] at h
    split at h
    · cases h
    · rename_i hok
      have hok : okName x = true := by simpa using hok
      split at h
      · rename_i hv
        obtain ⟨i, hi, rfl⟩ := opt_map h
        have pv := G.var (p := p) hok hv hi
        cases rd with
        | true => exact ⟨snd_rd pv, .inr ⟨x, p, i, rfl, rfl, rfl, pv⟩, fun _ z => (by cases z), fun _ => snd_tv (snd_rd pv) rfl⟩
        | false => exact ⟨snd_var pv, .inl rfl, fun j z => by cases z; exact pv, fun _ => snd_tv (snd_var pv) rfl⟩
      · split at h
        · rename_i hg
          obtain ⟨d, hd, rfl⟩ := opt_map h
          obtain ⟨s, u, hm, r⟩ := G.cst x d hd
          exact .of (snd_cst (pe_glob (gl_of G.sc hg) hm r (okName_of hok).1) s) rfl (fun _ z => by cases z) rfl
        · cases h
  | Tuple es k p =>
    simp only [trE] at h
    split at h
    · rename_i hl
      obtain ⟨ms, h1, rfl⟩ := opt_map h
      obtain ⟨b1, b2, _⟩ := hL sc es ms X W h1 G tk
      exact .of (snd_tup b1 (by omega)) rfl (fun _ z => by cases z) rfl
    · cases h
  | List es p =>
    simp only [trE] at h
    split at h
    · rename_i hl
      obtain ⟨ms, h1, rfl⟩ := opt_map h
      obtain ⟨b1, b2, _⟩ := hL sc es ms X W h1 G tk
      exact .of (snd_lst b1 (by omega)) rfl (fun _ z => by cases z) rfl
    · cases h
  | Dict ks vs p =>
    simp only [trE] at h
    split at h
    · rename_i hl
      obtain ⟨ms, h1, rfl⟩ := opt_map h
      exact .of (snd_dsp (hD sc ks vs ms X W h1 G tk) hl) rfl (fun _ z => by cases z) rfl
    · cases h
  | BinOp a op b p =>
    simp only [trE] at h
    split at h
    · rename_i ma mb h1 h2
      split at h
      · split at h
        · rename_i a2 h3
          split at h
          · cases h
          · rename_i hr
            cases h
            exact .of (snd_bin (hE sc false a a2 X W h3 G tk).snd (hE sc true b mb X W h2 G tk).snd (fun z => absurd z hr)) rfl (fun _ z => by cases z) rfl
        · cases h
      · rename_i hr
        cases h
        exact .of (snd_bin (hE sc true a ma X W h1 G tk).snd (hE sc true b mb X W h2 G tk).snd (rd_still hr)) rfl (fun _ z => by cases z) rfl
    · cases h
  | UnaryOp op a p =>
    simp only [trE] at h
    split at h
    · obtain ⟨ma, h1, rfl⟩ := opt_map h
      exact .of (snd_neg (hE sc false a ma X W h1 G tk).snd) rfl (fun _ z => by cases z) rfl
    · split at h
      · rename_i ht
        obtain ⟨ma, h1, rfl⟩ := opt_map h
        have ea := hE sc false a ma X W h1 G tk
        exact ⟨snd_not ea.snd, .inl rfl, fun _ z => (by cases z), fun _ => sndT_not (ea.tst ht)⟩
      · cases h
    · cases h
  | BoolOp op es p =>
    simp only [trE] at h
    split at h
    · rename_i e1 e2 es
      obtain ⟨b1, b2, b3, b4⟩ := hB sc op _ m X W h G tk p
      exact ⟨b1, .inl b3, fun i z => absurd z (b4 (by simp) i), fun _ => b2.t⟩
    · cases h
  | Compare a ops bs p =>
    simp only [trE] at h
    split at h
    · rename_i op b
      split at h
      · cases h
      · rename_i hop
        have hop : op ≠ .In ∧ op ≠ .NotIn := ⟨fun z => hop (.inl z), fun z => hop (.inr z)⟩
        split at h
        · rename_i ma mb h1 h2
          unfold rdIf at h
          split at h
          · cases h
          · rename_i hr
            cases h
            have ea := hE sc true a ma X W h1 G tk
            have eb := hE sc true b mb X W h2 G tk
            exact ⟨snd_cmp G.units hop ea.snd eb.snd (rd_still hr), .inl rfl, fun _ z => (by cases z), fun _ => sndT_cmp G.units hop ea.snd eb.snd (rd_still hr)⟩
        · cases h
    · rename_i op op' b d
      split at h
      · cases h
      · rename_i hop
        have hop : op' ≠ .In ∧ op' ≠ .NotIn := ⟨fun z => hop (.inl z), fun z => hop (.inr z)⟩
        split at h
        · rename_i ma mb md h1 h2 h3
          cases h
          have ea := hE sc false a ma X W h1 G tk
          have eb := hE sc false b mb X W h2 G tk
          have ed := hE sc false d md X W h3 G tk
          exact ⟨snd_chain G.units hop ea.snd eb.snd ed.snd ea.nr eb.nr, .inl rfl, fun _ z => (by cases z), fun _ => sndT_chain G.units hop ea.snd eb.snd ed.snd ea.nr eb.nr⟩
        · cases h
    · cases h
  | IfExp t a b p =>
    simp only [trE] at h
    split at h
    · rename_i ht
      split at h
      · rename_i mt ma mb h1 h2 h3
        cases h
        have et := hE sc false t mt X W h1 G tk
        have ea := hE sc false a ma X W h2 G tk
        have eb := hE sc false b mb X W h3 G tk
        exact ⟨snd_ite (et.tst ht) ea.snd eb.snd ea.nr eb.nr, .inl rfl, fun _ z => (by cases z), fun z => by cases z⟩
      · cases h
    · cases h
  | Call fe args kws p =>
    simp only [trE] at h
    split at h
    · rename_i f fp
      split at h
      · cases h
      · rename_i hf
        simp only [Bool.or_eq_true, Bool.not_eq_true', not_or, Bool.not_eq_false] at hf
        have hg := gl_of G.sc hf.2
        obtain ⟨hdb, _, hnn⟩ := okName_of hf.1
        split at h
        · rename_i key hkey
          obtain ⟨fn, hΦ, hio, F⟩ := G.fns f key true hkey
          split at h
          · rename_i x xp rest
            split at h
            · rename_i hx
              rw [Bool.and_eq_true] at hx
              split at h
              · rename_i i ms h1 h2
                cases h
                obtain ⟨b1, b2, b3, b4⟩ := hL sc rest ms X W h2 G tk
                exact .of (snd_callio hΦ F G.room G.gd tk hg hdb (G.var hx.1 hx.2 h1) b3 b1 b2) rfl (fun _ z => by cases z) rfl
              · cases h
            · cases h
          · cases h
        · rename_i key hkey
          obtain ⟨fn, hΦ, hio, F⟩ := G.fns f key false hkey
          obtain ⟨ms, h1, rfl⟩ := opt_map h
          obtain ⟨b1, b2, b3, b4⟩ := hL sc args ms X W h1 G tk
          exact .of (snd_call hΦ hio F G.room G.gd tk hg hdb b3 b1 b2) rfl (fun _ z => by cases z) rfl
        · split at h
          · cases h
          · rename_i hfree
            have hfree : c.free.contains f = true := by simpa using hfree
            have hm := G.free f hfree
            split at h
            · rename_i a
              split at h
              · rename_i hs
                split at h
                · rename_i b hb
                  obtain ⟨ma, h1, rfl⟩ := opt_map h
                  exact .of (snd_bi G.gd G.units (bi_of hb) hg hm hnn hdb hs (hE sc true a ma X W h1 G tk).snd) rfl (fun _ z => by cases z) rfl
                · cases h
              · cases h
            · rename_i a C
              split at h
              · rename_i hs
                rw [Bool.and_eq_true, decide_eq_true_eq] at hs
                obtain ⟨hs, rfl⟩ := hs
                split at h
                · rename_i C cp
                  split at h
                  · rename_i hC
                    simp only [Bool.and_eq_true] at hC
                    obtain ⟨⟨c1, c2⟩, c3⟩ := hC
                    split at h
                    · rename_i b ma h1 h2
                      cases h
                      obtain ⟨d1, d2⟩ := isi_of h1
                      obtain ⟨o1, _, o3⟩ := okName_of c1
                      exact .of (snd_isi hg hm (gl_of G.sc c2) (G.free C c3) d1 o3 o1 d2 hs (hE sc true a ma X W h2 G tk).snd) rfl (fun _ z => by cases z) rfl
                    · cases h
                  · cases h
                · cases h
              · cases h
            · cases h
    · cases h
  | Subscript a b p =>
    simp only [trE] at h
    split at h
    · rename_i lo hi st sp
      split at h
      · cases h
      · rename_i hst
        have hst : st = none := by
          cases st with
          | none => rfl
          | some _ => exact absurd rfl hst
        subst hst
        split at h
        · rename_i ma ml mh h1 h2 h3
          have eo := hO sc lo ml X W h2 G tk
          have eh := hO sc hi mh X W h3 G tk
          split at h
          · split at h
            · rename_i a2 h4
              split at h
              · cases h
              · rename_i hr
                cases h
                exact .of (snd_slc (hE sc false a a2 X W h4 G tk).snd eo eh (fun z => absurd z hr)) rfl (fun _ z => by cases z) rfl
            · cases h
          · rename_i hr
            cases h
            exact .of (snd_slc (hE sc true a ma X W h1 G tk).snd eo eh (fun z => by rw [z] at hr; simpa using hr)) rfl (fun _ z => by cases z) rfl
        · cases h
    · cases h
    · rename_i n1 n2
      have hp : plainIx b = true := by
        cases b <;> first | rfl | exact absurd rfl (n1 _ _ _ _) | exact absurd rfl (n2 _ _ _)
      split at h
      · rename_i ma mb h1 h2
        split at h
        · split at h
          · rename_i a2 h3
            split at h
            · cases h
            · rename_i hr
              cases h
              exact .of (snd_ix (hE sc false a a2 X W h3 G tk).snd (hE sc false b mb X W h2 G tk).snd hp (fun z => absurd z hr)) rfl (fun _ z => by cases z) rfl
          · cases h
        · rename_i hr
          cases h
          exact .of (snd_ix (hE sc true a ma X W h1 G tk).snd (hE sc false b mb X W h2 G tk).snd hp (rd_still hr)) rfl (fun _ z => by cases z) rfl
      · cases h
  | ListComp elt gs scope p =>
    simp only [trE] at h
    split at h
    · rename_i g
      split at h
      · rename_i hg
        obtain ⟨tgE, iter, ifs, as⟩ := g
        dsimp only at hg h
        subst hg
        obtain ⟨a, b, d⟩ := lc_snd (pos := p) G (hC sc elt tgE iter ifs scope m X W h G tk)
        exact .of a b d rfl
      · cases h
    · cases h
  | _ => simp [trE] at h
theorem ih_all (n : Nat) : IHE Φ c L n ∧ IHO Φ c L n ∧ IHD Φ c L n ∧ IHL Φ c L n ∧ IHB Φ c L n ∧ IHC Φ c L n ∧ IHI Φ c L n := by
  induction n with
  | zero =>
    refine ⟨fun _ _ _ _ _ _ h => ?_, fun _ _ _ _ _ h => ?_, fun _ _ _ _ _ _ h => ?_, fun _ _ _ _ _ h => ?_, fun _ _ _ _ _ _ h => ?_, fun _ _ _ _ _ _ _ _ _ h => ?_, fun _ _ _ _ _ _ _ h => ?_⟩
    · simp [trE] at h
    · simp [trO] at h
    · simp [trD] at h
    · simp [trL] at h
    · simp [trB] at h
    · simp [trC] at h
    · simp [trI] at h
  | succ n ih =>
    obtain ⟨hE, hO, hD, hL, hB, hC, hI⟩ := ih
    exact ⟨ihE_step hE hO hD hL hB hC, ihO_step hE, ihD_step hE hD, ihL_step hE hL, ihB_step hE hB, ihC_step hE hI, ihI_step hE hL⟩
theorem trE_ok {n : Nat} {sc : Scope} {rd : Bool} {e : Expr} {m : ME} {X : Cx} {W : WX} (h : trE c n sc rd e = some m) (G : Good c Φ L X sc) (tk : Takes X W) : ExpOk Φ X W e m rd := (ih_all n).1 sc rd e m X W h G tk
theorem trI_ok {n : Nat} {sc : Scope} {tgE iter : Expr} {k : Nat} {ms : List ME} {X : Cx} {W : WX} (h : trI c n sc tgE iter = some (k, ms)) (G : Good c Φ L X sc) (tk : Takes X W) : SndI Φ X W tgE iter k ms ∧ ∀ x, foldedSetIterable iter X.env x = pure x := (ih_all n).2.2.2.2.2.2 sc tgE iter k ms X W h G tk
theorem trC_ok {n : Nat} {sc scope : Scope} {elt tgE iter : Expr} {ifs : List Expr} {m : ME} {X : Cx} {W : WX} (h : trC c n sc elt tgE iter ifs scope = some m) (G : Good c Φ L X sc) (tk : Takes X W) : LcOk Φ X W elt tgE iter ifs scope m := (ih_all n).2.2.2.2.2.1 sc elt tgE iter ifs scope m X W h G tk
end
end Z

namespace Z
open PySem PySem.Spec L2
open PyProof.Rows hiding St
/-! ### stores of pairs -/
theorem sw_pair {env : PySem.Env} {x y : Str} {px py pt pt2 : Pos} {a b : Expr} {kt k2 : Nat} (hk : env.scope.kind = .function) (hx : env.scope.names.lookup x = some .local) (hy : env.scope.names.lookup y = some .local) (hne : x ≠ y) (hl : (py.line == px.line) = true) (na : notStar a = true) (nb : notStar b = true)
    (hf : [a, b].all (foldedForSure 8) = false) (hc : [a, b].all (constantsAlone 8) = false) : swappedStores [.Tuple [.Name x px, .Name y py] kt pt] (.Tuple [a, b] k2 pt2) env = pure (some [x, y]) := by
  have kx : env.kindOf x = some .local := hx
  have ky : env.kindOf y = some .local := hy
  have hb : env.blockKind = .function := by unfold Env.blockKind; rw [hk]; rfl
  have hed : [x, y].eraseDups.length = 2 := by
    rw [List.eraseDups_cons]
    have : ([y].filter fun b => !(b == x)) = [y] := by
      rw [List.filter_cons]
      have : (!(y == x)) = true := by simp [Ne.symm hne]
      rw [this]; rfl
    rw [this]; rfl
  unfold swappedStores
  simp only [List.length_cons, List.length_nil, hb]
  simp only [List.head?_cons, Option.map_some, Option.getD_some, Expr.pos, List.filterMap_cons, List.filterMap_nil, kx, ky, hl, beq_self_eq_true, Bool.and_self, Bool.true_and, if_true]
  simp only [hed, hf, hc]
  rw [if_neg (by decide), if_neg ?hh, if_neg (fun h => Bool.noConfusion h), if_neg (by decide), if_neg (by decide)]
  refine fun h => ?_
  cases a <;> first | exact Bool.noConfusion na | (cases b <;> first | exact Bool.noConfusion nb | exact Bool.noConfusion h)
theorem sw_none {env : PySem.Env} {ts vs : List Expr} {kt k2 : Nat} {pt pt2 : Pos} (h : (vs.all (foldedForSure 8) || decide (ts.length > 3)) = true) : swappedStores [.Tuple ts kt pt] (.Tuple vs k2 pt2) env = pure none := by
  unfold swappedStores
  simp only []
  rw [Bool.or_eq_true, decide_eq_true_eq] at h
  rcases h with h | h
  · split
    · rfl
    · split
      · rfl
      · split
        · rfl
        · first | rfl | (rw [h]; rfl)
  · have : (!(ts.length == 2 || ts.length == 3)) = true := by
      have h2 : ts.length ≠ 2 := by omega
      have h3 : ts.length ≠ 3 := by omega
      simp [h2, h3]
    rw [this]; rfl
theorem sw_else {env : PySem.Env} {ts : List Expr} {e : Expr} {kt : Nat} {pt : Pos} (h : isTup e = false) : swappedStores [.Tuple ts kt pt] e env = pure none := by
  cases e <;> first | rfl | cases h
structure GoodS (c : Cfg) (Φ : String → Option Fn) (L : Nat) (X : Cx) (sc : Scope) : Prop where
  g : Good c Φ L X sc
  kind : sc.kind = .function
  fn : ∀ x, X.fn x = true
  pass : PassesOwn (model X.prog X.w) X.A X.env X.xe
  exc : ∀ C, c.excs.contains C = true → ∃ (B newId initId : String) (bmB : List Value), ExcBaseFacts B newId initId bmB ∧ PySem.W.excIn X.K (He.ga X.K C) bmB newId = true ∧ X.mg C = some (.ref (He.ga X.K C)) ∧ PySem.W.keepIn X.K (.ref (He.ga X.K C)) = true ∧ Raises X (.ref (He.ga X.K C))
section
variable {Φ : String → Option Fn} {c : Cfg} {L : Nat}
variable (Φ c L) in
def IHS (n : Nat) : Prop := ∀ (sc : Scope) (st : Stmt) (m : MS) (X : Cx) (W : WX), trS c n sc st = some m → GoodS c Φ L X sc → Takes X W → ∀ k, SndSt Φ X W k st m
variable (Φ c L) in
def IHSs (n : Nat) : Prop := ∀ (sc : Scope) (ss : List Stmt) (X : Cx) (W : WX), GoodS c Φ L X sc → Takes X W → ∀ k, SndSs Φ X W k ss (trSs c n sc ss)
theorem trySlot_of {sc : Scope} {x : Str} {i : Nat} (h : trySlot c sc x = some i) : Loc sc x ∧ c.N[i]? = some x := by
  unfold trySlot at h
  split at h
  · rename_i hc
    rw [Bool.and_eq_true] at hc
    exact ⟨loc_of hc.2, slot_of h⟩
  · cases h
theorem isTup_of {e : Expr} (h : ∀ vs k p, e = .Tuple vs k p → False) : isTup e = false := by
  cases e with
  | Tuple vs k p => exact (h vs k p rfl).elim
  | _ => rfl
theorem ihSs_step {n : Nat} (hS : IHS Φ c L n) (hSs : IHSs Φ c L n) : IHSs Φ c L (n + 1) := by
  intro sc ss X W G tk k
  simp only [trSs]
  split
  · exact ss_nil
  · rename_i s ss
    refine ss_cons ?_ (hSs sc ss X W G tk k)
    cases z : trS c n sc s with
    | none => exact st_bad
    | some m => exact hS sc s m X W z G tk k
theorem ihS_step {n : Nat} (hSs : IHSs Φ c L n) : IHS Φ c L (n + 1) := by
  intro sc st m X W h GS tk k
  have G := GS.g
  have nd : X.N.Nodup := by rw [G.N]; exact G.nd
  have slotN : ∀ {x : Str} {i : Nat}, trySlot c sc x = some i → X.N[i]? = some x := fun {x i} h => by rw [G.N]; exact (trySlot_of h).2
  have locN : ∀ {x : Str} {i : Nat}, trySlot c sc x = some i → Loc X.env.scope x := fun {x i} h => by rw [G.sc]; exact (trySlot_of h).1
  cases st with
  | Pass p => simp only [trS] at h; cases h; exact st_pass
  | Break p => simp only [trS] at h; cases h; exact st_brk
  | Expr e p =>
    have plain : ∀ {e : Expr} {m : MS}, isComp e = false → (trE c fuelT sc false e).map MS.expr = some m → SndSt Φ X W k (.Expr e p) m := fun {e m} hc h => by
      obtain ⟨me, h1, rfl⟩ := opt_map h
      exact st_expr (trE_ok h1 G tk).snd hc
    simp only [trS] at h
    split at h
    · split at h
      · cases h; exact st_doc
      · cases h
    · rename_i fe args kws cp
      split at h
      · rename_i o mm ap a
        split at h
        · rename_i hc
          obtain ⟨rfl, hl, hs⟩ := hc
          split at h
          · rename_i x xp
            split at h
            · rename_i hx
              rw [Bool.and_eq_true] at hx
              split at h
              · rename_i i ma h1 h2
                cases h
                have ea := trE_ok h2 G tk
                exact st_app (G.var hx.1 hx.2 h1) ea.snd ea.nr hs hl
              · cases h
            · cases h
          · cases h
        · cases h
      · exact plain rfl h
    · rename_i n1 n2
      split at h
      · cases h
      · rename_i hc
        exact plain (by simpa using hc) h
  | Return e p =>
    simp only [trS] at h
    split at h
    · cases h; exact st_retN
    · obtain ⟨me, h1, rfl⟩ := opt_map h
      have ea := trE_ok h1 G tk
      exact st_ret ea.snd ea.nr ea.var
  | If t a b p =>
    simp only [trS] at h
    split at h
    · rename_i ht
      obtain ⟨mt, h1, rfl⟩ := opt_map h
      exact st_ite ((trE_ok h1 G tk).tst ht) (hSs sc a X W GS tk k) (hSs sc b X W GS tk k)
    · cases h
  | While t b orl p =>
    simp only [trS] at h
    split at h
    · split at h
      · rename_i ht
        obtain ⟨mt, h1, rfl⟩ := opt_map h
        exact st_while GS.pass ((trE_ok h1 G tk).tst ht) (hSs sc b X W GS tk k)
      · cases h
    · cases h
  | For tgE iter b orl p =>
    simp only [trS] at h
    split at h
    · split at h
      · rename_i tg kk ms h1 h2
        split at h
        · cases h
          obtain ⟨i1, i2⟩ := trI_ok h2 G tk
          exact st_for GS.pass G.calm i1 (pg_of G.calm G.sc G.N G.nd (fun _ => GS.fn) h1) (hSs sc b X W GS tk k) i2
        · cases h
      · cases h
    · cases h
  | Raise e cause p =>
    simp only [trS] at h
    split at h
    · rename_i fe args kws cp
      split at h
      · rename_i C Cp x j xp
        split at h
        · rename_i hc
          simp only [Bool.and_eq_true] at hc
          cases h
          obtain ⟨B, newId, initId, bmB, F, q, gC, kC, r⟩ := GS.exc C hc.2
          exact st_raise G.calm tk (pmk_own F q gC kC r (gl_of G.sc hc.1.2) (okName_of hc.1.1).1)
        · cases h
      · cases h
    · cases h
  | Assign tgs e p =>
    simp only [trS] at h
    split at h
    · rename_i tgE
      split at h
      · rename_i x px
        split at h
        · rename_i i hi
          split at h
          · rename_i elt gs scope lp
            split at h
            · rename_i g
              split at h
              · rename_i hc
                obtain ⟨ha, hl, hln, hno⟩ := hc
                obtain ⟨m', h1, rfl⟩ := opt_map h
                obtain ⟨tgE, iter, ifs, as⟩ := g
                dsimp only at ha h1
                subst ha
                obtain ⟨tg, kk, ms, me, mt, t, own, rfl, rfl, i1, he, hr, ht, hts, ok, hg, hs⟩ := (trC_ok h1 G tk).ex
                have hlx : X.env.scope.names.lookup x = some .local := by rw [G.sc]; exact local_of hl
                exact st_setLc G.calm nd (slotN hi) hlx (sw_true (by rw [G.sc]; exact GS.kind) hlx hln hno) ok hg hs i1 he hr ht hts
              · cases h
            · cases h
          · split at h
            · cases h
            · rename_i hc
              obtain ⟨me, h1, rfl⟩ := opt_map h
              have ea := trE_ok h1 G tk
              exact st_set nd (slotN hi) (locN hi) (.inl (GS.fn x)) ea.snd ea.nr (by simpa using hc)
        · cases h
      · rename_i ts kt pt
        split at h
        · rename_i vs k2 pt2
          split at h
          · rename_i hsw
            split at h
            · rename_i x px y py a b
              split at h
              · rename_i i j ma mb h1 h2 h3 h4
                cases h
                have ea := trE_ok h3 G tk
                have eb := trE_ok h4 G tk
                simp only [swPair, Bool.and_eq_true, decide_eq_true_eq, Bool.not_eq_true'] at hsw
                obtain ⟨⟨⟨⟨⟨⟨⟨l1, l2⟩, l3⟩, l4⟩, l5⟩, l6⟩, l7⟩, l8⟩ := hsw
                have hx : X.env.scope.names.lookup x = some .local := by rw [G.sc]; exact local_of l1
                have hy : X.env.scope.names.lookup y = some .local := by rw [G.sc]; exact local_of l2
                have hij : i ≠ j := fun z => by
                  subst z
                  have p1 := slotN h1
                  have p2 := slotN h2
                  rw [p1] at p2; cases p2; exact l3 rfl
                exact st_par G.calm nd (slotN h1) (slotN h2) hij hx hy ea.snd eb.snd ea.nr eb.nr l5 l6 (sw_pair (by rw [G.sc]; exact GS.kind) hx hy l3 l4 l5 l6 l7 l8)
              · cases h
            · cases h
          · split at h
            · rename_i hn
              split at h
              · rename_i is me h1 h2
                cases h
                have ea := trE_ok h2 G tk
                exact st_asg ea.snd ea.nr (pg_of (c := c) (all := true) (tg := .tp is) G.calm G.sc G.N G.nd (fun _ => GS.fn) (by simp only [trG, h1]; rfl)) rfl (sw_none hn) rfl
              · cases h
            · cases h
        · rename_i nt
          split at h
          · cases h
          · rename_i hc
            split at h
            · rename_i is me h1 h2
              cases h
              have ea := trE_ok h2 G tk
              have hsw : swapsWithSole [.Tuple ts kt pt] e p.line X.env = pure false := by
                cases e <;> rfl
              exact st_asg ea.snd ea.nr (pg_of (c := c) (all := true) (tg := .tp is) G.calm G.sc G.N G.nd (fun _ => GS.fn) (by simp only [trG, h1]; rfl)) hsw (sw_else (isTup_of fun vs k p z => nt vs k p z)) rfl
            · cases h
      · rename_i o ix pp
        split at h
        · rename_i hp
          split at h
          · rename_i x xp
            split at h
            · rename_i hx
              rw [Bool.and_eq_true] at hx
              split at h
              · rename_i i mi me h1 h2 h3
                cases h
                have ei := trE_ok h2 G tk
                have ee := trE_ok h3 G tk
                exact st_setIx (G.var hx.1 hx.2 h1) ee.snd ei.snd ee.nr hp
              · cases h
            · cases h
          · cases h
        · cases h
      · cases h
    · cases h
  | _ => simp [trS] at h
theorem ihs_all (n : Nat) : IHS Φ c L n ∧ IHSs Φ c L n := by
  induction n with
  | zero =>
    refine ⟨fun _ _ _ _ _ h => ?_, fun sc ss X W G tk k => ?_⟩
    · simp [trS] at h
    · simp only [trSs]
      intro O ρ σ H D E q
      simp only [exB, exS] at q
      exact q.elim
  | succ n ih => exact ⟨ihS_step ih.2, ihSs_step ih.1 ih.2⟩
theorem trSs_ok {n : Nat} {sc : Scope} {ss : List Stmt} {X : Cx} {W : WX} (G : GoodS c Φ L X sc) (tk : Takes X W) (k : Nat) : SndSs Φ X W k ss (trSs c n sc ss) := (ihs_all n).2 sc ss X W G tk k
end
end Z

namespace Z
open PySem PySem.Spec L2
open PyProof.Rows hiding St
/-! ### a def by its body -/
/-- the slots at the entry -/
def sl0 (io : Bool) (n : Nat) (ds : List D) : Vn := (match ds with
  | [] => []
  | d :: dr => (if io then Sl.io d else Sl.val d) :: dr.map Sl.val) ++ List.replicate (n - ds.length) .non
def Out.as (o : Out) (fn : Fn) : FRes → Prop
  | .ok d s => (∃ fl ρ', o = .rt fl d ρ' ∧ (fn.fresh = true → fl = true) ∧ (fn.io = true → ρ'[0]? = some (.io s))) ∨ ∃ ρ', o = .nx ρ' ∧ d = .non ∧ fn.fresh = false ∧ (fn.io = true → ρ'[0]? = some (.io s))
  | .exn x s => ∃ ρ', o = .exn x ρ' ∧ (fn.io = true → ρ'[0]? = some (.io s))
  | .stuck => True
/-- what is known of the module -/
structure Mdl (c : Cfg) (P : Program) (w : World) (K : PySem.W.Frag) (mg : Str → Option Value) : Prop where
  free : ∀ x, c.free.contains x = true → mg x = none
  cst : ∀ x d, c.cst.lookup x = some d → scalD d = true ∧ ∃ u, mg x = some u ∧ RelV (vOf d) u
  exc : ∀ C, c.excs.contains C = true → ∃ (B newId initId : String) (bmB : List Value), ExcBaseFacts B newId initId bmB ∧ PySem.W.excIn K (He.ga K C) bmB newId = true ∧ mg C = some (.ref (He.ga K C)) ∧ PySem.W.keepIn K (.ref (He.ga K C)) = true ∧ PySem.W.subIn K (.ref (He.ga K C)) (.type "BaseException") = some true ∧ PySem.W.typeIn K (.ref (He.ga K C)) = some (.type "type")
theorem sl0_own {io : Bool} {n : Nat} {ds : List D} {σ : L2.St} {b : Addr} (h : OwnA (sl0 io n ds) σ b) : io = true ∧ σ[0]? = some (some (.ref b)) := by
  obtain ⟨j, s, e, w, q⟩ := h
  unfold sl0 at e
  have rep : ∀ {k : Nat} {j : Nat} {s : Sl}, (List.replicate k Sl.non)[j]? = some s → s = .non := fun {k j s} h => by
    rw [List.getElem?_replicate] at h
    split at h
    · cases h; rfl
    · cases h
  cases ds with
  | nil =>
    simp only [List.nil_append] at e
    have := rep e
    subst this; cases w
  | cons d dr =>
    simp only [List.cons_append] at e
    cases j with
    | zero =>
      simp only [List.getElem?_cons_zero, Option.some.injEq] at e
      cases io with
      | true => exact ⟨rfl, q⟩
      | false => simp only [Bool.false_eq_true, if_false] at e; subst e; cases w
    | succ j =>
      simp only [List.getElem?_cons_succ] at e
      rw [List.getElem?_append] at e
      split at e
      · rw [List.getElem?_map] at e
        cases z : dr[j]? with
        | none => rw [z] at e; cases e
        | some d' => rw [z] at e; cases e; cases w
      · have := rep e
        subst this; cases w
theorem sl0_own0 {io : Bool} {n : Nat} {d : D} {dr : List D} {σ : L2.St} {a : Addr} (h : io = true) (e : σ[0]? = some (some (.ref a))) : OwnA (sl0 io n (d :: dr)) σ a := by
  refine ⟨0, .io d, ?_, rfl, e⟩
  subst h
  simp [sl0]
theorem start_at {N : List Str} {vs : List V} {i : Nat} {v : V} (h : vs[i]? = some v) : (L2.start N vs)[i]? = some (some v) := by
  unfold L2.start
  rw [List.getElem?_append_left (by have := (List.getElem?_eq_some_iff.mp h).1; simpa using this), List.getElem?_map, h]
  rfl
theorem start_len {N : List Str} {vs : List V} (h : vs.length ≤ N.length) : (L2.start N vs).length = N.length := by
  unfold L2.start
  simp; omega
theorem sl0_len {io : Bool} {n : Nat} {ds : List D} (h : ds.length ≤ n) : (sl0 io n ds).length = n := by
  unfold sl0
  cases ds <;> simp at h ⊢ <;> omega
theorem sl0_at {io : Bool} {n : Nat} {ds : List D} {i : Nat} {s : Sl} (h : (sl0 io n ds)[i]? = some s) : s = .non ∨ ∃ d, ds[i]? = some d ∧ ((i = 0 ∧ io = true ∧ s = .io d) ∨ (¬ (i = 0 ∧ io = true) ∧ s = .val d)) := by
  unfold sl0 at h
  have rep : ∀ {k : Nat} {j : Nat} {s : Sl}, (List.replicate k Sl.non)[j]? = some s → s = .non := fun {k j s} h => by
    rw [List.getElem?_replicate] at h
    split at h
    · cases h; rfl
    · cases h
  cases ds with
  | nil =>
    simp only [List.nil_append] at h
    exact .inl (rep h)
  | cons d dr =>
    simp only [List.cons_append] at h
    cases i with
    | zero =>
      simp only [List.getElem?_cons_zero, Option.some.injEq] at h
      refine .inr ⟨d, rfl, ?_⟩
      cases io with
      | true => exact .inl ⟨rfl, rfl, h.symm⟩
      | false => exact .inr ⟨by simp, h.symm⟩
    | succ j =>
      simp only [List.getElem?_cons_succ] at h
      rw [List.getElem?_append] at h
      split at h
      · rw [List.getElem?_map] at h
        cases z : dr[j]? with
        | none => rw [z] at h; cases h
        | some d' => rw [z] at h; cases h; exact .inr ⟨d', by simpa using z, .inr ⟨by simp, rfl⟩⟩
      · exact .inl (rep h)
theorem env0_ok {K : PySem.W.Frag} {O : Addr → Prop} {H : Hp} {N : List Str} {io : Bool} {ds : List D} {vs : List V} {a : Addr} (hl : vs.length ≤ N.length) (dom : ∀ b, O b → H b ≠ none)
    (h : if io = true then ∃ r d0 dr, vs = .ref a :: r ∧ ds = d0 :: dr ∧ O a ∧ Top K (vis O H) H d0 a ∧ Reps K (vis O H) dr r else Reps K (vis O H) ds vs) :
    EnvOk K O (sl0 io N.length ds) (L2.start N vs) H ∧ ds.length = vs.length ∧ (∀ b, OwnA (sl0 io N.length ds) (L2.start N vs) b → io = true ∧ b = a ∧ O a) := by
  have hlen : ds.length = vs.length := by
    split at h
    · obtain ⟨r, d0, dr, rfl, rfl, _, _, rr⟩ := h
      simp [rr.length]
    · exact h.length
  have own : ∀ b, OwnA (sl0 io N.length ds) (L2.start N vs) b → io = true ∧ b = a ∧ O a := fun b z => by
    obtain ⟨h1, h2⟩ := sl0_own z
    subst h1
    rw [if_pos rfl] at h
    obtain ⟨r, d0, dr, rfl, rfl, ha, _, rr⟩ := h
    rw [start_at (i := 0) (v := .ref a) rfl] at h2
    cases h2
    exact ⟨rfl, rfl, ha⟩
  have hh : Hid O (sl0 io N.length ds) (L2.start N vs) = O := by
    funext b
    apply propext
    refine ⟨fun z => z.elim id fun z => ?_, .inl⟩
    obtain ⟨_, rfl, ha⟩ := own b z
    exact ha
  refine ⟨EnvOk.of (by rw [sl0_len (by omega), start_len hl]) dom (fun i j b si sj ei ej wi wj ai aj => ?_) fun i s e => ?_, hlen, own⟩
  · have key : ∀ {i : Nat} {si : Sl}, (sl0 io N.length ds)[i]? = some si → si.isOwn = true → i = 0 := fun {i si} ei wi => by
      rcases sl0_at ei with rfl | ⟨d, _, ⟨h0, _, rfl⟩ | ⟨_, rfl⟩⟩
      · cases wi
      · exact h0
      · cases wi
    rw [key ei wi, key ej wj]
  · rw [hh]
    rcases sl0_at e with rfl | ⟨d, ed, ⟨rfl, rfl, rfl⟩ | ⟨hn, rfl⟩⟩
    · trivial
    · rw [if_pos rfl] at h
      obtain ⟨r, d0, dr, rfl, rfl, ha, t, rr⟩ := h
      simp only [List.getElem?_cons_zero, Option.some.injEq] at ed
      subst ed
      exact ⟨a, start_at (i := 0) rfl, t, ha⟩
    · have hv : ∃ v, vs[i]? = some v ∧ Rep K (vis O H) d v := by
        split at h
        · rename_i hio
          obtain ⟨r, d0, dr, rfl, rfl, ha, t, rr⟩ := h
          cases i with
          | zero => exact absurd ⟨rfl, hio⟩ hn
          | succ i => simpa using rr.get (by simpa using ed)
        · exact h.get ed
      obtain ⟨v, ev, r⟩ := hv
      exact ⟨v, start_at ev, r⟩
section
variable {Φ : String → Option Fn} {c : Cfg} {L : Nat} {P : Program} {w : World} {K : PySem.W.Frag} {mg : Str → Option Value} {base : Heap} {x qual : Str} {params : Arguments} {body : List Stmt} {scope : Scope} {dvs : List V} {kws : List (Str × V)} {fd : FuncData} {ps : List Str} {fn : Fn} {ms : List MS}
theorem fnG_body (F : FunD K x qual params body scope dvs kws (He.ga K x) fd) (S : FnScope c.N ps scope) (hps : ps.length = fn.ar) (M : Mdl c P w K mg) (hΦ : ∀ x key io, c.fns.lookup x = some (key, io) → ∃ fn, Φ key = some fn ∧ fn.io = io ∧ FnAt P w K mg base L x fn) {fuel : Nat} (htr : trSs c fuel scope body = ms)
    (hrun : ∀ ds : List D, ds.length = fn.ar → fn.run ds ≠ .stuck → ∃ n, (exB Φ n ms (sl0 fn.io c.N.length ds)).as fn (fn.run ds)) : FnG P w K mg base (L + 1) (He.ga K x) fd ps (spF K fn) := by
  refine fnG_of F S (fun vs H Q E h => ?_) fun cdv A outer s H vs Q E hr hg h => ?_
  · obtain ⟨ds, O, a, h1, _⟩ := h
    rw [h1, hps]
  · obtain ⟨ds, O, a, h1, hdom, h2, h3⟩ := h
    have hpN : ps.length ≤ c.N.length := by have := congrArg List.length S.pre; rw [List.length_take] at this; omega
    obtain ⟨E0, hlen, own⟩ := env0_ok (N := c.N) (by omega) hdom h2
    have hns : fn.run ds ≠ .stuck := fun z => by rw [z] at h3; exact h3
    obtain ⟨n, hn⟩ := hrun ds (by omega) hns
    -- the context
    let X : Cx := cxOf (L2.CX P w) P w K mg base c.N qual scope (He.ga K x) cdv A outer s H E
    have GS : GoodS c Φ L X scope := {
      g := ⟨rfl, rfl, S.nd, rfl, M.free, M.cst, hΦ, hr, hg⟩
      kind := S.kind
      fn := fun _ => rfl
      pass := passes_of rfl
      exc := fun C hC => by
        obtain ⟨B, newId, initId, bmB, a1, a2, a3, a4, a5, a6⟩ := M.exc C hC
        exact ⟨B, newId, initId, bmB, a1, a2, a3, a4, raises_own a5 a6⟩ }
    have tk : Takes X (fun cls d _ H => E cls d H) := takes_of rfl rfl rfl rfl
    refine ⟨WB X body, pss_w, ?_⟩
    have snd := trSs_ok (n := fuel) (ss := body) GS tk n
    rw [htr] at snd
    refine snd O _ _ H _ E0 ?_
    -- what is hidden stays so
    have wr0 : ∀ b, WrA (sl0 fn.io c.N.length ds) (L2.start c.N vs) b → fn.io = true ∧ b = a := fun b z => let ⟨p, q, _⟩ := own b z.own; ⟨p, q⟩
    have hid : ∀ {O' : Addr → Prop} {ρ' : Vn} {σ' : L2.St} {H' : Hp}, Ext (vis (Hid O' ρ' σ') H') (vis O' H') := fun {O' ρ' σ' H'} => vis_ext (fun b z _ => .inl z) fun _ _ _ e => e
    have io0 : ∀ {ρ' : Vn} {σ' : L2.St} {H' : Hp} {O' : Addr → Prop} {d : D}, EnvOk K O' ρ' σ' H' → ρ'[0]? = some (.io d) → fn.io = true → (∀ (i : Nat) (s : Sl), (sl0 fn.io c.N.length ds)[i]? = some s → s.free = false → (∃ s', ρ'[i]? = some s' ∧ s.to s') ∧ σ'[i]? = (L2.start c.N vs)[i]?) → Top K (vis O' H') H' d a := fun {ρ' σ' H' O' d} E' e hio prot => by
      rw [if_pos hio] at h2
      obtain ⟨r, d0, dr, rfl, rfl, ha, t, rr⟩ := h2
      obtain ⟨_, q⟩ := prot 0 (.io d0) (by rw [hio]; simp [sl0]) rfl
      rw [start_at (i := 0) (v := .ref a) rfl] at q
      obtain ⟨a', ea, _, t'⟩ := E'.io 0 d e
      rw [q] at ea; cases ea
      exact t'.ext hid fun o e => e
    cases z : fn.run ds with
    | stuck => exact absurd z hns
    | exn xx s' =>
      rw [z] at hn h3
      obtain ⟨ρ', e1, e2⟩ := hn
      rw [e1]
      intro od σ' H' p
      refine h3 od H' (p.kp.mono fun b z => wr0 b z) (fun hio => io0 p.env (e2 hio) hio p.prot) ?_
      have r := p.rep
      unfold ExnRep at r ⊢
      split
      · rename_i e; rw [e] at r; exact r
      · rename_i fs e
        split at r
        · rename_i e2; exact absurd e2 e
        · obtain ⟨d, ws, a1, b1, c1⟩ := r
          exact ⟨d, ws, a1, b1, c1.ext hid⟩
    | ok d s' =>
      rw [z] at hn h3
      rcases hn with ⟨fl, ρ', e1, e2, e3⟩ | ⟨ρ', e1, rfl, e2, e3⟩
      · rw [e1]
        intro v σ' H' p
        have hres : ResOk K fn.fresh O H H' d v := by
          unfold ResOk
          cases hf : fn.fresh with
          | true =>
            rw [if_pos rfl]
            have hfl := e2 hf
            subst hfl
            obtain ⟨q, rfl, nq, g, t⟩ := p.new rfl
            refine ⟨q, rfl, g.elim (fun z => ?_) id, t.ext hid fun o e => e⟩
            obtain ⟨_, rfl, ha⟩ := own q z
            exact absurd ha nq
          | false =>
            rw [if_neg (by decide)]
            cases fl with
            | false => exact (p.rep rfl).ext hid
            | true =>
              obtain ⟨q, rfl, nq, g, t⟩ := p.new rfl
              exact t.rep (vis_ext (fun b z _ => .inl (.inl z)) fun _ _ _ e => e) fun o e => by rw [vis_at nq]; exact e
        refine h3 v H' (p.kp.mono fun b z => wr0 b z) hres fun hio => ?_
        have t := io0 p.env (e3 hio) hio p.prot
        refine t.ext (vis_ext (fun b z _ => ?_) fun _ _ _ e => e) fun o e => e
        rcases z with z | ⟨z1, z2⟩
        · exact .inl z
        · exact .inr ⟨e2 z1, z2⟩
      · rw [e1]
        intro σ' H' p
        refine h3 .non H' (p.kp.mono fun b z => wr0 b z) ?_ fun hio => ?_
        · unfold ResOk
          rw [e2, if_neg (by decide)]
          simp only [Rep]
        · rw [e2, newO_false]
          exact io0 p.env (e3 hio) hio p.prot
end
end Z

namespace Z
open PySem PySem.Spec L2
open PyProof.Rows hiding St
/-! ### a def of the module -/
theorem fnAt_of {Φ : String → Option Fn} {c : Cfg} {L : Nat} {P : Program} {w : World} {K : PySem.W.Frag} {mg : Str → Option Value} {base : Heap} {x qual : Str} {params : Arguments} {body : List Stmt} {scope : Scope} {dvs : List V} {kws : List (Str × V)} {fd : FuncData} {ps : List Str} {fn : Fn} {ms : List MS}
    (F : FunD K x qual params body scope dvs kws (He.ga K x) fd) (S : FnScope c.N ps scope) (hps : ps.length = fn.ar) (gl : mg x = some (.ref (He.ga K x))) (sc : ∀ d ∈ fn.dfl, scalD d = true) (hb : ∀ j, j ≤ fn.dfl.length → ∃ ds, Vals ((fn.dfl.drop j).map vOf) ds ∧ Binds K fd ps ds) (M : Mdl c P w K mg)
    (hΦ : ∀ x key io, c.fns.lookup x = some (key, io) → ∃ fn, Φ key = some fn ∧ fn.io = io ∧ FnAt P w K mg base L x fn) {fuel : Nat} (htr : trSs c fuel scope body = ms)
    (hrun : ∀ ds : List D, ds.length = fn.ar → fn.run ds ≠ .stuck → ∃ n, (exB Φ n ms (sl0 fn.io c.N.length ds)).as fn (fn.run ds)) : FnAt P w K mg base (L + 1) x fn :=
  ⟨sc, gl, F.kp, fd, ps, hps, fnG_body F S hps M hΦ htr hrun, hb⟩
/-- no defaults -/
theorem binds_nil {K : PySem.W.Frag} {fd : FuncData} {ps : List Str} (h : Binds K fd ps []) : ∀ j, j ≤ ([] : List D).length → ∃ ds, Vals ((([] : List D).drop j).map vOf) ds ∧ Binds K fd ps ds := fun j _ => ⟨[], by rw [List.drop_nil]; exact .nil, h⟩
/-! ### the law's end -/
theorem hid_ns {h : Heap} {T : Hp} {p : Addr} {m : Str → Option Value} (plain : ∀ {b : Addr} {o : Obj} {es : Array DictEntry} {ep : Nat}, h.get? b = some o → o.data = .dict es ep → T b = none) (q : h.Ns p m) : (hidT h T).Ns p m :=
  let ⟨o, es, ep, e, dd, r⟩ := q
  ⟨o, es, ep, hidT_get e (plain e dd), dd, r⟩
theorem end_core {P : Program} {w : World} {K : PySem.W.Frag} {mg mb : Str → Option Value} {k : Nat} {f a : Addr} {fd : FuncData} {x : Str} {sp : Sp} {s : Shared} {us : List Value}
    (kin : K.In s.heap) (n1 : s.heap.Ns mainGlobals mg) (n2 : s.heap.Ns builtinsNs mb) (n3 : ∀ y : Str, y ≠ "__name__" → mb y = bootBuiltins y) (n4 : s.heap.NoLimit) (n5 : s.gens = #[])
    (obj : s.heap.get? a = some { cls := .type "list", data := .seq us.toArray }) (room : Room k callerA)
    (F : ∀ base : Heap, K.In base → base.Ns mainGlobals mg → FnG P w K mg base k f fd [x] sp) (bnd : ∀ (s : Shared) (u : Value), BindsTo s fd ⟨[u], []⟩ [(x, u)])
    (T : Hp) (only : ∀ b, T b = none ∨ ∃ o xs, T b = some (.frz o (.lst xs))) (good : HOk P w T s.heap) (one : ∀ b, T b ≠ none → b = a) (apart : T a ≠ none → K.lookup a = none) (pr : sp [.ref a] T (fun v _ => v = .bl true) fun _ _ _ => False) :
    codeAny (model P w) callerA (.call (.ref f) ⟨[.ref a], []⟩) (fun r s2 => r = .ok (.ret (.bool true)) ∧ OldK s.heap s2.heap ∧ s2.os = s.os ∧ AllBare s2.gens) s := by
  have plain : ∀ {b : Addr} {o : Obj} {es : Array DictEntry} {ep : Nat}, s.heap.get? b = some o → o.data = .dict es ep → T b = none := fun {b o es ep} e dd => by
    cases z : T b with
    | none => rfl
    | some u =>
      have hb := one b (by rw [z]; exact Option.some_ne_none u)
      subst hb
      rw [obj] at e
      cases e
      exact Data.noConfusion dd
  have kin2 : K.In (hidT s.heap T) := fun b o e => by
    refine hidT_get (kin b o e) ?_
    cases z : T b with
    | none => rfl
    | some u =>
      have hb := one b (by rw [z]; exact Option.some_ne_none u)
      subst hb
      rw [apart (by rw [z]; exact Option.some_ne_none u)] at e
      cases e
  obtain ⟨mc, l1, l2⟩ := n4
  have env : Env0 P w K mg (hidT s.heap T) callerA [] s T := ⟨rfl, ⟨kin2, hid_ns plain n1, ⟨mb, hid_ns plain n2, n3⟩, ⟨mc, hid_ns plain l1, l2⟩⟩, fun _ _ e => of_hidT e, Nat.le_of_eq (hidT_size s.heap T), trivial, fun _ z => (List.not_mem_nil z).elim, good, .of_eq n5⟩
  have main := (F _ kin2 (hid_ns plain n1)).run callerA [] s T ⟨[.ref a], []⟩ [.ref a] [.ref a] (fun v _ => v = .bl true) (fun _ _ _ => False) room rfl env (bnd s (.ref a)) (.cons rfl .nil) pr
  refine codeAny_mono main fun r s2 z => ?_
  match r, z with
  | .error e, z => exact (let ⟨_, _, _, _, _, _, _, _, _, _, _, _, no⟩ := z; no : False).elim
  | .ok (.ret u), z =>
    obtain ⟨v, T2, z1, z2, z3, z4, z5, z6⟩ := z
    have z6 : v = .bl true := z6
    subst z6
    cases (show u = Value.bool true from z5)
    refine ⟨rfl, OldK.of_keep fun b o e => ?_, z1, z2⟩
    rcases only b with zn | ⟨ob, xs, zs⟩
    · exact z3.keep b o e zn (fun y => (List.not_mem_nil y).elim) (List.not_mem_nil)
    · have y1 := (good b _ zs).1
      have y2 := (z4 b _ (z3.frzs b ob _ zs)).1
      rw [e] at y1
      cases y1
      exact y2
  | .ok .next, z => exact z.elim
  | .ok .brk, z => exact z.elim
  | .ok .cont, z => exact z.elim
theorem end_law {l : PySem.W.OpenLaw} {n k : Nat} {q : Program} {loose : List Str} {XP : (Str → Option Value) → Heap → Prop} {YP : World → Heap → Prop} {d : DefRec} {x : Str} {fn : Fn}
    (most : l.most = some n) (small : n ≤ sizeLine) (nodfl : d.params.defaults = []) (room : Room k callerA) (ar : fn.ar = 1) (io : fn.io = false) (fr : fn.fresh = false) (holds : ∀ ns : List Int, ns.length ≤ n → ∃ s, fn.run [.lst (ns.map D.int)] = .ok (.bl true) s)
    (F : ∀ (w : World) (mg : Str → Option Value) (f : Addr) (h : Heap), YP w h → h.Ns mainGlobals mg → mg d.name = some (.ref f) →
      ∃ (K : PySem.W.Frag) (fd : FuncData), K.In h ∧ (∀ (s : Shared) (u : Value), BindsTo s fd ⟨[u], []⟩ [(x, u)]) ∧ ∀ base : Heap, K.In base → base.Ns mainGlobals mg → FnG l.prog w K mg base k f fd [x] (spF K fn)) :
    PySem.W.WalkO q loose XP YP l.row.toRowW d [] (fun f vs => PySem.call f vs) := by
  refine Att.attach_call most nodfl fun w s0 s mg mb f o pm cd doc a us ns G Y _ _ _ hmg obj hin hlen gens => ?_
  obtain ⟨K, fd, kin, bnd, FG⟩ := F w mg f _ Y G.T.g hmg
  have hz : ns.length ≤ sizeLine := Nat.le_trans hlen small
  have rv : Vals (ns.map V.int) us := vals_ints hin
  have pr : ∀ T : Hp, SqL K T a (ns.map V.int) → spF K fn [.ref a] T (fun v _ => v = .bl true) fun _ _ _ => False := fun T hs => by
    refine ⟨[.lst (ns.map D.int)], fun _ => False, 0, by rw [ar]; rfl, fun _ z => z.elim, ?_, ?_⟩
    · rw [io, if_neg (by decide)]
      simp only [Reps, Rep]
      have ri : Reps K (vis (fun _ => False) T) (ns.map D.int) (ns.map V.int) := by
        clear hs rv hz hlen hin
        induction ns with
        | nil => simp [Reps]
        | cons i ns ih => simp only [List.map_cons, Reps, Rep]; exact ⟨_, _, rfl, rfl, ih⟩
      exact ⟨.ref a, [], rfl, ⟨a, _, rfl, sqL_ext (Ext.of fun b o e => by rw [vis_at (fun z => z)]; exact e) hs, ri⟩, rfl⟩
    · obtain ⟨s1, e⟩ := holds ns hlen
      rw [e]
      intro v H' _ r _
      unfold ResOk at r
      rw [fr, if_neg (by decide)] at r
      exact r
  cases lk : K.lookup a with
  | some o =>
    have e := kin a o lk
    rw [obj] at e
    cases e
    exact end_core kin G.T.g G.T.b G.T.builtins G.T.nolimit gens obj room FG bnd (fun _ => none) (fun _ => .inl rfl) (fun _ _ z => by cases z) (fun _ z => (z rfl).elim) (fun z => (z rfl).elim)
      (pr _ (.inr ⟨_, us.toArray, _, lk, rfl, rfl, rfl, by rw [List.size_toArray, hin.length]; exact hz, by rw [List.toList_toArray]; exact rv⟩))
  | none =>
    have at_ : ∀ {b : Addr} {u : HO}, (if b = a then some (HO.frz { cls := .type "list", data := .seq us.toArray } (.lst (ns.map V.int))) else none) = some u → b = a ∧ u = HO.frz { cls := .type "list", data := .seq us.toArray } (.lst (ns.map V.int)) := fun {b u} z => by
      split at z
      · rename_i hb
        exact ⟨hb, (Option.some.inj z).symm⟩
      · cases z
    refine end_core kin G.T.g G.T.b G.T.builtins G.T.nolimit gens obj room FG bnd (fun b => if b = a then some (.frz { cls := .type "list", data := .seq us.toArray } (.lst (ns.map V.int))) else none) (fun b => ?_) (fun b u z => ?_) (fun b z => ?_) (fun _ => lk) (pr _ (.inl (.inr ⟨_, if_pos rfl⟩)))
    · by_cases hb : b = a
      · subst hb; exact .inr ⟨_, _, if_pos rfl⟩
      · exact .inl (if_neg hb)
    · obtain ⟨hb, hu⟩ := at_ z
      subst hb hu
      exact ⟨obj, by rw [List.length_map]; exact hz, us, _, rv, obj⟩
    · refine Classical.byContradiction fun hb => z (if_neg hb)
end Z

namespace Z
open PySem PySem.Spec L2
open PyProof.Rows hiding St
/-! ### defs that are what their bodies do -/
def fuelN : Nat := 1000000
def io0 (io : Bool) (ρ : Vn) : Option D := if io then (match (ρ[0]? : Option Sl) with
  | some (.io s) => some s
  | _ => none) else some .non
def Out.fr (o : Out) (io fresh : Bool) : FRes := match o with
  | .rt fl d ρ => if fresh && !fl then .stuck else (match io0 io ρ with
    | some s => .ok d s
    | none => .stuck)
  | .nx ρ => if fresh then .stuck else (match io0 io ρ with
    | some s => .ok .non s
    | none => .stuck)
  | .exn x ρ => (match io0 io ρ with
    | some s => .exn x s
    | none => .stuck)
  | _ => .stuck
def tbl (l : List (String × Fn)) (s : String) : Option Fn := l.lookup s
def mkFn (io fresh : Bool) (ar : Nat) (dfl : List D) (n : Nat) (ms : List MS) (Φ : String → Option Fn) : Fn :=
  ⟨io, fresh, ar, dfl, fun ds => (exB Φ fuelN ms (sl0 io n ds)).fr io fresh⟩
theorem io0_at {io : Bool} {ρ : Vn} {s : D} (h : io0 io ρ = some s) : io = true → ρ[0]? = some (.io s) := fun e => by
  subst e
  unfold io0 at h
  rw [if_pos rfl] at h
  split at h
  · cases h; assumption
  · cases h
theorem mk_run {io fresh : Bool} {ar : Nat} {dfl : List D} {n : Nat} {ms : List MS} {Φ : String → Option Fn} (ds : List D) : (mkFn io fresh ar dfl n ms Φ).run ds ≠ .stuck → ∃ k, (exB Φ k ms (sl0 (mkFn io fresh ar dfl n ms Φ).io n ds)).as (mkFn io fresh ar dfl n ms Φ) ((mkFn io fresh ar dfl n ms Φ).run ds) := by
  intro h
  refine ⟨fuelN, ?_⟩
  have e : (mkFn io fresh ar dfl n ms Φ).run ds = (exB Φ fuelN ms (sl0 io n ds)).fr io fresh := rfl
  rw [e] at h ⊢
  show (exB Φ fuelN ms (sl0 io n ds)).as _ _
  generalize exB Φ fuelN ms (sl0 io n ds) = o at h
  cases o with
  | rt fl d ρ =>
    unfold Out.fr at h ⊢
    simp only at h ⊢
    split at h
    · exact absurd rfl h
    · rename_i hc
      rw [if_neg hc]
      cases z : io0 io ρ with
      | none => rw [z] at h; exact absurd rfl h
      | some s => exact .inl ⟨fl, ρ, rfl, fun e => by
          have e : fresh = true := e
          rw [e] at hc
          simpa using hc, io0_at z⟩
  | nx ρ =>
    unfold Out.fr at h ⊢
    simp only at h ⊢
    split at h
    · exact absurd rfl h
    · rename_i hc
      rw [if_neg hc]
      cases z : io0 io ρ with
      | none => rw [z] at h; exact absurd rfl h
      | some s => exact .inr ⟨ρ, rfl, rfl, (by simpa using hc : fresh = false), io0_at z⟩
  | exn x ρ =>
    unfold Out.fr at h ⊢
    simp only at h ⊢
    cases z : io0 io ρ with
    | none => rw [z] at h; exact absurd rfl h
    | some s => exact ⟨ρ, rfl, io0_at z⟩
  | _ => exact absurd rfl h
section
variable {Φ : String → Option Fn} {c : Cfg} {L : Nat} {P : Program} {w : World} {K : PySem.W.Frag} {mg : Str → Option Value} {base : Heap} {x qual : Str} {params : Arguments} {body : List Stmt} {scope : Scope} {dvs : List V} {kws : List (Str × V)} {fd : FuncData} {ps : List Str} {ms : List MS} {io fresh : Bool} {ar : Nat} {dfl : List D}
theorem mk_body (F : FunD K x qual params body scope dvs kws (He.ga K x) fd) (S : FnScope c.N ps scope) (hps : ps.length = ar) (M : Mdl c P w K mg) (hΦ : ∀ x key io, c.fns.lookup x = some (key, io) → ∃ fn, Φ key = some fn ∧ fn.io = io ∧ FnAt P w K mg base L x fn) {fuel : Nat} (htr : trSs c fuel scope body = ms) :
    FnG P w K mg base (L + 1) (He.ga K x) fd ps (spF K (mkFn io fresh ar dfl c.N.length ms Φ)) := fnG_body F S hps M hΦ htr fun ds _ h => mk_run ds h
theorem fnAt_mk (F : FunD K x qual params body scope dvs kws (He.ga K x) fd) (S : FnScope c.N ps scope) (hps : ps.length = ar) (gl : mg x = some (.ref (He.ga K x))) (sc : ∀ d ∈ dfl, scalD d = true) (hb : ∀ j, j ≤ dfl.length → ∃ ds, Vals ((dfl.drop j).map vOf) ds ∧ Binds K fd ps ds) (M : Mdl c P w K mg)
    (hΦ : ∀ x key io, c.fns.lookup x = some (key, io) → ∃ fn, Φ key = some fn ∧ fn.io = io ∧ FnAt P w K mg base L x fn) {fuel : Nat} (htr : trSs c fuel scope body = ms) : FnAt P w K mg base (L + 1) x (mkFn io fresh ar dfl c.N.length ms Φ) :=
  ⟨sc, gl, F.kp, fd, ps, hps, mk_body F S hps M hΦ htr, hb⟩
end
/-! ### tables, row by row -/
section
variable {Φ : String → Option Fn} {L : Nat} {P : Program} {w : World} {K : PySem.W.Frag} {mg : Str → Option Value} {base : Heap}
theorem fns_nil : ∀ (x : Str) (key : String) (io : Bool), ([] : List (Str × String × Bool)).lookup x = some (key, io) → ∃ fn, Φ key = some fn ∧ fn.io = io ∧ FnAt P w K mg base L x fn := fun _ _ _ h => by cases h
theorem fns_cons {y : Str} {k0 : String} {b0 : Bool} {r : List (Str × String × Bool)} (h0 : ∃ fn, Φ k0 = some fn ∧ fn.io = b0 ∧ FnAt P w K mg base L y fn) (hr : ∀ (x : Str) (key : String) (io : Bool), r.lookup x = some (key, io) → ∃ fn, Φ key = some fn ∧ fn.io = io ∧ FnAt P w K mg base L x fn) :
    ∀ (x : Str) (key : String) (io : Bool), ((y, k0, b0) :: r).lookup x = some (key, io) → ∃ fn, Φ key = some fn ∧ fn.io = io ∧ FnAt P w K mg base L x fn := fun x key io h => by
  rw [List.lookup_cons] at h
  split at h
  · rename_i e
    rw [beq_iff_eq] at e
    subst e
    cases h; exact h0
  · exact hr x key io h
theorem free_nil : ∀ x : Str, ([] : List Str).contains x = true → mg x = none := fun _ h => by simp at h
theorem free_cons {y : Str} {r : List Str} (h0 : mg y = none) (hr : ∀ x : Str, r.contains x = true → mg x = none) : ∀ x : Str, (y :: r).contains x = true → mg x = none := fun x h => by
  rw [List.contains_cons, Bool.or_eq_true] at h
  rcases h with h | h
  · rw [beq_iff_eq] at h; subst h; exact h0
  · exact hr x h
theorem cst_nil : ∀ (x : Str) (d : D), ([] : List (Str × D)).lookup x = some d → scalD d = true ∧ ∃ u, mg x = some u ∧ RelV (vOf d) u := fun _ _ h => by cases h
theorem cst_cons {y : Str} {d0 : D} {r : List (Str × D)} (h0 : scalD d0 = true ∧ ∃ u, mg y = some u ∧ RelV (vOf d0) u) (hr : ∀ (x : Str) (d : D), r.lookup x = some d → scalD d = true ∧ ∃ u, mg x = some u ∧ RelV (vOf d) u) : ∀ (x : Str) (d : D), ((y, d0) :: r).lookup x = some d → scalD d = true ∧ ∃ u, mg x = some u ∧ RelV (vOf d) u := fun x d h => by
  rw [List.lookup_cons] at h
  split at h
  · rename_i e
    rw [beq_iff_eq] at e
    subst e
    cases h; exact h0
  · exact hr x d h
theorem cst_int {y : Str} {i : Int} (h : ∃ t, mg y = some (.int i t)) : scalD (.int i) = true ∧ ∃ u, mg y = some u ∧ RelV (vOf (.int i)) u := let ⟨t, e⟩ := h; ⟨rfl, _, e, t, rfl⟩
theorem cst_str {y z : Str} (h : ∃ t, mg y = some (.str z t)) : scalD (.str z) = true ∧ ∃ u, mg y = some u ∧ RelV (vOf (.str z)) u := let ⟨t, e⟩ := h; ⟨rfl, _, e, t, rfl⟩
abbrev ExcAt (K : PySem.W.Frag) (mg : Str → Option Value) (C : Str) : Prop := ∃ (B newId initId : String) (bmB : List Value), ExcBaseFacts B newId initId bmB ∧ PySem.W.excIn K (He.ga K C) bmB newId = true ∧ mg C = some (.ref (He.ga K C)) ∧ PySem.W.keepIn K (.ref (He.ga K C)) = true ∧ PySem.W.subIn K (.ref (He.ga K C)) (.type "BaseException") = some true ∧ PySem.W.typeIn K (.ref (He.ga K C)) = some (.type "type")
theorem exc_nil : ∀ C : Str, ([] : List Str).contains C = true → ExcAt K mg C := fun _ h => by simp at h
theorem exc_cons {y : Str} {r : List Str} (g : mg y = some (.ref (He.ga K y))) (h0 : PySem.W.excIn K (He.ga K y) He.veBase "ValueError.__new__" = true ∧ PySem.W.keepIn K (.ref (He.ga K y)) = true ∧ PySem.W.subIn K (.ref (He.ga K y)) (.type "BaseException") = some true ∧ PySem.W.typeIn K (.ref (He.ga K y)) = some (.type "type"))
    (hr : ∀ C : Str, r.contains C = true → ExcAt K mg C) : ∀ C : Str, (y :: r).contains C = true → ExcAt K mg C := fun x h => by
  rw [List.contains_cons, Bool.or_eq_true] at h
  rcases h with h | h
  · rw [beq_iff_eq] at h; subst h
    obtain ⟨a, b, c, d⟩ := h0
    exact ⟨"ValueError", "ValueError.__new__", "ValueError.__init__", He.veBase, PySem.F.excBase_ValueError, a, g, b, c, d⟩
  · exact hr x h
end
end Z

namespace Z
open PySem PySem.Spec L2
open PyProof.Rows hiding St
/-! ### calls, by what the def does -/
theorem callF_ok {Φ : String → Option Fn} {f : String} {fn : Fn} {ds : List D} {ρ : Vn} {d s : D} (h : Φ f = some fn) (io : fn.io = false) (ar : ds.length = fn.ar) (r : fn.run ds = .ok d s) : callF Φ f ds ρ = .ok (fn.fresh, d) ρ := by
  unfold callF
  rw [h]
  simp only [io, Bool.false_eq_true, if_false]
  rw [if_pos ⟨by omega, by omega⟩, show fn.dfl.length - (fn.ar - ds.length) = fn.dfl.length by omega, List.drop_length, List.append_nil, r]
theorem callIo_own {Φ : String → Option Fn} {f : String} {fn : Fn} {i : Nat} {ds : List D} {ρ : Vn} {d0 d s : D} (h : Φ f = some fn) (io : fn.io = true) (ar : ds.length + 1 = fn.ar) (hi : ρ[i]? = some (.own d0)) (r : fn.run (d0 :: ds) = .ok d s) : callIo Φ f i ds ρ = .ok (fn.fresh, d) (ρ.set i (.own s)) := by
  unfold callIo
  rw [h, hi]
  simp only
  rw [if_pos ⟨io, ar⟩, r]
theorem callIo_io {Φ : String → Option Fn} {f : String} {fn : Fn} {i : Nat} {ds : List D} {ρ : Vn} {d0 d s : D} (h : Φ f = some fn) (io : fn.io = true) (ar : ds.length + 1 = fn.ar) (hi : ρ[i]? = some (.io d0)) (r : fn.run (d0 :: ds) = .ok d s) : callIo Φ f i ds ρ = .ok (fn.fresh, d) (ρ.set i (.io s)) := by
  unfold callIo
  rw [h, hi]
  simp only
  rw [if_pos ⟨io, ar⟩, r]
/-! ### equality of plain data -/
@[simp] theorem eqD_int (i j : Int) : eqD (.int i) (.int j) = some (decide (i = j)) := by
  have h : ∀ k : Int, SeqAt.shaped (.int k) = true := fun k => by simp [SeqAt.shaped, PyData.canLay0, PyData.depth]
  unfold eqD
  simp only [D.py, h, Bool.and_self, if_true, PyData.eqv]
  rfl
@[simp] theorem eqD_bl (i j : Bool) : eqD (.bl i) (.bl j) = some (decide (i = j)) := by
  have h : ∀ k : Bool, SeqAt.shaped (.bool k) = true := fun k => by simp [SeqAt.shaped, PyData.canLay0, PyData.depth]
  unfold eqD
  simp only [D.py, h, Bool.and_self, if_true, PyData.eqv]
  rfl
@[simp] theorem eqD_pair (a b c d : Int) : eqD (.tup [.int a, .int b]) (.tup [.int c, .int d]) = some (decide (a = c ∧ b = d)) := by
  have h : ∀ a b : Int, SeqAt.shaped (.tuple [.int a, .int b]) = true := fun a b => by simp [SeqAt.shaped, PyData.canLay0, PyData.canLayAll0, PyData.depth, PyData.depthAll]
  unfold eqD
  simp only [D.py, pyAll, h, Bool.and_self, if_true, PyData.eqv, PyData.eqvAll, Bool.and_true]
  by_cases h1 : a = c <;> by_cases h2 : b = d <;> simp [h1, h2]
/-! ### the text of data -/
mutual
def szD : D → Nat
  | .non => 4
  | .bl _ => 5
  | .int i => if i.natAbs.log2 < 1920 then i.natAbs.log2 + 3 else 10000000
  | .tup ds => szL ds + 3
  | .lst ds => szL ds + 3
  | _ => 10000000
def szL : List D → Nat
  | [] => 0
  | d :: ds => szD d + 2 + szL ds
end
mutual
def dpD : D → Nat
  | .tup ds => dpL ds + 1
  | .lst ds => dpL ds + 1
  | _ => 0
def dpL : List D → Nat
  | [] => 0
  | d :: ds => max (dpD d) (dpL ds)
end
mutual
theorem sz_ok : ∀ {d : D}, szD d ≤ lim → ∃ p, d.py = some p ∧ PyData.showable p = true ∧ p.hasDict = false ∧ p.depth ≤ dpD d + 1 ∧ p.shown.length ≤ szD d
  | .non, _ => ⟨.none, rfl, rfl, by simp [PyData.hasDict], by simp [PyData.depth], by decide +kernel⟩
  | .bl b, _ => ⟨.bool b, rfl, rfl, by simp [PyData.hasDict], by simp [PyData.depth], by cases b <;> decide +kernel⟩
  | .int i, h => by
    simp only [szD] at h ⊢
    split at h
    · rename_i hc
      refine ⟨.int i, rfl, by simp only [PyData.showable, decide_eq_true_eq]; exact hc, by simp [PyData.hasDict], by simp [PyData.depth], ?_⟩
      rw [if_pos hc]
      have := int_text_length_le (a := i) (k := i.natAbs.log2 + 1) (by omega) (by omega)
      have e : (PyData.int i).shown.length = (toString i).length := by
        show (Str.ofString (toString i)).length = _
        rw [Str.ofString_eq_toList]
        show ((toString i).toList.map Char.toNat).toArray.size = _
        rw [List.size_toArray, List.length_map, String.length_toList]
      omega
    · simp only [lim] at h; omega
  | .tup ds, h => by
    simp only [szD] at h ⊢
    obtain ⟨ps, h1, h2, h3, h4, h5, h6⟩ := szL_ok (ds := ds) (by omega)
    refine ⟨.tuple ps, by simp only [D.py, h1], by simp only [PyData.showable]; exact h2, by simp only [PyData.hasDict]; exact h3, by simp only [PyData.depth, dpD]; omega, ?_⟩
    have := tupleText_len_le (PyData.shownAll ps)
    show (tupleText (PyData.shownAll ps)).length ≤ _
    omega
  | .lst ds, h => by
    simp only [szD] at h ⊢
    obtain ⟨ps, h1, h2, h3, h4, h5, h6⟩ := szL_ok (ds := ds) (by omega)
    refine ⟨.list ps, by simp only [D.py, h1], by simp only [PyData.showable]; exact h2, by simp only [PyData.hasDict]; exact h3, by simp only [PyData.depth, dpD]; omega, ?_⟩
    have := listText_len_le (PyData.shownAll ps)
    show (listText (PyData.shownAll ps)).length ≤ _
    omega
  | .str _, h => by simp [szD, lim] at h
  | .dct _, h => by simp [szD, lim] at h
  | .dcT _, h => by simp [szD, lim] at h
  | .ins _ _, h => by simp [szD, lim] at h
theorem szL_ok : ∀ {ds : List D}, szL ds ≤ lim → ∃ ps, pyAll ds = some ps ∧ PyData.showableAll ps = true ∧ PyData.hasDictAll ps = false ∧ PyData.depthAll ps ≤ dpL ds + 1 ∧ ((PyData.shownAll ps).map (·.length)).sum + 2 * (PyData.shownAll ps).length ≤ szL ds ∧ True
  | [], _ => ⟨[], rfl, rfl, rfl, by simp [PyData.depthAll], by simp [PyData.shownAll], trivial⟩
  | d :: ds, h => by
    simp only [szL] at h ⊢
    obtain ⟨p, a1, a2, a3, a4, a5⟩ := sz_ok (d := d) (by omega)
    obtain ⟨ps, b1, b2, b3, b4, b5, _⟩ := szL_ok (ds := ds) (by omega)
    refine ⟨p :: ps, by simp only [pyAll, a1, b1], by simp only [PyData.showableAll, a2, b2, Bool.and_self], by simp only [PyData.hasDictAll, a3, b3, Bool.or_self], by simp only [PyData.depthAll, dpL]; omega, ?_, trivial⟩
    simp only [PyData.shownAll, List.map_cons, List.sum_cons, List.length_cons]
    omega
end
/-- the text of data -/
def rpD (d : D) : Str := match d.py with
  | some p => p.shown
  | none => .empty
theorem bi_repr {d : D} (h1 : szD d ≤ lim) (h2 : dpD d ≤ 50) : biD "repr" [d] = some (false, .str (rpD d)) := by
  obtain ⟨p, a1, a2, a3, a4, a5⟩ := sz_ok h1
  have e : biD "repr" [d] = match d.py with
    | some p => if PyData.showable p && !p.hasDict && decide (p.depth ≤ 60) && decide (p.shown.length ≤ lim) then some (false, .str p.shown) else none
    | none => none := by
    cases d <;> rfl
  rw [e, a1]
  simp only [a2, a3, Bool.not_false, Bool.and_self, Bool.true_and, rpD, a1]
  rw [decide_eq_true (show p.depth ≤ 60 by omega), decide_eq_true (show p.shown.length ≤ lim by omega)]
  rfl
theorem log2_le {n k : Nat} (h : n < 2 ^ (k + 1)) : n.log2 ≤ k := by
  by_cases h0 : n = 0
  · subst h0; simp
  · have := (Nat.log2_lt h0).mpr h
    omega
theorem mulOk_of {i j : Int} {a b : Nat} (hi : i.natAbs < 2 ^ (a + 1)) (hj : j.natAbs < 2 ^ (b + 1)) (h : a + b < 100000000) : mulOk i j = true := by
  have h1 := log2_le hi
  have h2 := log2_le hj
  unfold mulOk
  exact decide_eq_true (by omega)
/-! ### loops -/
theorem forGo_nx {tg : MT} {body : Vn → Out} (I : Nat → Vn → Prop) : ∀ {xs : List D} {i : Nat} {ρ : Vn}, I i ρ → (∀ j d ρ, xs[j]? = some d → I (i + j) ρ → ∃ ρ1 ρ2, asgT tg d ρ = some ρ1 ∧ body ρ1 = .nx ρ2 ∧ I (i + j + 1) ρ2) → ∃ ρ', forGo tg body xs ρ = .nx ρ' ∧ I (i + xs.length) ρ'
  | [], i, ρ, h, _ => ⟨ρ, rfl, by simpa using h⟩
  | d :: xs, i, ρ, h, st => by
    obtain ⟨ρ1, ρ2, e1, e2, h2⟩ := st 0 d ρ rfl (by simpa using h)
    obtain ⟨ρ', e3, h3⟩ := forGo_nx (tg := tg) (body := body) I (xs := xs) (i := i + 1) (ρ := ρ2) (by simpa using h2) fun j d ρ e g => by
      have := st (j + 1) d ρ (by simpa using e) (by rw [show i + (j + 1) = i + 1 + j by omega]; exact g)
      rw [show i + (j + 1) + 1 = i + 1 + j + 1 by omega] at this
      exact this
    refine ⟨ρ', ?_, ?_⟩
    · simp only [forGo, e1, e2]; exact e3
    · rw [List.length_cons, show i + (xs.length + 1) = i + 1 + xs.length by omega]; exact h3
/-- Euclid's steps -/
theorem euclid {W : Nat → Nat → Nat → Out} {R : Nat → Out} (base : ∀ m a, W (m + 1) a 0 = R a) (step : ∀ m a b, 0 < b → W (m + 1) a b = W m b (a % b)) : ∀ k a b, b < 2 ^ k → ∀ j, W (2 * k + 1 + j) a b = R (Nat.gcd a b) := by
  intro k
  induction k with
  | zero =>
    intro a b h j
    have : b = 0 := by simpa using h
    subst this
    rw [Nat.gcd_zero_right, show 2 * 0 + 1 + j = j + 1 by omega, base]
  | succ k ih =>
    intro a b h j
    by_cases hb : b = 0
    · subst hb
      rw [Nat.gcd_zero_right, show 2 * (k + 1) + 1 + j = (2 * k + 2 + j) + 1 by omega, base]
    · have h1 : 0 < b := by omega
      rw [show 2 * (k + 1) + 1 + j = (2 * k + 2 + j) + 1 by omega, step _ _ _ h1, Nat.gcd_comm a b, Nat.gcd_rec b a, Nat.gcd_comm]
      by_cases hr : a % b = 0
      · rw [hr, Nat.gcd_zero_right, show 2 * k + 2 + j = (2 * k + 1 + j) + 1 by omega, base]
      · have h2 : 0 < a % b := by omega
        have h3 : a % b < b := Nat.mod_lt _ h1
        have h4 : b % (a % b) < 2 ^ k := by
          have q1 : b % (a % b) < a % b := Nat.mod_lt _ h2
          have q2 : b % (a % b) ≤ b - a % b := by
            rw [Nat.mod_eq_sub_mod (by omega)]
            exact Nat.mod_le _ _
          rw [Nat.pow_succ] at h
          omega
        rw [show 2 * k + 2 + j = (2 * k + 1 + j) + 1 by omega, step _ _ _ h2, ih _ _ h4 j, Nat.gcd_comm b, Nat.gcd_rec (a % b) b, Nat.gcd_comm]
end Z

namespace S
open PySem PySem.Spec L2 Z
def b1_l_purse : List MS := [.ite (.cmp .GtE (.bi "abs" [(.rd 1)]) (.bin .Pow (.cst (.int 10)) (.cst (.int 18)))) [.set (.nm 2) (.bin .Add (.bin .Mult (.rd 2) (.bin .Pow (.cst (.int 10)) (.cst (.int 60)))) (.bin .Mod (.bi "int" [(.bi "abs" [(.rd 1)])]) (.bin .Pow
   (.cst (.int 10)) (.cst (.int 60)))))] [], .set (.nm 3) (.bin .Mod (.bi "int" [(.bin .Add (.bin .Add (.bin .Mult (.rd 3) (.cst (.int 69621))) (.bin .Mod (.bi "int" [(.rd 1)]) (.cst (.int 2305843009213693907)))) (.cst (.int 31)))]) (.cst
   (.int 2305843009213693951)))]
def m_l_purse : List MS := [.set (.tp [2, 3]) (.tup [(.cst (.int 0)), (.cst (.int 660179))]), .for (.nm 1) 0 [(.slc (.rd 0) none (some (.cst (.int 40))))] b1_l_purse, .ret (.lst [(.var 2), (.var 3), (.cst (.int 0))])]
def t_l_purse : List (String × Fn) := []
def f_l_purse : Fn := mkFn false true 1 [] 4 m_l_purse (tbl t_l_purse)
def m_l_below : List MS := [.ret (.cmp .Lt (.bin .Mult (.ix (.rd 0) (.cst (.int 0))) (.ix (.rd 1) (.cst (.int 1)))) (.bin .Mult (.ix (.rd 1) (.cst (.int 0))) (.ix (.rd 0) (.cst (.int 1)))))]
def t_l_below : List (String × Fn) := []
def f_l_below : Fn := mkFn false false 2 [] 2 m_l_below (tbl t_l_below)
def w1_l_cut : ME := (.cmp .Gt (.rd 3) (.cst (.int 0)))
def b1_l_cut : List MS := [.par 2 3 (.var 3) (.bin .Mod (.bi "int" [(.rd 2)]) (.rd 3))]
def m_l_cut : List MS := [.par 2 3 (.bi "abs" [(.rd 0)]) (.bi "abs" [(.rd 1)]), .while w1_l_cut b1_l_cut, .set (.nm 2) (.bin .Mult (.rd 2) (.bin .Sub (.cst (.int 1)) (.bin .Mult (.cst (.int 2)) (.bi "int" [(.cmp .Lt (.rd 1) (.cst (.int 0)))])))), .ret (.tup
   [(.bin .FloorDiv (.rd 0) (.rd 2)), (.bin .FloorDiv (.rd 1) (.rd 2))])]
def t_l_cut : List (String × Fn) := []
def f_l_cut : Fn := mkFn false false 2 [] 4 m_l_cut (tbl t_l_cut)
def b1_l_sum : List MS := [.set (.nm 1) (.call "_law_cut" [(.bin .Add (.bin .Mult (.ix (.rd 1) (.cst (.int 0))) (.rd 3)) (.bin .Mult (.rd 2) (.ix (.rd 1) (.cst (.int 1))))), (.bin .Mult (.ix (.rd 1) (.cst (.int 1))) (.rd 3))])]
def m_l_sum : List MS := [.set (.nm 1) (.tup [(.cst (.int 0)), (.cst (.int 1))]), .for (.tp [2, 3]) 0 [(.rd 0)] b1_l_sum, .ret (.var 1)]
def t_l_sum : List (String × Fn) := [("_law_cut", S.f_l_cut)]
def f_l_sum : Fn := mkFn false false 1 [] 4 m_l_sum (tbl t_l_sum)
def m_l_diff : List MS := [.ret (.call "_law_sum" [(.lst [(.var 0), (.tup [(.bin .Sub (.cst (.int 0)) (.ix (.rd 1) (.cst (.int 0)))), (.ix (.rd 1) (.cst (.int 1)))])])])]
def t_l_diff : List (String × Fn) := [("_law_sum", S.f_l_sum)]
def f_l_diff : Fn := mkFn false false 2 [] 2 m_l_diff (tbl t_l_diff)
def m_l_pair : List MS := [.ret (.ite (.isi (.rd 0) ["tuple"]) (.var 0) (.tup [(.var 0), (.cst (.int 1))]))]
def t_l_pair : List (String × Fn) := []
def f_l_pair : Fn := mkFn false false 1 [] 1 m_l_pair (tbl t_l_pair)
def m_l_part : List MS := [.ret (.call "_law_cut" [(.bin .Mult (.ix (.rd 0) (.cst (.int 0))) (.ix (.rd 1) (.cst (.int 1)))), (.bin .Mult (.ix (.rd 0) (.cst (.int 1))) (.ix (.rd 1) (.cst (.int 0))))])]
def t_l_part : List (String × Fn) := [("_law_cut", S.f_l_cut)]
def f_l_part : Fn := mkFn false false 2 [] 2 m_l_part (tbl t_l_part)
def m_l_prod : List MS := [.ret (.call "_law_cut" [(.bin .Mult (.ix (.rd 0) (.cst (.int 0))) (.ix (.rd 1) (.cst (.int 0)))), (.bin .Mult (.ix (.rd 0) (.cst (.int 1))) (.ix (.rd 1) (.cst (.int 1))))])]
def t_l_prod : List (String × Fn) := [("_law_cut", S.f_l_cut)]
def f_l_prod : Fn := mkFn false false 2 [] 2 m_l_prod (tbl t_l_prod)
def m_l_shown : List MS := [.ret (.ite (.cmp .Eq (.ix (.rd 0) (.cst (.int 1))) (.cst (.int 1))) (.ix (.rd 0) (.cst (.int 0))) (.var 0))]
def t_l_shown : List (String × Fn) := []
def f_l_shown : Fn := mkFn false false 1 [] 1 m_l_shown (tbl t_l_shown)
def m_less : List MS := [.par 2 3 (.call "pair_of" [(.var 0)]) (.call "pair_of" [(.var 1)]), .ret (.cmp .Lt (.bin .Mult (.ix (.rd 2) (.cst (.int 0))) (.ix (.rd 3) (.cst (.int 1)))) (.bin .Mult (.ix (.rd 3) (.cst (.int 0))) (.ix (.rd 2) (.cst (.int 1)))))]
def t_less : List (String × Fn) := [("pair_of", S.f_l_pair)]
def f_less : Fn := mkFn false false 2 [] 4 m_less (tbl t_less)
def w1_common_divisor : ME := (.cmp .Gt (.rd 1) (.cst (.int 0)))
def b1_common_divisor : List MS := [.par 0 1 (.var 1) (.bin .Mod (.rd 0) (.rd 1))]
def m_common_divisor : List MS := [.while w1_common_divisor b1_common_divisor, .ret (.var 0)]
def t_common_divisor : List (String × Fn) := []
def f_common_divisor : Fn := mkFn false false 2 [] 2 m_common_divisor (tbl t_common_divisor)
def m_is_int : List MS := [.ret (.and (.isi (.rd 0) ["int"]) (.not (.isi (.rd 0) ["bool"])))]
def t_is_int : List (String × Fn) := []
def f_is_int : Fn := mkFn false false 1 [] 1 m_is_int (tbl t_is_int)
def m_is_number : List MS := [.ite (.not (.isi (.rd 0) ["tuple"])) [.ret (.call "is_int" [(.var 0)])] [], .ite (.or (.cmp .NotEq (.bi "len" [(.rd 0)]) (.cst (.int 2))) (.or (.not (.call "is_int" [(.ix (.rd 0) (.cst (.int 0)))])) (.not (.call "is_int" [(.ix (.rd
   0) (.cst (.int 1)))])))) [.ret (.cst (.bl false))] [], .ret (.and (.cmp .GtE (.ix (.rd 0) (.cst (.int 1))) (.cst (.int 2))) (.cmp .Eq (.call "common_divisor" [(.bi "abs" [(.ix (.rd 0) (.cst (.int 0)))]), (.ix (.rd 0) (.cst (.int 1)))])
   (.cst (.int 1))))]
def t_is_number : List (String × Fn) := [("common_divisor", S.f_common_divisor), ("is_int", S.f_is_int)]
def f_is_number : Fn := mkFn false false 1 [] 1 m_is_number (tbl t_is_number)
def m_require_number : List MS := [.ite (.or (.not (.call "is_number" [(.var 0)])) (.and (.cmp .IsNot (.rd 1) (.cst .non)) (.call "less" [(.var 0), (.var 1)]))) [.raise "InvalidNumber"] []]
def t_require_number : List (String × Fn) := [("is_number", S.f_is_number), ("less", S.f_less)]
def f_require_number : Fn := mkFn false false 2 [.non] 2 m_require_number (tbl t_require_number)
def m_is_less : List MS := [.expr (.call "require_number" [(.var 0)]), .expr (.call "require_number" [(.var 1)]), .ret (.call "less" [(.var 0), (.var 1)])]
def t_is_less : List (String × Fn) := [("less", S.f_less), ("require_number", S.f_require_number)]
def f_is_less : Fn := mkFn false false 2 [] 2 m_is_less (tbl t_is_less)
def m_number_of : List MS := [.ite (.cmp .Eq (.rd 1) (.cst (.int 1))) [.ret (.var 0)] [], .set (.nm 2) (.call "common_divisor" [(.bi "abs" [(.rd 0)]), (.bi "abs" [(.rd 1)])]), .ite (.cmp .Lt (.rd 1) (.cst (.int 0))) [.set (.nm 2) (.bin .Sub (.cst (.int 0)) (.rd
   2))] [], .par 0 1 (.bin .FloorDiv (.rd 0) (.rd 2)) (.bin .FloorDiv (.rd 1) (.rd 2)), .ret (.ite (.cmp .Eq (.rd 1) (.cst (.int 1))) (.var 0) (.tup [(.var 0), (.var 1)]))]
def t_number_of : List (String × Fn) := [("common_divisor", S.f_common_divisor)]
def f_number_of : Fn := mkFn false false 2 [] 3 m_number_of (tbl t_number_of)
def m_minus : List MS := [.expr (.call "require_number" [(.var 0)]), .expr (.call "require_number" [(.var 1)]), .par 2 3 (.call "pair_of" [(.var 0)]) (.call "pair_of" [(.var 1)]), .ret (.call "number_of" [(.bin .Sub (.bin .Mult (.ix (.rd 2) (.cst (.int 0)))
   (.ix (.rd 3) (.cst (.int 1)))) (.bin .Mult (.ix (.rd 3) (.cst (.int 0))) (.ix (.rd 2) (.cst (.int 1))))), (.bin .Mult (.ix (.rd 2) (.cst (.int 1))) (.ix (.rd 3) (.cst (.int 1))))])]
def t_minus : List (String × Fn) := [("number_of", S.f_number_of), ("pair_of", S.f_l_pair), ("require_number", S.f_require_number)]
def f_minus : Fn := mkFn false false 2 [] 4 m_minus (tbl t_minus)
def m_over : List MS := [.expr (.call "require_number" [(.var 0)]), .expr (.call "require_number" [(.var 1)]), .ite (.cmp .Eq (.rd 1) (.cst (.int 0))) [.raise "InvalidNumber"] [], .par 2 3 (.call "pair_of" [(.var 0)]) (.call "pair_of" [(.var 1)]), .ret (.call
   "number_of" [(.bin .Mult (.ix (.rd 2) (.cst (.int 0))) (.ix (.rd 3) (.cst (.int 1)))), (.bin .Mult (.ix (.rd 2) (.cst (.int 1))) (.ix (.rd 3) (.cst (.int 0))))])]
def t_over : List (String × Fn) := [("number_of", S.f_number_of), ("pair_of", S.f_l_pair), ("require_number", S.f_require_number)]
def f_over : Fn := mkFn false false 2 [] 4 m_over (tbl t_over)
def b1_total : List MS := [.set (.nm 4) (.call "pair_of" [(.var 1)]), .ite (.cmp .Eq (.ix (.rd 4) (.cst (.int 1))) (.rd 3)) [.set (.nm 2) (.bin .Add (.rd 2) (.ix (.rd 4) (.cst (.int 0))))] [.par 2 3 (.bin .Add (.bin .Mult (.rd 2) (.ix (.rd 4) (.cst (.int 1))))
   (.bin .Mult (.ix (.rd 4) (.cst (.int 0))) (.rd 3))) (.bin .Mult (.rd 3) (.ix (.rd 4) (.cst (.int 1))))]]
def m_total : List MS := [.set (.tp [2, 3]) (.tup [(.cst (.int 0)), (.cst (.int 1))]), .for (.nm 1) 0 [(.rd 0)] b1_total, .ret (.call "number_of" [(.var 2), (.var 3)])]
def t_total : List (String × Fn) := [("number_of", S.f_number_of), ("pair_of", S.f_l_pair)]
def f_total : Fn := mkFn false false 1 [] 5 m_total (tbl t_total)
def m_plus : List MS := [.expr (.call "require_number" [(.var 0)]), .expr (.call "require_number" [(.var 1)]), .ret (.call "total" [(.lst [(.var 0), (.var 1)])])]
def t_plus : List (String × Fn) := [("require_number", S.f_require_number), ("total", S.f_total)]
def f_plus : Fn := mkFn false false 2 [] 2 m_plus (tbl t_plus)
def m_times : List MS := [.expr (.call "require_number" [(.var 0)]), .expr (.call "require_number" [(.var 1)]), .par 2 3 (.call "pair_of" [(.var 0)]) (.call "pair_of" [(.var 1)]), .ret (.call "number_of" [(.bin .Mult (.ix (.rd 2) (.cst (.int 0))) (.ix (.rd
   3) (.cst (.int 0)))), (.bin .Mult (.ix (.rd 2) (.cst (.int 1))) (.ix (.rd 3) (.cst (.int 1))))])]
def t_times : List (String × Fn) := [("number_of", S.f_number_of), ("pair_of", S.f_l_pair), ("require_number", S.f_require_number)]
def f_times : Fn := mkFn false false 2 [] 4 m_times (tbl t_times)
def m_l_right : List MS := [.par 6 7 (.call "_law_pair" [(.var 0)]) (.call "_law_pair" [(.var 1)]), .set (.nm 2) (.lst [(.call "_law_sum" [(.lst [(.var 6), (.var 7)])]), (.call "_law_diff" [(.var 6), (.var 7)]), (.call "_law_prod" [(.var 6), (.var 7)])]), .set
   (.nm 3) (.lst [(.call "plus" [(.var 0), (.var 1)]), (.call "minus" [(.var 0), (.var 1)]), (.call "times" [(.var 0), (.var 1)])]), .ite (.cmp .NotEq (.ix (.rd 7) (.cst (.int 0))) (.cst (.int 0))) [.app 2 (.call "_law_part" [(.var 6),
   (.var 7)]), .app 3 (.call "over" [(.var 0), (.var 1)])] [], .ite (.cmp .NotEq (.bi "repr" [(.rd 3)]) (.bi "repr" [(.lc (.call "_law_shown" [(.var 9)]) [9] (.nm 9) 0 [(.rd 2)] none)])) [.ret (.cst (.bl false))] [], .set (.nm 4) (.lst
   [(.call "_law_below" [(.var 6), (.var 7)]), (.call "_law_below" [(.var 7), (.var 6)])]), .ite (.cmp .NotEq (.bi "repr" [(.lst [(.call "is_less" [(.var 0), (.var 1)]), (.call "is_less" [(.var 1), (.var 0)])])]) (.bi "repr" [(.rd 4)]))
   [.ret (.cst (.bl false))] [], .set (.nm 5) (.lst [(.call "plus" [(.ix (.rd 3) (.cst (.int 1))), (.var 1)]), (.call "plus" [(.var 1), (.var 0)]), (.call "times" [(.var 1), (.var 0)]), (.call "minus" [(.cst (.int 0)), (.call "minus"
   [(.var 1), (.var 0)])])]), .ite (.cmp .NotEq (.rd 5) (.lst [(.var 0), (.ix (.rd 3) (.cst (.int 0))), (.ix (.rd 3) (.cst (.int 2))), (.ix (.rd 3) (.cst (.int 1)))])) [.ret (.cst (.bl false))] [], .ret (.cmp .Eq (.lc (.var 8) [8] (.nm
   8) 0 [(.rd 3)] (some (.not (.call "is_number" [(.var 8)])))) (.lst []))]
def t_l_right : List (String × Fn) := [("_law_below", S.f_l_below), ("_law_diff", S.f_l_diff), ("_law_pair", S.f_l_pair), ("_law_part", S.f_l_part), ("_law_prod", S.f_l_prod), ("_law_shown", S.f_l_shown), ("_law_sum", S.f_l_sum), ("is_less", S.f_is_less), ("is_number", S.f_is_number), ("minus", S.f_minus), ("over", S.f_over), ("plus", S.f_plus), ("times", S.f_times)]
def f_l_right : Fn := mkFn false false 2 [] 10 m_l_right (tbl t_l_right)
def m_l_toss : List MS := [.ite (.cmp .Gt (.ix (.rd 0) (.cst (.int 0))) (.cst (.int 0))) [.set (.nm 3) (.bin .Mod (.bi "int" [(.ix (.rd 0) (.cst (.int 0)))]) (.rd 1)), .setIx 0 (.cst (.int 0)) (.bin .FloorDiv (.ix (.rd 0) (.cst (.int 0))) (.rd 1)), .ret (.var
   3)] [], .setIx 0 (.cst (.int 2)) (.bin .Add (.ix (.rd 0) (.cst (.int 2))) (.cst (.int 1))), .set (.nm 2) (.bin .Mod (.bi "int" [(.bin .Pow (.bin .Add (.ix (.rd 0) (.cst (.int 1))) (.bin .Mult (.cst (.int 179424691)) (.ix (.rd 0) (.cst
   (.int 2))))) (.cst (.int 3)))]) (.bin .Add (.bin .Pow (.cst (.int 10)) (.cst (.int 38))) (.cst (.int 133)))), .set (.nm 2) (.bin .Mod (.bi "int" [(.bin .Pow (.bin .Add (.rd 2) (.bin .Mult (.cst (.int 982451653)) (.ix (.rd 0) (.cst
   (.int 2))))) (.cst (.int 3)))]) (.bin .Add (.bin .Pow (.cst (.int 10)) (.cst (.int 44))) (.cst (.int 31)))), .ret (.bin .Mod (.bi "int" [(.bin .FloorDiv (.rd 2) (.cst (.int 1299721)))]) (.rd 1))]
def t_l_toss : List (String × Fn) := []
def f_l_toss : Fn := mkFn true false 2 [] 4 m_l_toss (tbl t_l_toss)
def m_l_amount : List MS := [.set (.nm 2) (.callio "_law_toss" 0 [(.cst (.int 9))]), .ite (.cmp .Lt (.rd 2) (.cst (.int 3))) [.ret (.bin .Add (.var 1) (.callio "_law_toss" 0 [(.cst (.int 12))]))] [], .ite (.cmp .Eq (.rd 2) (.cst (.int 3))) [.ret (.call "_law_shown"
   [(.call "_law_cut" [(.bin .Add (.bin .Mult (.cst (.int 2)) (.callio "_law_toss" 0 [(.cst (.int 9))])) (.cst (.int 1))), (.cst (.int 2))])])] [], .ite (.cmp .Eq (.rd 2) (.cst (.int 4))) [.ret (.call "_law_shown" [(.call "_law_cut" [(.bin
   .Add (.var 1) (.callio "_law_toss" 0 [(.cst (.int 40))])), (.bin .Add (.cst (.int 2)) (.callio "_law_toss" 0 [(.cst (.int 11))]))])])] [], .ite (.cmp .Eq (.rd 2) (.cst (.int 5))) [.ret (.bin .Add (.bin .Add (.rd 1) (.bin .Pow (.cst
   (.int 10)) (.cst (.int 9)))) (.callio "_law_toss" 0 [(.bin .Pow (.cst (.int 10)) (.cst (.int 12)))]))] [], .ite (.cmp .Eq (.rd 2) (.cst (.int 6))) [.ret (.call "_law_shown" [(.call "_law_cut" [(.bin .Add (.var 1) (.callio "_law_toss"
   0 [(.bin .Pow (.cst (.int 10)) (.cst (.int 29)))])), (.bin .Add (.cst (.int 1)) (.callio "_law_toss" 0 [(.bin .Pow (.cst (.int 10)) (.cst (.int 28)))]))])])] [], .ret (.bin .Add (.var 1) (.callio "_law_toss" 0 [(.cst (.int 60))]))]
def t_l_amount : List (String × Fn) := [("_law_cut", S.f_l_cut), ("_law_shown", S.f_l_shown), ("_law_toss", S.f_l_toss)]
def f_l_amount : Fn := mkFn true false 2 [] 3 m_l_amount (tbl t_l_amount)
def m_l_signed : List MS := [.set (.nm 1) (.call "_law_pair" [(.callio "_law_amount" 0 [(.cst (.int 0))])]), .ret (.call "_law_shown" [(.tup [(.bin .Mult (.ix (.rd 1) (.cst (.int 0))) (.ix (.lst [(.cst (.int 1)), (.neg (.cst (.int 1)))]) (.callio "_law_toss" 0
   [(.cst (.int 2))]))), (.ix (.rd 1) (.cst (.int 1)))])])]
def t_l_signed : List (String × Fn) := [("_law_amount", S.f_l_amount), ("_law_pair", S.f_l_pair), ("_law_shown", S.f_l_shown), ("_law_toss", S.f_l_toss)]
def f_l_signed : Fn := mkFn true false 1 [] 2 m_l_signed (tbl t_l_signed)
def m_l_wide : List MS := [.ret (.call "_law_shown" [(.call "_law_cut" [(.callio "_law_toss" 0 [(.bin .Pow (.cst (.int 10)) (.cst (.int 40)))]), (.bin .Add (.cst (.int 1)) (.callio "_law_toss" 0 [(.bin .Sub (.bin .Pow (.cst (.int 10)) (.cst (.int 40))) (.cst
   (.int 1)))]))])])]
def t_l_wide : List (String × Fn) := [("_law_cut", S.f_l_cut), ("_law_shown", S.f_l_shown), ("_law_toss", S.f_l_toss)]
def f_l_wide : Fn := mkFn true false 1 [] 1 m_l_wide (tbl t_l_wide)
end S

namespace S
open PySem PySem.Spec L2 Z
/-! ### draws -/
def Pu (k : Nat) (p : D) : Prop := ∃ dg sd ct : Int, p = .lst [.int dg, .int sd, .int ct] ∧ 0 ≤ dg ∧ 0 ≤ sd ∧ sd < 2 ^ 62 ∧ 0 ≤ ct ∧ ct ≤ k
theorem Pu.mono {j k : Nat} {p : D} (h : Pu j p) (le : j ≤ k) : Pu k p := by
  obtain ⟨dg, sd, ct, e, a1, a2, a3, a4, a5⟩ := h
  exact ⟨dg, sd, ct, e, a1, a2, a3, a4, by omega⟩
theorem pow3 {x : Int} (h0 : 0 ≤ x) (h : x < 2 ^ 300) : powOk x 3 = true := by
  unfold powOk
  have : x.natAbs < 2 ^ (299 + 1) := by omega
  have := log2_le this
  simp
  omega
theorem divOk_of {j : Int} {k : Nat} (hk : k < 8000) (h : j ≠ 0) (h2 : j.natAbs < 2 ^ k) : divOk j = true := by
  unfold divOk
  have := log2_le (k := k) (Nat.lt_of_lt_of_le h2 (Nat.pow_le_pow_right (by omega) (by omega)))
  simp [h]; omega
theorem r_toss {k : Nat} {p : D} {m : Int} (h : Pu k p) (hk : k < 1000000) (h0 : 0 < m) (h1 : m < 2 ^ 200) : ∃ r p', f_l_toss.run [p, .int m] = .ok (.int r) p' ∧ 0 ≤ r ∧ r < m ∧ Pu (k + 1) p' := by
  obtain ⟨dg, sd, ct, rfl, a1, a2, a3, a4, a5⟩ := h
  have hm : m ≠ 0 := by omega
  have hd : divOk m = true := divOk_of (k := 250) (by omega) hm (by omega)
  show ∃ r p', (exB (tbl t_l_toss) fuelN m_l_toss (sl0 true 4 [.lst [.int dg, .int sd, .int ct], .int m])).fr true false = .ok (.int r) p' ∧ _
  by_cases hg : 0 < dg
  · refine ⟨dg.fmod m, .lst [.int (dg.fdiv m), .int sd, .int ct], ?_, Int.fmod_nonneg_of_pos dg h0, Int.fmod_lt_of_pos dg h0, _, _, _, rfl, Int.fdiv_nonneg a1 (by omega), a2, a3, a4, by omega⟩
    simp [m_l_toss, sl0, exB, exS, evE, evL, ixD, cmpD, hg, truD, biD, binD, hm, hd, setS, lstAt, updS, Sl.free, asgT, Out.fr, io0]
  · have e1 : mulOk 179424691 (ct + 1) = true := mulOk_of (a := 40) (b := 40) (by omega) (by omega) (by omega)
    have e2 : mulOk 982451653 (ct + 1) = true := mulOk_of (a := 40) (b := 40) (by omega) (by omega) (by omega)
    have e3 : powOk (sd + 179424691 * (ct + 1)) 3 = true := pow3 (by omega) (by omega)
    have e4 : ∀ z : Int, powOk (z.fmod 100000000000000000000000000000000000133 + 982451653 * (ct + 1)) 3 = true := fun z => by
      have := Int.fmod_nonneg_of_pos z (b := 100000000000000000000000000000000000133) (by omega)
      have := Int.fmod_lt_of_pos z (b := 100000000000000000000000000000000000133) (by omega)
      exact pow3 (by omega) (by omega)
    have e5 : divOk 1299721 = true := by decide
    have e6 : powOk 10 38 = true := by decide
    have e7 : powOk 10 44 = true := by decide
    simp [m_l_toss, sl0, exB, exS, evE, evL, ixD, cmpD, hg, truD, biD, binD, hm, hd, setS, lstAt, updS, Sl.free, asgT, Out.fr, io0, e1, e2, e3, e4, e5, e6, e7]
    exact ⟨_, _, ⟨rfl, rfl⟩, Int.fmod_nonneg_of_pos _ h0, Int.fmod_lt_of_pos _ h0, _, _, _, rfl, a1, a2, a3, by omega, by omega⟩
/-- a draw, from the drawer's own slot or its caller's -/
theorem c_toss_io {Φ : String → Option Fn} {k : Nat} {p : D} {m : Int} {ρ : Vn} {i : Nat} (hf : Φ "_law_toss" = some f_l_toss) (hi : ρ[i]? = some (.io p)) (h : Pu k p) (hk : k < 1000000) (h0 : 0 < m) (h1 : m < 2 ^ 200) : ∃ r p', callIo Φ "_law_toss" i [.int m] ρ = .ok (false, .int r) (ρ.set i (.io p')) ∧ 0 ≤ r ∧ r < m ∧ Pu (k + 1) p' := by
  obtain ⟨r, p', e, a, b, c⟩ := r_toss h hk h0 h1
  exact ⟨r, p', callIo_io hf rfl rfl hi e, a, b, c⟩
theorem c_toss_own {Φ : String → Option Fn} {k : Nat} {p : D} {m : Int} {ρ : Vn} {i : Nat} (hf : Φ "_law_toss" = some f_l_toss) (hi : ρ[i]? = some (.own p)) (h : Pu k p) (hk : k < 1000000) (h0 : 0 < m) (h1 : m < 2 ^ 200) : ∃ r p', callIo Φ "_law_toss" i [.int m] ρ = .ok (false, .int r) (ρ.set i (.own p')) ∧ 0 ≤ r ∧ r < m ∧ Pu (k + 1) p' := by
  obtain ⟨r, p', e, a, b, c⟩ := r_toss h hk h0 h1
  exact ⟨r, p', callIo_own hf rfl rfl hi e, a, b, c⟩
/-! ### the purse -/
theorem r_purse {ns : List Int} : ∃ p, f_l_purse.run [.lst (ns.map D.int)] = .ok p .non ∧ Pu 0 p := by
  show ∃ p, (exB (tbl t_l_purse) fuelN m_l_purse (sl0 false 4 [.lst (ns.map D.int)])).fr false true = .ok p .non ∧ Pu 0 p
  have e18 : powOk 10 18 = true := by decide
  have e60 : powOk 10 60 = true := by decide
  -- the loop
  have loop : ∃ ρ', forGo (.nm 1) (exB (tbl t_l_purse) fuelN b1_l_purse) (cutD (ns.map D.int) none (some 40)) [.val (.lst (ns.map D.int)), .non, .val (.int 0), .val (.int 660179)] = .nx ρ' ∧
      ∃ c, ∃ dg sd : Int, ρ' = [.val (.lst (ns.map D.int)), c, .val (.int dg), .val (.int sd)] ∧ 0 ≤ dg ∧ 0 ≤ sd ∧ sd < 2 ^ 61 := by
    have hl : (cutD (ns.map D.int) none (some 40)).length ≤ 40 := by
      unfold cutD
      have : HT.sIx (List.map D.int ns).length (List.map D.int ns).length (some 40) ≤ 40 := by
        simp [HT.sIx]; omega
      simp only [List.length_take, List.length_drop]
      omega
    obtain ⟨ρ', e, c, hc, dg, sd, h1, h2, h3, h4, h5⟩ := forGo_nx (tg := .nm 1) (body := exB (tbl t_l_purse) fuelN b1_l_purse) (xs := cutD (ns.map D.int) none (some 40)) (i := 0)
      (I := fun i ρ => ∃ c : Sl, c.free = true ∧ ∃ dg sd : Int, ρ = [.val (.lst (ns.map D.int)), c, .val (.int dg), .val (.int sd)] ∧ 0 ≤ dg ∧ dg.natAbs < 2 ^ (202 * i + 1) ∧ 0 ≤ sd ∧ sd < 2 ^ 61) ⟨.non, rfl, 0, 660179, rfl, by omega, by simp, by omega, by omega⟩ (by
      rintro j d ρ hd ⟨c, hc, dg, sd, rfl, a1, a2, a3, a4⟩
      have hj : j < 40 := by
        have := (List.getElem?_eq_some_iff.mp hd).1
        omega
      obtain ⟨x, rfl⟩ : ∃ x, d = .int x := by
        have := List.mem_of_getElem? hd
        unfold cutD at this
        have := List.mem_of_mem_drop (List.mem_of_mem_take this)
        obtain ⟨x, _, rfl⟩ := List.mem_map.mp this
        exact ⟨x, rfl⟩
      simp only [Nat.zero_add] at a2 ⊢
      have m1 : mulOk sd 69621 = true := mulOk_of (a := 60) (b := 60) (by omega) (by omega) (by omega)
      have m2 : mulOk dg 1000000000000000000000000000000000000000000000000000000000000 = true := mulOk_of (a := 202 * j) (b := 250) a2 (by omega) (by omega)
      have sdn : ∀ z : Int, 0 ≤ z.fmod 2305843009213693951 ∧ z.fmod 2305843009213693951 < 2 ^ 61 := fun z => ⟨Int.fmod_nonneg_of_pos _ (by omega), by have := Int.fmod_lt_of_pos z (b := 2305843009213693951) (by omega); omega⟩
      by_cases hx : (1000000000000000000 : Int) ≤ (x.natAbs : Int)
      · refine ⟨_, _, by simp [asgT, setS, hc]; rfl, by simp [b1_l_purse, exB, exS, evE, evL, cmpD, truD, biD, binD, e18, e60, m1, m2, hx, setS, Sl.free]; exact ⟨rfl, rfl⟩, .val (.int x), rfl, _, _, rfl, ?_, ?_, (sdn _).1, (sdn _).2⟩
        · have := Int.fmod_nonneg_of_pos (x.natAbs : Int) (b := 1000000000000000000000000000000000000000000000000000000000000) (by omega)
          omega
        · have q1 := Int.fmod_nonneg_of_pos (x.natAbs : Int) (b := 1000000000000000000000000000000000000000000000000000000000000) (by omega)
          have q2 := Int.fmod_lt_of_pos (x.natAbs : Int) (b := 1000000000000000000000000000000000000000000000000000000000000) (by omega)
          have q3 : 2 ^ (202 * (j + 1) + 1) = 2 ^ (202 * j + 1) * 2 ^ 202 := by rw [← Nat.pow_add]; congr 1
          rw [q3]
          generalize 2 ^ (202 * j + 1) = B at a2
          omega
      · refine ⟨_, _, by simp [asgT, setS, hc]; rfl, by simp [b1_l_purse, exB, exS, evE, evL, cmpD, truD, biD, binD, e18, e60, m1, m2, hx, setS, Sl.free]; rfl, .val (.int x), rfl, _, _, rfl, a1, ?_, (sdn _).1, (sdn _).2⟩
        exact Nat.lt_of_lt_of_le a2 (Nat.pow_le_pow_right (by omega) (by omega)))
    exact ⟨ρ', e, c, dg, sd, h1, h2, h4, h5⟩
  obtain ⟨ρ', e, c, dg, sd, rfl, h1, h2, h3⟩ := loop
  refine ⟨.lst [.int dg, .int sd, .int 0], ?_, dg, sd, 0, rfl, h1, h2, by omega, by omega, by omega⟩
  simp [m_l_purse, sl0, exB, exS, evE, evL, evO, slcD, asgT, sets, setS, Sl.free, Z.fresh, itD, rdIdx, lockV, e, Out.back, unlockV, Out.fr, io0]
/-! ### divisors -/
theorem fmod_nat (a b : Nat) : Int.fmod (a : Int) (b : Int) = ((a % b : Nat) : Int) := by
  rw [Int.fmod_eq_emod_of_nonneg _ (by omega)]; rfl
theorem w_gcd {k : Nat} (hk : k < 400000) (a b : Nat) (h : b < 2 ^ k) : whGo (evE (tbl t_common_divisor) w1_common_divisor) (exB (tbl t_common_divisor) fuelN b1_common_divisor) fuelN [.val (.int a), .val (.int b)] = .nx [.val (.int (Nat.gcd a b : Nat)), .val (.int 0)] := by
  have key := euclid (W := fun m a b => whGo (evE (tbl t_common_divisor) w1_common_divisor) (exB (tbl t_common_divisor) fuelN b1_common_divisor) m [.val (.int (a : Nat)), .val (.int (b : Nat))]) (R := fun g => .nx [.val (.int (g : Nat)), .val (.int 0)])
    (fun m a => by simp [whGo, w1_common_divisor, evE, cmpD, truD]) (fun m a b hb => by
      have hb0 : (b : Int) ≠ 0 := by omega
      have hb1 : (0 : Int) < b := by omega
      have hb2 : b ≠ 0 := by omega
      simp [whGo, w1_common_divisor, hb2, evE, cmpD, truD, hb1, hb0, b1_common_divisor, exB, exS, binD, setS, Sl.free, fmod_nat, hb]) k a b h (fuelN - (2 * k + 1))
  rw [show 2 * k + 1 + (fuelN - (2 * k + 1)) = fuelN by unfold fuelN; omega] at key
  exact key
theorem r_gcd {k : Nat} (hk : k < 400000) (a b : Nat) (h : b < 2 ^ k) : f_common_divisor.run [.int a, .int b] = .ok (.int (Nat.gcd a b : Nat)) .non := by
  show (exB (tbl t_common_divisor) fuelN m_common_divisor (sl0 false 2 [.int a, .int b])).fr false false = _
  simp [m_common_divisor, sl0, exB, exS, w_gcd hk a b h, Out.fr, io0]
theorem w_cut {k : Nat} (hk : k < 400000) (x y : Int) (a b : Nat) (h : b < 2 ^ k) : whGo (evE (tbl t_l_cut) w1_l_cut) (exB (tbl t_l_cut) fuelN b1_l_cut) fuelN [.val (.int x), .val (.int y), .val (.int a), .val (.int b)] = .nx [.val (.int x), .val (.int y), .val (.int (Nat.gcd a b : Nat)), .val (.int 0)] := by
  have key := euclid (W := fun m a b => whGo (evE (tbl t_l_cut) w1_l_cut) (exB (tbl t_l_cut) fuelN b1_l_cut) m [.val (.int x), .val (.int y), .val (.int (a : Nat)), .val (.int (b : Nat))]) (R := fun g => .nx [.val (.int x), .val (.int y), .val (.int (g : Nat)), .val (.int 0)])
    (fun m a => by simp [whGo, w1_l_cut, evE, cmpD, truD]) (fun m a b hb => by
      have hb0 : (b : Int) ≠ 0 := by omega
      have hb1 : (0 : Int) < b := by omega
      have hb2 : b ≠ 0 := by omega
      simp [whGo, w1_l_cut, hb2, evE, evL, biD, cmpD, truD, hb1, hb0, b1_l_cut, exB, exS, binD, setS, Sl.free, fmod_nat, hb]) k a b h (fuelN - (2 * k + 1))
  rw [show 2 * k + 1 + (fuelN - (2 * k + 1)) = fuelN by unfold fuelN; omega] at key
  exact key
/-- the signed divisor -/
def sg (a b : Int) : Int := if b < 0 then -((Nat.gcd a.natAbs b.natAbs : Nat) : Int) else ((Nat.gcd a.natAbs b.natAbs : Nat) : Int)
theorem sg_ne {a b : Int} (h : b ≠ 0) : sg a b ≠ 0 := by
  have : Nat.gcd a.natAbs b.natAbs ≠ 0 := by
    intro z
    have := (Nat.gcd_eq_zero_iff.mp z).2
    omega
  unfold sg
  split <;> omega
theorem sg_abs {a b : Int} : (sg a b).natAbs = Nat.gcd a.natAbs b.natAbs := by
  unfold sg
  split <;> omega
theorem gcd_lt {a b : Int} {k : Nat} (h : b ≠ 0) (hb : b.natAbs < 2 ^ k) : Nat.gcd a.natAbs b.natAbs < 2 ^ k := by
  have := Nat.gcd_le_right a.natAbs (n := b.natAbs) (by omega)
  omega
theorem divOk_sg {a b : Int} {k : Nat} (hk : k < 8000) (h : b ≠ 0) (hb : b.natAbs < 2 ^ k) : divOk (sg a b) = true := by
  refine divOk_of hk (sg_ne h) ?_
  rw [sg_abs]
  exact gcd_lt h hb
theorem r_cut {a b : Int} {k : Nat} (hk : k < 8000) (h : b ≠ 0) (hb : b.natAbs < 2 ^ k) : f_l_cut.run [.int a, .int b] = .ok (.tup [.int (a.fdiv (sg a b)), .int (b.fdiv (sg a b))]) .non := by
  show (exB (tbl t_l_cut) fuelN m_l_cut (sl0 false 4 [.int a, .int b])).fr false false = _
  have w := w_cut (k := k) (by omega) a b a.natAbs b.natAbs hb
  have d := divOk_sg (a := a) hk h hb
  have g := Nat.lt_of_lt_of_le (gcd_lt (a := a) h hb) (Nat.pow_le_pow_right (show 0 < 2 by omega) (Nat.le_succ k))
  have m1 : mulOk 2 1 = true := by decide
  have m0 : mulOk 2 0 = true := by decide
  have m2 : mulOk (Nat.gcd a.natAbs b.natAbs : Nat) (-1) = true := mulOk_of (a := k) (b := 1) (by simpa using g) (by omega) (by omega)
  have m3 : mulOk (Nat.gcd a.natAbs b.natAbs : Nat) 1 = true := mulOk_of (a := k) (b := 1) (by simpa using g) (by omega) (by omega)
  by_cases hs : b < 0
  · have e : sg a b = -((Nat.gcd a.natAbs b.natAbs : Nat) : Int) := by unfold sg; rw [if_pos hs]
    rw [e] at d ⊢
    simp [m_l_cut, sl0, exB, exS, evE, evL, biD, setS, Sl.free, w, cmpD, truD, binD, hs, m1, m0, m2, m3, d, Out.fr, io0]
  · have e : sg a b = ((Nat.gcd a.natAbs b.natAbs : Nat) : Int) := by unfold sg; rw [if_neg hs]
    rw [e] at d ⊢
    simp [m_l_cut, sl0, exB, exS, evE, evL, biD, setS, Sl.free, w, cmpD, truD, binD, hs, m1, m0, m2, m3, d, Out.fr, io0]
/-! ### numbers -/
def plainD : D → Bool
  | .dcT _ => false | .ins _ _ => false | _ => true
def isIntD : D → Bool
  | .int _ => true | _ => false
theorem r_is_int {d : D} (h : plainD d = true) : f_is_int.run [d] = .ok (.bl (isIntD d)) .non := by
  show (exB (tbl t_is_int) fuelN m_is_int (sl0 false 1 [d])).fr false false = _
  cases d <;> first | (simp [m_is_int, sl0, exB, exS, evE, evL, isiD, truD, Out.fr, io0, isIntD]; done) | cases h
/-- top / bottom -/
def numD (a b : Int) : D := if b.fdiv (sg a b) = 1 then .int (a.fdiv (sg a b)) else .tup [.int (a.fdiv (sg a b)), .int (b.fdiv (sg a b))]
theorem sg_one (a : Int) : sg a 1 = 1 := by simp [sg]
theorem r_shown {a b : Int} : f_l_shown.run [.tup [.int a, .int b]] = .ok (if b = 1 then .int a else .tup [.int a, .int b]) .non := by
  show (exB (tbl t_l_shown) fuelN m_l_shown (sl0 false 1 [.tup [.int a, .int b]])).fr false false = _
  by_cases h : b = 1
  · simp [m_l_shown, sl0, exB, exS, evE, evL, ixD, cmpD, h, truD, Out.fr, io0]
  · simp [m_l_shown, sl0, exB, exS, evE, evL, ixD, cmpD, h, truD, Out.fr, io0]
theorem c_gcd {Φ : String → Option Fn} (hf : Φ "common_divisor" = some f_common_divisor) {a b k : Nat} (hk : k < 8000) (h : b < 2 ^ k) {ρ : Vn} : callF Φ "common_divisor" [.int a, .int b] ρ = .ok (false, .int (Nat.gcd a b : Nat)) ρ := callF_ok hf rfl rfl (r_gcd (by omega) a b h)
theorem r_number_of {a b : Int} {k : Nat} (hk : k < 8000) (h : b ≠ 0) (hb : b.natAbs < 2 ^ k) : f_number_of.run [.int a, .int b] = .ok (numD a b) .non := by
  show (exB (tbl t_number_of) fuelN m_number_of (sl0 false 3 [.int a, .int b])).fr false false = _
  have w : ∀ ρ, callF (tbl t_number_of) "common_divisor" [.int (a.natAbs : Nat), .int (b.natAbs : Nat)] ρ = .ok (false, .int (Nat.gcd a.natAbs b.natAbs : Nat)) ρ := fun ρ => c_gcd rfl hk hb
  have d := divOk_sg (a := a) hk h hb
  by_cases h1 : b = 1
  · subst h1
    have e : numD a 1 = .int a := by unfold numD; rw [sg_one]; simp
    rw [e]
    simp [m_number_of, sl0, exB, exS, evE, evL, cmpD, truD, Out.fr, io0]
  · by_cases hs : b < 0
    · have e : sg a b = -((Nat.gcd a.natAbs b.natAbs : Nat) : Int) := by unfold sg; rw [if_pos hs]
      unfold numD
      rw [e] at d ⊢
      by_cases h2 : b.fdiv (-((Nat.gcd a.natAbs b.natAbs : Nat) : Int)) = 1
      · simp [m_number_of, sl0, exB, exS, evE, evL, biD, cmpD, h1, truD, w, setS, Sl.free, binD, hs, d, h2, Out.fr, io0]
      · simp [m_number_of, sl0, exB, exS, evE, evL, biD, cmpD, h1, truD, w, setS, Sl.free, binD, hs, d, h2, Out.fr, io0]
    · have e : sg a b = ((Nat.gcd a.natAbs b.natAbs : Nat) : Int) := by unfold sg; rw [if_neg hs]
      unfold numD
      rw [e] at d ⊢
      by_cases h2 : b.fdiv ((Nat.gcd a.natAbs b.natAbs : Nat) : Int) = 1
      · simp [m_number_of, sl0, exB, exS, evE, evL, biD, cmpD, h1, truD, w, setS, Sl.free, binD, hs, d, h2, Out.fr, io0]
      · simp [m_number_of, sl0, exB, exS, evE, evL, biD, cmpD, h1, truD, w, setS, Sl.free, binD, hs, d, h2, Out.fr, io0]
end S

namespace S
open PySem PySem.Spec L2 Z
/-! ### fractions -/
theorem sg_split {a b : Int} (h : b ≠ 0) : ∃ q r : Int, a = sg a b * q ∧ b = sg a b * r ∧ a.fdiv (sg a b) = q ∧ b.fdiv (sg a b) = r ∧ 0 < r ∧ Nat.gcd q.natAbs r.natAbs = 1 := by
  have g0 : 0 < Nat.gcd a.natAbs b.natAbs := Nat.gcd_pos_of_pos_right _ (by omega)
  have d1 : sg a b ∣ a := Int.natAbs_dvd_natAbs.mp (by rw [sg_abs]; exact Nat.gcd_dvd_left _ _)
  have d2 : sg a b ∣ b := Int.natAbs_dvd_natAbs.mp (by rw [sg_abs]; exact Nat.gcd_dvd_right _ _)
  obtain ⟨q, hq⟩ := d1
  obtain ⟨r, hr⟩ := d2
  have hs := sg_ne (a := a) h
  refine ⟨q, r, hq, hr, ?_, ?_, ?_, ?_⟩
  · conv => lhs; arg 1; rw [hq]
    exact Int.mul_fdiv_cancel_left _ hs
  · conv => lhs; arg 1; rw [hr]
    exact Int.mul_fdiv_cancel_left _ hs
  · refine Classical.byContradiction fun hn => ?_
    by_cases hb : b < 0
    · have e : sg a b = -((Nat.gcd a.natAbs b.natAbs : Nat) : Int) := by unfold sg; rw [if_pos hb]
      have : 0 ≤ sg a b * r := Int.mul_nonneg_of_nonpos_of_nonpos (by omega) (by omega)
      omega
    · have e : sg a b = ((Nat.gcd a.natAbs b.natAbs : Nat) : Int) := by unfold sg; rw [if_neg hb]
      have : sg a b * r ≤ 0 := Int.mul_nonpos_of_nonneg_of_nonpos (by omega) (by omega)
      omega
  · have e1 : a.natAbs = Nat.gcd a.natAbs b.natAbs * q.natAbs := by conv => lhs; rw [hq, Int.natAbs_mul, sg_abs]
    have e2 : b.natAbs = Nat.gcd a.natAbs b.natAbs * r.natAbs := by conv => lhs; rw [hr, Int.natAbs_mul, sg_abs]
    clear hq hr hs
    generalize hg : Nat.gcd a.natAbs b.natAbs = g at e1 e2 g0
    have e3 : g = g * Nat.gcd q.natAbs r.natAbs := by
      rw [← Nat.gcd_mul_left, ← e1, ← e2, hg]
    have e4 : g * 1 = g * Nat.gcd q.natAbs r.natAbs := by rw [Nat.mul_one]; exact e3
    exact (Nat.eq_of_mul_eq_mul_left g0 e4).symm
theorem num_q {a b : Int} (h : b ≠ 0) : a.fdiv (sg a b) = (Rat.divInt a b).num ∧ b.fdiv (sg a b) = ((Rat.divInt a b).den : Int) ∧ a = sg a b * (Rat.divInt a b).num ∧ b = sg a b * ((Rat.divInt a b).den : Int) := by
  obtain ⟨q, r, h1, h2, h3, h4, h5, h6⟩ := sg_split (a := a) h
  have hs := sg_ne (a := a) h
  let y : Rat := ⟨q, r.natAbs, by omega, h6⟩
  have er : ((r.natAbs : Nat) : Int) = r := by omega
  have e : Rat.divInt a b = y := by
    have e1 : Rat.divInt a b = Rat.divInt (sg a b * q) (sg a b * r) := by rw [← h1, ← h2]
    rw [e1, Rat.divInt_mul_left hs]
    have := Rat.num_divInt_den y
    rw [show y.num = q from rfl, show ((y.den : Nat) : Int) = r from er] at this
    exact this
  rw [e, h3, h4]
  exact ⟨rfl, er.symm, h1, by rw [show ((y.den : Nat) : Int) = r from er]; exact h2⟩
/-- a number as the program holds it; its top and bottom -/
def ofQ (x : Rat) : D := if x.den = 1 then .int x.num else .tup [.int x.num, .int (x.den : Nat)]
def prQ (x : Rat) : D := .tup [.int x.num, .int (x.den : Nat)]
theorem numD_q {a b : Int} (h : b ≠ 0) : numD a b = ofQ (Rat.divInt a b) := by
  obtain ⟨e1, e2, _⟩ := num_q (a := a) h
  unfold numD ofQ
  rw [e1, e2]
  by_cases hd : (Rat.divInt a b).den = 1
  · rw [if_pos (by omega), if_pos hd]
  · rw [if_neg (by omega), if_neg hd]
/-- the size of a number, by bits -/
def Sz (k : Nat) (x : Rat) : Prop := x.num.natAbs < 2 ^ k ∧ x.den < 2 ^ k
theorem Sz.mono {j k : Nat} {x : Rat} (h : Sz j x) (le : j ≤ k) : Sz k x := ⟨Nat.lt_of_lt_of_le h.1 (Nat.pow_le_pow_right (by omega) le), Nat.lt_of_lt_of_le h.2 (Nat.pow_le_pow_right (by omega) le)⟩
theorem sz_div {k : Nat} {a b : Int} (h : b ≠ 0) (ha : a.natAbs < 2 ^ k) (hb : b.natAbs < 2 ^ k) : Sz k (Rat.divInt a b) := by
  obtain ⟨_, _, e3, e4⟩ := num_q (a := a) h
  have hs := sg_ne (a := a) h
  have le : ∀ z : Int, z.natAbs ≤ (sg a b * z).natAbs := fun z => by
    rw [Int.natAbs_mul]
    exact Nat.le_mul_of_pos_left _ (by omega)
  have l1 := le (Rat.divInt a b).num
  have l2 := le ((Rat.divInt a b).den : Int)
  rw [← e3] at l1
  rw [← e4] at l2
  exact ⟨by omega, by omega⟩
theorem mul_lt {i j : Nat} {a b : Int} (ha : a.natAbs < 2 ^ i) (hb : b.natAbs < 2 ^ j) : (a * b).natAbs < 2 ^ (i + j) := by
  rw [Int.natAbs_mul, Nat.pow_add]
  exact Nat.mul_lt_mul'' ha hb
theorem add_lt {i : Nat} {a b : Int} (ha : a.natAbs < 2 ^ i) (hb : b.natAbs < 2 ^ i) : (a + b).natAbs < 2 ^ (i + 1) := by
  rw [Nat.pow_succ]
  omega
theorem sub_lt {i : Nat} {a b : Int} (ha : a.natAbs < 2 ^ i) (hb : b.natAbs < 2 ^ i) : (a - b).natAbs < 2 ^ (i + 1) := by
  rw [Nat.pow_succ]
  omega
theorem mulOk_lt {i j : Nat} {a b : Int} (ha : a.natAbs < 2 ^ i) (hb : b.natAbs < 2 ^ j) (h : i + j < 100000000) : mulOk a b = true :=
  mulOk_of (a := i) (b := j) (Nat.lt_of_lt_of_le ha (Nat.pow_le_pow_right (by omega) (by omega))) (Nat.lt_of_lt_of_le hb (Nat.pow_le_pow_right (by omega) (by omega))) h
theorem add_q (x y : Rat) : Rat.divInt (x.num * y.den + y.num * x.den) (x.den * y.den) = x + y := by
  have := Rat.divInt_add_divInt x.num y.num (d₁ := x.den) (d₂ := y.den) (by have := x.den_nz; omega) (by have := y.den_nz; omega)
  rw [Rat.num_divInt_den, Rat.num_divInt_den] at this
  exact this.symm
theorem sub_q (x y : Rat) : Rat.divInt (x.num * y.den - y.num * x.den) (x.den * y.den) = x - y := by
  have := Rat.divInt_sub_divInt x.num y.num (d₁ := x.den) (d₂ := y.den) (by have := x.den_nz; omega) (by have := y.den_nz; omega)
  rw [Rat.num_divInt_den, Rat.num_divInt_den] at this
  exact this.symm
theorem mul_q (x y : Rat) : Rat.divInt (x.num * y.num) (x.den * y.den) = x * y := by
  have := Rat.divInt_mul_divInt x.num y.num (d₁ := x.den) (d₂ := y.den)
  rw [Rat.num_divInt_den, Rat.num_divInt_den] at this
  exact this.symm
theorem div_q (x y : Rat) : Rat.divInt (x.num * y.den) (x.den * y.num) = x / y := by
  rw [Rat.div_def, Rat.inv_def]
  have := Rat.divInt_mul_divInt x.num (y.den : Int) (d₁ := x.den) (d₂ := y.num)
  rw [Rat.num_divInt_den] at this
  exact this.symm
theorem Sz.den {k : Nat} {x : Rat} (h : Sz k x) : ((x.den : Nat) : Int).natAbs < 2 ^ k := by simpa using h.2
theorem sz_add {k : Nat} {x y : Rat} (hx : Sz k x) (hy : Sz k y) : Sz (k + k + 1) (x + y) := by
  rw [← add_q]
  refine sz_div (by have := x.den_nz; have := y.den_nz; simp [*]) (add_lt (mul_lt hx.1 hy.den) (mul_lt hy.1 hx.den)) ?_
  exact Nat.lt_of_lt_of_le (mul_lt hx.den hy.den) (Nat.pow_le_pow_right (by omega) (by omega))
theorem sz_sub {k : Nat} {x y : Rat} (hx : Sz k x) (hy : Sz k y) : Sz (k + k + 1) (x - y) := by
  rw [← sub_q]
  refine sz_div (by have := x.den_nz; have := y.den_nz; simp [*]) (sub_lt (mul_lt hx.1 hy.den) (mul_lt hy.1 hx.den)) ?_
  exact Nat.lt_of_lt_of_le (mul_lt hx.den hy.den) (Nat.pow_le_pow_right (by omega) (by omega))
theorem sz_mul {k : Nat} {x y : Rat} (hx : Sz k x) (hy : Sz k y) : Sz (k + k) (x * y) := by
  rw [← mul_q]
  exact sz_div (by have := x.den_nz; have := y.den_nz; simp [*]) (mul_lt hx.1 hy.1) (mul_lt hx.den hy.den)
theorem sz_quo {k : Nat} {x y : Rat} (hx : Sz k x) (hy : Sz k y) (h : y ≠ 0) : Sz (k + k) (x / y) := by
  rw [← div_q]
  have hn : y.num ≠ 0 := fun z => h (Rat.num_eq_zero.mp z)
  exact sz_div (by have := x.den_nz; simp [*]) (mul_lt hx.1 hy.den) (mul_lt hx.den hy.1)
end S

namespace S
open PySem PySem.Spec L2 Z
/-- a call that leaves its last arguments out -/
theorem callF_dfl {Φ : String → Option Fn} {f : String} {fn : Fn} {ds : List D} {ρ : Vn} {d s : D} (h : Φ f = some fn) (io : fn.io = false) (a1 : ds.length ≤ fn.ar) (a2 : fn.ar ≤ ds.length + fn.dfl.length) (r : fn.run (ds ++ fn.dfl.drop (fn.dfl.length - (fn.ar - ds.length))) = .ok d s) : callF Φ f ds ρ = .ok (fn.fresh, d) ρ := by
  unfold callF
  rw [h]
  simp only [io, Bool.false_eq_true, if_false]
  rw [if_pos ⟨a1, a2⟩, r]
theorem r_cut_q {a b : Int} {k : Nat} (hk : k < 8000) (h : b ≠ 0) (hb : b.natAbs < 2 ^ k) : f_l_cut.run [.int a, .int b] = .ok (prQ (Rat.divInt a b)) .non := by
  rw [r_cut hk h hb, (num_q (a := a) h).1, (num_q (a := a) h).2.1]
  rfl
theorem r_number_q {a b : Int} {k : Nat} (hk : k < 8000) (h : b ≠ 0) (hb : b.natAbs < 2 ^ k) : f_number_of.run [.int a, .int b] = .ok (ofQ (Rat.divInt a b)) .non := by
  rw [r_number_of hk h hb, numD_q h]
theorem r_shown_q (x : Rat) : f_l_shown.run [prQ x] = .ok (ofQ x) .non := by
  have := r_shown (a := x.num) (b := (x.den : Nat))
  rw [show (if ((x.den : Nat) : Int) = 1 then D.int x.num else .tup [.int x.num, .int (x.den : Nat)]) = ofQ x by
    unfold ofQ
    by_cases h : x.den = 1
    · rw [if_pos (by omega), if_pos h]
    · rw [if_neg (by omega), if_neg h]] at this
  exact this
theorem r_pair (x : Rat) : f_l_pair.run [ofQ x] = .ok (prQ x) .non := by
  show (exB (tbl t_l_pair) fuelN m_l_pair (sl0 false 1 [ofQ x])).fr false false = _
  unfold ofQ
  by_cases h : x.den = 1
  · rw [if_pos h]
    simp [m_l_pair, sl0, exB, exS, evE, evL, isiD, truD, Out.fr, io0, prQ, h]
  · rw [if_neg h]
    simp [m_l_pair, sl0, exB, exS, evE, evL, isiD, truD, Out.fr, io0, prQ]
theorem k_pair {Φ : String → Option Fn} (x : Rat) (ρ : Vn) (h : Φ "pair_of" = some f_l_pair) : callF Φ "pair_of" [ofQ x] ρ = .ok (false, prQ x) ρ := callF_ok h rfl rfl (r_pair x)
theorem r_less {x y : Rat} {k : Nat} (hk : k < 8000) (hx : Sz k x) (hy : Sz k y) : f_less.run [ofQ x, ofQ y] = .ok (.bl (decide (x < y))) .non := by
  show (exB (tbl t_less) fuelN m_less (sl0 false 4 [ofQ x, ofQ y])).fr false false = _
  have p1 := fun ρ => k_pair (Φ := tbl t_less) x ρ rfl
  have p2 := fun ρ => k_pair (Φ := tbl t_less) y ρ rfl
  have m1 := mulOk_lt hx.1 hy.den (by omega)
  have m2 := mulOk_lt hy.1 hx.den (by omega)
  simp [m_less, sl0, exB, exS, evE, evL, p1, p2, setS, Sl.free, prQ, ixD, binD, m1, m2, cmpD, Out.fr, io0, Rat.lt_iff]
theorem r_is_number_q {x : Rat} {k : Nat} (hk : k < 8000) (hx : Sz k x) : f_is_number.run [ofQ x] = .ok (.bl true) .non := by
  show (exB (tbl t_is_number) fuelN m_is_number (sl0 false 1 [ofQ x])).fr false false = _
  have w1 : ∀ (z : Int) ρ, callF (tbl t_is_number) "is_int" [.int z] ρ = .ok (false, .bl true) ρ := fun z ρ => callF_ok rfl rfl rfl (r_is_int (d := .int z) rfl)
  unfold ofQ
  by_cases h : x.den = 1
  · rw [if_pos h]
    simp [m_is_number, sl0, exB, exS, evE, evL, isiD, truD, w1, Out.fr, io0]
  · rw [if_neg h]
    have h2 : (2 : Int) ≤ (x.den : Nat) := by have := x.den_nz; omega
    have g : ∀ ρ, callF (tbl t_is_number) "common_divisor" [.int (x.num.natAbs : Nat), .int (x.den : Nat)] ρ = .ok (false, .int 1) ρ := fun ρ => by
      have := c_gcd (Φ := tbl t_is_number) rfl hk (a := x.num.natAbs) (b := x.den) hx.2 (ρ := ρ)
      rw [show Nat.gcd x.num.natAbs x.den = 1 from x.reduced] at this
      exact this
    simp [m_is_number, sl0, exB, exS, evE, evL, isiD, truD, biD, cmpD, ixD, w1, h2, g, Out.fr, io0]
theorem k_is_number {Φ : String → Option Fn} {x : Rat} {k : Nat} (hk : k < 8000) (hx : Sz k x) (ρ : Vn) (h : Φ "is_number" = some f_is_number) : callF Φ "is_number" [ofQ x] ρ = .ok (false, .bl true) ρ := callF_ok h rfl rfl (r_is_number_q hk hx)
theorem r_require {x : Rat} {k : Nat} (hk : k < 8000) (hx : Sz k x) : f_require_number.run [ofQ x, .non] = .ok .non .non := by
  show (exB (tbl t_require_number) fuelN m_require_number (sl0 false 2 [ofQ x, .non])).fr false false = _
  have w := fun ρ => k_is_number (Φ := tbl t_require_number) hk hx ρ rfl
  simp [m_require_number, sl0, exB, exS, evE, evL, w, truD, cmpD, isNonD, Out.fr, io0]
theorem k_require {Φ : String → Option Fn} {x : Rat} {k : Nat} (hk : k < 8000) (hx : Sz k x) (ρ : Vn) (h : Φ "require_number" = some f_require_number) : callF Φ "require_number" [ofQ x] ρ = .ok (false, .non) ρ := callF_dfl h rfl (show 1 ≤ 2 by decide) (show 2 ≤ 1 + 1 by decide) (r_require hk hx)
theorem k_number_of {Φ : String → Option Fn} {a b : Int} {k : Nat} (hk : k < 8000) (h : b ≠ 0) (hb : b.natAbs < 2 ^ k) (ρ : Vn) (e : Φ "number_of" = some f_number_of) : callF Φ "number_of" [.int a, .int b] ρ = .ok (false, ofQ (Rat.divInt a b)) ρ := callF_ok e rfl rfl (r_number_q hk h hb)
theorem den_mul (x y : Rat) : ((x.den : Nat) : Int) * ((y.den : Nat) : Int) ≠ 0 := by
  have h1 := x.den_nz
  have h2 := y.den_nz
  simp [h1, h2]
theorem r_minus {x y : Rat} {k : Nat} (hk : k < 3000) (hx : Sz k x) (hy : Sz k y) : f_minus.run [ofQ x, ofQ y] = .ok (ofQ (x - y)) .non := by
  show (exB (tbl t_minus) fuelN m_minus (sl0 false 4 [ofQ x, ofQ y])).fr false false = _
  have q1 := fun ρ => k_require (Φ := tbl t_minus) (by omega) hx ρ rfl
  have q2 := fun ρ => k_require (Φ := tbl t_minus) (by omega) hy ρ rfl
  have p1 := fun ρ => k_pair (Φ := tbl t_minus) x ρ rfl
  have p2 := fun ρ => k_pair (Φ := tbl t_minus) y ρ rfl
  have m1 := mulOk_lt hx.1 hy.den (by omega)
  have m2 := mulOk_lt hy.1 hx.den (by omega)
  have m3 := mulOk_lt hx.den hy.den (by omega)
  have n := fun ρ => k_number_of (Φ := tbl t_minus) (k := k + k) (a := x.num * y.den - y.num * x.den) (by omega) (den_mul x y) (mul_lt hx.den hy.den) ρ rfl
  rw [sub_q] at n
  simp [m_minus, sl0, exB, exS, evE, evL, q1, q2, p1, p2, setS, Sl.free, prQ, ixD, binD, m1, m2, m3, n, Out.fr, io0]
theorem r_times {x y : Rat} {k : Nat} (hk : k < 3000) (hx : Sz k x) (hy : Sz k y) : f_times.run [ofQ x, ofQ y] = .ok (ofQ (x * y)) .non := by
  show (exB (tbl t_times) fuelN m_times (sl0 false 4 [ofQ x, ofQ y])).fr false false = _
  have q1 := fun ρ => k_require (Φ := tbl t_times) (by omega) hx ρ rfl
  have q2 := fun ρ => k_require (Φ := tbl t_times) (by omega) hy ρ rfl
  have p1 := fun ρ => k_pair (Φ := tbl t_times) x ρ rfl
  have p2 := fun ρ => k_pair (Φ := tbl t_times) y ρ rfl
  have m1 := mulOk_lt hx.1 hy.1 (by omega)
  have m3 := mulOk_lt hx.den hy.den (by omega)
  have n := fun ρ => k_number_of (Φ := tbl t_times) (k := k + k) (a := x.num * y.num) (by omega) (den_mul x y) (mul_lt hx.den hy.den) ρ rfl
  rw [mul_q] at n
  simp [m_times, sl0, exB, exS, evE, evL, q1, q2, p1, p2, setS, Sl.free, prQ, ixD, binD, m1, m3, n, Out.fr, io0]
theorem r_is_less {x y : Rat} {k : Nat} (hk : k < 3000) (hx : Sz k x) (hy : Sz k y) : f_is_less.run [ofQ x, ofQ y] = .ok (.bl (decide (x < y))) .non := by
  show (exB (tbl t_is_less) fuelN m_is_less (sl0 false 2 [ofQ x, ofQ y])).fr false false = _
  have q1 := fun ρ => k_require (Φ := tbl t_is_less) (by omega) hx ρ rfl
  have q2 := fun ρ => k_require (Φ := tbl t_is_less) (by omega) hy ρ rfl
  have l : ∀ ρ, callF (tbl t_is_less) "less" [ofQ x, ofQ y] ρ = .ok (false, .bl (decide (x < y))) ρ := fun ρ => callF_ok rfl rfl rfl (r_less (by omega) hx hy)
  simp [m_is_less, sl0, exB, exS, evE, evL, q1, q2, l, Out.fr, io0]
theorem eq_zero {y : Rat} (h : y ≠ 0) : eqD (ofQ y) (.int 0) = some false := by
  unfold ofQ
  by_cases hd : y.den = 1
  · rw [if_pos hd, eqD_int]
    have : y.num ≠ 0 := fun z => h (Rat.num_eq_zero.mp z)
    simp [this]
  · rw [if_neg hd]
    have e : ∀ a b : Int, eqD (.tup [.int a, .int b]) (.int 0) = some false := fun a b => by
      unfold eqD
      simp [D.py, pyAll, SeqAt.shaped, PyData.canLay0, PyData.canLayAll0, PyData.depth, PyData.depthAll, PyData.eqv]
    exact e _ _
theorem r_over {x y : Rat} {k : Nat} (hk : k < 3000) (hx : Sz k x) (hy : Sz k y) (h0 : y ≠ 0) : f_over.run [ofQ x, ofQ y] = .ok (ofQ (x / y)) .non := by
  show (exB (tbl t_over) fuelN m_over (sl0 false 4 [ofQ x, ofQ y])).fr false false = _
  have q1 := fun ρ => k_require (Φ := tbl t_over) (by omega) hx ρ rfl
  have q2 := fun ρ => k_require (Φ := tbl t_over) (by omega) hy ρ rfl
  have p1 := fun ρ => k_pair (Φ := tbl t_over) x ρ rfl
  have p2 := fun ρ => k_pair (Φ := tbl t_over) y ρ rfl
  have m1 := mulOk_lt hx.1 hy.den (by omega)
  have m3 := mulOk_lt hx.den hy.1 (by omega)
  have hn : y.num ≠ 0 := fun z => h0 (Rat.num_eq_zero.mp z)
  have n := fun ρ => k_number_of (Φ := tbl t_over) (k := k + k) (a := x.num * y.den) (b := x.den * y.num) (by omega) (by have := x.den_nz; simp [*]) (mul_lt hx.den hy.1) ρ rfl
  rw [div_q] at n
  have ez := eq_zero h0
  simp [m_over, sl0, exB, exS, evE, evL, q1, q2, p1, p2, setS, Sl.free, prQ, ixD, binD, m1, m3, n, cmpD, ez, truD, Out.fr, io0]
end S

namespace S
open PySem PySem.Spec L2 Z
theorem fr1 {d : D} : Sl.free (.val d) = true := rfl
theorem fr2 {d : D} : Sl.free (.own d) = true := rfl
theorem fr3 : Sl.free .non = true := rfl
theorem add_div (a b : Int) (x : Rat) (h : b ≠ 0) : Rat.divInt (a * x.den + x.num * b) (b * x.den) = Rat.divInt a b + x := by
  have := Rat.divInt_add_divInt a x.num (d₁ := b) (d₂ := x.den) h (by have := x.den_nz; omega)
  rw [Rat.num_divInt_den] at this
  exact this.symm
theorem add_same (a : Int) (x : Rat) : Rat.divInt (a + x.num) x.den = Rat.divInt a x.den + x := by
  have hd : ((x.den : Nat) : Int) ≠ 0 := by have := x.den_nz; omega
  rw [← add_div a x.den x hd, ← Int.add_mul, Int.mul_comm (a + x.num), Rat.divInt_mul_left hd]
def sumQ (xs : List Rat) : Rat := xs.foldl (fun s x => s + x) 0
theorem r_total {xs : List Rat} {k : Nat} (hk : k * (xs.length + 1) + xs.length < 7000) (hx : ∀ x ∈ xs, Sz k x) : f_total.run [.lst (xs.map ofQ)] = .ok (ofQ (sumQ xs)) .non := by
  show (exB (tbl t_total) fuelN m_total (sl0 false 5 [.lst (xs.map ofQ)])).fr false false = _
  obtain ⟨ρ', e, c1, c4, a, b, rfl, _, _, hb, hs, ba, bb⟩ := forGo_nx (tg := .nm 1) (body := exB (tbl t_total) fuelN b1_total) (xs := xs.map ofQ) (i := 0) (ρ := [.val (.lst (xs.map ofQ)), .non, .val (.int 0), .val (.int 1), .non])
    (I := fun i ρ => ∃ c1 c4 a b, ρ = [.val (.lst (xs.map ofQ)), c1, .val (.int a), .val (.int b), c4] ∧ c1.free = true ∧ c4.free = true ∧ b ≠ 0 ∧ Rat.divInt a b = sumQ (xs.take i) ∧ a.natAbs < 2 ^ ((k + 1) * i + 1) ∧ b.natAbs < 2 ^ ((k + 1) * i + 1))
    ⟨.non, .non, 0, 1, rfl, rfl, rfl, by omega, by simp [sumQ], by simp, by simp⟩ (by
      rintro j d ρ hd ⟨c1, c4, a, b, rfl, f1, f4, hb, hs, ba, bb⟩
      rw [List.getElem?_map] at hd
      cases hj : xs[j]? with
      | none => rw [hj] at hd; cases hd
      | some x =>
        rw [hj] at hd; cases hd
        have hl : j < xs.length := (List.getElem?_eq_some_iff.mp hj).1
        have sx := hx x (List.mem_of_getElem? hj)
        simp only [Nat.zero_add] at hs ba bb ⊢
        have st : sumQ (xs.take (j + 1)) = sumQ (xs.take j) + x := by
          rw [List.take_succ, hj]
          simp [sumQ, List.foldl_append]
        have hlim : (k + 1) * j + 1 + k < 50000000 := by
          have : (k + 1) * j ≤ (k + 1) * xs.length := Nat.mul_le_mul_left _ (by omega)
          have e2 : (k + 1) * xs.length = k * xs.length + xs.length := by rw [Nat.add_mul, Nat.one_mul]
          have e3 : k * (xs.length + 1) = k * xs.length + k := by rw [Nat.mul_add, Nat.mul_one]
          omega
        have ex : (k + 1) * (j + 1) + 1 = ((k + 1) * j + 1 + k) + 1 := by rw [Nat.mul_add]; omega
        have m1 := mulOk_lt ba sx.den (by omega)
        have m2 := mulOk_lt sx.1 bb (by omega)
        have m3 := mulOk_lt bb sx.den (by omega)
        have p1 := fun ρ => k_pair (Φ := tbl t_total) x ρ rfl
        refine ⟨[.val (.lst (xs.map ofQ)), .val (ofQ x), .val (.int a), .val (.int b), c4], ?_⟩
        by_cases hbd : ((x.den : Nat) : Int) = b
        · refine ⟨[.val (.lst (xs.map ofQ)), .val (ofQ x), .val (.int (a + x.num)), .val (.int b), .val (prQ x)], by simp [asgT, setS, f1], ?_, _, _, _, _, rfl, rfl, rfl, hb, ?_, ?_, ?_⟩
          · simp [b1_total, exB, exS, evE, evL, p1, setS, f4, fr1, prQ, ixD, cmpD, hbd, truD, binD]
          · rw [st, ← hs, ← hbd, add_same]
          · rw [ex]
            exact add_lt (Nat.lt_of_lt_of_le ba (Nat.pow_le_pow_right (by omega) (by omega))) (Nat.lt_of_lt_of_le sx.1 (Nat.pow_le_pow_right (by omega) (by omega)))
          · exact Nat.lt_of_lt_of_le bb (Nat.pow_le_pow_right (by omega) (by rw [ex]; omega))
        · refine ⟨[.val (.lst (xs.map ofQ)), .val (ofQ x), .val (.int (a * x.den + x.num * b)), .val (.int (b * x.den)), .val (prQ x)], by simp [asgT, setS, f1], ?_, _, _, _, _, rfl, rfl, rfl, ?_, ?_, ?_, ?_⟩
          · simp [b1_total, exB, exS, evE, evL, p1, setS, f4, fr1, prQ, ixD, cmpD, hbd, truD, binD, m1, m2, m3]
          · have := x.den_nz; simp [*]
          · rw [st, ← hs, add_div _ _ _ hb]
          · rw [ex]
            refine add_lt (mul_lt ba sx.den) ?_
            rw [Nat.add_comm]
            exact mul_lt sx.1 bb
          · exact Nat.lt_of_lt_of_le (mul_lt bb sx.den) (Nat.pow_le_pow_right (by omega) (by rw [ex]; omega)))
  have hl : (0 : Nat) + (xs.map ofQ).length = xs.length := by simp
  rw [hl] at hs ba bb
  rw [List.take_length] at hs
  have hlim : (k + 1) * xs.length + 1 < 8000 := by
    have e2 : (k + 1) * xs.length = k * xs.length + xs.length := by rw [Nat.add_mul, Nat.one_mul]
    have e3 : k * (xs.length + 1) = k * xs.length + k := by rw [Nat.mul_add, Nat.mul_one]
    omega
  have n := fun ρ => k_number_of (Φ := tbl t_total) hlim hb bb (a := a) ρ rfl
  rw [hs] at n
  have fr : Z.fresh [.val (.lst (xs.map ofQ)), .non, .val (.int 0), .val (.int 1), .non] [(.rd 0)] [.lst (xs.map ofQ)] = [.lst (xs.map ofQ)] := rfl
  simp [m_total, sl0, exB, exS, evE, evL, asgT, sets, setS, fr1, fr3, fr, itD, rdIdx, lockV, e, Out.back, unlockV, n, Out.fr, io0]
theorem r_plus {x y : Rat} {k : Nat} (hk : k < 2000) (hx : Sz k x) (hy : Sz k y) : f_plus.run [ofQ x, ofQ y] = .ok (ofQ (x + y)) .non := by
  show (exB (tbl t_plus) fuelN m_plus (sl0 false 2 [ofQ x, ofQ y])).fr false false = _
  have q1 := fun ρ => k_require (Φ := tbl t_plus) (by omega) hx ρ rfl
  have q2 := fun ρ => k_require (Φ := tbl t_plus) (by omega) hy ρ rfl
  have t : ∀ ρ, callF (tbl t_plus) "total" [.lst [ofQ x, ofQ y]] ρ = .ok (false, ofQ (x + y)) ρ := fun ρ => by
    have := r_total (xs := [x, y]) (k := k) (by simp; omega) (fun z hz => by
      simp only [List.mem_cons, List.not_mem_nil, or_false] at hz
      rcases hz with rfl | rfl <;> assumption)
    rw [show sumQ [x, y] = x + y by simp [sumQ, Rat.zero_add]] at this
    exact callF_ok rfl rfl rfl this
  simp [m_plus, sl0, exB, exS, evE, evL, q1, q2, t, Out.fr, io0]
end S

namespace S
open PySem PySem.Spec L2 Z
theorem k_cut {Φ : String → Option Fn} {a b : Int} {k : Nat} (hk : k < 8000) (h : b ≠ 0) (hb : b.natAbs < 2 ^ k) (ρ : Vn) (e : Φ "_law_cut" = some f_l_cut) : callF Φ "_law_cut" [.int a, .int b] ρ = .ok (false, prQ (Rat.divInt a b)) ρ := callF_ok e rfl rfl (r_cut_q hk h hb)
theorem add_comm_q (x y : Rat) : Rat.divInt (x.num * y.den + y.num * x.den) (x.den * y.den) = x + y := add_q x y
theorem r_sum {xs : List Rat} {k : Nat} (hk : (k + 1) * (xs.length + 1) < 3000) (hx : ∀ x ∈ xs, Sz k x) : f_l_sum.run [.lst (xs.map prQ)] = .ok (prQ (sumQ xs)) .non := by
  show (exB (tbl t_l_sum) fuelN m_l_sum (sl0 false 4 [.lst (xs.map prQ)])).fr false false = _
  obtain ⟨ρ', e, c2, c3, s, rfl, _, _, hs, _⟩ := forGo_nx (tg := .tp [2, 3]) (body := exB (tbl t_l_sum) fuelN b1_l_sum) (xs := xs.map prQ) (i := 0) (ρ := [.val (.lst (xs.map prQ)), .val (.tup [.int 0, .int 1]), .non, .non])
    (I := fun i ρ => ∃ c2 c3 s, ρ = [.val (.lst (xs.map prQ)), .val (prQ s), c2, c3] ∧ c2.free = true ∧ c3.free = true ∧ s = sumQ (xs.take i) ∧ Sz ((k + 1) * i + 1) s)
    ⟨.non, .non, 0, rfl, rfl, rfl, by simp [sumQ], by simp [Sz]⟩ (by
      rintro j d ρ hd ⟨c2, c3, s, rfl, f2, f3, hs, sz⟩
      rw [List.getElem?_map] at hd
      cases hj : xs[j]? with
      | none => rw [hj] at hd; cases hd
      | some x =>
        rw [hj] at hd; cases hd
        have hl : j < xs.length := (List.getElem?_eq_some_iff.mp hj).1
        have sx := hx x (List.mem_of_getElem? hj)
        simp only [Nat.zero_add] at hs sz ⊢
        have st : sumQ (xs.take (j + 1)) = sumQ (xs.take j) + x := by
          rw [List.take_succ, hj]
          simp [sumQ, List.foldl_append]
        have hlim : (k + 1) * j + 1 + k < 7000 := by
          have : (k + 1) * j ≤ (k + 1) * (xs.length + 1) := Nat.mul_le_mul_left _ (by omega)
          have e3 : (k + 1) * 1 ≤ (k + 1) * (xs.length + 1) := Nat.mul_le_mul_left _ (by omega)
          omega
        have ex : (k + 1) * (j + 1) + 1 = ((k + 1) * j + 1 + k) + 1 := by rw [Nat.mul_add]; omega
        have m1 := mulOk_lt sz.1 sx.den (by omega)
        have m2 := mulOk_lt sx.1 sz.den (by omega)
        have m3 := mulOk_lt sz.den sx.den (by omega)
        have n := fun ρ => k_cut (Φ := tbl t_l_sum) (k := (k + 1) * j + 1 + k) (a := s.num * x.den + x.num * s.den) (by omega) (den_mul s x) (mul_lt sz.den sx.den) ρ rfl
        rw [add_q] at n
        refine ⟨[.val (.lst (xs.map prQ)), .val (prQ s), .val (.int x.num), .val (.int x.den)], [.val (.lst (xs.map prQ)), .val (prQ (s + x)), .val (.int x.num), .val (.int x.den)], by simp [asgT, prQ, sets, setS, f2, f3], ?_, _, _, _, rfl, rfl, rfl, by rw [st, hs], ?_⟩
        · rw [show prQ s = .tup [.int s.num, .int (s.den : Nat)] from rfl]
          simp [b1_l_sum, exB, exS, evE, evL, ixD, binD, m1, m2, m3, n, setS, fr1]
        · rw [ex, ← add_q]
          refine sz_div (den_mul s x) (add_lt (mul_lt sz.1 sx.den) ?_) (Nat.lt_of_lt_of_le (mul_lt sz.den sx.den) (Nat.pow_le_pow_right (by omega) (by omega)))
          rw [Nat.add_comm]
          exact mul_lt sx.1 sz.den)
  have hl : (0 : Nat) + (xs.map prQ).length = xs.length := by simp
  rw [hl, List.take_length] at hs
  subst hs
  have fr : Z.fresh [.val (.lst (xs.map prQ)), .val (.tup [.int 0, .int 1]), .non, .non] [(.rd 0)] [.lst (xs.map prQ)] = [.lst (xs.map prQ)] := rfl
  simp [m_l_sum, sl0, exB, exS, evE, evL, setS, fr1, fr3, fr, itD, rdIdx, lockV, e, Out.back, unlockV, Out.fr, io0]
theorem k_sum2 {Φ : String → Option Fn} {x y : Rat} {k : Nat} (hk : k < 900) (hx : Sz k x) (hy : Sz k y) (ρ : Vn) (e : Φ "_law_sum" = some f_l_sum) : callF Φ "_law_sum" [.lst [prQ x, prQ y]] ρ = .ok (false, prQ (x + y)) ρ := by
  have := r_sum (xs := [x, y]) (k := k) (by simp; omega) (fun z hz => by
    simp only [List.mem_cons, List.not_mem_nil, or_false] at hz
    rcases hz with rfl | rfl <;> assumption)
  rw [show sumQ [x, y] = x + y by simp [sumQ, Rat.zero_add]] at this
  exact callF_ok e rfl rfl this
theorem prQ_neg (y : Rat) : prQ (-y) = .tup [.int (0 - y.num), .int (y.den : Nat)] := by
  unfold prQ
  rw [show (-y).num = -y.num from rfl, show (-y).den = y.den from rfl, Int.zero_sub]
theorem sz_neg {k : Nat} {y : Rat} (h : Sz k y) : Sz k (-y) := by
  unfold Sz at *
  rw [show (-y).num = -y.num from rfl, show (-y).den = y.den from rfl, Int.natAbs_neg]
  exact h
theorem r_diff {x y : Rat} {k : Nat} (hk : k < 900) (hx : Sz k x) (hy : Sz k y) : f_l_diff.run [prQ x, prQ y] = .ok (prQ (x - y)) .non := by
  show (exB (tbl t_l_diff) fuelN m_l_diff (sl0 false 2 [prQ x, prQ y])).fr false false = _
  have n := fun ρ => k_sum2 (Φ := tbl t_l_diff) hk hx (sz_neg hy) ρ rfl
  rw [prQ_neg, ← Rat.sub_eq_add_neg] at n
  rw [show prQ y = .tup [.int y.num, .int (y.den : Nat)] from rfl]
  simp only [Int.zero_sub] at n
  simp [m_l_diff, sl0, exB, exS, evE, evL, ixD, binD, n, Out.fr, io0]
theorem r_prod {x y : Rat} {k : Nat} (hk : k < 3000) (hx : Sz k x) (hy : Sz k y) : f_l_prod.run [prQ x, prQ y] = .ok (prQ (x * y)) .non := by
  show (exB (tbl t_l_prod) fuelN m_l_prod (sl0 false 2 [prQ x, prQ y])).fr false false = _
  have n := fun ρ => k_cut (Φ := tbl t_l_prod) (k := k + k) (a := x.num * y.num) (by omega) (den_mul x y) (mul_lt hx.den hy.den) ρ rfl
  rw [mul_q] at n
  have m1 := mulOk_lt hx.1 hy.1 (by omega)
  have m2 := mulOk_lt hx.den hy.den (by omega)
  rw [show prQ y = .tup [.int y.num, .int (y.den : Nat)] from rfl, show prQ x = .tup [.int x.num, .int (x.den : Nat)] from rfl]
  simp [m_l_prod, sl0, exB, exS, evE, evL, ixD, binD, m1, m2, n, Out.fr, io0]
theorem r_part {x y : Rat} {k : Nat} (hk : k < 3000) (hx : Sz k x) (hy : Sz k y) (h0 : y ≠ 0) : f_l_part.run [prQ x, prQ y] = .ok (prQ (x / y)) .non := by
  show (exB (tbl t_l_part) fuelN m_l_part (sl0 false 2 [prQ x, prQ y])).fr false false = _
  have hn : y.num ≠ 0 := fun z => h0 (Rat.num_eq_zero.mp z)
  have n := fun ρ => k_cut (Φ := tbl t_l_part) (k := k + k) (a := x.num * y.den) (b := x.den * y.num) (by omega) (by have := x.den_nz; simp [*]) (mul_lt hx.den hy.1) ρ rfl
  rw [div_q] at n
  have m1 := mulOk_lt hx.1 hy.den (by omega)
  have m2 := mulOk_lt hx.den hy.1 (by omega)
  rw [show prQ y = .tup [.int y.num, .int (y.den : Nat)] from rfl, show prQ x = .tup [.int x.num, .int (x.den : Nat)] from rfl]
  simp [m_l_part, sl0, exB, exS, evE, evL, ixD, binD, m1, m2, n, Out.fr, io0]
theorem r_below {x y : Rat} {k : Nat} (hk : k < 3000) (hx : Sz k x) (hy : Sz k y) : f_l_below.run [prQ x, prQ y] = .ok (.bl (decide (x < y))) .non := by
  show (exB (tbl t_l_below) fuelN m_l_below (sl0 false 2 [prQ x, prQ y])).fr false false = _
  have m1 := mulOk_lt hx.1 hy.den (by omega)
  have m2 := mulOk_lt hy.1 hx.den (by omega)
  rw [show prQ y = .tup [.int y.num, .int (y.den : Nat)] from rfl, show prQ x = .tup [.int x.num, .int (x.den : Nat)] from rfl]
  simp [m_l_below, sl0, exB, exS, evE, evL, ixD, binD, m1, m2, cmpD, Out.fr, io0, Rat.lt_iff]
end S

namespace S
open PySem PySem.Spec L2 Z
theorem ofQ_int (a : Int) : ofQ (a : Rat) = .int a := by
  unfold ofQ
  rw [if_pos (Rat.den_intCast a), Rat.num_intCast]
theorem sz_int {k : Nat} {a : Int} (h : a.natAbs < 2 ^ (k + 1)) : Sz (k + 1) (a : Rat) := by
  refine ⟨by rw [Rat.num_intCast]; exact h, ?_⟩
  rw [Rat.den_intCast]
  exact Nat.one_lt_two_pow (by omega)
theorem num_pos {a b : Int} (hb : 0 < b) : (0 ≤ a → 0 ≤ (Rat.divInt a b).num) ∧ (0 < a → 0 < (Rat.divInt a b).num) := by
  obtain ⟨_, _, e, _⟩ := num_q (a := a) (b := b) (by omega)
  have hs : 0 < sg a b := by
    have : 0 < Nat.gcd a.natAbs b.natAbs := Nat.gcd_pos_of_pos_right _ (by omega)
    unfold sg
    rw [if_neg (by omega)]
    omega
  constructor
  · intro h
    refine Classical.byContradiction fun hn => ?_
    have := Int.mul_neg_of_pos_of_neg hs (show (Rat.divInt a b).num < 0 by omega)
    omega
  · intro h
    refine Classical.byContradiction fun hn => ?_
    have := Int.mul_nonpos_of_nonneg_of_nonpos (show 0 ≤ sg a b by omega) (show (Rat.divInt a b).num ≤ 0 by omega)
    omega
theorem k_shown {Φ : String → Option Fn} (x : Rat) (ρ : Vn) (h : Φ "_law_shown" = some f_l_shown) : callF Φ "_law_shown" [prQ x] ρ = .ok (false, ofQ x) ρ := callF_ok h rfl rfl (r_shown_q x)
theorem r_amount {k : Nat} {p : D} {low : Int} (h : Pu k p) (hk : k + 3 < 1000000) (hl : low = 0 ∨ low = 1) : ∃ (x : Rat) (p' : D), f_l_amount.run [p, .int low] = .ok (ofQ x) p' ∧ Sz 140 x ∧ 0 ≤ x.num ∧ (low = 1 → 0 < x.num) ∧ Pu (k + 3) p' := by
  have e9 : powOk 10 9 = true := by decide
  have e12 : powOk 10 12 = true := by decide
  have e28 : powOk 10 28 = true := by decide
  have e29 : powOk 10 29 = true := by decide
  obtain ⟨w, p1, c1, l1, u1, h1⟩ := c_toss_io (Φ := tbl t_l_amount) (ρ := [.io p, .val (.int low), .non]) (i := 0) (m := 9) rfl rfl h (by omega) (by omega) (by omega)
  simp only [List.set_cons_zero] at c1
  have c := fun (m : Int) (h0 : 0 < m) (hm : m < 2 ^ 200) => c_toss_io (Φ := tbl t_l_amount) (ρ := [.io p1, .val (.int low), .val (.int w)]) (i := 0) (m := m) rfl rfl h1 (by omega) h0 hm
  have int : ∀ (a : Int) (p' : D), f_l_amount.run [p, .int low] = .ok (.int a) p' → 0 ≤ a → (low = 1 → 0 < a) → a.natAbs < 2 ^ 140 → Pu (k + 2) p' → ∃ (x : Rat) (p' : D), f_l_amount.run [p, .int low] = .ok (ofQ x) p' ∧ Sz 140 x ∧ 0 ≤ x.num ∧ (low = 1 → 0 < x.num) ∧ Pu (k + 3) p' := fun a p' e h0 hp ha hP =>
    ⟨a, p', by rw [ofQ_int]; exact e, sz_int (k := 139) ha, by rw [Rat.num_intCast]; exact h0, by rw [Rat.num_intCast]; exact hp, hP.mono (by omega)⟩
  by_cases w0 : w < 3
  · obtain ⟨r, p2, c2, l2, u2, h2⟩ := c 12 (by omega) (by omega)
    simp only [List.set_cons_zero] at c2
    refine int (low + r) p2 ?_ (by omega) (by omega) (by omega) h2
    show (exB (tbl t_l_amount) fuelN m_l_amount (sl0 true 3 [p, .int low])).fr true false = _
    simp [m_l_amount, sl0, exB, exS, evE, evL, wrAt, Sl.isWr, c1, c2, setS, fr1, fr3, cmpD, w0, truD, binD, Out.fr, io0]
  have frac : ∀ (a b : Int) (p' : D), f_l_amount.run [p, .int low] = .ok (ofQ (Rat.divInt a b)) p' → 0 < b → 0 ≤ a → (low = 1 → 0 < a) → a.natAbs < 2 ^ 140 → b.natAbs < 2 ^ 140 → Pu (k + 3) p' → ∃ (x : Rat) (p' : D), f_l_amount.run [p, .int low] = .ok (ofQ x) p' ∧ Sz 140 x ∧ 0 ≤ x.num ∧ (low = 1 → 0 < x.num) ∧ Pu (k + 3) p' := fun a b p' e hb h0 hp ha hbb hP =>
    ⟨_, p', e, sz_div (by omega) ha hbb, (num_pos hb).1 h0, fun z => (num_pos hb).2 (hp z), hP⟩
  have kc := fun (a b : Int) (h : b ≠ 0) (hb : b.natAbs < 2 ^ 140) => fun ρ => k_cut (Φ := tbl t_l_amount) (a := a) (b := b) (k := 140) (by omega) h hb ρ rfl
  have ks := fun (x : Rat) => fun ρ => k_shown (Φ := tbl t_l_amount) x ρ rfl
  by_cases w3 : w = 3
  · subst w3
    obtain ⟨r, p2, c2, l2, u2, h2⟩ := c 9 (by omega) (by omega)
    simp only [List.set_cons_zero] at c2
    have m : mulOk 2 r = true := mulOk_of (a := 5) (b := 5) (by omega) (by omega) (by omega)
    refine frac (2 * r + 1) 2 p2 ?_ (by omega) (by omega) (by omega) (by omega) (by omega) (h2.mono (by omega))
    show (exB (tbl t_l_amount) fuelN m_l_amount (sl0 true 3 [p, .int low])).fr true false = _
    simp [m_l_amount, sl0, exB, exS, evE, evL, wrAt, Sl.isWr, c1, c2, setS, fr1, fr3, cmpD, truD, binD, m, kc (2 * r + 1) 2 (by omega) (by omega), ks, Out.fr, io0]
  by_cases w4 : w = 4
  · subst w4
    obtain ⟨r, p2, c2, l2, u2, h2⟩ := c 40 (by omega) (by omega)
    obtain ⟨s, p3, c3, l3, u3, h3⟩ := c_toss_io (Φ := tbl t_l_amount) (ρ := [.io p2, .val (.int low), .val (.int 4)]) (i := 0) (m := 11) rfl rfl h2 (by omega) (by omega) (by omega)
    simp only [List.set_cons_zero] at c2 c3
    refine frac (low + r) (2 + s) p3 ?_ (by omega) (by omega) (by omega) (by omega) (by omega) h3
    show (exB (tbl t_l_amount) fuelN m_l_amount (sl0 true 3 [p, .int low])).fr true false = _
    simp [m_l_amount, sl0, exB, exS, evE, evL, wrAt, Sl.isWr, c1, c2, c3, setS, fr1, fr3, cmpD, truD, binD, kc (low + r) (2 + s) (by omega) (by omega), ks, Out.fr, io0]
  by_cases w5 : w = 5
  · subst w5
    obtain ⟨r, p2, c2, l2, u2, h2⟩ := c 1000000000000 (by omega) (by omega)
    simp only [List.set_cons_zero] at c2
    refine int (low + 1000000000 + r) p2 ?_ (by omega) (by omega) (by omega) h2
    show (exB (tbl t_l_amount) fuelN m_l_amount (sl0 true 3 [p, .int low])).fr true false = _
    simp [m_l_amount, sl0, exB, exS, evE, evL, wrAt, Sl.isWr, c1, c2, setS, fr1, fr3, cmpD, truD, binD, e9, e12, Out.fr, io0]
  by_cases w6 : w = 6
  · subst w6
    obtain ⟨r, p2, c2, l2, u2, h2⟩ := c 100000000000000000000000000000 (by omega) (by omega)
    obtain ⟨s, p3, c3, l3, u3, h3⟩ := c_toss_io (Φ := tbl t_l_amount) (ρ := [.io p2, .val (.int low), .val (.int 6)]) (i := 0) (m := 10000000000000000000000000000) rfl rfl h2 (by omega) (by omega) (by omega)
    simp only [List.set_cons_zero] at c2 c3
    refine frac (low + r) (1 + s) p3 ?_ (by omega) (by omega) (by omega) (by omega) (by omega) h3
    show (exB (tbl t_l_amount) fuelN m_l_amount (sl0 true 3 [p, .int low])).fr true false = _
    simp [m_l_amount, sl0, exB, exS, evE, evL, wrAt, Sl.isWr, c1, c2, c3, setS, fr1, fr3, cmpD, truD, binD, e28, e29, kc (low + r) (1 + s) (by omega) (by omega), ks, Out.fr, io0]
  · obtain ⟨r, p2, c2, l2, u2, h2⟩ := c 60 (by omega) (by omega)
    simp only [List.set_cons_zero] at c2
    refine int (low + r) p2 ?_ (by omega) (by omega) (by omega) h2
    show (exB (tbl t_l_amount) fuelN m_l_amount (sl0 true 3 [p, .int low])).fr true false = _
    simp [m_l_amount, sl0, exB, exS, evE, evL, wrAt, Sl.isWr, c1, c2, setS, fr1, fr3, cmpD, w0, w3, w4, w5, w6, truD, binD, Out.fr, io0]
theorem k_amount {Φ : String → Option Fn} {k : Nat} {p : D} {ρ : Vn} {i : Nat} {low : Int} (hf : Φ "_law_amount" = some f_l_amount) (hi : ρ[i]? = some (.io p)) (h : Pu k p) (hk : k + 3 < 1000000) (hl : low = 0 ∨ low = 1) : ∃ (x : Rat) (p' : D), callIo Φ "_law_amount" i [.int low] ρ = .ok (false, ofQ x) (ρ.set i (.io p')) ∧ Sz 140 x ∧ 0 ≤ x.num ∧ (low = 1 → 0 < x.num) ∧ Pu (k + 3) p' := by
  obtain ⟨x, p', e, a⟩ := r_amount h hk hl
  exact ⟨x, p', callIo_io hf rfl rfl hi e, a⟩
theorem r_wide {k : Nat} {p : D} (h : Pu k p) (hk : k + 2 < 1000000) : ∃ (x : Rat) (p' : D), f_l_wide.run [p] = .ok (ofQ x) p' ∧ Sz 140 x ∧ Pu (k + 2) p' := by
  have e40 : powOk 10 40 = true := by decide
  obtain ⟨r, p1, c1, l1, u1, h1⟩ := c_toss_io (Φ := tbl t_l_wide) (ρ := [.io p]) (i := 0) (m := 10000000000000000000000000000000000000000) rfl rfl h (by omega) (by omega) (by omega)
  obtain ⟨s, p2, c2, l2, u2, h2⟩ := c_toss_io (Φ := tbl t_l_wide) (ρ := [.io p1]) (i := 0) (m := 9999999999999999999999999999999999999999) rfl rfl h1 (by omega) (by omega) (by omega)
  simp only [List.set_cons_zero] at c1 c2
  have kc := fun ρ => k_cut (Φ := tbl t_l_wide) (a := r) (b := 1 + s) (k := 140) (by omega) (by omega) (by omega) ρ rfl
  have ks := fun (x : Rat) => fun ρ => k_shown (Φ := tbl t_l_wide) x ρ rfl
  refine ⟨Rat.divInt r (1 + s), p2, ?_, sz_div (by omega) (by omega) (by omega), h2⟩
  show (exB (tbl t_l_wide) fuelN m_l_wide (sl0 true 1 [p])).fr true false = _
  simp [m_l_wide, sl0, exB, exS, evE, evL, wrAt, Sl.isWr, c1, c2, binD, e40, kc, ks, Out.fr, io0]
end S

namespace S
open PySem PySem.Spec L2 Z
theorem exB_app {Φ : String → Option Fn} {n : Nat} {l2 : List MS} : ∀ {l1 : List MS} {ρ : Vn}, exB Φ n (l1 ++ l2) ρ = match exB Φ n l1 ρ with
    | .nx ρ' => exB Φ n l2 ρ'
    | o => o
  | [], ρ => by simp only [List.nil_append, exB]
  | s :: l1, ρ => by
    simp only [List.cons_append, exB]
    cases exS Φ n s ρ with
    | nx ρ1 => exact exB_app
    | _ => rfl
/-! ### numbers in lists -/
theorem sz_ofQ {x : Rat} {k : Nat} (hk : k < 1900) (hx : Sz k x) : szD (ofQ x) ≤ 3820 ∧ dpD (ofQ x) ≤ 1 := by
  have i : ∀ {z : Int}, z.natAbs < 2 ^ k → szD (.int z) ≤ 1903 := fun {z} hz => by
    have := log2_le (n := z.natAbs) (k := k) (Nat.lt_of_lt_of_le hz (Nat.pow_le_pow_right (by omega) (by omega)))
    simp only [szD]
    rw [if_pos (by omega)]
    omega
  have i1 := i hx.1
  have i2 := i hx.den
  unfold ofQ
  by_cases h : x.den = 1
  · rw [if_pos h]
    exact ⟨by omega, by simp [dpD]⟩
  · rw [if_neg h]
    refine ⟨?_, by simp [dpD, dpL]⟩
    have e : szD (.tup [.int x.num, .int (x.den : Nat)]) = szD (.int x.num) + 2 + (szD (.int (x.den : Nat)) + 2 + 0) + 3 := by simp only [szD, szL]
    omega
theorem py_ofQ (x : Rat) : ∃ p, (ofQ x).py = some p ∧ p.canLay0 = true ∧ p.depth ≤ 2 ∧ PyData.eqv p p = true := by
  unfold ofQ
  by_cases h : x.den = 1
  · rw [if_pos h]
    exact ⟨.int x.num, rfl, by simp [PyData.canLay0], by simp [PyData.depth], by simp [PyData.eqv]⟩
  · rw [if_neg h]
    exact ⟨.tuple [.int x.num, .int (x.den : Nat)], rfl, by simp [PyData.canLay0, PyData.canLayAll0], by simp [PyData.depth, PyData.depthAll], by simp [PyData.eqv, PyData.eqvAll]⟩
theorem pys_ofQ : ∀ xs : List Rat, ∃ ps, pyAll (xs.map ofQ) = some ps ∧ PyData.canLayAll0 ps = true ∧ PyData.depthAll ps ≤ 2 ∧ PyData.eqvAll ps ps = true
  | [] => ⟨[], rfl, by simp [PyData.canLayAll0], by simp [PyData.depthAll], by simp [PyData.eqvAll]⟩
  | x :: xs => by
    obtain ⟨p, a1, a2, a3, a4⟩ := py_ofQ x
    obtain ⟨ps, b1, b2, b3, b4⟩ := pys_ofQ xs
    refine ⟨p :: ps, by simp only [List.map_cons, pyAll, a1, b1], by simp only [PyData.canLayAll0, a2, b2, Bool.and_self], by simp only [PyData.depthAll]; omega, by simp only [PyData.eqvAll, a4, b4, Bool.and_self]⟩
theorem eq_self (xs : List Rat) : eqD (.lst (xs.map ofQ)) (.lst (xs.map ofQ)) = some true := by
  obtain ⟨ps, b1, b2, b3, b4⟩ := pys_ofQ xs
  unfold eqD
  have hs : SeqAt.shaped (.list ps) = true := by
    unfold SeqAt.shaped
    rw [show (PyData.list ps).canLay0 = PyData.canLayAll0 ps by simp only [PyData.canLay0], b2, Bool.true_and]
    refine decide_eq_true ?_
    simp only [PyData.depth]
    omega
  simp only [D.py, b1, hs, Bool.and_self, if_true, PyData.eqv, b4]
theorem rp_lst {xs : List Rat} {k : Nat} (hk : k < 1900) (hl : xs.length ≤ 100) (h : ∀ x ∈ xs, Sz k x) : biD "repr" [.lst (xs.map ofQ)] = some (false, .str (rpD (.lst (xs.map ofQ)))) := by
  have s : ∀ {xs : List Rat}, (∀ x ∈ xs, Sz k x) → szL (xs.map ofQ) ≤ 3822 * xs.length ∧ dpL (xs.map ofQ) ≤ 1 := by
    intro xs
    induction xs with
    | nil => intro _; simp [szL, dpL]
    | cons x xs ih =>
      intro h
      obtain ⟨a, b⟩ := ih fun z hz => h z (List.mem_cons_of_mem _ hz)
      obtain ⟨c, d⟩ := sz_ofQ hk (h x (List.mem_cons_self ..))
      simp only [List.map_cons, szL, dpL, List.length_cons]
      exact ⟨by omega, by omega⟩
  obtain ⟨a, b⟩ := s h
  refine bi_repr ?_ ?_
  · simp only [szD, lim]; omega
  · simp only [dpD]; omega
theorem ofQ_zero : ofQ 0 = .int 0 := rfl
end S

namespace S
open PySem PySem.Spec L2 Z
theorem rp_two (a b : Bool) : biD "repr" [.lst [.bl a, .bl b]] = some (false, .str (rpD (.lst [.bl a, .bl b]))) := bi_repr (by simp [szD, szL, lim]) (by simp [dpD, dpL])
theorem r_right {x y : Rat} {k : Nat} (hk : k < 400) (hx : Sz k x) (hy : Sz k y) : f_l_right.run [ofQ x, ofQ y] = .ok (.bl true) .non := by
  show (exB (tbl t_l_right) fuelN m_l_right (sl0 false 10 [ofQ x, ofQ y])).fr false false = _
  have p1 : ∀ ρ, callF (tbl t_l_right) "_law_pair" [ofQ x] ρ = .ok (false, prQ x) ρ := fun ρ => callF_ok rfl rfl rfl (r_pair x)
  have p2 : ∀ ρ, callF (tbl t_l_right) "_law_pair" [ofQ y] ρ = .ok (false, prQ y) ρ := fun ρ => callF_ok rfl rfl rfl (r_pair y)
  have d1 := fun ρ => k_sum2 (Φ := tbl t_l_right) (by omega) hx hy ρ rfl
  have d2 : ∀ ρ, callF (tbl t_l_right) "_law_diff" [prQ x, prQ y] ρ = .ok (false, prQ (x - y)) ρ := fun ρ => callF_ok rfl rfl rfl (r_diff (by omega) hx hy)
  have d3 : ∀ ρ, callF (tbl t_l_right) "_law_prod" [prQ x, prQ y] ρ = .ok (false, prQ (x * y)) ρ := fun ρ => callF_ok rfl rfl rfl (r_prod (by omega) hx hy)
  have b1 : ∀ ρ, callF (tbl t_l_right) "_law_below" [prQ x, prQ y] ρ = .ok (false, .bl (decide (x < y))) ρ := fun ρ => callF_ok rfl rfl rfl (r_below (by omega) hx hy)
  have b2 : ∀ ρ, callF (tbl t_l_right) "_law_below" [prQ y, prQ x] ρ = .ok (false, .bl (decide (y < x))) ρ := fun ρ => callF_ok rfl rfl rfl (r_below (by omega) hy hx)
  have l1 : ∀ ρ, callF (tbl t_l_right) "is_less" [ofQ x, ofQ y] ρ = .ok (false, .bl (decide (x < y))) ρ := fun ρ => callF_ok rfl rfl rfl (r_is_less (by omega) hx hy)
  have l2 : ∀ ρ, callF (tbl t_l_right) "is_less" [ofQ y, ofQ x] ρ = .ok (false, .bl (decide (y < x))) ρ := fun ρ => callF_ok rfl rfl rfl (r_is_less (by omega) hy hx)
  have plus : ∀ {a b : Rat} (ha : Sz 1000 a) (hb : Sz 1000 b) ρ, callF (tbl t_l_right) "plus" [ofQ a, ofQ b] ρ = .ok (false, ofQ (a + b)) ρ := fun ha hb ρ => callF_ok rfl rfl rfl (r_plus (by omega) ha hb)
  have minus : ∀ {a b : Rat} (ha : Sz 1000 a) (hb : Sz 1000 b) ρ, callF (tbl t_l_right) "minus" [ofQ a, ofQ b] ρ = .ok (false, ofQ (a - b)) ρ := fun ha hb ρ => callF_ok rfl rfl rfl (r_minus (by omega) ha hb)
  have times : ∀ {a b : Rat} (ha : Sz 1000 a) (hb : Sz 1000 b) ρ, callF (tbl t_l_right) "times" [ofQ a, ofQ b] ρ = .ok (false, ofQ (a * b)) ρ := fun ha hb ρ => callF_ok rfl rfl rfl (r_times (by omega) ha hb)
  have sx := hx.mono (show k ≤ 1000 by omega)
  have sy := hy.mono (show k ≤ 1000 by omega)
  have s1 := (sz_add hx hy).mono (show k + k + 1 ≤ 1000 by omega)
  have s2 := (sz_sub hx hy).mono (show k + k + 1 ≤ 1000 by omega)
  have s3 := (sz_mul hx hy).mono (show k + k ≤ 1000 by omega)
  have s4 := (sz_sub hy hx).mono (show k + k + 1 ≤ 1000 by omega)
  have s0 : Sz 1000 (0 : Rat) := by
    refine ⟨?_, ?_⟩
    · show (0 : Nat) < 2 ^ 1000
      exact Nat.two_pow_pos _
    · show (1 : Nat) < 2 ^ 1000
      exact Nat.one_lt_two_pow (by omega)
  have t1 := plus sx sy
  have t2 := minus sx sy
  have t3 := times sx sy
  have u1 := plus s2 sy
  have u2 := plus sy sx
  have u3 := times sy sx
  have u4 := minus sy sx
  have u5 := minus s0 s4
  rw [ofQ_zero] at u5
  rw [show x - y + y = x by grind] at u1
  rw [show y + x = x + y by grind] at u2
  rw [show y * x = x * y by grind] at u3
  rw [show 0 - (y - x) = x - y by grind] at u5
  have sh := fun (z : Rat) ρ => k_shown (Φ := tbl t_l_right) z ρ rfl
  have isn : ∀ {z : Rat} (hz : Sz 1000 z) ρ, callF (tbl t_l_right) "is_number" [ofQ z] ρ = .ok (false, .bl true) ρ := fun hz ρ => k_is_number (by omega) hz ρ rfl
  have i1 := isn s1
  have i2 := isn s2
  have i3 := isn s3
  have q4 := eq_self [x, x + y, x * y, x - y]
  have q0 : eqD (.lst []) (.lst []) = some true := by decide +kernel
  have rb := rp_two (decide (x < y)) (decide (y < x))
  simp only [List.map_cons, List.map_nil] at q4
  have py : ixD (prQ y) (.int 0) = some (.int y.num) := rfl
  have g0 : ∀ a b c : D, ixD (.lst [a, b, c]) (.int 0) = some a := fun _ _ _ => rfl
  have g1 : ∀ a b c : D, ixD (.lst [a, b, c]) (.int 1) = some b := fun _ _ _ => rfl
  have g2 : ∀ a b c : D, ixD (.lst [a, b, c]) (.int 2) = some c := fun _ _ _ => rfl
  have f0 : ∀ a b c d : D, ixD (.lst [a, b, c, d]) (.int 0) = some a := fun _ _ _ _ => rfl
  have f1 : ∀ a b c d : D, ixD (.lst [a, b, c, d]) (.int 1) = some b := fun _ _ _ _ => rfl
  have f2 : ∀ a b c d : D, ixD (.lst [a, b, c, d]) (.int 2) = some c := fun _ _ _ _ => rfl
  by_cases h0 : y = 0
  · have hn : y.num = 0 := Rat.num_eq_zero.mpr h0
    have rp := rp_lst (xs := [x + y, x - y, x * y]) (k := 1000) (by omega) (by simp) (fun z hz => by
      simp only [List.mem_cons, List.not_mem_nil, or_false] at hz
      rcases hz with rfl | rfl | rfl <;> assumption)
    simp only [List.map_cons, List.map_nil] at rp
    simp [m_l_right, sl0, exB, exS, evE, evL, p1, p2, setS, fr1, fr2, fr3, d1, d2, d3, t1, t2, t3, py, hn, cmpD, truD, rp, Z.fresh, itD, rdIdx, lockV, lcGo, wipeV, backV, asgT, sh, lim, b1, b2, l1, l2, rb, u1, u2, u3, u4, u5, g0, g1, g2, q4, i1, i2, i3, q0, Sl.data, Sl.isOwn, Out.fr, io0]
  · have hn : y.num ≠ 0 := fun z => h0 (Rat.num_eq_zero.mp z)
    have e1 : ∀ ρ, callF (tbl t_l_right) "_law_part" [prQ x, prQ y] ρ = .ok (false, prQ (x / y)) ρ := fun ρ => callF_ok rfl rfl rfl (r_part (by omega) hx hy h0)
    have e2 : ∀ ρ, callF (tbl t_l_right) "over" [ofQ x, ofQ y] ρ = .ok (false, ofQ (x / y)) ρ := fun ρ => callF_ok rfl rfl rfl (r_over (by omega) hx hy h0)
    have s5 := (sz_quo hx hy h0).mono (show k + k ≤ 1000 by omega)
    have i5 := isn s5
    have rp := rp_lst (xs := [x + y, x - y, x * y, x / y]) (k := 1000) (by omega) (by simp) (fun z hz => by
      simp only [List.mem_cons, List.not_mem_nil, or_false] at hz
      rcases hz with rfl | rfl | rfl | rfl <;> assumption)
    simp only [List.map_cons, List.map_nil] at rp
    simp [m_l_right, sl0, exB, exS, evE, evL, p1, p2, setS, fr1, fr2, fr3, d1, d2, d3, t1, t2, t3, py, hn, e1, e2, lstAt, updS, cmpD, truD, rp, Z.fresh, itD, rdIdx, lockV, lcGo, wipeV, backV, asgT, sh, lim, b1, b2, l1, l2, rb, u1, u2, u3, u4, u5, f0, f1, f2, q4, i1, i2, i3, i5, q0, Sl.data, Sl.isOwn, Out.fr, io0]
end S

namespace S
open PySem PySem.Spec L2 Z
theorem r_signed {k : Nat} {p : D} (h : Pu k p) (hk : k + 4 < 1000000) : ∃ (x : Rat) (p' : D), f_l_signed.run [p] = .ok (ofQ x) p' ∧ Sz 140 x ∧ Pu (k + 4) p' := by
  obtain ⟨x, p1, c1, sx, _, _, h1⟩ := k_amount (Φ := tbl t_l_signed) (ρ := [.io p, .non]) (i := 0) (low := 0) rfl rfl h (by omega) (.inl rfl)
  obtain ⟨r, p2, c2, l2, u2, h2⟩ := c_toss_io (Φ := tbl t_l_signed) (ρ := [.io p1, .val (prQ x)]) (i := 0) (m := 2) rfl rfl h1 (by omega) (by omega) (by omega)
  simp only [List.set_cons_zero] at c1 c2
  have pr : ∀ ρ, callF (tbl t_l_signed) "_law_pair" [ofQ x] ρ = .ok (false, prQ x) ρ := fun ρ => callF_ok rfl rfl rfl (r_pair x)
  have ks := fun (z : Rat) => fun ρ => k_shown (Φ := tbl t_l_signed) z ρ rfl
  have e0 : ixD (prQ x) (.int 0) = some (.int x.num) := rfl
  have e1 : ixD (prQ x) (.int 1) = some (.int (x.den : Nat)) := rfl
  have m : ∀ s : Int, (s = 1 ∨ s = -1) → mulOk x.num s = true := fun s hs => mulOk_lt (j := 2) sx.1 (by omega) (by omega)
  have run : ∀ (s : Int) (z : Rat), (s = 1 ∨ s = -1) → ixD (.lst [.int 1, .int (-1)]) (.int r) = some (.int s) → D.tup [.int (x.num * s), .int (x.den : Nat)] = prQ z → f_l_signed.run [p] = .ok (ofQ z) p2 := fun s z hs hi hz => by
    have k1 := ks z
    rw [← hz] at k1
    have hm := m s hs
    show (exB (tbl t_l_signed) fuelN m_l_signed (sl0 true 2 [p])).fr true false = _
    simp [m_l_signed, sl0, exB, exS, evE, evL, wrAt, Sl.isWr, c1, c2, pr, setS, fr1, fr3, e0, e1, hi, binD, hm, k1, Out.fr, io0]
  have : r = 0 ∨ r = 1 := by omega
  rcases this with rfl | rfl
  · exact ⟨x, p2, run 1 x (.inl rfl) rfl (by rw [Int.mul_one]; rfl), sx, h2⟩
  · refine ⟨-x, p2, run (-1) (-x) (.inr rfl) rfl ?_, sz_neg sx, h2⟩
    rw [prQ_neg, Int.zero_sub, Int.mul_neg, Int.mul_one]
end S

namespace K02
open PySem PySem.Spec L2 Z
def c_l_purse : Cfg := ⟨["script", "cell", "digits", "seed"], [], [], ["abs", "bool", "int", "isinstance", "len", "range", "repr", "tuple"], ["InvalidNumber"]⟩
def c_l_below : Cfg := ⟨["one", "two"], [], [], ["abs", "bool", "int", "isinstance", "len", "range", "repr", "tuple"], ["InvalidNumber"]⟩
def c_l_cut : Cfg := ⟨["top", "bottom", "one", "two"], [], [], ["abs", "bool", "int", "isinstance", "len", "range", "repr", "tuple"], ["InvalidNumber"]⟩
def c_l_sum : Cfg := ⟨["pairs", "found", "top", "bottom"], [("_law_cut", "_law_cut", false)], [], ["abs", "bool", "int", "isinstance", "len", "range", "repr", "tuple"], ["InvalidNumber"]⟩
def c_l_diff : Cfg := ⟨["one", "two"], [("_law_sum", "_law_sum", false)], [], ["abs", "bool", "int", "isinstance", "len", "range", "repr", "tuple"], ["InvalidNumber"]⟩
def c_l_pair : Cfg := ⟨["amount"], [], [], ["abs", "bool", "int", "isinstance", "len", "range", "repr", "tuple"], ["InvalidNumber"]⟩
def c_l_part : Cfg := ⟨["one", "two"], [("_law_cut", "_law_cut", false)], [], ["abs", "bool", "int", "isinstance", "len", "range", "repr", "tuple"], ["InvalidNumber"]⟩
def c_l_prod : Cfg := ⟨["one", "two"], [("_law_cut", "_law_cut", false)], [], ["abs", "bool", "int", "isinstance", "len", "range", "repr", "tuple"], ["InvalidNumber"]⟩
def c_l_shown : Cfg := ⟨["pair"], [], [], ["abs", "bool", "int", "isinstance", "len", "range", "repr", "tuple"], ["InvalidNumber"]⟩
def c_pair_of : Cfg := ⟨["one"], [], [], ["abs", "bool", "int", "isinstance", "len", "range", "repr", "tuple"], ["InvalidNumber"]⟩
def c_less : Cfg := ⟨["one", "other", "first", "second"], [("pair_of", "pair_of", false)], [], ["abs", "bool", "int", "isinstance", "len", "range", "repr", "tuple"], ["InvalidNumber"]⟩
def c_common_divisor : Cfg := ⟨["one", "other"], [], [], ["abs", "bool", "int", "isinstance", "len", "range", "repr", "tuple"], ["InvalidNumber"]⟩
def c_is_int : Cfg := ⟨["value"], [], [], ["abs", "bool", "int", "isinstance", "len", "range", "repr", "tuple"], ["InvalidNumber"]⟩
def c_is_number : Cfg := ⟨["value"], [("common_divisor", "common_divisor", false), ("is_int", "is_int", false)], [], ["abs", "bool", "int", "isinstance", "len", "range", "repr", "tuple"], ["InvalidNumber"]⟩
def c_require_number : Cfg := ⟨["value", "least"], [("is_number", "is_number", false), ("less", "less", false)], [], ["abs", "bool", "int", "isinstance", "len", "range", "repr", "tuple"], ["InvalidNumber"]⟩
def c_is_less : Cfg := ⟨["one", "other"], [("less", "less", false), ("require_number", "require_number", false)], [], ["abs", "bool", "int", "isinstance", "len", "range", "repr", "tuple"], ["InvalidNumber"]⟩
def c_number_of : Cfg := ⟨["top", "bottom", "divisor"], [("common_divisor", "common_divisor", false)], [], ["abs", "bool", "int", "isinstance", "len", "range", "repr", "tuple"], ["InvalidNumber"]⟩
def c_minus : Cfg := ⟨["one", "other", "first", "second"], [("number_of", "number_of", false), ("pair_of", "pair_of", false), ("require_number", "require_number", false)], [], ["abs", "bool", "int", "isinstance", "len", "range", "repr", "tuple"], ["InvalidNumber"]⟩
def c_over : Cfg := ⟨["one", "other", "first", "second"], [("number_of", "number_of", false), ("pair_of", "pair_of", false), ("require_number", "require_number", false)], [], ["abs", "bool", "int", "isinstance", "len", "range", "repr", "tuple"], ["InvalidNumber"]⟩
def c_total : Cfg := ⟨["numbers", "one", "top", "bottom", "first"], [("number_of", "number_of", false), ("pair_of", "pair_of", false)], [], ["abs", "bool", "int", "isinstance", "len", "range", "repr", "tuple"], ["InvalidNumber"]⟩
def c_plus : Cfg := ⟨["one", "other"], [("require_number", "require_number", false), ("total", "total", false)], [], ["abs", "bool", "int", "isinstance", "len", "range", "repr", "tuple"], ["InvalidNumber"]⟩
def c_times : Cfg := ⟨["one", "other", "first", "second"], [("number_of", "number_of", false), ("pair_of", "pair_of", false), ("require_number", "require_number", false)], [], ["abs", "bool", "int", "isinstance", "len", "range", "repr", "tuple"], ["InvalidNumber"]⟩
def c_l_right : Cfg := ⟨["one", "other", "due", "told", "flags", "back", "first", "second", "some", "pair"], [("_law_below", "_law_below", false), ("_law_diff", "_law_diff", false), ("_law_pair", "_law_pair", false), ("_law_part", "_law_part", false), ("_law_prod", "_law_prod", false), ("_law_shown", "_law_shown", false), ("_law_sum", "_law_sum", false), ("is_less", "is_less", false), ("is_number", "is_number", false), ("minus", "minus", false), ("over", "over", false), ("plus", "plus", false), ("times", "times", false)], [], ["abs", "bool", "int", "isinstance", "len", "range", "repr", "tuple"], ["InvalidNumber"]⟩
def c_l_toss : Cfg := ⟨["purse", "many", "stirred", "found"], [], [], ["abs", "bool", "int", "isinstance", "len", "range", "repr", "tuple"], ["InvalidNumber"]⟩
def c_l_amount : Cfg := ⟨["purse", "low", "way"], [("_law_cut", "_law_cut", false), ("_law_shown", "_law_shown", false), ("_law_toss", "_law_toss", true)], [], ["abs", "bool", "int", "isinstance", "len", "range", "repr", "tuple"], ["InvalidNumber"]⟩
def c_l_signed : Cfg := ⟨["purse", "found"], [("_law_amount", "_law_amount", true), ("_law_pair", "_law_pair", false), ("_law_shown", "_law_shown", false), ("_law_toss", "_law_toss", true)], [], ["abs", "bool", "int", "isinstance", "len", "range", "repr", "tuple"], ["InvalidNumber"]⟩
def c_l_wide : Cfg := ⟨["purse"], [("_law_cut", "_law_cut", false), ("_law_shown", "_law_shown", false), ("_law_toss", "_law_toss", true)], [], ["abs", "bool", "int", "isinstance", "len", "range", "repr", "tuple"], ["InvalidNumber"]⟩
def c_law : Cfg := ⟨["script", "purse", "turn", "told", "near", "one", "other"], [("_law_purse", "_law_purse", false), ("_law_right", "_law_right", false), ("_law_signed", "_law_signed", true), ("_law_toss", "_law_toss", true), ("_law_wide", "_law_wide", true), ("is_less", "is_less", false), ("minus", "minus", false), ("over", "over", false), ("plus", "plus", false), ("times", "times", false)], [], ["abs", "bool", "int", "isinstance", "len", "range", "repr", "tuple"], ["InvalidNumber"]⟩
def b1_law : List MS := [.par 5 6 (.callio "_law_signed" 1 []) (.callio "_law_signed" 1 []), .ite (.or (.not (.call "_law_right" [(.var 5), (.var 6)])) (.not (.call "_law_right" [(.var 6), (.var 5)]))) [.ret (.cst (.bl false))] [], .ite (.or (.not (.call "_law_right"
   [(.callio "_law_wide" 1 []), (.var 5)])) (.not (.call "_law_right" [(.var 6), (.callio "_law_wide" 1 [])]))) [.ret (.cst (.bl false))] [], .set (.nm 4) (.call "plus" [(.var 5), (.ix (.lst [(.tup [(.cst (.int 1)), (.bin .Pow (.cst (.int
   10)) (.cst (.int 39)))]), (.tup [(.cst (.int 1)), (.cst (.int 3))]), (.cst (.int 0)), (.var 5)]) (.callio "_law_toss" 1 [(.cst (.int 4))]))]), .ite (.or (.not (.call "_law_right" [(.var 5), (.var 4)])) (.or (.not (.call "_law_right"
   [(.var 4), (.var 5)])) (.not (.call "_law_right" [(.var 5), (.var 5)])))) [.ret (.cst (.bl false))] []]
def m_law : List MS := [.set (.nm 1) (.call "_law_purse" [(.var 0)]), .for (.nm 2) 1 [(.cst (.int 30))] b1_law, .set (.nm 3) (.lst [(.call "plus" [(.tup [(.cst (.int 1)), (.cst (.int 2))]), (.tup [(.cst (.int 1)), (.cst (.int 3))])]), (.call "minus" [(.tup
   [(.cst (.int 1)), (.cst (.int 2))]), (.tup [(.cst (.int 1)), (.cst (.int 2))])]), (.call "times" [(.tup [(.cst (.int 2)), (.cst (.int 3))]), (.tup [(.cst (.int 3)), (.cst (.int 2))])]), (.call "over" [(.cst (.int 1)), (.cst (.int 3))]),
   (.call "over" [(.tup [(.cst (.int 1)), (.cst (.int 3))]), (.tup [(.neg (.cst (.int 1))), (.cst (.int 6))])])]), .ite (.cmp .NotEq (.bi "repr" [(.rd 3)]) (.bi "repr" [(.lst [(.tup [(.cst (.int 5)), (.cst (.int 6))]), (.cst (.int 0)),
   (.cst (.int 1)), (.tup [(.cst (.int 1)), (.cst (.int 3))]), (.neg (.cst (.int 2)))])])) [.ret (.cst (.bl false))] [], .set (.nm 3) (.lst [(.call "is_less" [(.tup [(.cst (.int 1)), (.cst (.int 3))]), (.tup [(.cst (.int 1)), (.cst (.int
   2))])]), (.call "is_less" [(.tup [(.neg (.cst (.int 1))), (.cst (.int 2))]), (.tup [(.neg (.cst (.int 1))), (.cst (.int 3))])]), (.call "is_less" [(.cst (.int 1)), (.cst (.int 1))]), (.call "is_less" [(.tup [(.cst (.int 1)), (.cst
   (.int 2))]), (.cst (.int 1))])]), .ret (.cmp .Eq (.rd 3) (.lst [(.cst (.bl true)), (.cst (.bl true)), (.cst (.bl false)), (.cst (.bl true))]))]
def t_law : List (String × Fn) := [("_law_purse", S.f_l_purse), ("_law_right", S.f_l_right), ("_law_signed", S.f_l_signed), ("_law_toss", S.f_l_toss), ("_law_wide", S.f_l_wide), ("is_less", S.f_is_less), ("minus", S.f_minus), ("over", S.f_over), ("plus", S.f_plus), ("times", S.f_times)]
def f_law : Fn := mkFn false false 1 [] 7 m_law (tbl t_law)
end K02

namespace K02
open PySem PySem.Spec L2 Z S
theorem k_right {a b : Rat} (ha : Sz 300 a) (hb : Sz 300 b) (ρ : Vn) : callF (tbl t_law) "_law_right" [ofQ a, ofQ b] ρ = .ok (false, .bl true) ρ := callF_ok rfl rfl rfl (r_right (by omega) ha hb)
theorem k_signed {k : Nat} {p : D} {ρ : Vn} (hi : ρ[1]? = some (.own p)) (h : Pu k p) (hk : k + 4 < 1000000) : ∃ (x : Rat) (p' : D), callIo (tbl t_law) "_law_signed" 1 [] ρ = .ok (false, ofQ x) (ρ.set 1 (.own p')) ∧ Sz 140 x ∧ Pu (k + 4) p' := by
  obtain ⟨x, p', e, a⟩ := r_signed h hk
  exact ⟨x, p', callIo_own rfl rfl rfl hi e, a⟩
theorem k_wide {k : Nat} {p : D} {ρ : Vn} (hi : ρ[1]? = some (.own p)) (h : Pu k p) (hk : k + 2 < 1000000) : ∃ (x : Rat) (p' : D), callIo (tbl t_law) "_law_wide" 1 [] ρ = .ok (false, ofQ x) (ρ.set 1 (.own p')) ∧ Sz 140 x ∧ Pu (k + 2) p' := by
  obtain ⟨x, p', e, a⟩ := r_wide h hk
  exact ⟨x, p', callIo_own rfl rfl rfl hi e, a⟩
theorem turn {k : Nat} {p sv : D} {t : Sl} {c3 c4 c5 c6 : Sl} (h : Pu k p) (hk : k < 100000) (f4 : c4.free = true) (f5 : c5.free = true) (f6 : c6.free = true) : ∃ (p' : D) (c4' c5' c6' : Sl), exB (tbl t_law) fuelN b1_law [.val sv, .own p, t, c3, c4, c5, c6] = .nx [.val sv, .own p', t, c3, c4', c5', c6'] ∧ Pu (k + 20) p' ∧ c4'.free = true ∧ c5'.free = true ∧ c6'.free = true := by
  obtain ⟨x, p1, e1, sx, h1⟩ := k_signed (ρ := [.val sv, .own p, t, c3, c4, c5, c6]) rfl h (by omega)
  obtain ⟨y, p2, e2, sy, h2⟩ := k_signed (ρ := [.val sv, .own p1, t, c3, c4, c5, c6]) rfl h1 (by omega)
  obtain ⟨u, p3, e3, su, h3⟩ := k_wide (ρ := [.val sv, .own p2, t, c3, c4, .val (ofQ x), .val (ofQ y)]) rfl h2 (by omega)
  obtain ⟨v, p4, e4, sv', h4⟩ := k_wide (ρ := [.val sv, .own p3, t, c3, c4, .val (ofQ x), .val (ofQ y)]) rfl h3 (by omega)
  obtain ⟨r, p5, e5, l5, u5, h5⟩ := c_toss_own (Φ := tbl t_law) (ρ := [.val sv, .own p4, t, c3, c4, .val (ofQ x), .val (ofQ y)]) (i := 1) (m := 4) rfl rfl h4 (by omega) (by omega) (by omega)
  simp only [List.set_cons_succ, List.set_cons_zero] at e1 e2 e3 e4 e5
  have e39 : powOk 10 39 = true := by decide
  obtain ⟨z, hz, sz⟩ : ∃ z : Rat, ixD (.lst [.tup [.int 1, .int 1000000000000000000000000000000000000000], .tup [.int 1, .int 3], .int 0, ofQ x]) (.int r) = some (ofQ z) ∧ Sz 140 z := by
    have : r = 0 ∨ r = 1 ∨ r = 2 ∨ r = 3 := by omega
    rcases this with rfl | rfl | rfl | rfl
    · exact ⟨Rat.divInt 1 1000000000000000000000000000000000000000, rfl, sz_div (by omega) (by omega) (by omega)⟩
    · exact ⟨Rat.divInt 1 3, rfl, sz_div (by omega) (by omega) (by omega)⟩
    · exact ⟨(0 : Int), rfl, sz_int (k := 139) (by omega)⟩
    · exact ⟨x, rfl, sx⟩
  have m := fun {a : Rat} (ha : Sz 140 a) => ha.mono (show 140 ≤ 300 by omega)
  have sn := (sz_add sx sz).mono (show 140 + 140 + 1 ≤ 300 by omega)
  have a1 := k_right (m sx) (m sy)
  have a2 := k_right (m sy) (m sx)
  have a3 := k_right (m su) (m sx)
  have a4 := k_right (m sy) (m sv')
  have a5 := k_right (m sx) sn
  have a6 := k_right sn (m sx)
  have a7 := k_right (m sx) (m sx)
  have pl : ∀ ρ, callF (tbl t_law) "plus" [ofQ x, ofQ z] ρ = .ok (false, ofQ (x + z)) ρ := fun ρ => callF_ok rfl rfl rfl (r_plus (k := 140) (by omega) sx sz)
  refine ⟨p5, .val (ofQ (x + z)), .val (ofQ x), .val (ofQ y), ?_, h5.mono (by omega), rfl, rfl, rfl⟩
  simp [b1_law, exB, exS, evE, evL, wrAt, Sl.isWr, e1, e2, e3, e4, e5, setS, f4, f5, f6, fr1, a1, a2, a3, a4, a5, a6, a7, truD, binD, e39, hz, pl]
theorem loop {sv p : D} (h : Pu 0 p) : ∃ p' c2 c4 c5 c6, forGo (.nm 2) (exB (tbl t_law) fuelN b1_law) ((List.range 30).map fun i => .int (i : Nat)) [.val sv, .own p, .non, .non, .non, .non, .non] = .nx [.val sv, .own p', c2, .non, c4, c5, c6] := by
  obtain ⟨ρ', e, p', c2, c4, c5, c6, rfl, _⟩ := forGo_nx (tg := .nm 2) (body := exB (tbl t_law) fuelN b1_law) (xs := (List.range 30).map fun i => D.int (i : Nat)) (i := 0) (ρ := [.val sv, .own p, .non, .non, .non, .non, .non])
    (I := fun i ρ => ∃ p' c2 c4 c5 c6, ρ = [.val sv, .own p', c2, .non, c4, c5, c6] ∧ Pu (i * 20) p' ∧ c2.free = true ∧ c4.free = true ∧ c5.free = true ∧ c6.free = true)
    ⟨p, _, _, _, _, rfl, h, rfl, rfl, rfl, rfl⟩ (by
      rintro j d ρ hd ⟨p', c2, c4, c5, c6, rfl, hp, f2, f4, f5, f6⟩
      have hj : j < 30 := by have := (List.getElem?_eq_some_iff.mp hd).1; simpa using this
      obtain ⟨p2, c4', c5', c6', e2, h2, f4', f5', f6'⟩ := turn (sv := sv) (t := .val d) (c3 := .non) hp (by omega) f4 f5 f6
      exact ⟨[.val sv, .own p', .val d, .non, c4, c5, c6], _, by simp [asgT, setS, f2], e2, p2, _, _, _, _, rfl, h2.mono (by omega), rfl, f4', f5', f6'⟩)
  exact ⟨p', c2, c4, c5, c6, e⟩
theorem tail_ok {sv p : D} {c2 c4 c5 c6 : Sl} : ∃ ρ', exB (tbl t_law) fuelN (m_law.drop 2) [.val sv, .own p, c2, .non, c4, c5, c6] = .rt false (.bl true) ρ' := by
  have sz : ∀ {a b : Int}, b ≠ 0 → a.natAbs < 2 ^ 10 → b.natAbs < 2 ^ 10 → Sz 10 (Rat.divInt a b) := fun h1 h2 h3 => sz_div h1 h2 h3
  have n1 : ∀ ρ, callF (tbl t_law) "plus" [.tup [.int 1, .int 2], .tup [.int 1, .int 3]] ρ = .ok (false, .tup [.int 5, .int 6]) ρ := fun ρ => by
    have k := callF_ok (Φ := tbl t_law) (f := "plus") (ρ := ρ) rfl rfl rfl (r_plus (x := (Rat.divInt 1 2)) (y := (Rat.divInt 1 3)) (k := 10) (by omega) (sz (by omega) (by omega) (by omega)) (sz (by omega) (by omega) (by omega)))
    rw [show ofQ (Rat.divInt 1 2) = .tup [.int 1, .int 2] by kernel_rfl, show ofQ (Rat.divInt 1 3) = .tup [.int 1, .int 3] by kernel_rfl, show ofQ ((Rat.divInt 1 2) + (Rat.divInt 1 3)) = .tup [.int 5, .int 6] by kernel_rfl] at k
    exact k
  have n2 : ∀ ρ, callF (tbl t_law) "minus" [.tup [.int 1, .int 2], .tup [.int 1, .int 2]] ρ = .ok (false, .int 0) ρ := fun ρ => by
    have k := callF_ok (Φ := tbl t_law) (f := "minus") (ρ := ρ) rfl rfl rfl (r_minus (x := (Rat.divInt 1 2)) (y := (Rat.divInt 1 2)) (k := 10) (by omega) (sz (by omega) (by omega) (by omega)) (sz (by omega) (by omega) (by omega)))
    rw [show ofQ (Rat.divInt 1 2) = .tup [.int 1, .int 2] by kernel_rfl, show ofQ ((Rat.divInt 1 2) - (Rat.divInt 1 2)) = .int 0 by kernel_rfl] at k
    exact k
  have n3 : ∀ ρ, callF (tbl t_law) "times" [.tup [.int 2, .int 3], .tup [.int 3, .int 2]] ρ = .ok (false, .int 1) ρ := fun ρ => by
    have k := callF_ok (Φ := tbl t_law) (f := "times") (ρ := ρ) rfl rfl rfl (r_times (x := (Rat.divInt 2 3)) (y := (Rat.divInt 3 2)) (k := 10) (by omega) (sz (by omega) (by omega) (by omega)) (sz (by omega) (by omega) (by omega)))
    rw [show ofQ (Rat.divInt 2 3) = .tup [.int 2, .int 3] by kernel_rfl, show ofQ (Rat.divInt 3 2) = .tup [.int 3, .int 2] by kernel_rfl, show ofQ ((Rat.divInt 2 3) * (Rat.divInt 3 2)) = .int 1 by kernel_rfl] at k
    exact k
  have n4 : ∀ ρ, callF (tbl t_law) "over" [.int 1, .int 3] ρ = .ok (false, .tup [.int 1, .int 3]) ρ := fun ρ => by
    have k := callF_ok (Φ := tbl t_law) (f := "over") (ρ := ρ) rfl rfl rfl (r_over (x := (Rat.divInt 1 1)) (y := (Rat.divInt 3 1)) (k := 10) (by omega) (sz (by omega) (by omega) (by omega)) (sz (by omega) (by omega) (by omega)) (by decide +kernel))
    rw [show ofQ (Rat.divInt 1 1) = .int 1 by kernel_rfl, show ofQ (Rat.divInt 3 1) = .int 3 by kernel_rfl, show ofQ ((Rat.divInt 1 1) / (Rat.divInt 3 1)) = .tup [.int 1, .int 3] by kernel_rfl] at k
    exact k
  have n5 : ∀ ρ, callF (tbl t_law) "over" [.tup [.int 1, .int 3], .tup [.int (-1), .int 6]] ρ = .ok (false, .int (-2)) ρ := fun ρ => by
    have k := callF_ok (Φ := tbl t_law) (f := "over") (ρ := ρ) rfl rfl rfl (r_over (x := (Rat.divInt 1 3)) (y := (Rat.divInt (-1) 6)) (k := 10) (by omega) (sz (by omega) (by omega) (by omega)) (sz (by omega) (by omega) (by omega)) (by decide +kernel))
    rw [show ofQ (Rat.divInt 1 3) = .tup [.int 1, .int 3] by kernel_rfl, show ofQ (Rat.divInt (-1) 6) = .tup [.int (-1), .int 6] by kernel_rfl, show ofQ ((Rat.divInt 1 3) / (Rat.divInt (-1) 6)) = .int (-2) by kernel_rfl] at k
    exact k
  have l1 : ∀ ρ, callF (tbl t_law) "is_less" [.tup [.int 1, .int 3], .tup [.int 1, .int 2]] ρ = .ok (false, .bl true) ρ := fun ρ => by
    have k := callF_ok (Φ := tbl t_law) (f := "is_less") (ρ := ρ) rfl rfl rfl (r_is_less (x := (Rat.divInt 1 3)) (y := (Rat.divInt 1 2)) (k := 10) (by omega) (sz (by omega) (by omega) (by omega)) (sz (by omega) (by omega) (by omega)))
    rw [show ofQ (Rat.divInt 1 3) = .tup [.int 1, .int 3] by kernel_rfl, show ofQ (Rat.divInt 1 2) = .tup [.int 1, .int 2] by kernel_rfl, show decide ((Rat.divInt 1 3) < (Rat.divInt 1 2)) = true by decide +kernel] at k
    exact k
  have l2 : ∀ ρ, callF (tbl t_law) "is_less" [.tup [.int (-1), .int 2], .tup [.int (-1), .int 3]] ρ = .ok (false, .bl true) ρ := fun ρ => by
    have k := callF_ok (Φ := tbl t_law) (f := "is_less") (ρ := ρ) rfl rfl rfl (r_is_less (x := (Rat.divInt (-1) 2)) (y := (Rat.divInt (-1) 3)) (k := 10) (by omega) (sz (by omega) (by omega) (by omega)) (sz (by omega) (by omega) (by omega)))
    rw [show ofQ (Rat.divInt (-1) 2) = .tup [.int (-1), .int 2] by kernel_rfl, show ofQ (Rat.divInt (-1) 3) = .tup [.int (-1), .int 3] by kernel_rfl, show decide ((Rat.divInt (-1) 2) < (Rat.divInt (-1) 3)) = true by decide +kernel] at k
    exact k
  have l3 : ∀ ρ, callF (tbl t_law) "is_less" [.int 1, .int 1] ρ = .ok (false, .bl false) ρ := fun ρ => by
    have k := callF_ok (Φ := tbl t_law) (f := "is_less") (ρ := ρ) rfl rfl rfl (r_is_less (x := (Rat.divInt 1 1)) (y := (Rat.divInt 1 1)) (k := 10) (by omega) (sz (by omega) (by omega) (by omega)) (sz (by omega) (by omega) (by omega)))
    rw [show ofQ (Rat.divInt 1 1) = .int 1 by kernel_rfl, show decide ((Rat.divInt 1 1) < (Rat.divInt 1 1)) = false by decide +kernel] at k
    exact k
  have l4 : ∀ ρ, callF (tbl t_law) "is_less" [.tup [.int 1, .int 2], .int 1] ρ = .ok (false, .bl true) ρ := fun ρ => by
    have k := callF_ok (Φ := tbl t_law) (f := "is_less") (ρ := ρ) rfl rfl rfl (r_is_less (x := (Rat.divInt 1 2)) (y := (Rat.divInt 1 1)) (k := 10) (by omega) (sz (by omega) (by omega) (by omega)) (sz (by omega) (by omega) (by omega)))
    rw [show ofQ (Rat.divInt 1 2) = .tup [.int 1, .int 2] by kernel_rfl, show ofQ (Rat.divInt 1 1) = .int 1 by kernel_rfl, show decide ((Rat.divInt 1 2) < (Rat.divInt 1 1)) = true by decide +kernel] at k
    exact k
  have rp := bi_repr (d := .lst [.tup [.int 5, .int 6], .int 0, .int 1, .tup [.int 1, .int 3], .int (-2)]) (by decide +kernel) (by decide +kernel)
  have q : eqD (.lst [.bl true, .bl true, .bl false, .bl true]) (.lst [.bl true, .bl true, .bl false, .bl true]) = some true := by decide +kernel
  simp [m_law, exB, exS, evE, evL, n1, n2, n3, n4, n5, l1, l2, l3, l4, rp, cmpD, truD, setS, fr1, fr2, fr3, q]
theorem main : ∀ ns : List Int, ns.length ≤ 63 → ∃ s, f_law.run [.lst (ns.map D.int)] = .ok (.bl true) s := by
  intro ns _
  obtain ⟨p, ep, hp⟩ := r_purse (ns := ns)
  have cp : ∀ ρ, callF (tbl t_law) "_law_purse" [.lst (ns.map D.int)] ρ = .ok (true, p) ρ := fun ρ => callF_ok rfl rfl rfl ep
  obtain ⟨p', c2, c4, c5, c6, e⟩ := loop (sv := .lst (ns.map D.int)) hp
  obtain ⟨ρ', et⟩ := tail_ok (sv := .lst (ns.map D.int)) (p := p') (c2 := c2) (c4 := c4) (c5 := c5) (c6 := c6)
  refine ⟨.non, ?_⟩
  show (exB (tbl t_law) fuelN m_law (sl0 false 7 [.lst (ns.map D.int)])).fr false false = _
  rw [show m_law = m_law.take 2 ++ m_law.drop 2 from (List.take_append_drop 2 m_law).symm, exB_app]
  have e2 : exB (tbl t_law) fuelN (m_law.take 2) (sl0 false 7 [.lst (ns.map D.int)]) = .nx [.val (.lst (ns.map D.int)), .own p', c2, .non, c4, c5, c6] := by
    have e3 : itD 1 [.int 30] = some ((List.range 30).map fun i => .int (i : Nat)) := rfl
    have fr : Z.fresh [.val (.lst (ns.map D.int)), .own p, .non, .non, .non, .non, .non] [(.cst (.int 30))] [.int 30] = [.int 30] := rfl
    simp [m_law, sl0, exB, exS, evE, evL, cp, setS, fr1, fr2, fr3, fr, e3, rdIdx, lockV, e, Out.back, unlockV]
  rw [e2]
  simp only [et]
  rfl
end K02

set_option maxHeartbeats 0
namespace K02
open PySem PySem.Spec L2 Z
open PyProof.Rows hiding St
def top (i : Nat) : Stmt := PySem.Challenge.pw_salesplit_k02_sums_and_products.main.body.getD i (.Pass ⟨0, 0, 0, 0⟩)
def d_l_purse : He.DefD := ⟨("_law_purse", none), "_law_purse", "_law_purse", defArgs (top 18), defBody (top 18), defScope (top 18), [], []⟩
def d_l_below : He.DefD := ⟨("_law_below", none), "_law_below", "_law_below", defArgs (top 27), defBody (top 27), defScope (top 27), [], []⟩
def d_l_cut : He.DefD := ⟨("_law_cut", none), "_law_cut", "_law_cut", defArgs (top 21), defBody (top 21), defScope (top 21), [], []⟩
def d_l_sum : He.DefD := ⟨("_law_sum", none), "_law_sum", "_law_sum", defArgs (top 23), defBody (top 23), defScope (top 23), [], []⟩
def d_l_diff : He.DefD := ⟨("_law_diff", none), "_law_diff", "_law_diff", defArgs (top 24), defBody (top 24), defScope (top 24), [], []⟩
def d_l_pair : He.DefD := ⟨("_law_pair", none), "_law_pair", "_law_pair", defArgs (top 20), defBody (top 20), defScope (top 20), [], []⟩
def d_l_part : He.DefD := ⟨("_law_part", none), "_law_part", "_law_part", defArgs (top 26), defBody (top 26), defScope (top 26), [], []⟩
def d_l_prod : He.DefD := ⟨("_law_prod", none), "_law_prod", "_law_prod", defArgs (top 25), defBody (top 25), defScope (top 25), [], []⟩
def d_l_shown : He.DefD := ⟨("_law_shown", none), "_law_shown", "_law_shown", defArgs (top 22), defBody (top 22), defScope (top 22), [], []⟩
def d_pair_of : He.DefD := ⟨("pair_of", none), "pair_of", "pair_of", defArgs (top 7), defBody (top 7), defScope (top 7), [], []⟩
def d_less : He.DefD := ⟨("less", none), "less", "less", defArgs (top 9), defBody (top 9), defScope (top 9), [], []⟩
def d_common_divisor : He.DefD := ⟨("common_divisor", none), "common_divisor", "common_divisor", defArgs (top 5), defBody (top 5), defScope (top 5), [], []⟩
def d_is_int : He.DefD := ⟨("is_int", none), "is_int", "is_int", defArgs (top 4), defBody (top 4), defScope (top 4), [], []⟩
def d_is_number : He.DefD := ⟨("is_number", none), "is_number", "is_number", defArgs (top 6), defBody (top 6), defScope (top 6), [], []⟩
def d_require_number : He.DefD := ⟨("require_number", none), "require_number", "require_number", defArgs (top 10), defBody (top 10), defScope (top 10), [.non], []⟩
def d_is_less : He.DefD := ⟨("is_less", none), "is_less", "is_less", defArgs (top 15), defBody (top 15), defScope (top 15), [], []⟩
def d_number_of : He.DefD := ⟨("number_of", none), "number_of", "number_of", defArgs (top 8), defBody (top 8), defScope (top 8), [], []⟩
def d_minus : He.DefD := ⟨("minus", none), "minus", "minus", defArgs (top 12), defBody (top 12), defScope (top 12), [], []⟩
def d_over : He.DefD := ⟨("over", none), "over", "over", defArgs (top 14), defBody (top 14), defScope (top 14), [], []⟩
def d_total : He.DefD := ⟨("total", none), "total", "total", defArgs (top 16), defBody (top 16), defScope (top 16), [], []⟩
def d_plus : He.DefD := ⟨("plus", none), "plus", "plus", defArgs (top 11), defBody (top 11), defScope (top 11), [], []⟩
def d_times : He.DefD := ⟨("times", none), "times", "times", defArgs (top 13), defBody (top 13), defScope (top 13), [], []⟩
def d_l_right : He.DefD := ⟨("_law_right", none), "_law_right", "_law_right", defArgs (top 31), defBody (top 31), defScope (top 31), [], []⟩
def d_l_toss : He.DefD := ⟨("_law_toss", none), "_law_toss", "_law_toss", defArgs (top 19), defBody (top 19), defScope (top 19), [], []⟩
def d_l_amount : He.DefD := ⟨("_law_amount", none), "_law_amount", "_law_amount", defArgs (top 28), defBody (top 28), defScope (top 28), [], []⟩
def d_l_signed : He.DefD := ⟨("_law_signed", none), "_law_signed", "_law_signed", defArgs (top 29), defBody (top 29), defScope (top 29), [], []⟩
def d_l_wide : He.DefD := ⟨("_law_wide", none), "_law_wide", "_law_wide", defArgs (top 30), defBody (top 30), defScope (top 30), [], []⟩
def d_law : He.DefD := ⟨("law", none), "law", "law", defArgs (top 32), defBody (top 32), defScope (top 32), [], []⟩
def fn : List He.DefD := [d_l_purse, d_l_below, d_l_cut, d_l_sum, d_l_diff, d_l_pair, d_l_part, d_l_prod, d_l_shown, d_pair_of, d_less, d_common_divisor, d_is_int, d_is_number, d_require_number, d_is_less, d_number_of, d_minus, d_over, d_total, d_plus, d_times, d_l_right, d_l_toss, d_l_amount, d_l_signed, d_l_wide, d_law]
def fa : List He.Fa := [.glo "_law_purse", .glo "_law_below", .glo "_law_cut", .glo "_law_sum", .glo "_law_diff", .glo "_law_pair", .glo "_law_part", .glo "_law_prod", .glo "_law_shown", .glo "pair_of", .glo "less", .glo "common_divisor", .glo "is_int", .glo
   "is_number", .glo "require_number", .glo "is_less", .glo "number_of", .glo "minus", .glo "over", .glo "total", .glo "plus", .glo "times", .glo "_law_right", .glo "_law_toss", .glo "_law_amount", .glo "_law_signed", .glo "_law_wide",
   .glo "law", .free "abs", .free "bool", .free "int", .free "isinstance", .free "len", .free "range", .free "repr", .free "tuple", .glo "InvalidNumber", .exc "InvalidNumber"]
def lo0 : List PySem.Str := ["InvalidNumber", "SaleError", "_law_amount", "_law_below", "_law_cut", "_law_diff", "_law_pair", "_law_part", "_law_prod", "_law_purse", "_law_right", "_law_shown", "_law_signed", "_law_sum", "_law_toss", "_law_wide", "common_divisor", "is_int", "is_less", "is_number", "less", "minus", "number_of", "over", "pair_of", "plus", "require_number", "times", "total"]
def lo : List PySem.Str := lo0
abbrev R : PySem.W.OpenRow := PySem.W.OpenLaw.row PySem.Challenge.rw_salesplit_k02_sums_and_products
abbrev hk : PySem.W.Hook := He.hookD 4 fa fn
def ob (s : PySem.W.SharedT) : He.AlD := He.obsDG 4 fa fn (HandSHeadRun.getT s)
theorem obEq (s : PySem.W.SharedT) : ob s = hk.obs s.abs := He.obsDG_eq (HandSHeadRun.getT_eq s)
theorem runs (w : World) : HandSHeadRun.RunEq R (PySem.W.view R.prog [32]) hk ob 20000 lo w := by
  intro o
  kernel_rfl
section
variable {P : Program} {w : World} {K : PySem.W.Frag} {h : Heap} {mg : Str → Option Value} {base : Heap}
theorem mdl (X : K.In h) (G : h.Ns mainGlobals mg) (c : He.SaysD fa fn K) {cc : Cfg} (e1 : cc.free = c_law.free) (e2 : cc.cst = c_law.cst) (e3 : cc.excs = c_law.excs) : Mdl cc P w K mg := by
  refine ⟨?_, ?_, ?_⟩
  · rw [e1]
    exact free_cons (He.free_ok X G (c.fact 28 (f := .free "abs") rfl)) (free_cons (He.free_ok X G (c.fact 29 (f := .free "bool") rfl)) (free_cons (He.free_ok X G (c.fact 30 (f := .free "int") rfl)) (free_cons (He.free_ok X G (c.fact 31 (f := .free "isinstance") rfl)) (free_cons (He.free_ok X G (c.fact 32 (f := .free "len") rfl)) (free_cons (He.free_ok X G (c.fact 33 (f := .free "range") rfl)) (free_cons (He.free_ok X G (c.fact 34 (f := .free "repr") rfl)) (free_cons (He.free_ok X G (c.fact 35 (f := .free "tuple") rfl)) (free_nil))))))))
  · rw [e2]
    exact cst_nil
  · rw [e3]
    exact exc_cons (He.glo_ok X G (c.fact 36 (f := .glo "InvalidNumber") rfl)) (He.exc_ok (c.fact 37 (f := .exc "InvalidNumber") rfl)) (exc_nil)
theorem s_l_purse : FnScope c_l_purse.N ["script"] (defScope (top 18)) := ⟨rfl, rfl, rfl, by decide +kernel, rfl, by decide +kernel, by decide +kernel⟩
theorem tr_l_purse : trSs c_l_purse 60 (defScope (top 18)) (defBody (top 18)) = S.m_l_purse := by kernel_rfl
theorem a_l_purse (X : K.In h) (G : h.Ns mainGlobals mg) (c : He.SaysD fa fn K)  : FnAt P w K mg base 1 "_law_purse" S.f_l_purse := by
  obtain ⟨fd, F⟩ := c.def_ 0 (d := d_l_purse) rfl
  exact fnAt_mk F s_l_purse rfl (He.glo_ok X G (c.fact 0 (f := .glo "_law_purse") rfl)) (fun _ z => by cases z) (binds_nil (FunD.bindsN F fun _ _ _ _ _ _ us hl => match us, hl with | [_], _ => rfl)) (mdl X G c rfl rfl rfl) (fns_nil) tr_l_purse
theorem s_l_below : FnScope c_l_below.N ["one", "two"] (defScope (top 27)) := ⟨rfl, rfl, rfl, by decide +kernel, rfl, by decide +kernel, by decide +kernel⟩
theorem tr_l_below : trSs c_l_below 60 (defScope (top 27)) (defBody (top 27)) = S.m_l_below := by kernel_rfl
theorem a_l_below (X : K.In h) (G : h.Ns mainGlobals mg) (c : He.SaysD fa fn K)  : FnAt P w K mg base 1 "_law_below" S.f_l_below := by
  obtain ⟨fd, F⟩ := c.def_ 1 (d := d_l_below) rfl
  exact fnAt_mk F s_l_below rfl (He.glo_ok X G (c.fact 1 (f := .glo "_law_below") rfl)) (fun _ z => by cases z) (binds_nil (FunD.bindsN F fun _ _ _ _ _ _ us hl => match us, hl with | [_, _], _ => rfl)) (mdl X G c rfl rfl rfl) (fns_nil) tr_l_below
theorem s_l_cut : FnScope c_l_cut.N ["top", "bottom"] (defScope (top 21)) := ⟨rfl, rfl, rfl, by decide +kernel, rfl, by decide +kernel, by decide +kernel⟩
theorem tr_l_cut : trSs c_l_cut 60 (defScope (top 21)) (defBody (top 21)) = S.m_l_cut := by kernel_rfl
theorem a_l_cut (X : K.In h) (G : h.Ns mainGlobals mg) (c : He.SaysD fa fn K)  : FnAt P w K mg base 1 "_law_cut" S.f_l_cut := by
  obtain ⟨fd, F⟩ := c.def_ 2 (d := d_l_cut) rfl
  exact fnAt_mk F s_l_cut rfl (He.glo_ok X G (c.fact 2 (f := .glo "_law_cut") rfl)) (fun _ z => by cases z) (binds_nil (FunD.bindsN F fun _ _ _ _ _ _ us hl => match us, hl with | [_, _], _ => rfl)) (mdl X G c rfl rfl rfl) (fns_nil) tr_l_cut
theorem s_l_sum : FnScope c_l_sum.N ["pairs"] (defScope (top 23)) := ⟨rfl, rfl, rfl, by decide +kernel, rfl, by decide +kernel, by decide +kernel⟩
theorem tr_l_sum : trSs c_l_sum 60 (defScope (top 23)) (defBody (top 23)) = S.m_l_sum := by kernel_rfl
theorem a_l_sum (X : K.In h) (G : h.Ns mainGlobals mg) (c : He.SaysD fa fn K) (a_l_cut : FnAt P w K mg base 1 "_law_cut" S.f_l_cut) : FnAt P w K mg base 2 "_law_sum" S.f_l_sum := by
  obtain ⟨fd, F⟩ := c.def_ 3 (d := d_l_sum) rfl
  exact fnAt_mk F s_l_sum rfl (He.glo_ok X G (c.fact 3 (f := .glo "_law_sum") rfl)) (fun _ z => by cases z) (binds_nil (FunD.bindsN F fun _ _ _ _ _ _ us hl => match us, hl with | [_], _ => rfl)) (mdl X G c rfl rfl rfl) (fns_cons ⟨_, rfl, rfl, a_l_cut.mono (by decide)⟩ (fns_nil)) tr_l_sum
theorem s_l_diff : FnScope c_l_diff.N ["one", "two"] (defScope (top 24)) := ⟨rfl, rfl, rfl, by decide +kernel, rfl, by decide +kernel, by decide +kernel⟩
theorem tr_l_diff : trSs c_l_diff 60 (defScope (top 24)) (defBody (top 24)) = S.m_l_diff := by kernel_rfl
theorem a_l_diff (X : K.In h) (G : h.Ns mainGlobals mg) (c : He.SaysD fa fn K) (a_l_sum : FnAt P w K mg base 2 "_law_sum" S.f_l_sum) : FnAt P w K mg base 3 "_law_diff" S.f_l_diff := by
  obtain ⟨fd, F⟩ := c.def_ 4 (d := d_l_diff) rfl
  exact fnAt_mk F s_l_diff rfl (He.glo_ok X G (c.fact 4 (f := .glo "_law_diff") rfl)) (fun _ z => by cases z) (binds_nil (FunD.bindsN F fun _ _ _ _ _ _ us hl => match us, hl with | [_, _], _ => rfl)) (mdl X G c rfl rfl rfl) (fns_cons ⟨_, rfl, rfl, a_l_sum.mono (by decide)⟩ (fns_nil)) tr_l_diff
theorem s_l_pair : FnScope c_l_pair.N ["amount"] (defScope (top 20)) := ⟨rfl, rfl, rfl, by decide +kernel, rfl, by decide +kernel, by decide +kernel⟩
theorem tr_l_pair : trSs c_l_pair 60 (defScope (top 20)) (defBody (top 20)) = S.m_l_pair := by kernel_rfl
theorem a_l_pair (X : K.In h) (G : h.Ns mainGlobals mg) (c : He.SaysD fa fn K)  : FnAt P w K mg base 1 "_law_pair" S.f_l_pair := by
  obtain ⟨fd, F⟩ := c.def_ 5 (d := d_l_pair) rfl
  exact fnAt_mk F s_l_pair rfl (He.glo_ok X G (c.fact 5 (f := .glo "_law_pair") rfl)) (fun _ z => by cases z) (binds_nil (FunD.bindsN F fun _ _ _ _ _ _ us hl => match us, hl with | [_], _ => rfl)) (mdl X G c rfl rfl rfl) (fns_nil) tr_l_pair
theorem s_l_part : FnScope c_l_part.N ["one", "two"] (defScope (top 26)) := ⟨rfl, rfl, rfl, by decide +kernel, rfl, by decide +kernel, by decide +kernel⟩
theorem tr_l_part : trSs c_l_part 60 (defScope (top 26)) (defBody (top 26)) = S.m_l_part := by kernel_rfl
theorem a_l_part (X : K.In h) (G : h.Ns mainGlobals mg) (c : He.SaysD fa fn K) (a_l_cut : FnAt P w K mg base 1 "_law_cut" S.f_l_cut) : FnAt P w K mg base 2 "_law_part" S.f_l_part := by
  obtain ⟨fd, F⟩ := c.def_ 6 (d := d_l_part) rfl
  exact fnAt_mk F s_l_part rfl (He.glo_ok X G (c.fact 6 (f := .glo "_law_part") rfl)) (fun _ z => by cases z) (binds_nil (FunD.bindsN F fun _ _ _ _ _ _ us hl => match us, hl with | [_, _], _ => rfl)) (mdl X G c rfl rfl rfl) (fns_cons ⟨_, rfl, rfl, a_l_cut.mono (by decide)⟩ (fns_nil)) tr_l_part
theorem s_l_prod : FnScope c_l_prod.N ["one", "two"] (defScope (top 25)) := ⟨rfl, rfl, rfl, by decide +kernel, rfl, by decide +kernel, by decide +kernel⟩
theorem tr_l_prod : trSs c_l_prod 60 (defScope (top 25)) (defBody (top 25)) = S.m_l_prod := by kernel_rfl
theorem a_l_prod (X : K.In h) (G : h.Ns mainGlobals mg) (c : He.SaysD fa fn K) (a_l_cut : FnAt P w K mg base 1 "_law_cut" S.f_l_cut) : FnAt P w K mg base 2 "_law_prod" S.f_l_prod := by
  obtain ⟨fd, F⟩ := c.def_ 7 (d := d_l_prod) rfl
  exact fnAt_mk F s_l_prod rfl (He.glo_ok X G (c.fact 7 (f := .glo "_law_prod") rfl)) (fun _ z => by cases z) (binds_nil (FunD.bindsN F fun _ _ _ _ _ _ us hl => match us, hl with | [_, _], _ => rfl)) (mdl X G c rfl rfl rfl) (fns_cons ⟨_, rfl, rfl, a_l_cut.mono (by decide)⟩ (fns_nil)) tr_l_prod
theorem s_l_shown : FnScope c_l_shown.N ["pair"] (defScope (top 22)) := ⟨rfl, rfl, rfl, by decide +kernel, rfl, by decide +kernel, by decide +kernel⟩
theorem tr_l_shown : trSs c_l_shown 60 (defScope (top 22)) (defBody (top 22)) = S.m_l_shown := by kernel_rfl
theorem a_l_shown (X : K.In h) (G : h.Ns mainGlobals mg) (c : He.SaysD fa fn K)  : FnAt P w K mg base 1 "_law_shown" S.f_l_shown := by
  obtain ⟨fd, F⟩ := c.def_ 8 (d := d_l_shown) rfl
  exact fnAt_mk F s_l_shown rfl (He.glo_ok X G (c.fact 8 (f := .glo "_law_shown") rfl)) (fun _ z => by cases z) (binds_nil (FunD.bindsN F fun _ _ _ _ _ _ us hl => match us, hl with | [_], _ => rfl)) (mdl X G c rfl rfl rfl) (fns_nil) tr_l_shown
theorem s_pair_of : FnScope c_pair_of.N ["one"] (defScope (top 7)) := ⟨rfl, rfl, rfl, by decide +kernel, rfl, by decide +kernel, by decide +kernel⟩
theorem tr_pair_of : trSs c_pair_of 60 (defScope (top 7)) (defBody (top 7)) = S.m_l_pair := by kernel_rfl
theorem a_pair_of (X : K.In h) (G : h.Ns mainGlobals mg) (c : He.SaysD fa fn K)  : FnAt P w K mg base 1 "pair_of" S.f_l_pair := by
  obtain ⟨fd, F⟩ := c.def_ 9 (d := d_pair_of) rfl
  exact fnAt_mk F s_pair_of rfl (He.glo_ok X G (c.fact 9 (f := .glo "pair_of") rfl)) (fun _ z => by cases z) (binds_nil (FunD.bindsN F fun _ _ _ _ _ _ us hl => match us, hl with | [_], _ => rfl)) (mdl X G c rfl rfl rfl) (fns_nil) tr_pair_of
theorem s_less : FnScope c_less.N ["one", "other"] (defScope (top 9)) := ⟨rfl, rfl, rfl, by decide +kernel, rfl, by decide +kernel, by decide +kernel⟩
theorem tr_less : trSs c_less 60 (defScope (top 9)) (defBody (top 9)) = S.m_less := by kernel_rfl
theorem a_less (X : K.In h) (G : h.Ns mainGlobals mg) (c : He.SaysD fa fn K) (a_pair_of : FnAt P w K mg base 1 "pair_of" S.f_l_pair) : FnAt P w K mg base 2 "less" S.f_less := by
  obtain ⟨fd, F⟩ := c.def_ 10 (d := d_less) rfl
  exact fnAt_mk F s_less rfl (He.glo_ok X G (c.fact 10 (f := .glo "less") rfl)) (fun _ z => by cases z) (binds_nil (FunD.bindsN F fun _ _ _ _ _ _ us hl => match us, hl with | [_, _], _ => rfl)) (mdl X G c rfl rfl rfl) (fns_cons ⟨_, rfl, rfl, a_pair_of.mono (by decide)⟩ (fns_nil)) tr_less
theorem s_common_divisor : FnScope c_common_divisor.N ["one", "other"] (defScope (top 5)) := ⟨rfl, rfl, rfl, by decide +kernel, rfl, by decide +kernel, by decide +kernel⟩
theorem tr_common_divisor : trSs c_common_divisor 60 (defScope (top 5)) (defBody (top 5)) = S.m_common_divisor := by kernel_rfl
theorem a_common_divisor (X : K.In h) (G : h.Ns mainGlobals mg) (c : He.SaysD fa fn K)  : FnAt P w K mg base 1 "common_divisor" S.f_common_divisor := by
  obtain ⟨fd, F⟩ := c.def_ 11 (d := d_common_divisor) rfl
  exact fnAt_mk F s_common_divisor rfl (He.glo_ok X G (c.fact 11 (f := .glo "common_divisor") rfl)) (fun _ z => by cases z) (binds_nil (FunD.bindsN F fun _ _ _ _ _ _ us hl => match us, hl with | [_, _], _ => rfl)) (mdl X G c rfl rfl rfl) (fns_nil) tr_common_divisor
theorem s_is_int : FnScope c_is_int.N ["value"] (defScope (top 4)) := ⟨rfl, rfl, rfl, by decide +kernel, rfl, by decide +kernel, by decide +kernel⟩
theorem tr_is_int : trSs c_is_int 60 (defScope (top 4)) (defBody (top 4)) = S.m_is_int := by kernel_rfl
theorem a_is_int (X : K.In h) (G : h.Ns mainGlobals mg) (c : He.SaysD fa fn K)  : FnAt P w K mg base 1 "is_int" S.f_is_int := by
  obtain ⟨fd, F⟩ := c.def_ 12 (d := d_is_int) rfl
  exact fnAt_mk F s_is_int rfl (He.glo_ok X G (c.fact 12 (f := .glo "is_int") rfl)) (fun _ z => by cases z) (binds_nil (FunD.bindsN F fun _ _ _ _ _ _ us hl => match us, hl with | [_], _ => rfl)) (mdl X G c rfl rfl rfl) (fns_nil) tr_is_int
theorem s_is_number : FnScope c_is_number.N ["value"] (defScope (top 6)) := ⟨rfl, rfl, rfl, by decide +kernel, rfl, by decide +kernel, by decide +kernel⟩
theorem tr_is_number : trSs c_is_number 60 (defScope (top 6)) (defBody (top 6)) = S.m_is_number := by kernel_rfl
theorem a_is_number (X : K.In h) (G : h.Ns mainGlobals mg) (c : He.SaysD fa fn K) (a_common_divisor : FnAt P w K mg base 1 "common_divisor" S.f_common_divisor) (a_is_int : FnAt P w K mg base 1 "is_int" S.f_is_int) : FnAt P w K mg base 2 "is_number" S.f_is_number := by
  obtain ⟨fd, F⟩ := c.def_ 13 (d := d_is_number) rfl
  exact fnAt_mk F s_is_number rfl (He.glo_ok X G (c.fact 13 (f := .glo "is_number") rfl)) (fun _ z => by cases z) (binds_nil (FunD.bindsN F fun _ _ _ _ _ _ us hl => match us, hl with | [_], _ => rfl)) (mdl X G c rfl rfl rfl) (fns_cons ⟨_, rfl, rfl, a_common_divisor.mono (by decide)⟩ (fns_cons ⟨_, rfl, rfl, a_is_int.mono (by decide)⟩ (fns_nil))) tr_is_number
theorem s_require_number : FnScope c_require_number.N ["value", "least"] (defScope (top 10)) := ⟨rfl, rfl, rfl, by decide +kernel, rfl, by decide +kernel, by decide +kernel⟩
theorem tr_require_number : trSs c_require_number 60 (defScope (top 10)) (defBody (top 10)) = S.m_require_number := by kernel_rfl
theorem a_require_number (X : K.In h) (G : h.Ns mainGlobals mg) (c : He.SaysD fa fn K) (a_is_number : FnAt P w K mg base 2 "is_number" S.f_is_number) (a_less : FnAt P w K mg base 2 "less" S.f_less) : FnAt P w K mg base 3 "require_number" S.f_require_number := by
  obtain ⟨fd, F⟩ := c.def_ 14 (d := d_require_number) rfl
  refine fnAt_mk F s_require_number rfl (He.glo_ok X G (c.fact 14 (f := .glo "require_number") rfl)) (fun d z => by simp at z; rcases z with rfl <;> rfl) ?_ (mdl X G c rfl rfl rfl) (fns_cons ⟨_, rfl, rfl, a_is_number.mono (by decide)⟩ (fns_cons ⟨_, rfl, rfl, a_less.mono (by decide)⟩ (fns_nil))) tr_require_number
  exact fun j hj => match j, hj with
    | 0, _ => FunD.binds1 F 1 0 (List.cons_ne_nil _ _) rfl (fun _ _ _ _ _ _ _ us its hu hi => match us, hu, its, hi with | [_], _, [_], _ => ⟨_, rfl, rfl⟩)
    | 1, _ => FunD.binds1 F 2 1 (List.cons_ne_nil _ _) rfl (fun _ _ _ _ _ _ _ us its hu hi => match us, hu, its, hi with | [_, _], _, [_], _ => ⟨_, rfl, rfl⟩)
    | _ + 2, hj => absurd hj (by simp)
theorem s_is_less : FnScope c_is_less.N ["one", "other"] (defScope (top 15)) := ⟨rfl, rfl, rfl, by decide +kernel, rfl, by decide +kernel, by decide +kernel⟩
theorem tr_is_less : trSs c_is_less 60 (defScope (top 15)) (defBody (top 15)) = S.m_is_less := by kernel_rfl
theorem a_is_less (X : K.In h) (G : h.Ns mainGlobals mg) (c : He.SaysD fa fn K) (a_less : FnAt P w K mg base 2 "less" S.f_less) (a_require_number : FnAt P w K mg base 3 "require_number" S.f_require_number) : FnAt P w K mg base 4 "is_less" S.f_is_less := by
  obtain ⟨fd, F⟩ := c.def_ 15 (d := d_is_less) rfl
  exact fnAt_mk F s_is_less rfl (He.glo_ok X G (c.fact 15 (f := .glo "is_less") rfl)) (fun _ z => by cases z) (binds_nil (FunD.bindsN F fun _ _ _ _ _ _ us hl => match us, hl with | [_, _], _ => rfl)) (mdl X G c rfl rfl rfl) (fns_cons ⟨_, rfl, rfl, a_less.mono (by decide)⟩ (fns_cons ⟨_, rfl, rfl, a_require_number.mono (by decide)⟩ (fns_nil))) tr_is_less
theorem s_number_of : FnScope c_number_of.N ["top", "bottom"] (defScope (top 8)) := ⟨rfl, rfl, rfl, by decide +kernel, rfl, by decide +kernel, by decide +kernel⟩
theorem tr_number_of : trSs c_number_of 60 (defScope (top 8)) (defBody (top 8)) = S.m_number_of := by kernel_rfl
theorem a_number_of (X : K.In h) (G : h.Ns mainGlobals mg) (c : He.SaysD fa fn K) (a_common_divisor : FnAt P w K mg base 1 "common_divisor" S.f_common_divisor) : FnAt P w K mg base 2 "number_of" S.f_number_of := by
  obtain ⟨fd, F⟩ := c.def_ 16 (d := d_number_of) rfl
  exact fnAt_mk F s_number_of rfl (He.glo_ok X G (c.fact 16 (f := .glo "number_of") rfl)) (fun _ z => by cases z) (binds_nil (FunD.bindsN F fun _ _ _ _ _ _ us hl => match us, hl with | [_, _], _ => rfl)) (mdl X G c rfl rfl rfl) (fns_cons ⟨_, rfl, rfl, a_common_divisor.mono (by decide)⟩ (fns_nil)) tr_number_of
theorem s_minus : FnScope c_minus.N ["one", "other"] (defScope (top 12)) := ⟨rfl, rfl, rfl, by decide +kernel, rfl, by decide +kernel, by decide +kernel⟩
theorem tr_minus : trSs c_minus 60 (defScope (top 12)) (defBody (top 12)) = S.m_minus := by kernel_rfl
theorem a_minus (X : K.In h) (G : h.Ns mainGlobals mg) (c : He.SaysD fa fn K) (a_number_of : FnAt P w K mg base 2 "number_of" S.f_number_of) (a_pair_of : FnAt P w K mg base 1 "pair_of" S.f_l_pair) (a_require_number : FnAt P w K mg base 3 "require_number" S.f_require_number) : FnAt P w K mg base 4 "minus" S.f_minus := by
  obtain ⟨fd, F⟩ := c.def_ 17 (d := d_minus) rfl
  exact fnAt_mk F s_minus rfl (He.glo_ok X G (c.fact 17 (f := .glo "minus") rfl)) (fun _ z => by cases z) (binds_nil (FunD.bindsN F fun _ _ _ _ _ _ us hl => match us, hl with | [_, _], _ => rfl)) (mdl X G c rfl rfl rfl) (fns_cons ⟨_, rfl, rfl, a_number_of.mono (by decide)⟩ (fns_cons ⟨_, rfl, rfl, a_pair_of.mono (by decide)⟩ (fns_cons ⟨_, rfl, rfl, a_require_number.mono (by decide)⟩ (fns_nil)))) tr_minus
theorem s_over : FnScope c_over.N ["one", "other"] (defScope (top 14)) := ⟨rfl, rfl, rfl, by decide +kernel, rfl, by decide +kernel, by decide +kernel⟩
theorem tr_over : trSs c_over 60 (defScope (top 14)) (defBody (top 14)) = S.m_over := by kernel_rfl
theorem a_over (X : K.In h) (G : h.Ns mainGlobals mg) (c : He.SaysD fa fn K) (a_number_of : FnAt P w K mg base 2 "number_of" S.f_number_of) (a_pair_of : FnAt P w K mg base 1 "pair_of" S.f_l_pair) (a_require_number : FnAt P w K mg base 3 "require_number" S.f_require_number) : FnAt P w K mg base 4 "over" S.f_over := by
  obtain ⟨fd, F⟩ := c.def_ 18 (d := d_over) rfl
  exact fnAt_mk F s_over rfl (He.glo_ok X G (c.fact 18 (f := .glo "over") rfl)) (fun _ z => by cases z) (binds_nil (FunD.bindsN F fun _ _ _ _ _ _ us hl => match us, hl with | [_, _], _ => rfl)) (mdl X G c rfl rfl rfl) (fns_cons ⟨_, rfl, rfl, a_number_of.mono (by decide)⟩ (fns_cons ⟨_, rfl, rfl, a_pair_of.mono (by decide)⟩ (fns_cons ⟨_, rfl, rfl, a_require_number.mono (by decide)⟩ (fns_nil)))) tr_over
theorem s_total : FnScope c_total.N ["numbers"] (defScope (top 16)) := ⟨rfl, rfl, rfl, by decide +kernel, rfl, by decide +kernel, by decide +kernel⟩
theorem tr_total : trSs c_total 60 (defScope (top 16)) (defBody (top 16)) = S.m_total := by kernel_rfl
theorem a_total (X : K.In h) (G : h.Ns mainGlobals mg) (c : He.SaysD fa fn K) (a_number_of : FnAt P w K mg base 2 "number_of" S.f_number_of) (a_pair_of : FnAt P w K mg base 1 "pair_of" S.f_l_pair) : FnAt P w K mg base 3 "total" S.f_total := by
  obtain ⟨fd, F⟩ := c.def_ 19 (d := d_total) rfl
  exact fnAt_mk F s_total rfl (He.glo_ok X G (c.fact 19 (f := .glo "total") rfl)) (fun _ z => by cases z) (binds_nil (FunD.bindsN F fun _ _ _ _ _ _ us hl => match us, hl with | [_], _ => rfl)) (mdl X G c rfl rfl rfl) (fns_cons ⟨_, rfl, rfl, a_number_of.mono (by decide)⟩ (fns_cons ⟨_, rfl, rfl, a_pair_of.mono (by decide)⟩ (fns_nil))) tr_total
theorem s_plus : FnScope c_plus.N ["one", "other"] (defScope (top 11)) := ⟨rfl, rfl, rfl, by decide +kernel, rfl, by decide +kernel, by decide +kernel⟩
theorem tr_plus : trSs c_plus 60 (defScope (top 11)) (defBody (top 11)) = S.m_plus := by kernel_rfl
theorem a_plus (X : K.In h) (G : h.Ns mainGlobals mg) (c : He.SaysD fa fn K) (a_require_number : FnAt P w K mg base 3 "require_number" S.f_require_number) (a_total : FnAt P w K mg base 3 "total" S.f_total) : FnAt P w K mg base 4 "plus" S.f_plus := by
  obtain ⟨fd, F⟩ := c.def_ 20 (d := d_plus) rfl
  exact fnAt_mk F s_plus rfl (He.glo_ok X G (c.fact 20 (f := .glo "plus") rfl)) (fun _ z => by cases z) (binds_nil (FunD.bindsN F fun _ _ _ _ _ _ us hl => match us, hl with | [_, _], _ => rfl)) (mdl X G c rfl rfl rfl) (fns_cons ⟨_, rfl, rfl, a_require_number.mono (by decide)⟩ (fns_cons ⟨_, rfl, rfl, a_total.mono (by decide)⟩ (fns_nil))) tr_plus
theorem s_times : FnScope c_times.N ["one", "other"] (defScope (top 13)) := ⟨rfl, rfl, rfl, by decide +kernel, rfl, by decide +kernel, by decide +kernel⟩
theorem tr_times : trSs c_times 60 (defScope (top 13)) (defBody (top 13)) = S.m_times := by kernel_rfl
theorem a_times (X : K.In h) (G : h.Ns mainGlobals mg) (c : He.SaysD fa fn K) (a_number_of : FnAt P w K mg base 2 "number_of" S.f_number_of) (a_pair_of : FnAt P w K mg base 1 "pair_of" S.f_l_pair) (a_require_number : FnAt P w K mg base 3 "require_number" S.f_require_number) : FnAt P w K mg base 4 "times" S.f_times := by
  obtain ⟨fd, F⟩ := c.def_ 21 (d := d_times) rfl
  exact fnAt_mk F s_times rfl (He.glo_ok X G (c.fact 21 (f := .glo "times") rfl)) (fun _ z => by cases z) (binds_nil (FunD.bindsN F fun _ _ _ _ _ _ us hl => match us, hl with | [_, _], _ => rfl)) (mdl X G c rfl rfl rfl) (fns_cons ⟨_, rfl, rfl, a_number_of.mono (by decide)⟩ (fns_cons ⟨_, rfl, rfl, a_pair_of.mono (by decide)⟩ (fns_cons ⟨_, rfl, rfl, a_require_number.mono (by decide)⟩ (fns_nil)))) tr_times
theorem s_l_right : FnScope c_l_right.N ["one", "other"] (defScope (top 31)) := ⟨rfl, rfl, rfl, by decide +kernel, rfl, by decide +kernel, by decide +kernel⟩
theorem tr_l_right : trSs c_l_right 60 (defScope (top 31)) (defBody (top 31)) = S.m_l_right := by kernel_rfl
theorem a_l_right (X : K.In h) (G : h.Ns mainGlobals mg) (c : He.SaysD fa fn K) (a_l_below : FnAt P w K mg base 1 "_law_below" S.f_l_below) (a_l_diff : FnAt P w K mg base 3 "_law_diff" S.f_l_diff) (a_l_pair : FnAt P w K mg base 1 "_law_pair" S.f_l_pair) (a_l_part : FnAt P w K mg base 2 "_law_part" S.f_l_part) (a_l_prod : FnAt P w K mg base 2 "_law_prod" S.f_l_prod) (a_l_shown : FnAt P w K mg base 1 "_law_shown" S.f_l_shown) (a_l_sum : FnAt P w K mg base 2 "_law_sum" S.f_l_sum) (a_is_less : FnAt P w K mg base 4 "is_less" S.f_is_less) (a_is_number : FnAt P w K mg base 2 "is_number" S.f_is_number) (a_minus : FnAt P w K mg base 4 "minus" S.f_minus) (a_over : FnAt P w K mg base 4 "over" S.f_over) (a_plus : FnAt P w K mg base 4 "plus" S.f_plus) (a_times : FnAt P w K mg base 4 "times" S.f_times) : FnAt P w K mg base 5 "_law_right" S.f_l_right := by
  obtain ⟨fd, F⟩ := c.def_ 22 (d := d_l_right) rfl
  exact fnAt_mk F s_l_right rfl (He.glo_ok X G (c.fact 22 (f := .glo "_law_right") rfl)) (fun _ z => by cases z) (binds_nil (FunD.bindsN F fun _ _ _ _ _ _ us hl => match us, hl with | [_, _], _ => rfl)) (mdl X G c rfl rfl rfl) (fns_cons ⟨_, rfl, rfl, a_l_below.mono (by decide)⟩ (fns_cons ⟨_, rfl, rfl, a_l_diff.mono (by decide)⟩ (fns_cons ⟨_, rfl, rfl, a_l_pair.mono (by decide)⟩ (fns_cons ⟨_, rfl, rfl, a_l_part.mono (by decide)⟩ (fns_cons ⟨_, rfl, rfl, a_l_prod.mono (by decide)⟩ (fns_cons ⟨_, rfl, rfl, a_l_shown.mono (by decide)⟩ (fns_cons ⟨_, rfl, rfl, a_l_sum.mono (by decide)⟩ (fns_cons ⟨_, rfl, rfl, a_is_less.mono (by decide)⟩ (fns_cons ⟨_, rfl, rfl, a_is_number.mono (by decide)⟩ (fns_cons ⟨_, rfl, rfl, a_minus.mono (by decide)⟩ (fns_cons ⟨_, rfl, rfl, a_over.mono (by decide)⟩ (fns_cons ⟨_, rfl, rfl, a_plus.mono (by decide)⟩ (fns_cons ⟨_, rfl, rfl, a_times.mono (by decide)⟩ (fns_nil)))))))))))))) tr_l_right
theorem s_l_toss : FnScope c_l_toss.N ["purse", "many"] (defScope (top 19)) := ⟨rfl, rfl, rfl, by decide +kernel, rfl, by decide +kernel, by decide +kernel⟩
theorem tr_l_toss : trSs c_l_toss 60 (defScope (top 19)) (defBody (top 19)) = S.m_l_toss := by kernel_rfl
theorem a_l_toss (X : K.In h) (G : h.Ns mainGlobals mg) (c : He.SaysD fa fn K)  : FnAt P w K mg base 1 "_law_toss" S.f_l_toss := by
  obtain ⟨fd, F⟩ := c.def_ 23 (d := d_l_toss) rfl
  exact fnAt_mk F s_l_toss rfl (He.glo_ok X G (c.fact 23 (f := .glo "_law_toss") rfl)) (fun _ z => by cases z) (binds_nil (FunD.bindsN F fun _ _ _ _ _ _ us hl => match us, hl with | [_, _], _ => rfl)) (mdl X G c rfl rfl rfl) (fns_nil) tr_l_toss
theorem s_l_amount : FnScope c_l_amount.N ["purse", "low"] (defScope (top 28)) := ⟨rfl, rfl, rfl, by decide +kernel, rfl, by decide +kernel, by decide +kernel⟩
theorem tr_l_amount : trSs c_l_amount 60 (defScope (top 28)) (defBody (top 28)) = S.m_l_amount := by kernel_rfl
theorem a_l_amount (X : K.In h) (G : h.Ns mainGlobals mg) (c : He.SaysD fa fn K) (a_l_cut : FnAt P w K mg base 1 "_law_cut" S.f_l_cut) (a_l_shown : FnAt P w K mg base 1 "_law_shown" S.f_l_shown) (a_l_toss : FnAt P w K mg base 1 "_law_toss" S.f_l_toss) : FnAt P w K mg base 2 "_law_amount" S.f_l_amount := by
  obtain ⟨fd, F⟩ := c.def_ 24 (d := d_l_amount) rfl
  exact fnAt_mk F s_l_amount rfl (He.glo_ok X G (c.fact 24 (f := .glo "_law_amount") rfl)) (fun _ z => by cases z) (binds_nil (FunD.bindsN F fun _ _ _ _ _ _ us hl => match us, hl with | [_, _], _ => rfl)) (mdl X G c rfl rfl rfl) (fns_cons ⟨_, rfl, rfl, a_l_cut.mono (by decide)⟩ (fns_cons ⟨_, rfl, rfl, a_l_shown.mono (by decide)⟩ (fns_cons ⟨_, rfl, rfl, a_l_toss.mono (by decide)⟩ (fns_nil)))) tr_l_amount
theorem s_l_signed : FnScope c_l_signed.N ["purse"] (defScope (top 29)) := ⟨rfl, rfl, rfl, by decide +kernel, rfl, by decide +kernel, by decide +kernel⟩
theorem tr_l_signed : trSs c_l_signed 60 (defScope (top 29)) (defBody (top 29)) = S.m_l_signed := by kernel_rfl
theorem a_l_signed (X : K.In h) (G : h.Ns mainGlobals mg) (c : He.SaysD fa fn K) (a_l_amount : FnAt P w K mg base 2 "_law_amount" S.f_l_amount) (a_l_pair : FnAt P w K mg base 1 "_law_pair" S.f_l_pair) (a_l_shown : FnAt P w K mg base 1 "_law_shown" S.f_l_shown) (a_l_toss : FnAt P w K mg base 1 "_law_toss" S.f_l_toss) : FnAt P w K mg base 3 "_law_signed" S.f_l_signed := by
  obtain ⟨fd, F⟩ := c.def_ 25 (d := d_l_signed) rfl
  exact fnAt_mk F s_l_signed rfl (He.glo_ok X G (c.fact 25 (f := .glo "_law_signed") rfl)) (fun _ z => by cases z) (binds_nil (FunD.bindsN F fun _ _ _ _ _ _ us hl => match us, hl with | [_], _ => rfl)) (mdl X G c rfl rfl rfl) (fns_cons ⟨_, rfl, rfl, a_l_amount.mono (by decide)⟩ (fns_cons ⟨_, rfl, rfl, a_l_pair.mono (by decide)⟩ (fns_cons ⟨_, rfl, rfl, a_l_shown.mono (by decide)⟩ (fns_cons ⟨_, rfl, rfl, a_l_toss.mono (by decide)⟩ (fns_nil))))) tr_l_signed
theorem s_l_wide : FnScope c_l_wide.N ["purse"] (defScope (top 30)) := ⟨rfl, rfl, rfl, by decide +kernel, rfl, by decide +kernel, by decide +kernel⟩
theorem tr_l_wide : trSs c_l_wide 60 (defScope (top 30)) (defBody (top 30)) = S.m_l_wide := by kernel_rfl
theorem a_l_wide (X : K.In h) (G : h.Ns mainGlobals mg) (c : He.SaysD fa fn K) (a_l_cut : FnAt P w K mg base 1 "_law_cut" S.f_l_cut) (a_l_shown : FnAt P w K mg base 1 "_law_shown" S.f_l_shown) (a_l_toss : FnAt P w K mg base 1 "_law_toss" S.f_l_toss) : FnAt P w K mg base 2 "_law_wide" S.f_l_wide := by
  obtain ⟨fd, F⟩ := c.def_ 26 (d := d_l_wide) rfl
  exact fnAt_mk F s_l_wide rfl (He.glo_ok X G (c.fact 26 (f := .glo "_law_wide") rfl)) (fun _ z => by cases z) (binds_nil (FunD.bindsN F fun _ _ _ _ _ _ us hl => match us, hl with | [_], _ => rfl)) (mdl X G c rfl rfl rfl) (fns_cons ⟨_, rfl, rfl, a_l_cut.mono (by decide)⟩ (fns_cons ⟨_, rfl, rfl, a_l_shown.mono (by decide)⟩ (fns_cons ⟨_, rfl, rfl, a_l_toss.mono (by decide)⟩ (fns_nil)))) tr_l_wide
theorem s_law : FnScope c_law.N ["script"] (defScope (top 32)) := ⟨rfl, rfl, rfl, by decide +kernel, rfl, by decide +kernel, by decide +kernel⟩
theorem tr_law : trSs c_law 60 (defScope (top 32)) (defBody (top 32)) = m_law := by kernel_rfl
theorem g_law (X : K.In h) (G : h.Ns mainGlobals mg) (c : He.SaysD fa fn K) (a_l_purse : FnAt P w K mg base 1 "_law_purse" S.f_l_purse) (a_l_right : FnAt P w K mg base 5 "_law_right" S.f_l_right) (a_l_signed : FnAt P w K mg base 3 "_law_signed" S.f_l_signed) (a_l_toss : FnAt P w K mg base 1 "_law_toss" S.f_l_toss) (a_l_wide : FnAt P w K mg base 2 "_law_wide" S.f_l_wide) (a_is_less : FnAt P w K mg base 4 "is_less" S.f_is_less) (a_minus : FnAt P w K mg base 4 "minus" S.f_minus) (a_over : FnAt P w K mg base 4 "over" S.f_over) (a_plus : FnAt P w K mg base 4 "plus" S.f_plus) (a_times : FnAt P w K mg base 4 "times" S.f_times) {fd : FuncData} (F : FunD K "law" "law" (defArgs (top 32)) (defBody (top 32)) (defScope (top 32)) [] [] (He.ga K "law") fd) : FnG P w K mg base 6 (He.ga K "law") fd ["script"] (spF K f_law) :=
  mk_body F s_law rfl (mdl X G c rfl rfl rfl) (fns_cons ⟨_, rfl, rfl, a_l_purse.mono (by decide)⟩ (fns_cons ⟨_, rfl, rfl, a_l_right.mono (by decide)⟩ (fns_cons ⟨_, rfl, rfl, a_l_signed.mono (by decide)⟩ (fns_cons ⟨_, rfl, rfl, a_l_toss.mono (by decide)⟩ (fns_cons ⟨_, rfl, rfl, a_l_wide.mono (by decide)⟩ (fns_cons ⟨_, rfl, rfl, a_is_less.mono (by decide)⟩ (fns_cons ⟨_, rfl, rfl, a_minus.mono (by decide)⟩ (fns_cons ⟨_, rfl, rfl, a_over.mono (by decide)⟩ (fns_cons ⟨_, rfl, rfl, a_plus.mono (by decide)⟩ (fns_cons ⟨_, rfl, rfl, a_times.mono (by decide)⟩ (fns_nil))))))))))) tr_law
end
theorem facts {P : Program} {w : World} {K : PySem.W.Frag} {h : Heap} {mg : Str → Option Value} {f : Addr} (X : K.In h) (G : h.Ns mainGlobals mg) (hf : mg ("law" : Str) = some (.ref f)) (c : He.SaysD fa fn K) :
    ∃ fd : FuncData, (∀ (s : Shared) (u : Value), BindsTo s fd ⟨[u], []⟩ [("script", u)]) ∧ ∀ base : Heap, K.In base → base.Ns mainGlobals mg → FnG P w K mg base 6 f fd ["script"] (spF K f_law) := by
  obtain ⟨fd, F⟩ := c.def_ 27 (d := d_law) rfl
  have e := hf.symm.trans (He.glo_ok X G (c.fact 27 (f := .glo "law") rfl))
  cases e
  have b := FunD.bindsA (ps := ["script"]) F fun _ _ _ _ _ _ us hl => match us, hl with | [_], _ => rfl
  refine ⟨fd, fun s u => b s [u] rfl, fun base _ _ => ?_⟩
  have h_l_purse := a_l_purse (P := P) (w := w) (base := base) X G c 
  have h_l_below := a_l_below (P := P) (w := w) (base := base) X G c 
  have h_l_cut := a_l_cut (P := P) (w := w) (base := base) X G c 
  have h_l_sum := a_l_sum (P := P) (w := w) (base := base) X G c h_l_cut
  have h_l_diff := a_l_diff (P := P) (w := w) (base := base) X G c h_l_sum
  have h_l_pair := a_l_pair (P := P) (w := w) (base := base) X G c 
  have h_l_part := a_l_part (P := P) (w := w) (base := base) X G c h_l_cut
  have h_l_prod := a_l_prod (P := P) (w := w) (base := base) X G c h_l_cut
  have h_l_shown := a_l_shown (P := P) (w := w) (base := base) X G c 
  have h_pair_of := a_pair_of (P := P) (w := w) (base := base) X G c 
  have h_less := a_less (P := P) (w := w) (base := base) X G c h_pair_of
  have h_common_divisor := a_common_divisor (P := P) (w := w) (base := base) X G c 
  have h_is_int := a_is_int (P := P) (w := w) (base := base) X G c 
  have h_is_number := a_is_number (P := P) (w := w) (base := base) X G c h_common_divisor h_is_int
  have h_require_number := a_require_number (P := P) (w := w) (base := base) X G c h_is_number h_less
  have h_is_less := a_is_less (P := P) (w := w) (base := base) X G c h_less h_require_number
  have h_number_of := a_number_of (P := P) (w := w) (base := base) X G c h_common_divisor
  have h_minus := a_minus (P := P) (w := w) (base := base) X G c h_number_of h_pair_of h_require_number
  have h_over := a_over (P := P) (w := w) (base := base) X G c h_number_of h_pair_of h_require_number
  have h_total := a_total (P := P) (w := w) (base := base) X G c h_number_of h_pair_of
  have h_plus := a_plus (P := P) (w := w) (base := base) X G c h_require_number h_total
  have h_times := a_times (P := P) (w := w) (base := base) X G c h_number_of h_pair_of h_require_number
  have h_l_right := a_l_right (P := P) (w := w) (base := base) X G c h_l_below h_l_diff h_l_pair h_l_part h_l_prod h_l_shown h_l_sum h_is_less h_is_number h_minus h_over h_plus h_times
  have h_l_toss := a_l_toss (P := P) (w := w) (base := base) X G c 
  have h_l_amount := a_l_amount (P := P) (w := w) (base := base) X G c h_l_cut h_l_shown h_l_toss
  have h_l_signed := a_l_signed (P := P) (w := w) (base := base) X G c h_l_amount h_l_pair h_l_shown h_l_toss
  have h_l_wide := a_l_wide (P := P) (w := w) (base := base) X G c h_l_cut h_l_shown h_l_toss
  exact g_law X G c h_l_purse h_l_right h_l_signed h_l_toss h_l_wide h_is_less h_minus h_over h_plus h_times F
end K02
open PySem PySem.W PySem.Calls
open PyProof.Rows hiding St
theorem PySem.Challenge.cw_salesplit_k02_sums_and_products_holds : PySem.Challenge.rw_salesplit_k02_sums_and_products.Holds := by
  w_on; o_law
  refine HandSHeadRun.head_any (r := OpenLaw.row PySem.Challenge.rw_salesplit_k02_sums_and_products) (q := view (OpenLaw.row PySem.Challenge.rw_salesplit_k02_sums_and_products).prog [32]) (H := K02.hk) (ob := K02.ob) (M := 20000) (loose := K02.lo)
    (d := HandSHeadRun.topDef (OpenLaw.row PySem.Challenge.rw_salesplit_k02_sums_and_products).prog 32) (kwd := []) K02.obEq
    (by kernel_rfl) (fun s => by kernel_rfl) K02.runs (by kernel_rfl) (by kernel_rfl) (by kernel_rfl) (by rfl) (by first | assumption | decide +kernel) (by decide +kernel) ⟨rfl, rfl, rfl, rfl, rfl, by decide +kernel⟩ ?hw ?hc
  case hw => w_witness2
  case hc =>
    refine Z.end_law (l := PySem.Challenge.rw_salesplit_k02_sums_and_products) (n := 63) (k := 6) (x := "script") (fn := K02.f_law) rfl (by decide) (by kernel_rfl) ⟨rfl, by decide, by decide⟩ rfl rfl rfl K02.main ?_
    intro w mg f h Y G nm0
    obtain ⟨K, X, c⟩ := Y
    have nm : mg ("law" : PySem.Str) = some (.ref f) := by
      have e : (HandSHeadRun.topDef (OpenLaw.row PySem.Challenge.rw_salesplit_k02_sums_and_products).prog 32).name = ("law" : PySem.Str) := by kernel_rfl
      rw [← e]
      exact nm0
    obtain ⟨fd, b, F⟩ := K02.facts (P := (PySem.Challenge.rw_salesplit_k02_sums_and_products).prog) (w := w) X G nm c
    exact ⟨K, fd, X, b, F⟩
