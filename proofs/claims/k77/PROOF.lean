import PyProof.Rows.All
import Wide.All
import OpenK.AllK
import Wide.FinOn
import HandS.ForMost
import HandS.Star
import HandS.Wide
import HandS.TupAny
import HandS.TupLe
import HandS.TupMul
import HandS.Deep
import KE.DataMinMax
import KE.SortData
import HandS.Zip
import KE.GoesEnum
import KE.GoesNew
import HandS.Style
import HandS.IsInst
import HandS.NoneIn
import HandS.SetFor
import HandS.Strs
import HandS.Conv
import HandS.EndBits
import PySem.Challenge.RW_holesheldopen_k77_whole_clocks_by_bounds
set_option Elab.async false
set_option linter.all false
set_option maxRecDepth 100000
section
set_option maxHeartbeats 1000000
namespace DL
open PySem PySem.Spec PyProof.Rows L2

/-! ### shared data -/
def kD : Key → PyData
  | .inl i => .int i
  | .inr x => .str x
mutual
inductive Rp (K : PySem.W.Frag) (H : Hp) : V → PyData → Prop
  | non : Rp K H .non .none
  | bl (b : Bool) : Rp K H (.bl b) (.bool b)
  | int (i : Int) : Rp K H (.int i) (.int i)
  | str (x : Str) : Rp K H (.str x) (.str x)
  | lst {a : Addr} {xs : List V} {ds : List PyData} : SqL K H a xs → RpL K H xs ds → Rp K H (.ref a) (.list ds)
  | tup {a : Addr} {xs : List V} {ds : List PyData} : H a = some (.tup xs) → RpL K H xs ds → Rp K H (.ref a) (.tuple ds)
  | dk {a : Addr} {kvs : List (Key × V)} {es : List (PyData × PyData)} : H a = some (.dK kvs) → RpK K H kvs es → Rp K H (.ref a) (.dict es)
  | dt {a : Addr} {kvs : List (List Key × V)} {es : List (PyData × PyData)} : H a = some (.dT kvs) → RpT K H kvs es → Rp K H (.ref a) (.dict ((.none, .none) :: es))
inductive RpL (K : PySem.W.Frag) (H : Hp) : List V → List PyData → Prop
  | nil : RpL K H [] []
  | cons {v : V} {vs : List V} {d : PyData} {ds : List PyData} : Rp K H v d → RpL K H vs ds → RpL K H (v :: vs) (d :: ds)
inductive RpK (K : PySem.W.Frag) (H : Hp) : List (Key × V) → List (PyData × PyData) → Prop
  | nil : RpK K H [] []
  | cons {k : Key} {v : V} {vs : List (Key × V)} {d : PyData} {ds : List (PyData × PyData)} : Rp K H v d → RpK K H vs ds → RpK K H ((k, v) :: vs) ((kD k, d) :: ds)
inductive RpT (K : PySem.W.Frag) (H : Hp) : List (List Key × V) → List (PyData × PyData) → Prop
  | nil : RpT K H [] []
  | cons {k : List Key} {v : V} {vs : List (List Key × V)} {d : PyData} {ds : List (PyData × PyData)} : Rp K H v d → RpT K H vs ds → RpT K H ((k, v) :: vs) ((.tuple (k.map kD), d) :: ds)
end
mutual
/-- owned to depth n: at depth 0 a shared value -/
inductive Own (K : PySem.W.Frag) (G H : Hp) : Nat → V → PyData → List Addr → Prop
  | leaf {v : V} {d : PyData} : Rp K G v d → Own K G H 0 v d []
  | lst {n : Nat} {a : Addr} {xs : List V} {ds : List PyData} {T : List Addr} : H a = some (.lst xs) → OwnL K G H n xs ds T → a ∉ T → Own K G H (n + 1) (.ref a) (.list ds) (a :: T)
  | dk {n : Nat} {a : Addr} {kvs : List (Key × V)} {es : List (PyData × PyData)} {T : List Addr} : H a = some (.dK kvs) → OwnK K G H n kvs es T → a ∉ T → Own K G H (n + 1) (.ref a) (.dict es) (a :: T)
  | dt {n : Nat} {a : Addr} {kvs : List (List Key × V)} {es : List (PyData × PyData)} {T : List Addr} : H a = some (.dT kvs) → OwnT K G H n kvs es T → a ∉ T → Own K G H (n + 1) (.ref a) (.dict ((.none, .none) :: es)) (a :: T)
inductive OwnL (K : PySem.W.Frag) (G H : Hp) : Nat → List V → List PyData → List Addr → Prop
  | nil {n : Nat} : OwnL K G H n [] [] []
  | cons {n : Nat} {v : V} {vs : List V} {d : PyData} {ds : List PyData} {T S : List Addr} : Own K G H n v d T → OwnL K G H n vs ds S → (∀ a ∈ T, a ∉ S) → OwnL K G H n (v :: vs) (d :: ds) (T ++ S)
inductive OwnK (K : PySem.W.Frag) (G H : Hp) : Nat → List (Key × V) → List (PyData × PyData) → List Addr → Prop
  | nil {n : Nat} : OwnK K G H n [] [] []
  | cons {n : Nat} {k : Key} {v : V} {vs : List (Key × V)} {d : PyData} {ds : List (PyData × PyData)} {T S : List Addr} : Own K G H n v d T → OwnK K G H n vs ds S → (∀ a ∈ T, a ∉ S) → OwnK K G H n ((k, v) :: vs) ((kD k, d) :: ds) (T ++ S)
inductive OwnT (K : PySem.W.Frag) (G H : Hp) : Nat → List (List Key × V) → List (PyData × PyData) → List Addr → Prop
  | nil {n : Nat} : OwnT K G H n [] [] []
  | cons {n : Nat} {k : List Key} {v : V} {vs : List (List Key × V)} {d : PyData} {ds : List (PyData × PyData)} {T S : List Addr} : Own K G H n v d T → OwnT K G H n vs ds S → (∀ a ∈ T, a ∉ S) → OwnT K G H n ((k, v) :: vs) ((.tuple (k.map kD), d) :: ds) (T ++ S)
end
mutual
/-- what may be read now: at depth 0 a shared value -/
inductive Bw (K : PySem.W.Frag) (G H : Hp) : Nat → V → PyData → Prop
  | sh {v : V} {d : PyData} : Rp K G v d → Bw K G H 0 v d
  | lst {n : Nat} {a : Addr} {xs : List V} {ds : List PyData} : H a = some (.lst xs) → BwL K G H n xs ds → Bw K G H (n + 1) (.ref a) (.list ds)
  | dk {n : Nat} {a : Addr} {kvs : List (Key × V)} {es : List (PyData × PyData)} : H a = some (.dK kvs) → BwK K G H n kvs es → Bw K G H (n + 1) (.ref a) (.dict es)
  | dt {n : Nat} {a : Addr} {kvs : List (List Key × V)} {es : List (PyData × PyData)} : H a = some (.dT kvs) → BwT K G H n kvs es → Bw K G H (n + 1) (.ref a) (.dict ((.none, .none) :: es))
inductive BwL (K : PySem.W.Frag) (G H : Hp) : Nat → List V → List PyData → Prop
  | nil {n : Nat} : BwL K G H n [] []
  | cons {n : Nat} {v : V} {vs : List V} {d : PyData} {ds : List PyData} : Bw K G H n v d → BwL K G H n vs ds → BwL K G H n (v :: vs) (d :: ds)
inductive BwK (K : PySem.W.Frag) (G H : Hp) : Nat → List (Key × V) → List (PyData × PyData) → Prop
  | nil {n : Nat} : BwK K G H n [] []
  | cons {n : Nat} {k : Key} {v : V} {vs : List (Key × V)} {d : PyData} {ds : List (PyData × PyData)} : Bw K G H n v d → BwK K G H n vs ds → BwK K G H n ((k, v) :: vs) ((kD k, d) :: ds)
inductive BwT (K : PySem.W.Frag) (G H : Hp) : Nat → List (List Key × V) → List (PyData × PyData) → Prop
  | nil {n : Nat} : BwT K G H n [] []
  | cons {n : Nat} {k : List Key} {v : V} {vs : List (List Key × V)} {d : PyData} {ds : List (PyData × PyData)} : Bw K G H n v d → BwT K G H n vs ds → BwT K G H n ((k, v) :: vs) ((.tuple (k.map kD), d) :: ds)
end

section
variable {K : PySem.W.Frag} {G G' H H' : Hp}
theorem same_rd {a : Addr} {u : HO} (e : Same H H') (h : Rd H a u) : Rd H' a u := by
  rcases h with h | ⟨o, h⟩
  · exact .inl (e _ _ h)
  · exact .inr ⟨o, e _ _ h⟩
theorem same_l {a : Addr} {xs : List V} (e : Same H H') (h : SqL K H a xs) : SqL K H' a xs := h.elim (fun h => .inl (same_rd e h)) .inr
theorem same_t {a : Addr} {xs : List V} (e : Same H H') (h : SqT K H a xs) : SqT K H' a xs := h.elim (fun h => .inl (same_rd e h)) .inr
mutual
theorem Rp.mono (e : Same H H') : ∀ {v : V} {d : PyData}, Rp K H v d → Rp K H' v d
  | _, _, .non => .non
  | _, _, .bl b => .bl b
  | _, _, .int i => .int i
  | _, _, .str x => .str x
  | _, _, .lst h r => .lst (same_l e h) (RpL.mono e r)
  | _, _, .tup h r => .tup (e _ _ h) (RpL.mono e r)
  | _, _, .dk h r => .dk (e _ _ h) (RpK.mono e r)
  | _, _, .dt h r => .dt (e _ _ h) (RpT.mono e r)
theorem RpL.mono (e : Same H H') : ∀ {v : List V} {d : List PyData}, RpL K H v d → RpL K H' v d
  | _, _, .nil => .nil
  | _, _, .cons h r => .cons (Rp.mono e h) (RpL.mono e r)
theorem RpK.mono (e : Same H H') : ∀ {v : List (Key × V)} {d : List (PyData × PyData)}, RpK K H v d → RpK K H' v d
  | _, _, .nil => .nil
  | _, _, .cons h r => .cons (Rp.mono e h) (RpK.mono e r)
theorem RpT.mono (e : Same H H') : ∀ {v : List (List Key × V)} {d : List (PyData × PyData)}, RpT K H v d → RpT K H' v d
  | _, _, .nil => .nil
  | _, _, .cons h r => .cons (Rp.mono e h) (RpT.mono e r)
end
mutual
theorem Own.mono (e : Same G G') : ∀ {n : Nat} {v : V} {d : PyData} {T : List Addr}, (∀ a ∈ T, ∀ o, H a = some o → H' a = some o) → Own K G H n v d T → Own K G' H' n v d T
  | _, _, _, _, _, .leaf h => .leaf (h.mono e)
  | _, _, _, _, t, .lst h r n => .lst (t _ (List.mem_cons_self) _ h) (OwnL.mono e (fun a ha => t a (List.mem_cons_of_mem _ ha)) r) n
  | _, _, _, _, t, .dk h r n => .dk (t _ (List.mem_cons_self) _ h) (OwnK.mono e (fun a ha => t a (List.mem_cons_of_mem _ ha)) r) n
  | _, _, _, _, t, .dt h r n => .dt (t _ (List.mem_cons_self) _ h) (OwnT.mono e (fun a ha => t a (List.mem_cons_of_mem _ ha)) r) n
theorem OwnL.mono (e : Same G G') : ∀ {n : Nat} {v : List V} {d : List PyData} {T : List Addr}, (∀ a ∈ T, ∀ o, H a = some o → H' a = some o) → OwnL K G H n v d T → OwnL K G' H' n v d T
  | _, _, _, _, _, .nil => .nil
  | _, _, _, _, t, .cons h r n => .cons (Own.mono e (fun a ha => t a (List.mem_append_left _ ha)) h) (OwnL.mono e (fun a ha => t a (List.mem_append_right _ ha)) r) n
theorem OwnK.mono (e : Same G G') : ∀ {n : Nat} {v : List (Key × V)} {d : List (PyData × PyData)} {T : List Addr}, (∀ a ∈ T, ∀ o, H a = some o → H' a = some o) → OwnK K G H n v d T → OwnK K G' H' n v d T
  | _, _, _, _, _, .nil => .nil
  | _, _, _, _, t, .cons h r n => .cons (Own.mono e (fun a ha => t a (List.mem_append_left _ ha)) h) (OwnK.mono e (fun a ha => t a (List.mem_append_right _ ha)) r) n
theorem OwnT.mono (e : Same G G') : ∀ {n : Nat} {v : List (List Key × V)} {d : List (PyData × PyData)} {T : List Addr}, (∀ a ∈ T, ∀ o, H a = some o → H' a = some o) → OwnT K G H n v d T → OwnT K G' H' n v d T
  | _, _, _, _, _, .nil => .nil
  | _, _, _, _, t, .cons h r n => .cons (Own.mono e (fun a ha => t a (List.mem_append_left _ ha)) h) (OwnT.mono e (fun a ha => t a (List.mem_append_right _ ha)) r) n
end
mutual
/-- given up: from now on shared -/
theorem Own.rp (e : Same G G') : ∀ {n : Nat} {v : V} {d : PyData} {T : List Addr}, (∀ a ∈ T, ∀ o, H a = some o → G' a = some o) → Own K G H n v d T → Rp K G' v d
  | _, _, _, _, _, .leaf h => h.mono e
  | _, _, _, _, t, .lst h r n => .lst (.of (t _ (List.mem_cons_self) _ h)) (OwnL.rp e (fun a ha => t a (List.mem_cons_of_mem _ ha)) r)
  | _, _, _, _, t, .dk h r n => .dk (t _ (List.mem_cons_self) _ h) (OwnK.rp e (fun a ha => t a (List.mem_cons_of_mem _ ha)) r)
  | _, _, _, _, t, .dt h r n => .dt (t _ (List.mem_cons_self) _ h) (OwnT.rp e (fun a ha => t a (List.mem_cons_of_mem _ ha)) r)
theorem OwnL.rp (e : Same G G') : ∀ {n : Nat} {v : List V} {d : List PyData} {T : List Addr}, (∀ a ∈ T, ∀ o, H a = some o → G' a = some o) → OwnL K G H n v d T → RpL K G' v d
  | _, _, _, _, _, .nil => .nil
  | _, _, _, _, t, .cons h r n => .cons (Own.rp e (fun a ha => t a (List.mem_append_left _ ha)) h) (OwnL.rp e (fun a ha => t a (List.mem_append_right _ ha)) r)
theorem OwnK.rp (e : Same G G') : ∀ {n : Nat} {v : List (Key × V)} {d : List (PyData × PyData)} {T : List Addr}, (∀ a ∈ T, ∀ o, H a = some o → G' a = some o) → OwnK K G H n v d T → RpK K G' v d
  | _, _, _, _, _, .nil => .nil
  | _, _, _, _, t, .cons h r n => .cons (Own.rp e (fun a ha => t a (List.mem_append_left _ ha)) h) (OwnK.rp e (fun a ha => t a (List.mem_append_right _ ha)) r)
theorem OwnT.rp (e : Same G G') : ∀ {n : Nat} {v : List (List Key × V)} {d : List (PyData × PyData)} {T : List Addr}, (∀ a ∈ T, ∀ o, H a = some o → G' a = some o) → OwnT K G H n v d T → RpT K G' v d
  | _, _, _, _, _, .nil => .nil
  | _, _, _, _, t, .cons h r n => .cons (Own.rp e (fun a ha => t a (List.mem_append_left _ ha)) h) (OwnT.rp e (fun a ha => t a (List.mem_append_right _ ha)) r)
end
mutual
theorem Own.bw : ∀ {n : Nat} {v : V} {d : PyData} {T : List Addr}, Own K G H n v d T → Bw K G H n v d
  | _, _, _, _, .leaf h => .sh h
  | _, _, _, _, .lst h r n => .lst h (OwnL.bw r)
  | _, _, _, _, .dk h r n => .dk h (OwnK.bw r)
  | _, _, _, _, .dt h r n => .dt h (OwnT.bw r)
theorem OwnL.bw : ∀ {n : Nat} {v : List V} {d : List PyData} {T : List Addr}, OwnL K G H n v d T → BwL K G H n v d
  | _, _, _, _, .nil => .nil
  | _, _, _, _, .cons h r n => .cons (Own.bw h) (OwnL.bw r)
theorem OwnK.bw : ∀ {n : Nat} {v : List (Key × V)} {d : List (PyData × PyData)} {T : List Addr}, OwnK K G H n v d T → BwK K G H n v d
  | _, _, _, _, .nil => .nil
  | _, _, _, _, .cons h r n => .cons (Own.bw h) (OwnK.bw r)
theorem OwnT.bw : ∀ {n : Nat} {v : List (List Key × V)} {d : List (PyData × PyData)} {T : List Addr}, OwnT K G H n v d T → BwT K G H n v d
  | _, _, _, _, .nil => .nil
  | _, _, _, _, .cons h r n => .cons (Own.bw h) (OwnT.bw r)
end
mutual
theorem Bw.mono (e : Same G G') (f : Same H H') : ∀ {n : Nat} {v : V} {d : PyData}, Bw K G H n v d → Bw K G' H' n v d
  | _, _, _, .sh h => .sh (h.mono e)
  | _, _, _, .lst h r => .lst (f _ _ h) (BwL.mono e f r)
  | _, _, _, .dk h r => .dk (f _ _ h) (BwK.mono e f r)
  | _, _, _, .dt h r => .dt (f _ _ h) (BwT.mono e f r)
theorem BwL.mono (e : Same G G') (f : Same H H') : ∀ {n : Nat} {v : List V} {d : List PyData}, BwL K G H n v d → BwL K G' H' n v d
  | _, _, _, .nil => .nil
  | _, _, _, .cons h r => .cons (Bw.mono e f h) (BwL.mono e f r)
theorem BwK.mono (e : Same G G') (f : Same H H') : ∀ {n : Nat} {v : List (Key × V)} {d : List (PyData × PyData)}, BwK K G H n v d → BwK K G' H' n v d
  | _, _, _, .nil => .nil
  | _, _, _, .cons h r => .cons (Bw.mono e f h) (BwK.mono e f r)
theorem BwT.mono (e : Same G G') (f : Same H H') : ∀ {n : Nat} {v : List (List Key × V)} {d : List (PyData × PyData)}, BwT K G H n v d → BwT K G' H' n v d
  | _, _, _, .nil => .nil
  | _, _, _, .cons h r => .cons (Bw.mono e f h) (BwT.mono e f r)
end
mutual
theorem Bw.rp (e : Same G H) : ∀ {n : Nat} {v : V} {d : PyData}, Bw K G H n v d → Rp K H v d
  | _, _, _, .sh h => h.mono e
  | _, _, _, .lst h r => .lst (.of h) (BwL.rp e r)
  | _, _, _, .dk h r => .dk h (BwK.rp e r)
  | _, _, _, .dt h r => .dt h (BwT.rp e r)
theorem BwL.rp (e : Same G H) : ∀ {n : Nat} {v : List V} {d : List PyData}, BwL K G H n v d → RpL K H v d
  | _, _, _, .nil => .nil
  | _, _, _, .cons h r => .cons (Bw.rp e h) (BwL.rp e r)
theorem BwK.rp (e : Same G H) : ∀ {n : Nat} {v : List (Key × V)} {d : List (PyData × PyData)}, BwK K G H n v d → RpK K H v d
  | _, _, _, .nil => .nil
  | _, _, _, .cons h r => .cons (Bw.rp e h) (BwK.rp e r)
theorem BwT.rp (e : Same G H) : ∀ {n : Nat} {v : List (List Key × V)} {d : List (PyData × PyData)}, BwT K G H n v d → RpT K H v d
  | _, _, _, .nil => .nil
  | _, _, _, .cons h r => .cons (Bw.rp e h) (BwT.rp e r)
end
end
end DL

end
section
set_option maxHeartbeats 1000000
namespace DL
open PySem PySem.Spec L2

/-! ### regions, slots -/
abbrev Rg := Addr → Prop
open Classical in
noncomputable def sub (H : Hp) (U : Rg) : Hp := fun a => if U a then none else H a
theorem sub_at {H : Hp} {U : Rg} {a : Addr} {o : HO} (h : ¬ U a) (e : H a = some o) : sub H U a = some o := by
  unfold sub; rw [if_neg h]; exact e
theorem of_sub {H : Hp} {U : Rg} {a : Addr} {o : HO} (e : sub H U a = some o) : ¬ U a ∧ H a = some o := by
  unfold sub at e
  split at e
  · cases e
  · rename_i h; exact ⟨h, e⟩
theorem sub_le {H : Hp} {U : Rg} : Same (sub H U) H := fun a o e => (of_sub e).2
def emp : Rg := fun _ => False
theorem sub_emp {H : Hp} : Same H (sub H emp) := fun a o e => sub_at (fun z => z) e

def mu : HO → Bool
  | .lst _ => true
  | .dK _ => true
  | .dT _ => true
  | _ => false
def Dm (H : Hp) (a : Addr) : Prop := ∃ o, H a = some o ∧ mu o = true
theorem Dm.ex {H : Hp} {a : Addr} (h : Dm H a) : ∃ o, H a = some o := let ⟨o, e, _⟩ := h; ⟨o, e⟩
theorem Dm.mono {H H' : Hp} {a : Addr} (h : Dm H a) (e : Same H H') : Dm H' a := let ⟨o, q, m⟩ := h; ⟨o, e a o q, m⟩
inductive Md | S | F (n : Nat) | B (n : Nat)
  deriving DecidableEq
def Md.b : Md → Bool
  | .B _ => true
  | _ => false
inductive Sl | no | sh (d : PyData) | ow (n : Nat) (d : PyData)
abbrev Rho := List Sl

inductive SlOk (K : PySem.W.Frag) (U : Rg) (H : Hp) (v : Option (Option V)) : Sl → List Addr → Prop
  | no : SlOk K U H v .no []
  | sh {x : V} {d : PyData} : v = some (some x) → Rp K (sub H U) x d → SlOk K U H v (.sh d) []
  | ow {n : Nat} {x : V} {d : PyData} {T : List Addr} : v = some (some x) → Own K (sub H U) H n x d T → SlOk K U H v (.ow n d) T

structure Lay (K : PySem.W.Frag) (R U : Rg) (ρ : Rho) (σ : St) (H : Hp) (ow : Nat → List Addr) : Prop where
  all : ∀ a, U a ↔ (R a ∨ ∃ i, a ∈ ow i)
  far : ∀ i a, a ∈ ow i → ¬ R a
  two : ∀ i j a, i ≠ j → a ∈ ow i → a ∉ ow j
  at_ : ∀ i s, ρ[i]? = some s → SlOk K U H σ[i]? s (ow i)
  out : ∀ i, ρ[i]? = none → ow i = []
  dom : ∀ a, R a → Dm H a
structure SR (K : PySem.W.Frag) (R U : Rg) (pn : List (Nat × V)) (ρ : Rho) (σ : St) (H : Hp) : Prop where
  len : ρ.length = σ.length
  lay : ∃ ow, Lay K R U ρ σ H ow
  pin : ∀ p ∈ pn, σ[p.1]? = some (some p.2)

def Vl (K : PySem.W.Frag) (U : Rg) (H : Hp) (v : V) (d : PyData) : Md → List Addr → Prop
  | .S, T => T = [] ∧ Rp K (sub H U) v d
  | .F n, T => Own K (sub H U) H n v d T
  | .B n, T => T = [] ∧ Bw K (sub H U) H n v d
inductive VlL (K : PySem.W.Frag) (U : Rg) (H : Hp) : List V → List (PyData × Md) → List Addr → Prop
  | nil : VlL K U H [] [] []
  | cons {v : V} {vs : List V} {d : PyData} {m : Md} {rs : List (PyData × Md)} {T S : List Addr} : Vl K U H v d m T → VlL K U H vs rs S → (∀ a ∈ T, a ∉ S) → VlL K U H (v :: vs) ((d, m) :: rs) (T ++ S)

def Fr (R U : Rg) (H : Hp) (U' : Rg) (H' : Hp) : Prop := ∀ a o, H a = some o → (R a → H' a = some o ∧ U' a) ∧ (¬ U a → H' a = some o ∧ ¬ U' a)
abbrev plus (R : Rg) (T : List Addr) : Rg := fun a => R a ∨ a ∈ T

section
variable {K : PySem.W.Frag} {R R1 U U' U'' : Rg} {pn : List (Nat × V)} {ρ ρ' : Rho} {σ σ' : St} {H H' H'' : Hp} {v x : V} {d : PyData} {m : Md} {T S : List Addr}
theorem Fr.refl : Fr R U H U H → True := fun _ => True.intro
theorem fr_refl (h : ∀ a, R a → U a) : Fr R U H U H := fun a o e => ⟨fun r => ⟨e, h a r⟩, fun n => ⟨e, n⟩⟩
theorem Fr.trans (a : Fr R U H U' H') (b : Fr (plus R T) U' H' U'' H'') : Fr R U H U'' H'' := fun x o e =>
  ⟨fun r => (b x o ((a x o e).1 r).1).1 (.inl r), fun n => (b x o ((a x o e).2 n).1).2 ((a x o e).2 n).2⟩
theorem Fr.trans0 (a : Fr R U H U' H') (b : Fr R U' H' U'' H'') : Fr R U H U'' H'' := fun x o e =>
  ⟨fun r => (b x o ((a x o e).1 r).1).1 r, fun n => (b x o ((a x o e).2 n).1).2 ((a x o e).2 n).2⟩
theorem Fr.sub (a : Fr R U H U' H') : Same (sub H U) (sub H' U') := fun x o e =>
  let ⟨n, h⟩ := of_sub e
  let ⟨h1, n1⟩ := (a x o h).2 n
  sub_at n1 h1
mutual
theorem Own.dom {G : Hp} : ∀ {n : Nat} {v : V} {d : PyData} {T : List Addr}, Own K G H n v d T → ∀ a ∈ T, Dm H a
  | _, _, _, _, .leaf _ => fun _ h => nomatch h
  | _, _, _, _, .lst h r _ => fun a ha => (List.mem_cons.mp ha).elim (fun e => ⟨_, e ▸ h, rfl⟩) (OwnL.dom r a)
  | _, _, _, _, .dk h r _ => fun a ha => (List.mem_cons.mp ha).elim (fun e => ⟨_, e ▸ h, rfl⟩) (OwnK.dom r a)
  | _, _, _, _, .dt h r _ => fun a ha => (List.mem_cons.mp ha).elim (fun e => ⟨_, e ▸ h, rfl⟩) (OwnT.dom r a)
theorem OwnL.dom {G : Hp} : ∀ {n : Nat} {v : List V} {d : List PyData} {T : List Addr}, OwnL K G H n v d T → ∀ a ∈ T, Dm H a
  | _, _, _, _, .nil => fun _ h => nomatch h
  | _, _, _, _, .cons h r _ => fun a ha => (List.mem_append.mp ha).elim (Own.dom h a) (OwnL.dom r a)
theorem OwnK.dom {G : Hp} : ∀ {n : Nat} {v : List (Key × V)} {d : List (PyData × PyData)} {T : List Addr}, OwnK K G H n v d T → ∀ a ∈ T, Dm H a
  | _, _, _, _, .nil => fun _ h => nomatch h
  | _, _, _, _, .cons h r _ => fun a ha => (List.mem_append.mp ha).elim (Own.dom h a) (OwnK.dom r a)
theorem OwnT.dom {G : Hp} : ∀ {n : Nat} {v : List (List Key × V)} {d : List (PyData × PyData)} {T : List Addr}, OwnT K G H n v d T → ∀ a ∈ T, Dm H a
  | _, _, _, _, .nil => fun _ h => nomatch h
  | _, _, _, _, .cons h r _ => fun a ha => (List.mem_append.mp ha).elim (Own.dom h a) (OwnT.dom r a)
end
theorem SlOk.dom {o : Option (Option V)} {s : Sl} (h : SlOk K U H o s T) : ∀ a ∈ T, Dm H a := by
  cases h with
  | no => exact fun _ z => nomatch z
  | sh _ _ => exact fun _ z => nomatch z
  | ow _ h => exact h.dom
theorem SlOk.mono {o : Option (Option V)} {s : Sl} (e : Same (sub H U) (sub H' U')) (t : ∀ a ∈ T, ∀ u, H a = some u → H' a = some u) (h : SlOk K U H o s T) : SlOk K U' H' o s T := by
  cases h with
  | no => exact .no
  | sh a b => exact .sh a (b.mono e)
  | ow a b => exact .ow a (b.mono e t)
theorem Lay.domM {ow : Nat → List Addr} (L : Lay K R U ρ σ H ow) : ∀ a, U a → Dm H a := fun a h => by
  rcases (L.all a).mp h with h | ⟨i, h⟩
  · exact L.dom a h
  · cases e : ρ[i]? with
    | none => rw [L.out i e] at h; cases h
    | some s => exact (L.at_ i s e).dom a h
theorem Lay.domU {ow : Nat → List Addr} (L : Lay K R U ρ σ H ow) : ∀ a, U a → ∃ o, H a = some o := fun a h => (L.domM a h).ex
theorem SR.domU (I : SR K R U pn ρ σ H) : ∀ a, U a → ∃ o, H a = some o := let ⟨_, L⟩ := I.lay; L.domU
theorem SR.domM (I : SR K R U pn ρ σ H) : ∀ a, U a → Dm H a := let ⟨_, L⟩ := I.lay; L.domM
theorem SR.ru (I : SR K R U pn ρ σ H) : ∀ a, R a → U a := fun a h => let ⟨_, L⟩ := I.lay; (L.all a).mpr (.inl h)
theorem SR.frefl (I : SR K R U pn ρ σ H) : Fr R U H U H := fr_refl I.ru
/-- the heap grows; new temporaries T -/
theorem SR.grow (I : SR K R U pn ρ σ H) (e : Same H H') (hT : ∀ a ∈ T, H a = none) (dT : ∀ a ∈ T, Dm H' a) : SR K (plus R T) (plus U T) pn ρ σ H' := by
  obtain ⟨hl, ⟨ow, L⟩, hp⟩ := I
  have ss : Same (DL.sub H U) (DL.sub H' (plus U T)) := fun a o h => by
    obtain ⟨n, h⟩ := of_sub h
    refine sub_at (fun z => z.elim n fun z => ?_) (e a o h)
    rw [hT a z] at h; cases h
  refine ⟨hl, ⟨ow, fun a => ?_, fun i a h z => ?_, L.two, fun i s h => (L.at_ i s h).mono ss fun a ha u h => e a u h, L.out, fun a h => ?_⟩, hp⟩
  · constructor
    · rintro (h | h)
      · rcases (L.all a).mp h with h | h
        · exact .inl (.inl h)
        · exact .inr h
      · exact .inl (.inr h)
    · rintro ((h | h) | h)
      · exact .inl ((L.all a).mpr (.inl h))
      · exact .inr h
      · exact .inl ((L.all a).mpr (.inr h))
  · rcases z with z | z
    · exact L.far i a h z
    · obtain ⟨o, q⟩ := L.domU a ((L.all a).mpr (.inr ⟨i, h⟩))
      rw [hT a z] at q; cases q
  · rcases h with h | h
    · exact (L.dom a h).mono e
    · exact dT a h
theorem fr_grow (hRU : ∀ a, R a → U a) (e : Same H H') (hT : ∀ a ∈ T, H a = none) : Fr R U H (plus U T) H' := fun a o h =>
  ⟨fun r => ⟨e a o h, .inl (hRU a r)⟩, fun n => ⟨e a o h, fun z => z.elim n fun z => by rw [hT a z] at h; cases h⟩⟩
/-- temporaries given up -/
theorem SR.shrink {R' U1 : Rg} (I : SR K R U pn ρ σ H) (hr : ∀ a, R' a → R a) (hu : ∀ a, U1 a ↔ (U a ∧ (R a → R' a))) : SR K R' U1 pn ρ σ H := by
  obtain ⟨hl, ⟨ow, L⟩, hp⟩ := I
  have ss : Same (DL.sub H U) (DL.sub H U1) := fun a o h => by
    obtain ⟨n, h⟩ := of_sub h
    exact sub_at (fun z => n ((hu a).mp z).1) h
  refine ⟨hl, ⟨ow, fun a => ?_, fun i a h z => L.far i a h (hr a z), L.two, fun i s h => (L.at_ i s h).mono ss fun a ha u h => h, L.out, fun a h => L.dom a (hr a h)⟩, hp⟩
  rw [hu a, L.all a]
  constructor
  · rintro ⟨h | h, g⟩
    · exact .inl (g h)
    · exact .inr h
  · rintro (h | ⟨i, h⟩)
    · exact ⟨.inl (hr a h), fun _ => h⟩
    · exact ⟨.inr ⟨i, h⟩, fun z => absurd z (L.far i a h)⟩
theorem Vl.mono (h : Vl K U H v d m T) (e : Same (DL.sub H U) (DL.sub H' U')) (t : ∀ a ∈ T, ∀ o, H a = some o → H' a = some o) (b : m.b = true → Same H H') : Vl K U' H' v d m T := by
  cases m with
  | S => exact ⟨h.1, h.2.mono e⟩
  | F n => exact Own.mono e t h
  | B n => exact ⟨h.1, h.2.mono e (b rfl)⟩
theorem Vl.dom (h : Vl K U H v d m T) : ∀ a ∈ T, Dm H a := by
  cases m with
  | S => rw [h.1]; exact fun _ z => nomatch z
  | F n => exact Own.dom h
  | B n => rw [h.1]; exact fun _ z => nomatch z
theorem Vl.rp (h : Vl K U H v d m T) : Rp K H v d := by
  cases m with
  | S => exact h.2.mono sub_le
  | F n => exact Own.rp sub_le (fun _ _ _ h => h) h
  | B n => exact h.2.rp sub_le
theorem VlL.mono {vs : List V} {rs : List (PyData × Md)} (h : VlL K U H vs rs T) (e : Same (DL.sub H U) (DL.sub H' U')) : (t : ∀ a ∈ T, ∀ o, H a = some o → H' a = some o) → (b : ∀ r ∈ rs, r.2.b = true → Same H H') → VlL K U' H' vs rs T := by
  induction h with
  | nil => exact fun _ _ => .nil
  | cons h1 _ n ih => exact fun t b => .cons (h1.mono e (fun a ha => t a (List.mem_append_left _ ha)) fun z => b _ List.mem_cons_self z) (ih (fun a ha => t a (List.mem_append_right _ ha)) fun r hr => b r (List.mem_cons_of_mem _ hr)) n
theorem VlL.dom {vs : List V} {rs : List (PyData × Md)} (h : VlL K U H vs rs T) : ∀ a ∈ T, Dm H a := by
  induction h with
  | nil => exact fun _ z => nomatch z
  | cons h1 _ _ ih => exact fun a ha => (List.mem_append.mp ha).elim (h1.dom a) (ih a)
theorem Lay.slot0 {ow : Nat → List Addr} (L : Lay K R U ρ σ H ow) {i : Nat} {s : Sl} (h : ρ[i]? = some s) : SlOk K U H σ[i]? s (ow i) := L.at_ i s h
/-- a slot is stored anew: of the temporaries T those in T' are the slot's now -/
theorem SR.put {i : Nat} {s : Sl} {o : Option V} {T' : List Addr} (I : SR K (plus R T) U pn ρ σ H) (hT : ∀ a ∈ T, ¬ R a) (hT' : ∀ a ∈ T', a ∈ T) (hi : i < σ.length) (hp : ∀ p ∈ pn, p.1 ≠ i)
    (hs : ∀ U1 : Rg, Same (DL.sub H U) (DL.sub H U1) → (∀ a ∈ T, a ∉ T' → ¬ U1 a) → SlOk K U1 H (some o) s T') : ∃ U', SR K R U' pn (ρ.set i s) (σ.set i o) H ∧ Fr R U H U' H := by
  obtain ⟨hl, ⟨ow, L⟩, hpin⟩ := I
  have up : ∀ a, (R a ∨ a ∈ T' ∨ ∃ j, j ≠ i ∧ a ∈ ow j) → U a := fun a h => by
    rcases h with h | h | ⟨j, _, h⟩
    · exact (L.all a).mpr (.inl (.inl h))
    · exact (L.all a).mpr (.inl (.inr (hT' a h)))
    · exact (L.all a).mpr (.inr ⟨j, h⟩)
  have ss : Same (DL.sub H U) (DL.sub H fun a => R a ∨ a ∈ T' ∨ ∃ j, j ≠ i ∧ a ∈ ow j) := fun a o h => by
    obtain ⟨n, h⟩ := of_sub h
    exact sub_at (fun z => n (up a z)) h
  refine ⟨fun a => R a ∨ a ∈ T' ∨ ∃ j, j ≠ i ∧ a ∈ ow j, ⟨by simp [hl], ⟨fun j => if j = i then T' else ow j, fun a => ?_, fun j a h => ?_, fun j k a hjk h1 h2 => ?_, fun j t h => ?_, fun j h => ?_, fun a h => L.dom a (.inl h)⟩, fun p hq => ?_⟩, fun a o h => ⟨fun r => ⟨h, .inl r⟩, fun n => ⟨h, fun z => n (up a z)⟩⟩⟩
  · constructor
    · rintro (h | h | ⟨j, hj, h⟩)
      · exact .inl h
      · exact .inr ⟨i, by rw [if_pos rfl]; exact h⟩
      · exact .inr ⟨j, by rw [if_neg hj]; exact h⟩
    · rintro (h | ⟨j, h⟩)
      · exact .inl h
      · by_cases hj : j = i
        · rw [if_pos hj] at h; exact .inr (.inl h)
        · rw [if_neg hj] at h; exact .inr (.inr ⟨j, hj, h⟩)
  · by_cases hj : j = i
    · rw [if_pos hj] at h; exact hT a (hT' a h)
    · rw [if_neg hj] at h; exact fun z => L.far j a h (.inl z)
  · by_cases hj : j = i
    · rw [if_pos hj] at h1
      by_cases hk : k = i
      · exact hjk (hj.trans hk.symm)
      · rw [if_neg hk] at h2
        exact L.far k a h2 (.inr (hT' a h1))
    · rw [if_neg hj] at h1
      by_cases hk : k = i
      · rw [if_pos hk] at h2
        exact L.far j a h1 (.inr (hT' a h2))
      · rw [if_neg hk] at h2
        exact L.two j k a hjk h1 h2
  · by_cases hj : j = i
    · subst hj
      rw [if_pos rfl]
      rw [List.getElem?_set_self (by omega)] at h
      cases h
      rw [List.getElem?_set_self hi]
      refine hs _ ss fun a ha hn z => ?_
      rcases z with z | z | ⟨k, hk, z⟩
      · exact hT a ha z
      · exact hn z
      · exact L.far k a z (.inr ha)
    · rw [if_neg hj]
      rw [List.getElem?_set_ne (Ne.symm hj)] at h
      rw [List.getElem?_set_ne (Ne.symm hj)]
      exact (L.at_ j t h).mono ss fun _ _ _ z => z
  · by_cases hj : j = i
    · subst hj
      rw [List.getElem?_eq_none_iff] at h
      rw [List.length_set] at h
      omega
    · rw [if_neg hj]
      rw [List.getElem?_set_ne (Ne.symm hj)] at h
      exact L.out j h
  · rw [List.getElem?_set_ne (Ne.symm (hp p hq))]
    exact hpin p hq
/-- .. as a shared value -/
theorem SR.putS {i : Nat} (I : SR K (plus R T) U pn ρ σ H) (hT : ∀ a ∈ T, ¬ R a) (hv : Vl K U H v d m T) (hm : m.b = false) (hi : i < σ.length) (hp : ∀ p ∈ pn, p.1 ≠ i) :
    ∃ U', SR K R U' pn (ρ.set i (.sh d)) (σ.set i (some v)) H ∧ Fr R U H U' H :=
  I.put (T' := []) hT (fun _ z => nomatch z) hi hp fun U1 e nz => .sh rfl (by
    cases m with
    | S => exact hv.2.mono e
    | F n => exact Own.rp e (fun a ha o h => sub_at (nz a ha (by simp)) h) hv
    | B n => exact nomatch hm)
/-- .. as an owned one -/
theorem SR.putO {i : Nat} (I : SR K (plus R T) U pn ρ σ H) (hT : ∀ a ∈ T, ¬ R a) {n : Nat} (hv : Vl K U H v d (.F n) T) (hi : i < σ.length) (hp : ∀ p ∈ pn, p.1 ≠ i) :
    ∃ U', SR K R U' pn (ρ.set i (.ow n d)) (σ.set i (some v)) H ∧ Fr R U H U' H :=
  I.put (T' := T) hT (fun _ z => z) hi hp fun U1 e n => .ow rfl (Own.mono e (fun _ _ _ h => h) hv)
theorem SR.putN {i : Nat} {o : Option V} (I : SR K R U pn ρ σ H) (hi : i < σ.length) (hp : ∀ p ∈ pn, p.1 ≠ i) : ∃ U', SR K R U' pn (ρ.set i .no) (σ.set i o) H ∧ Fr R U H U' H := by
  have I' : SR K (plus R []) U pn ρ σ H := I.shrink (fun _ h => h.elim id fun z => nomatch z) fun a => ⟨fun h => ⟨h, .inl⟩, fun h => h.1⟩
  exact I'.put (T := []) (T' := []) (fun _ z => nomatch z) (fun _ z => nomatch z) hi hp fun _ _ _ => .no
theorem SR.plus_nil (I : SR K R U pn ρ σ H) : SR K (plus R []) U pn ρ σ H := I.shrink (fun _ h => h.elim id fun z => nomatch z) fun a => ⟨fun h => ⟨h, .inl⟩, fun h => h.1⟩
theorem SR.nil_plus (I : SR K (plus R []) U pn ρ σ H) : SR K R U pn ρ σ H := I.shrink (fun _ h => .inl h) fun a => ⟨fun h => ⟨h, fun z => z.elim id fun z => nomatch z⟩, fun h => h.1⟩
end
end DL

end
section
set_option maxHeartbeats 1000000
namespace DL
open PySem PySem.Spec L2

/-! ### expressions by data -/
abbrev FE := Rho → Option (PyData × Md × Rho)
abbrev FA := Rho → Option (List (PyData × Md) × Rho)
abbrev FT := Rho → Option (Bool × Rho)
structure Pst (K : PySem.W.Frag) (R U : Rg) (pn : List (Nat × V)) (ρ' : Rho) (σ : L2.St) (H : Hp) (q : Bool) (U' : Rg) (T : List Addr) (H' : Hp) : Prop where
  sr : SR K (plus R T) U' pn ρ' σ H'
  far : ∀ a ∈ T, ¬ R a
  fr : Fr R U H U' H'
  sm : q = true → Same H H'
def tD (K : PySem.W.Frag) (q : Bool) (f : FE) : TE := fun σ H Q => ∃ R U pn ρ d m ρ', SR K R U pn ρ σ H ∧ f ρ = some (d, m, ρ') ∧ ∀ v H' U' T, Pst K R U pn ρ' σ H q U' T H' → Vl K U' H' v d m T → Q v H'
def tDA (K : PySem.W.Frag) (q : Bool) (f : FA) : TA := fun σ H Q => ∃ R U pn ρ rs ρ', SR K R U pn ρ σ H ∧ f ρ = some (rs, ρ') ∧ ∀ vs H' U' T, Pst K R U pn ρ' σ H q U' T H' → VlL K U' H' vs rs T → Q vs H'
def tDT (K : PySem.W.Frag) (q : Bool) (f : FT) : TT := fun σ H Q => ∃ R U pn ρ b ρ', SR K R U pn ρ σ H ∧ f ρ = some (b, ρ') ∧ ∀ H' U', Pst K R U pn ρ' σ H q U' [] H' → Q b H'
def DE (X : Cx) (q : Bool) (e : Expr) (f : FE) : Prop := PE X e (tD X.K q f)
def DA (X : Cx) (q : Bool) (es : List Expr) (f : FA) : Prop := PA X es (tDA X.K q f)
def DT (X : Cx) (q : Bool) (e : Expr) (f : FT) : Prop := PT X e (tDT X.K q f)
def DW (X : Cx) (q : Bool) (e : Expr) (f : FT) : Prop := PW X e (tDT X.K q f)
section
variable {X : Cx} {e a b c : Expr} {es : List Expr} {t t' : TE} {q q1 q2 : Bool} {f g h : FE} {K : PySem.W.Frag} {R U : Rg} {pn : List (Nat × V)} {ρ ρ' ρ'' : Rho} {σ : L2.St} {H H' H'' : Hp} {U' U'' : Rg} {T S : List Addr} {pos : Pos}
theorem _root_.L2.PE.weak (h : PE X e t) (w : ∀ σ H Q, t' σ H Q → t σ H Q) : PE X e t' := ⟨fun pins s σ H Q I z => h.run pins s σ H Q I (w σ H Q z)⟩
theorem _root_.L2.PA.weak {t t' : TA} (h : PA X es t) (w : ∀ σ H Q, t' σ H Q → t σ H Q) : PA X es t' := ⟨fun pos pins s σ H Q I z => h.run pos pins s σ H Q I (w σ H Q z)⟩
theorem _root_.L2.PT.weak {t t' : TT} (h : PT X e t) (w : ∀ σ H Q, t' σ H Q → t σ H Q) : PT X e t' := ⟨fun pins s σ H Q I z => h.run pins s σ H Q I (w σ H Q z)⟩
theorem _root_.L2.PW.weak {t t' : TT} (h : PW X e t) (w : ∀ σ H Q, t' σ H Q → t σ H Q) : PW X e t' := ⟨fun wh pins s σ H Q I z => h.run wh pins s σ H Q I (w σ H Q z)⟩
theorem Pst.refl (I : SR K R U pn ρ σ H) : Pst K R U pn ρ σ H q U [] H := ⟨I.plus_nil, fun _ z => (nomatch z), I.frefl, fun _ _ _ z => z⟩
theorem Pst.sr0 (p : Pst K R U pn ρ' σ H q U' [] H') : SR K R U' pn ρ' σ H' := p.sr.nil_plus
theorem Pst.trans (p : Pst K R U pn ρ' σ H q1 U' T H') (p2 : Pst K (plus R T) U' pn ρ'' σ H' q2 U'' S H'') : Pst K R U pn ρ'' σ H (q1 && q2) U'' (T ++ S) H'' where
  sr := p2.sr.shrink (fun a h => h.elim (fun h => .inl (.inl h)) fun h => (List.mem_append.mp h).elim (fun h => .inl (.inr h)) .inr) fun a => ⟨fun h => ⟨h, fun z => by
    rcases z with (z | z) | z
    · exact .inl z
    · exact .inr (List.mem_append_left _ z)
    · exact .inr (List.mem_append_right _ z)⟩, fun h => h.1⟩
  far := fun a h => (List.mem_append.mp h).elim (p.far a) fun z r => p2.far a z (.inl r)
  fr := p.fr.trans p2.fr
  sm := fun e => by
    obtain ⟨e1, e2⟩ := Bool.and_eq_true_iff.mp e
    exact (p.sm e1).trans (p2.sm e2)
theorem Pst.trans0 (p : Pst K R U pn ρ' σ H q1 U' [] H') (p2 : Pst K R U' pn ρ'' σ H' q2 U'' S H'') : Pst K R U pn ρ'' σ H (q1 && q2) U'' S H'' where
  sr := p2.sr
  far := p2.far
  fr := p.fr.trans0 p2.fr
  sm := fun e => by
    obtain ⟨e1, e2⟩ := Bool.and_eq_true_iff.mp e
    exact (p.sm e1).trans (p2.sm e2)
/-- what was reckoned first still stands -/
theorem Vl.keep {v : V} {d : PyData} {m : Md} (h : Vl K U' H' v d m T) (p2 : Pst K (plus R T) U' pn ρ'' σ H' q2 U'' S H'') (hb : m.b = true → q2 = true) : Vl K U'' H'' v d m T :=
  h.mono p2.fr.sub (fun a ha o e => (p2.fr a o e).1 (.inr ha) |>.1) fun z => p2.sm (hb z)
theorem VlL.keep {vs : List V} {rs : List (PyData × Md)} (h : VlL K U' H' vs rs T) (p2 : Pst K (plus R T) U' pn ρ'' σ H' q2 U'' S H'') (hb : ∀ r ∈ rs, r.2.b = true → q2 = true) : VlL K U'' H'' vs rs T :=
  h.mono p2.fr.sub (fun a ha o e => (p2.fr a o e).1 (.inr ha) |>.1) fun r hr z => p2.sm (hb r hr z)
theorem Pst.apart (p2 : Pst K (plus R T) U' pn ρ'' σ H' q2 U'' S H'') : ∀ a ∈ T, a ∉ S := fun a ha z => p2.far a z (.inr ha)

/-! ### names, constants -/
theorem SlOk.of_sh {o : Option (Option V)} {d : PyData} : ∀ {T : List Addr}, SlOk K U H o (.sh d) T → ∃ x, o = some (some x) ∧ Rp K (DL.sub H U) x d
  | _, .sh a b => ⟨_, a, b⟩
theorem SlOk.of_ow {o : Option (Option V)} {n : Nat} {d : PyData} : ∀ {T : List Addr}, SlOk K U H o (.ow n d) T → ∃ x, o = some (some x) ∧ Own K (DL.sub H U) H n x d T
  | _, .ow a b => ⟨_, a, b⟩
def fVar (i : Nat) : FE := fun ρ => match ρ[i]? with
  | some (.sh d) => some (d, .S, ρ)
  | some (.ow n d) => some (d, .B n, ρ)
  | _ => none
def fC (d : PyData) : FE := fun ρ => some (d, .S, ρ)
theorem de_var (i : Nat) {x : Str} (hN : X.N[i]? = some x := by rfl) (hv : Vis X.env.scope x := by first | exact Or.inl rfl | exact Or.inr (Or.inl rfl) | exact Or.inr (Or.inr rfl)) (hd : (x == ("__debug__" : Str)) = false := by decide)
    (hcd : (x == ("__classdict__" : Str)) = false := by decide) : DE X true (.Name x pos) (fVar i) := by
  refine (pe_var hN hv hd hcd).weak fun σ H Q z => ?_
  obtain ⟨R, U, pn, ρ, d, m, ρ', I, e, q⟩ := z
  obtain ⟨ow, L⟩ := I.lay
  unfold fVar at e
  split at e
  · rename_i d' h
    cases e
    obtain ⟨x, hv, hr⟩ := (L.at_ i _ h).of_sh
    exact ⟨_, hv, q _ H U [] (.refl I) ⟨rfl, hr⟩⟩
  · rename_i d' h
    cases e
    obtain ⟨x, hv, hr⟩ := (L.at_ i _ h).of_ow
    exact ⟨_, hv, q _ H U [] (.refl I) ⟨rfl, hr.bw⟩⟩
  · cases e
theorem de_c {v : V} {d : PyData} (h : PE X e (tC v)) (r : ∀ G, Rp X.K G v d) : DE X true e (fC d) := h.weak fun σ H Q z => by
  obtain ⟨R, U, pn, ρ, d', m, ρ', I, e, q⟩ := z
  cases e
  exact q _ H U [] (.refl I) ⟨rfl, r _⟩
theorem de_int {i : Int} {j : Nat} : DE X true (.Constant (.int i) j pos) (fC (.int i)) := de_c pe_int fun _ => .int i
theorem de_bl {i : Bool} {j : Nat} : DE X true (.Constant (.bool i) j pos) (fC (.bool i)) := de_c pe_bl fun _ => .bl i
theorem de_non {j : Nat} : DE X true (.Constant .none j pos) (fC .none) := de_c pe_non fun _ => .non
theorem de_str {x : Str} {j : Nat} : DE X true (.Constant (.str x) j pos) (fC (.str x)) := de_c pe_str fun _ => .str x
/-- a value that was given up is shared -/
def fSh (f : FE) : FE := fun ρ => match f ρ with
  | some (d, .F _, ρ') => some (d, .S, ρ')
  | some (d, .S, ρ') => some (d, .S, ρ')
  | _ => none
theorem SR.drop {R : Rg} (I : SR K (plus R T) U pn ρ σ H) (hT : ∀ a ∈ T, ¬ R a) : SR K R (fun a => U a ∧ a ∉ T) pn ρ σ H :=
  I.shrink (fun _ h => .inl h) fun a => ⟨fun h => ⟨h.1, fun z => z.elim id fun z => absurd z h.2⟩, fun h => ⟨h.1, fun z => hT a z (h.2 (.inr z))⟩⟩
theorem Fr.drop (h : Fr R U H U' H') (hT : ∀ a ∈ T, ¬ R a) : Fr R U H (fun a => U' a ∧ a ∉ T) H' := fun a o e => ⟨fun r => ⟨((h a o e).1 r).1, ((h a o e).1 r).2, fun z => hT a z r⟩, fun n => ⟨((h a o e).2 n).1, fun z => ((h a o e).2 n).2 z.1⟩⟩
theorem Pst.drop (p : Pst K R U pn ρ' σ H q U' T H') : Pst K R U pn ρ' σ H q (fun a => U' a ∧ a ∉ T) [] H' := ⟨(p.sr.drop p.far).plus_nil, fun _ z => (nomatch z), p.fr.drop p.far, p.sm⟩
theorem sub_drop : Same (DL.sub H U) (DL.sub H fun a => U a ∧ a ∉ T) := fun a o e => let ⟨n, h⟩ := of_sub e; sub_at (fun z => n z.1) h
theorem Vl.drop {v : V} {d : PyData} {m : Md} (h : Vl K U H v d m T) (hm : m.b = false) : Vl K (fun a => U a ∧ a ∉ T) H v d .S [] := by
  cases m with
  | S => exact ⟨rfl, h.2.mono sub_drop⟩
  | F n => exact ⟨rfl, Own.rp sub_drop (fun a ha o e => sub_at (fun z => z.2 ha) e) h⟩
  | B n => exact nomatch hm
theorem de_sh (h : DE X q e f) : DE X q e (fSh f) := L2.PE.weak h fun σ H Q z => by
  obtain ⟨R, U, pn, ρ, d, m, ρ', I, e, k⟩ := z
  unfold fSh at e
  split at e
  · rename_i he
    cases e
    exact ⟨R, U, pn, ρ, _, _, _, I, he, fun v H' U' T p r => k v H' _ [] p.drop (r.drop rfl)⟩
  · rename_i he
    cases e
    exact ⟨R, U, pn, ρ, _, _, _, I, he, fun v H' U' T p r => k v H' _ [] p.drop (r.drop rfl)⟩
  · cases e

/-! ### argument lists -/
def faNil : FA := fun ρ => some ([], ρ)
def faCons (q2 : Bool) (f : FE) (g : FA) : FA := fun ρ => match f ρ with
  | some (d, m, ρ1) => if (m.b && !q2) = true then none else match g ρ1 with
    | some (rs, ρ2) => some ((d, m) :: rs, ρ2)
    | none => none
  | none => none
theorem da_nil : DA X true [] faNil := PA.weak pa_nil fun σ H Q z => by
  obtain ⟨R, U, pn, ρ, d, ρ', I, e, k⟩ := z
  cases e
  exact k [] H U [] (.refl I) .nil
theorem notB {m : Md} {q : Bool} (h : ¬ (m.b && !q) = true) : m.b = true → q = true := fun e => by
  rw [e] at h
  cases q with
  | true => rfl
  | false => exact absurd rfl h
theorem da_cons {g : FA} (ha : DE X q1 a f) (hb : DA X q2 es g) (hs : starEach (a :: es) X.env = (false, eval a X.env) :: starEach es X.env := by rfl) : DA X (q1 && q2) (a :: es) (faCons q2 f g) := L2.PA.weak (pa_cons ha hb hs) fun σ H Q z => by
  obtain ⟨R, U, pn, ρ, d, ρ', I, e, k⟩ := z
  unfold faCons at e
  split at e
  · rename_i d1 m1 ρ1 he
    split at e
    · cases e
    · rename_i hb
      split at e
      · rename_i rs ρ2 he2
        cases e
        refine ⟨R, U, pn, ρ, _, _, _, I, he, fun v H1 U1 T p r => ⟨_, _, _, _, _, _, p.sr, he2, fun vs H2 U2 S p2 r2 => ?_⟩⟩
        exact k _ H2 U2 _ (p.trans p2) (.cons (r.keep p2 (notB hb)) r2 p2.apart)
      · cases e
  · cases e
/-- *xs -/
def faStar (f : FE) (g : FA) : FA := fun ρ => match f ρ with
  | some (.list ds, .S, ρ1) => match g ρ1 with
    | some (rs, ρ2) => some (ds.map (fun d => (d, Md.S)) ++ rs, ρ2)
    | none => none
  | some (.tuple ds, .S, ρ1) => match g ρ1 with
    | some (rs, ρ2) => some (ds.map (fun d => (d, Md.S)) ++ rs, ρ2)
    | none => none
  | _ => none
theorem VlL.rps {vs : List V} {ds : List PyData} (h : RpL K (DL.sub H U) vs ds) : ∀ {ws : List V} {rs : List (PyData × Md)} {T : List Addr}, VlL K U H ws rs T → VlL K U H (vs ++ ws) (ds.map (fun d => (d, Md.S)) ++ rs) T := fun {ws rs T} r => by
  suffices ∀ {vs : List V} {ds : List PyData}, RpL K (DL.sub H U) vs ds → VlL K U H (vs ++ ws) (ds.map (fun d => (d, Md.S)) ++ rs) T from this h
  intro vs ds h
  induction ds generalizing vs with
  | nil => cases h; exact r
  | cons d ds ih =>
    cases h with
    | cons h1 h2 => exact VlL.cons (T := []) ⟨rfl, h1⟩ (ih h2) fun _ z => nomatch z
theorem da_star {g : FA} {p : Pos} (ha : DE X q1 a f) (hb : DA X q2 es g) (hs : starEach (.Starred a p :: es) X.env = (true, eval a X.env) :: starEach es X.env := by rfl) : DA X (q1 && q2) (.Starred a p :: es) (faStar f g) := L2.PA.weak (StX.pa_star ha hb hs) fun σ H Q z => by
  obtain ⟨R, U, pn, ρ, d, ρ', I, e, k⟩ := z
  unfold faStar at e
  split at e
  · rename_i ds ρ1 he
    split at e
    · rename_i rs ρ2 he2
      cases e
      refine ⟨R, U, pn, ρ, _, _, _, I, he, fun v H1 U1 T p r => ?_⟩
      obtain ⟨rfl, r⟩ := r
      cases r with
      | lst hl rl =>
        refine ⟨_, _, rfl, .inr (same_l sub_le hl), _, _, _, _, _, _, p.sr0, he2, fun vs H2 U2 S p2 r2 => k _ H2 U2 _ (p.trans0 p2) (VlL.rps (rl.mono p2.fr.sub) r2)⟩
    · cases e
  · rename_i ds ρ1 he
    split at e
    · rename_i rs ρ2 he2
      cases e
      refine ⟨R, U, pn, ρ, _, _, _, I, he, fun v H1 U1 T p r => ?_⟩
      obtain ⟨rfl, r⟩ := r
      cases r with
      | tup hl rl =>
        refine ⟨_, _, rfl, .inl (.of (sub_le _ _ hl)), _, _, _, _, _, _, p.sr0, he2, fun vs H2 U2 S p2 r2 => k _ H2 U2 _ (p.trans0 p2) (VlL.rps (rl.mono p2.fr.sub) r2)⟩
    · cases e
  · cases e

/-! ### operations on values -/
/-- r, on values that are told: φ tells what comes; of the temporaries T those of the result stay -/
def OpN (K : PySem.W.Frag) (r : List V → Hp → VK → Prop) (φ : List (PyData × Md) → Option (PyData × Md)) : Prop :=
  ∀ (U : Rg) (H : Hp) (vs : List V) (rs : List (PyData × Md)) (T : List Addr) (d : PyData) (k : Md) (Q : VK), (∀ a, U a → Dm H a) → VlL K (plus U T) H vs rs T → (∀ a ∈ T, ¬ U a) → φ rs = some (d, k) →
    (∀ v H' S, Same H H' → (∀ a ∈ S, ¬ U a) → (∀ a ∈ S, a ∈ T ∨ H a = none) → Vl K (plus U S) H' v d k S → Q v H') → r vs H Q
theorem SR.regrow (I : SR K (plus R T) U pn ρ σ H) (hT : ∀ a ∈ T, ¬ R a) (e : Same H H') (hS : ∀ a ∈ S, a ∈ T ∨ H a = none) (hd : ∀ a ∈ S, Dm H' a) : SR K (plus R S) (plus (fun a => U a ∧ a ∉ T) S) pn ρ σ H' := by
  obtain ⟨hl, ⟨ow, L⟩, hp⟩ := I
  have inT : ∀ a, a ∈ T → U a := fun a h => (L.all a).mpr (.inl (.inr h))
  have ss : Same (DL.sub H U) (DL.sub H' (plus (fun a => U a ∧ a ∉ T) S)) := fun a o h => by
    obtain ⟨n, h⟩ := of_sub h
    refine sub_at (fun z => z.elim (fun z => n z.1) fun z => ?_) (e a o h)
    rcases hS a z with q | q
    · exact n (inT a q)
    · rw [q] at h; cases h
  refine ⟨hl, ⟨ow, fun a => ?_, fun i a h z => ?_, L.two, fun i s h => (L.at_ i s h).mono ss fun a ha u h => e a u h, L.out, fun a h => ?_⟩, hp⟩
  · constructor
    · rintro (⟨h, n⟩ | h)
      · rcases (L.all a).mp h with (h | h) | h
        · exact .inl (.inl h)
        · exact absurd h n
        · exact .inr h
      · exact .inl (.inr h)
    · rintro ((h | h) | ⟨i, h⟩)
      · exact .inl ⟨(L.all a).mpr (.inl (.inl h)), fun z => hT a z h⟩
      · exact .inr h
      · exact .inl ⟨(L.all a).mpr (.inr ⟨i, h⟩), fun z => L.far i a h (.inr z)⟩
  · rcases z with z | z
    · exact L.far i a h (.inl z)
    · rcases hS a z with q | q
      · exact L.far i a h (.inr q)
      · obtain ⟨o, w⟩ := L.domU a ((L.all a).mpr (.inr ⟨i, h⟩))
        rw [q] at w; cases w
  · rcases h with h | h
    · exact (L.dom a (.inl h)).mono e
    · exact hd a h
theorem VlL.one {v : V} {d : PyData} {m : Md} (h : Vl K U H v d m T) : VlL K U H [v] [(d, m)] T := by
  have := VlL.cons (S := []) h .nil fun _ _ z => nomatch z
  simpa using this
/-- an operation behind its arguments -/
theorem opn_run {r : List V → Hp → VK → Prop} {φ : List (PyData × Md) → Option (PyData × Md)} (ho : OpN K r φ) {vs : List V} {rs : List (PyData × Md)} {d : PyData} {k : Md} {Q : VK} (p : Pst K R U pn ρ' σ H q U' T H') (r1 : VlL K U' H' vs rs T) (he : φ rs = some (d, k))
    (hk : ∀ v H' U' T, Pst K R U pn ρ' σ H q U' T H' → Vl K U' H' v d k T → Q v H') : r vs H' Q := by
  have hTU : ∀ a ∈ T, U' a := fun a h => p.sr.ru a (.inr h)
  have e1 : ∀ a, plus (fun a => U' a ∧ a ∉ T) T a → U' a := fun a h => h.elim (fun z => z.1) (hTU a)
  have e2 : ∀ a, U' a → plus (fun a => U' a ∧ a ∉ T) T a := fun a h => (Classical.em (a ∈ T)).elim .inr fun z => .inl ⟨h, z⟩
  refine ho (fun a => U' a ∧ a ∉ T) H' vs rs T d k Q (fun a h => p.sr.domM a h.1) (r1.mono (fun a o h => let ⟨n, h⟩ := of_sub h; sub_at (fun z => n (e1 a z)) h) (fun _ _ _ h => h) fun _ _ _ _ _ h => h) (fun a ha z => z.2 ha) he fun v H'' S sm nS hS hv => ?_
  refine hk v H'' _ S ⟨p.sr.regrow p.far sm hS hv.dom, fun a ha hr => nS a ha ⟨p.sr.ru a (.inl hr), fun z => p.far a z hr⟩, fun a o h => ⟨fun hr => ?_, fun hn => ?_⟩, fun e => (p.sm e).trans sm⟩ hv
  · obtain ⟨h1, h2⟩ := (p.fr a o h).1 hr
    exact ⟨sm a o h1, .inl ⟨h2, fun z => p.far a z hr⟩⟩
  · obtain ⟨h1, h2⟩ := (p.fr a o h).2 hn
    refine ⟨sm a o h1, fun z => z.elim (fun z => h2 z.1) fun z => ?_⟩
    rcases hS a z with w | w
    · exact h2 (hTU a w)
    · rw [h1] at w; cases w
def fN (f : FA) (φ : List (PyData × Md) → Option (PyData × Md)) : FE := fun ρ => match f ρ with
  | some (rs, ρ') => match φ rs with
    | some (d, m) => some (d, m, ρ')
    | none => none
  | none => none
theorem fN_inv {f : FA} {φ : List (PyData × Md) → Option (PyData × Md)} {d : PyData} {m : Md} (h : fN f φ ρ = some (d, m, ρ')) : ∃ rs, f ρ = some (rs, ρ') ∧ φ rs = some (d, m) := by
  unfold fN at h
  split at h
  · rename_i rs ρ1 e
    split at h
    · rename_i d' m' e2
      cases h
      exact ⟨rs, e, e2⟩
    · cases h
  · cases h
/-- a call by arguments -/
theorem tcb_run {r : List V → Hp → VK → Prop} {φ : List (PyData × Md) → Option (PyData × Md)} {f : FA} (ho : OpN K r φ) : ∀ σ H Q, tD K q (fN f φ) σ H Q → tCB r (tDA K q f) σ H Q := fun σ H Q z => by
  obtain ⟨R, U, pn, ρ, d, m, ρ', I, e, k⟩ := z
  obtain ⟨rs, e1, e2⟩ := fN_inv e
  exact ⟨R, U, pn, ρ, rs, ρ', I, e1, fun vs H' U' T p r1 => opn_run ho p r1 e2 k⟩
def f2 (q2 : Bool) (f g : FE) (φ : List (PyData × Md) → Option (PyData × Md)) : FE := fN (faCons q2 f (faCons true g faNil)) φ
def n2 (r : R2) : List V → Hp → VK → Prop := fun vs H Q => ∀ x y, vs = [x, y] → r x y H Q
theorem top_run {r : R2} {φ : List (PyData × Md) → Option (PyData × Md)} (ho : OpN K (n2 r) φ) : ∀ σ H Q, tD K (q1 && q2) (f2 q2 f g φ) σ H Q → tOp r (tD K q1 f) (tD K q2 g) σ H Q := fun σ H Q z => by
  obtain ⟨R, U, pn, ρ, d, m, ρ', I, e, k⟩ := z
  obtain ⟨rs, e1, e2⟩ := fN_inv e
  unfold faCons at e1
  split at e1
  · rename_i d1 m1 ρ1 he
    split at e1
    · cases e1
    · rename_i hb
      split at e1
      · rename_i rs1 ρ2 he2
        cases e1
        split at he2
        · rename_i d2 m2 ρ3 he3
          split at he2
          · cases he2
          · cases he2
            refine ⟨R, U, pn, ρ, _, _, _, I, he, fun v H1 U1 T p r => ⟨_, _, _, _, _, _, _, p.sr, he3, fun w H2 U2 S p2 r2 => ?_⟩⟩
            have pp := p.trans p2
            exact opn_run (q := q1 && q2) ho pp (VlL.cons (r.keep p2 (notB hb)) (VlL.one r2) p2.apart) e2 k v w rfl
        · cases he2
      · cases e1
  · cases e1
theorem de_op {op : Operator} {r : R2} {φ : List (PyData × Md) → Option (PyData × Md)} (hr : OpR X (binaryOp op) r) (ho : OpN X.K (n2 r) φ) (ha : DE X q1 a f) (hb : DE X q2 b g) : DE X (q1 && q2) (.BinOp a op b pos) (f2 q2 f g φ) := L2.PE.weak (pe_op hr ha hb) (top_run ho)
theorem de_cmp {op : CmpOp} {r : R2} {φ : List (PyData × Md) → Option (PyData × Md)} (hr : OpR X (compareOp op) r) (ho : OpN X.K (n2 r) φ) (ha : DE X q1 a f) (hb : DE X q2 b g) (hm : behindInMarks op b = false := by first | exact nomark _ | rfl) : DE X (q1 && q2) (.Compare a [op] [b] pos) (f2 q2 f g φ) := L2.PE.weak (pe_cmpR hr ha hb hm) (top_run ho)
def fT (f : FE) : FT := fun ρ => match f ρ with
  | some (.bool b, _, ρ') => some (b, ρ')
  | _ => none
theorem ttest_run : ∀ σ H (Q : Bool → Hp → Prop), tDT K q (fT f) σ H Q → tTest (tD K q f) σ H Q := fun σ H Q z => by
  obtain ⟨R, U, pn, ρ, d, ρ', I, e, k⟩ := z
  unfold fT at e
  split at e
  · rename_i b m ρ1 he
    cases e
    refine ⟨R, U, pn, ρ, _, _, _, I, he, fun v H1 U1 T p r => ?_⟩
    have hr := r.rp
    cases hr
    exact ⟨_, rfl, k H1 _ p.drop⟩
  · cases e
theorem dt_cmp {op : CmpOp} {r : R2} {φ : List (PyData × Md) → Option (PyData × Md)} (hr : OpR X (compareOp op) r) (ho : OpN X.K (n2 r) φ) (ha : DE X q1 a f) (hb : DE X q2 b g) (hm : behindInMarks op b = false := by first | exact nomark _ | rfl) : DT X (q1 && q2) (.Compare a [op] [b] pos) (fT (f2 q2 f g φ)) :=
  L2.PT.weak (L2.PT.weak (pt_cmpR hr ha hb hm) fun σ H Q z => by
    obtain ⟨R, U, pn, ρ, d, m, ρ', I, e, k⟩ := z
    exact top_run ho σ H _ ⟨R, U, pn, ρ, d, m, ρ', I, e, k⟩) ttest_run
theorem dt_val (h : DE X q e f) (he : ∀ whole, isTrue e X.env whole = (do let v ← whole; standAt e.pos; holding [v] (truthy v)) := by intro _; rfl) : DT X q e (fT f) := L2.PT.weak (pt_val h he) ttest_run
def fU (f : FE) (φ : List (PyData × Md) → Option (PyData × Md)) : FE := fN (faCons true f faNil) φ
def n1 (r : V → Hp → VK → Prop) : List V → Hp → VK → Prop := fun vs H Q => ∀ x, vs = [x] → r x H Q
theorem tun_run {r : V → Hp → VK → Prop} {φ : List (PyData × Md) → Option (PyData × Md)} (ho : OpN K (n1 r) φ) : ∀ σ H Q, tD K q (fU f φ) σ H Q → tUn r (tD K q f) σ H Q := fun σ H Q z => by
  obtain ⟨R, U, pn, ρ, d, m, ρ', I, e, k⟩ := z
  obtain ⟨rs, e1, e2⟩ := fN_inv e
  unfold faCons at e1
  split at e1
  · rename_i d1 m1 ρ1 he
    split at e1
    · cases e1
    · cases e1
      refine ⟨R, U, pn, ρ, _, _, _, I, he, fun v H1 U1 T p r => opn_run ho p (VlL.one r) e2 k v rfl⟩
  · cases e1
theorem de_un {op : UnaryOp} {r : V → Hp → VK → Prop} {φ : List (PyData × Md) → Option (PyData × Md)} (hr : UnR X (unaryOp op) r) (ho : OpN X.K (n1 r) φ) (ha : DE X q a f) : DE X q (.UnaryOp op a pos) (fU f φ) := L2.PE.weak (pe_un hr ha) (tun_run ho)
end
end DL

end
section
set_option maxHeartbeats 1000000
namespace DL
open PySem PySem.Spec L2

/-! ### operations: what they read, what they make -/
def LIM : Nat := 10000000
theorem lim_ok {n : Nat} (h : n ≤ LIM) : n ≤ sizeLine := Nat.le_trans h (by decide)
theorem lim_lt {n : Nat} (h : n ≤ LIM) : n < sizeLine := Nat.lt_of_le_of_lt h (by decide)
section
variable {K : PySem.W.Frag} {U : Rg} {H H' : Hp} {v x y : V} {d : PyData} {ds : List PyData} {vs xs : List V} {m n : Md} {T S : List Addr} {p : Addr} {o : HO} {rs : List (PyData × Md)} {r : List V → Hp → VK → Prop}
theorem same_new (h : H p = none) : Same H (upd H p o) := fun b u e => by rw [upd_ne (ne_of_none e h)]; exact e
theorem sub_new (h : H p = none) : Same (DL.sub H U) (DL.sub (upd H p o) (plus U [p])) := fun b u e => by
  obtain ⟨n, e⟩ := of_sub e
  exact sub_at (fun z => z.elim n fun z => ne_of_none e h (List.mem_singleton.mp z)) (same_new h b u e)
theorem ownL0 {G : Hp} : ∀ {xs : List V} {ds : List PyData}, RpL K G xs ds → OwnL K G H 0 xs ds []
  | _, _, .nil => .nil
  | _, _, .cons h r => OwnL.cons (T := []) (S := []) (.leaf h) (ownL0 r) fun _ z => nomatch z
theorem rpL_len {G : Hp} : ∀ {xs : List V} {ds : List PyData}, RpL K G xs ds → xs.length = ds.length
  | _, _, .nil => rfl
  | _, _, .cons h r => congrArg (· + 1) (rpL_len r)
theorem rpL_at {G : Hp} : ∀ {xs : List V} {ds : List PyData} {i : Nat} {d : PyData}, RpL K G xs ds → ds[i]? = some d → ∃ x, xs[i]? = some x ∧ Rp K G x d
  | _, _, i, _, .nil, e => by simp at e
  | _, _, 0, _, .cons h r, e => by
    simp at e
    subst e
    exact ⟨_, rfl, h⟩
  | _, _, i + 1, _, .cons h r, e => by
    obtain ⟨x, e1, e2⟩ := rpL_at (i := i) r (by simpa using e)
    exact ⟨x, by simpa using e1, e2⟩
theorem rpL_atI {G : Hp} {i : Int} (h : RpL K G xs ds) (e : atI ds i = some d) : ∃ x, atI xs i = some x ∧ Rp K G x d := by
  unfold atI at e ⊢
  rw [rpL_len h]
  cases q : ixN ds.length i with
  | none => rw [q] at e; cases e
  | some j => rw [q] at e; exact rpL_at h e
theorem rpL_app {G : Hp} : ∀ {xs : List V} {ds : List PyData} {ys : List V} {es : List PyData}, RpL K G xs ds → RpL K G ys es → RpL K G (xs ++ ys) (ds ++ es)
  | _, _, _, _, .nil, s => s
  | _, _, _, _, .cons h r, s => .cons h (rpL_app r s)
theorem rpL_take {G : Hp} : ∀ {xs : List V} {ds : List PyData} (n : Nat), RpL K G xs ds → RpL K G (xs.take n) (ds.take n)
  | _, _, 0, _ => .nil
  | _, _, n + 1, .nil => .nil
  | _, _, n + 1, .cons h r => .cons h (rpL_take n r)
theorem rpL_drop {G : Hp} : ∀ {xs : List V} {ds : List PyData} (n : Nat), RpL K G xs ds → RpL K G (xs.drop n) (ds.drop n)
  | _, _, 0, r => r
  | _, _, n + 1, .nil => .nil
  | _, _, n + 1, .cons h r => rpL_drop n r
theorem rpL_rev {G : Hp} : ∀ {xs : List V} {ds : List PyData}, RpL K G xs ds → RpL K G xs.reverse ds.reverse
  | _, _, .nil => .nil
  | _, _, .cons h r => by
    rw [List.reverse_cons, List.reverse_cons]
    exact rpL_app (rpL_rev r) (.cons h .nil)
theorem rpL_rep {G : Hp} (h : RpL K G xs ds) : ∀ n : Nat, RpL K G (List.replicate n xs).flatten (List.replicate n ds).flatten
  | 0 => .nil
  | n + 1 => by
    rw [List.replicate_succ, List.replicate_succ, List.flatten_cons, List.flatten_cons]
    exact rpL_app h (rpL_rep h n)
theorem vl_list (hp : H p = none) (h : RpL K (DL.sub H U) xs ds) : Vl K (plus U [p]) (upd H p (.lst xs)) (.ref p) (.list ds) (.F 1) [p] :=
  Own.lst (T := []) upd_same (ownL0 (h.mono (sub_new hp))) (fun z => nomatch z)
theorem sub_new0 (hU : ∀ a, U a → Dm H a) (h : H p = none) : Same (DL.sub H U) (DL.sub (upd H p o) (plus U [])) ∧ DL.sub (upd H p o) (plus U []) p = some o := by
  refine ⟨fun b u e => ?_, ?_⟩
  · obtain ⟨n, e⟩ := of_sub e
    exact sub_at (fun z => z.elim n fun z => nomatch z) (same_new h b u e)
  · refine sub_at (fun z => z.elim (fun z => ?_) fun z => nomatch z) upd_same
    obtain ⟨o, e, _⟩ := hU p z
    rw [h] at e; cases e
theorem vl_tup (hU : ∀ a, U a → Dm H a) (hp : H p = none) (h : RpL K (DL.sub H U) xs ds) : Vl K (plus U []) (upd H p (.tup xs)) (.ref p) (.tuple ds) .S [] := by
  obtain ⟨e1, e2⟩ := sub_new0 (o := .tup xs) hU hp
  exact ⟨rfl, .tup e2 (h.mono e1)⟩
theorem vl_imm (h : ∀ G, Rp K G v d) : Vl K U H v d .S [] := ⟨rfl, h _⟩
def OpN' (K : PySem.W.Frag) (r : List V → Hp → VK → Prop) (φ : List (PyData × Md) → Option (PyData × Md)) : Prop := OpN K r φ
theorem VlL.rp {vs : List V} (h : VlL K U H vs rs T) : RpL K H vs (rs.map (·.1)) := by
  induction h with
  | nil => exact .nil
  | cons h1 _ _ ih => exact .cons h1.rp ih
/-- to depth one -/
def _root_.DL.Md.fl : Md → Bool
  | .S => true
  | .F _ => true
  | .B 1 => true
  | _ => false
theorem sub_plus (hT : ∀ a ∈ T, ¬ U a) : Same (DL.sub H (plus U T)) (DL.sub H U) := fun a o e => let ⟨n, h⟩ := of_sub e; sub_at (fun z => n (.inl z)) h
theorem BwL.rp0 {G : Hp} : ∀ {xs : List V} {ds : List PyData}, BwL K G H 0 xs ds → RpL K G xs ds
  | _, _, .nil => .nil
  | _, _, .cons (.sh h) r => .cons h (BwL.rp0 r)
theorem Vl.flat (h : Vl K (plus U T) H v (.list ds) m S) (hT : ∀ a ∈ T, ¬ U a) (hs : ∀ a ∈ S, a ∈ T) (hm : m.fl = true) : ∃ a xs, v = .ref a ∧ SqL K H a xs ∧ RpL K (DL.sub H U) xs ds := by
  cases m with
  | S =>
    obtain ⟨_, h⟩ := h
    cases h with
    | lst h1 h2 => exact ⟨_, _, rfl, same_l sub_le h1, h2.mono (sub_plus hT)⟩
  | F n =>
    have h' : Own K (DL.sub H (plus U T)) H n v (.list ds) S := h
    have h2 := Own.rp (sub_plus hT) (fun a ha o e => sub_at (hT a (hs a ha)) e) h'
    cases h2 with
    | lst h1 h2 => exact ⟨_, _, rfl, same_l sub_le h1, h2⟩
  | B n =>
    match n, hm with
    | 1, _ =>
      obtain ⟨_, h⟩ := h
      cases h with
      | lst h1 h2 => exact ⟨_, _, rfl, .of h1, (BwL.rp0 h2).mono (sub_plus hT)⟩
theorem sub_nil : Same (DL.sub H U) (DL.sub H (plus U [])) := fun a o e => let ⟨n, h⟩ := of_sub e; sub_at (fun z => z.elim n fun z => nomatch z) h
theorem Vl.shr (h : Vl K (plus U T) H v d m S) (hT : ∀ a ∈ T, ¬ U a) (hs : ∀ a ∈ S, a ∈ T) (hm : m.b = false) : Rp K (DL.sub H U) v d := by
  cases m with
  | S => exact h.2.mono (sub_plus hT)
  | F n => exact Own.rp (sub_plus hT) (fun a ha o e => sub_at (hT a (hs a ha)) e) h
  | B n => exact nomatch hm
theorem Vl.tupR (h : Vl K (plus U T) H v (.tuple ds) m S) (hT : ∀ a ∈ T, ¬ U a) : Rp K (DL.sub H U) v (.tuple ds) := by
  cases m with
  | S => exact h.2.mono (sub_plus hT)
  | F n =>
    have h' : Own K (DL.sub H (plus U T)) H n v (.tuple ds) S := h
    cases h' with
    | leaf h9 => exact h9.mono (sub_plus hT)
  | B n =>
    obtain ⟨_, h'⟩ := h
    cases h' with
    | sh h9 => exact h9.mono (sub_plus hT)
theorem Vl.tupS (h : Vl K (plus U T) H v (.tuple ds) m S) (hT : ∀ a ∈ T, ¬ U a) : ∃ a xs, v = .ref a ∧ H a = some (.tup xs) ∧ RpL K (DL.sub H U) xs ds := by
  have h' := h.tupR hT
  cases h' with
  | tup h1 h2 => exact ⟨_, _, rfl, sub_le _ _ h1, h2⟩
theorem new_far (hU : ∀ a, U a → Dm H a) (hp : H p = none) : ∀ a ∈ [p], ¬ U a := fun a ha z => by
  rw [List.mem_singleton.mp ha] at z
  obtain ⟨o, e, _⟩ := hU p z
  rw [hp] at e; cases e
theorem new_new (hp : H p = none) : ∀ a ∈ [p], a ∈ T ∨ H a = none := fun a ha => .inr (by rw [List.mem_singleton.mp ha]; exact hp)
theorem Vl.intV {i : Int} (h : Vl K U H v (.int i) m T) : v = .int i := by cases h.rp; rfl
theorem Vl.strV {i : Str} (h : Vl K U H v (.str i) m T) : v = .str i := by cases h.rp; rfl
theorem Vl.boolV {i : Bool} (h : Vl K U H v (.bool i) m T) : v = .bl i := by cases h.rp; rfl
theorem Vl.noneV (h : Vl K U H v .none m T) : v = .non := by cases h.rp; rfl
/-- results without a heap -/
def fI (ψ : List PyData → Option PyData) : List (PyData × Md) → Option (PyData × Md) := fun rs => match ψ (rs.map (·.1)) with
  | some d => some (d, .S)
  | none => none
theorem opn_imm {ψ : List PyData → Option PyData} (h : ∀ H vs ds d Q, RpL K H vs ds → ψ ds = some d → (∀ v, (∀ G, Rp K G v d) → Q v H) → r vs H Q) : OpN K r (fI ψ) := by
  intro U H vs rs T d k Q hU h1 hT he hq
  unfold fI at he
  split at he
  · rename_i d' e
    cases he
    exact h H vs _ _ Q h1.rp e fun v hv => hq v H [] (fun _ _ z => z) (fun _ z => nomatch z) (fun _ z => nomatch z) (vl_imm hv)
  · cases he
/-- two ints -/
def ii (g : Int → Int → Option PyData) : List PyData → Option PyData
  | [.int a, .int b] => g a b
  | _ => none
theorem opn_ii {g : Int → Int → Option PyData} {r : R2} (h : ∀ a b d H Q, g a b = some d → (∀ v, (∀ G, Rp K G v d) → Q v H) → r (.int a) (.int b) H Q) : OpN K (n2 r) (fI (ii g)) := opn_imm fun H vs ds d Q hr he hq x y e => by
  subst e
  match ds, he with
  | [.int a, .int b], he =>
    cases hr with
    | cons h1 h2 => cases h2 with
      | cons h2 h3 => cases h1; cases h2; exact h a b d H Q he hq
def gAdd (a b : Int) : Option PyData := some (.int (a + b))
def gSub (a b : Int) : Option PyData := some (.int (a - b))
def gMul (a b : Int) : Option PyData := if a.natAbs.log2 + b.natAbs.log2 < 1000000 then some (.int (a * b)) else none
def gDiv (a b : Int) : Option PyData := if 0 < b ∧ b.natAbs.log2 < 9000 then some (.int (a / b)) else none
def gMod (a b : Int) : Option PyData := if b ≠ 0 then some (.int (a.fmod b)) else none
def gPow (a b : Int) : Option PyData := if 0 ≤ b ∧ b ≤ 1000000 ∧ a.natAbs < 2 ^ 64 then some (.int (a ^ b.toNat)) else none
def gLt (a b : Int) : Option PyData := some (.bool (decide (a < b)))
def gLe (a b : Int) : Option PyData := some (.bool (decide (a ≤ b)))
def gGt (a b : Int) : Option PyData := some (.bool (decide (b < a)))
def gGe (a b : Int) : Option PyData := some (.bool (decide (b ≤ a)))
theorem opn_sub : OpN K (n2 (rI0 fun i j => .int (i - j))) (fI (ii gSub)) := opn_ii fun a b d H Q e q => ⟨a, b, rfl, rfl, q _ fun G => by cases e; exact .int _⟩
theorem opn_mulI : OpN K (n2 (rI CMulW fun i j => .int (i * j))) (fI (ii gMul)) := opn_ii fun a b d H Q e q => by
  unfold gMul at e
  split at e
  · rename_i h; cases e; exact ⟨a, b, rfl, rfl, h, q _ fun G => .int _⟩
  · cases e
theorem opn_div : OpN K (n2 (rI CDivW fun i j => .int (i / j))) (fI (ii gDiv)) := opn_ii fun a b d H Q e q => by
  unfold gDiv at e
  split at e
  · rename_i h; cases e; exact ⟨a, b, rfl, rfl, h, q _ fun G => .int _⟩
  · cases e
theorem opn_mod : OpN K (n2 (rI (fun _ j => j ≠ 0) fun i j => .int (i.fmod j))) (fI (ii gMod)) := opn_ii fun a b d H Q e q => by
  unfold gMod at e
  split at e
  · rename_i h; cases e; exact ⟨a, b, rfl, rfl, h, q _ fun G => .int _⟩
  · cases e
theorem opn_pow : OpN K (n2 (rI CPow fun i j => .int (i ^ j.toNat))) (fI (ii gPow)) := opn_ii fun a b d H Q e q => by
  unfold gPow at e
  split at e
  · rename_i h; cases e; exact ⟨a, b, rfl, rfl, h, q _ fun G => .int _⟩
  · cases e
end
end DL

end
section
set_option maxHeartbeats 1000000
namespace DL
open PySem PySem.Spec L2

/-! ### data without dicts, not too deep -/
def okN : Nat → PyData → Bool
  | _, .none => true
  | _, .bool _ => true
  | _, .int _ => true
  | _, .str x => PyData.strOk x
  | n + 1, .list ds => ds.all (okN n)
  | n + 1, .tuple ds => ds.all (okN n)
  | _, _ => false
theorem all_lay {ds : List PyData} : (∀ d ∈ ds, PyData.canLay0 d = true) → PyData.canLayAll0 ds = true := by
  induction ds with
  | nil => intro _; simp [PyData.canLayAll0]
  | cons d ds ih =>
    intro h
    rw [PyData.canLayAll0, h d List.mem_cons_self, ih fun e he => h e (List.mem_cons_of_mem _ he)]
    rfl
theorem all_depth {n : Nat} {ds : List PyData} : (∀ d ∈ ds, PyData.depth d ≤ n) → PyData.depthAll ds ≤ n := by
  induction ds with
  | nil => intro _; simp [PyData.depthAll]
  | cons d ds ih =>
    intro h
    have h1 := h d List.mem_cons_self
    have h2 := ih fun e he => h e (List.mem_cons_of_mem _ he)
    rw [PyData.depthAll]
    omega
theorem okN_lay : ∀ (n : Nat) (d : PyData), okN n d = true → PyData.canLay0 d = true ∧ PyData.depth d ≤ n
  | _, .none, _ => by simp [PyData.canLay0, PyData.depth]
  | _, .bool _, _ => by simp [PyData.canLay0, PyData.depth]
  | _, .int _, _ => by simp [PyData.canLay0, PyData.depth]
  | _, .str x, h => by
    have h' : PyData.strOk x = true := by simpa [okN] using h
    simp [PyData.canLay0, PyData.depth, h']
  | 0, .list _, h => by simp [okN] at h
  | 0, .tuple _, h => by simp [okN] at h
  | n + 1, .list ds, h => by
    have h' : ∀ d ∈ ds, okN n d = true := by simpa [okN] using h
    have a := all_lay fun d hd => (okN_lay n d (h' d hd)).1
    have b := all_depth fun d hd => (okN_lay n d (h' d hd)).2
    simp only [PyData.canLay0, PyData.depth]
    exact ⟨a, by omega⟩
  | n + 1, .tuple ds, h => by
    have h' : ∀ d ∈ ds, okN n d = true := by simpa [okN] using h
    have a := all_lay fun d hd => (okN_lay n d (h' d hd)).1
    have b := all_depth fun d hd => (okN_lay n d (h' d hd)).2
    simp only [PyData.canLay0, PyData.depth]
    exact ⟨a, by omega⟩
  | _, .dict _, h => by simp [okN] at h
theorem okN_shaped {n : Nat} {d : PyData} (hn : n ≤ 64) (h : okN n d = true) : SeqAt.shaped d = true := by
  obtain ⟨a, b⟩ := okN_lay n d h
  show (d.canLay0 && decide (d.depth ≤ 64)) = true
  rw [a, decide_eq_true (by omega)]
  rfl
section
variable {K : PySem.W.Frag} {H : Hp}
mutual
theorem Rp.dp : ∀ {n : Nat} {v : V} {d : PyData}, okN n d = true → Rp K H v d → Dp K H v d
  | _, _, _, _, .non => .non
  | _, _, _, _, .bl b => .bl b
  | _, _, _, _, .int i => .int i
  | _, _, _, _, .str x => .str x
  | 0, _, _, h, .lst _ _ => by simp [okN] at h
  | 0, _, _, h, .tup _ _ => by simp [okN] at h
  | n + 1, _, _, h, .lst a b => .lst a (RpL.dp (n := n) (by simpa [okN] using h) b)
  | n + 1, _, _, h, .tup a b => .tup (.of a) (RpL.dp (n := n) (by simpa [okN] using h) b)
  | _, _, _, h, .dk _ _ => by simp [okN] at h
  | _, _, _, h, .dt _ _ => by simp [okN] at h
theorem RpL.dp : ∀ {n : Nat} {v : List V} {d : List PyData}, (∀ e ∈ d, okN n e = true) → RpL K H v d → DpAll K H v d
  | _, _, _, _, .nil => .nil
  | _, _, _, h, .cons a b => .cons (Rp.dp (h _ List.mem_cons_self) a) (RpL.dp (fun e he => h e (List.mem_cons_of_mem _ he)) b)
end
end

/-! ### + -/
section
variable {X : Cx} {K : PySem.W.Frag} {U : Rg} {H H' : Hp} {v x y : V} {d : PyData} {ds : List PyData} {vs xs : List V} {m n : Md} {T S : List Addr} {p : Addr} {o : HO} {rs : List (PyData × Md)} {r : List V → Hp → VK → Prop}
/-- list + list, of any that are read -/
def rCatS (K : PySem.W.Frag) : R2 := fun x y H Q => ∃ l b xs zs, x = .ref l ∧ y = .ref b ∧ SqL K H l xs ∧ SqL K H b zs ∧ xs.length + zs.length ≤ sizeLine ∧ ∀ p, H p = none → Q (.ref p) (upd H p (.lst (xs ++ zs)))
theorem op_catS : OpR X (binaryOp .Add) (rCatS X.K) := by
  intro pins s σ H x y v u Q I rx ry h
  obtain ⟨l, b, xs, zs, rfl, rfl, hH, hB, hz, q⟩ := h
  cases rx
  cases ry
  obtain ⟨its, r, ⟨⟨cls, dd, data, sl⟩, n, ho, hc, hdn, hdt⟩, _⟩ := I.list hH
  obtain ⟨its2, r2, ⟨⟨cls2, dd2, data2, sl2⟩, n2, ho2, hc2, hdn2, hdt2⟩, _⟩ := I.list hB
  simp only at hc hdt hc2 hdt2
  subst hc hdt hc2 hdt2
  have e : its.toArray ++ its2.toArray = (its ++ its2).toArray := by simp
  have l1 := r.length
  have l2 := r2.length
  refine concat_meets ⟨_, ho, rfl⟩ ⟨_, ho2, rfl⟩ noFill_list_add seq_list_add PySem.F.slot_list_add PySem.F.entry_list_add (PySem.F.args_list_add_2 _ _) (PyProof.Rows.list_addW l b its.toArray its2.toArray n n2 dd dd2 sl sl2 (by simp; omega)) ⟨ho, ho2, ?_⟩
  rw [e]
  exact ⟨.ref _, _, I.lnew (t' := s.toks) (r.append r2) (by rw [List.length_append]; omega), rfl, q _ I.fresh⟩
def rAdd (K : PySem.W.Frag) : R2 := fun x y H Q => rI0 (fun i j => .int (i + j)) x y H Q ∨ rCatA K x y H Q ∨ rCatS K x y H Q
theorem op_addU : OpR X (binaryOp .Add) (rAdd X.K) := fun pins s σ H x y v u Q I rx ry h => h.elim (op_add pins s σ H x y v u Q I rx ry) fun h => h.elim (op_catA pins s σ H x y v u Q I rx ry) (op_catS pins s σ H x y v u Q I rx ry)
def φAdd : List (PyData × Md) → Option (PyData × Md)
  | [(.int a, _), (.int b, _)] => some (.int (a + b), .S)
  | [(.tuple a, _), (.tuple b, _)] => if a.length + b.length ≤ LIM then some (.tuple (a ++ b), .S) else none
  | [(.list a, m), (.list b, n)] => if (m.fl && n.fl && decide (a.length + b.length ≤ LIM)) = true then some (.list (a ++ b), .F 1) else none
  | _ => none
theorem VlL.one_inv {W : Rg} (h : VlL K W H vs [(d, m)] T) : ∃ x, vs = [x] ∧ Vl K W H x d m T := by
  cases h with
  | cons h1 h2 _ => cases h2; exact ⟨_, rfl, by simpa using h1⟩
theorem VlL.two_inv {W : Rg} {e : PyData} (h : VlL K W H vs [(d, m), (e, n)] T) : ∃ x y T1 T2, vs = [x, y] ∧ Vl K W H x d m T1 ∧ Vl K W H y e n T2 ∧ (∀ a ∈ T1, a ∈ T) ∧ (∀ a ∈ T2, a ∈ T) := by
  cases h with
  | cons h1 h2 _ =>
    obtain ⟨y, rfl, h3⟩ := h2.one_inv
    exact ⟨_, _, _, _, rfl, h1, h3, fun a ha => List.mem_append_left _ ha, fun a ha => List.mem_append_right _ ha⟩
theorem opn_add : OpN K (n2 (rAdd K)) φAdd := by
  intro U H vs rs T d k Q hU h1 hT he hq x y e
  unfold φAdd at he
  split at he
  · cases he
    obtain ⟨x', y', T1, T2, e', h1, h2, _, _⟩ := h1.two_inv
    rw [e] at e'; cases e'
    cases h1.intV
    cases h2.intV
    exact .inl ⟨_, _, rfl, rfl, hq _ H [] (fun _ _ z => z) (fun _ z => nomatch z) (fun _ z => nomatch z) (vl_imm fun _ => .int _)⟩
  · rename_i a m' b n'
    split at he
    · rename_i hl
      cases he
      obtain ⟨x', y', T1, T2, e', h1, h2, _, _⟩ := h1.two_inv
      rw [e] at e'; cases e'
      have w1 := h1.tupR hT
      have w2 := h2.tupR hT
      obtain ⟨p, xs, rfl, hp, rp⟩ := h1.tupS hT
      obtain ⟨p2, ys, rfl, hp2, rp2⟩ := h2.tupS hT
      refine .inr (.inl ⟨_, _, _, _, rfl, rfl, .of hp, .of hp2, ?_, fun z => ?_, fun z z2 => ?_, fun z z2 q hn => ?_⟩)
      · rw [rpL_len rp, rpL_len rp2]; exact lim_ok hl
      · subst z
        cases rp
        exact hq _ H [] (fun _ _ z => z) (fun _ z => nomatch z) (fun _ z => nomatch z) ⟨rfl, w2.mono sub_nil⟩
      · subst z2
        cases rp2
        rw [List.append_nil] at hq
        exact hq _ H [] (fun _ _ z => z) (fun _ z => nomatch z) (fun _ z => nomatch z) ⟨rfl, w1.mono sub_nil⟩
      · exact hq _ _ [] (same_new hn) (fun _ z => nomatch z) (fun _ z => nomatch z) (vl_tup hU hn (rpL_app rp rp2))
    · cases he
  · rename_i a m' b n'
    split at he
    · rename_i hl
      cases he
      rw [Bool.and_eq_true, Bool.and_eq_true] at hl
      obtain ⟨⟨f1, f2⟩, hl⟩ := hl
      have hl := of_decide_eq_true hl
      obtain ⟨x', y', T1, T2, e', h1, h2, i1, i2⟩ := h1.two_inv
      rw [e] at e'; cases e'
      obtain ⟨p, xs, rfl, hp, rp⟩ := h1.flat hT i1 f1
      obtain ⟨p2, ys, rfl, hp2, rp2⟩ := h2.flat hT i2 f2
      refine .inr (.inr ⟨_, _, _, _, rfl, rfl, hp, hp2, ?_, fun q hn => ?_⟩)
      · rw [rpL_len rp, rpL_len rp2]; exact lim_ok hl
      · exact hq _ _ [q] (same_new hn) (new_far hU hn) (new_new hn) (vl_list hn (rpL_app rp rp2))
    · cases he
  · cases he
end
end DL

end
section
set_option maxHeartbeats 1000000
namespace DL
open PySem PySem.Spec L2
section
variable {X : Cx} {K : PySem.W.Frag} {U : Rg} {H H' : Hp} {v x y : V} {d : PyData} {ds : List PyData} {vs xs : List V} {m n : Md} {T S : List Addr} {p : Addr} {o : HO} {rs : List (PyData × Md)} {r : List V → Hp → VK → Prop}
/-! ### * ** -/
def rRepS (K : PySem.W.Frag) : R2 := fun x y H Q => ∃ l k xs, x = .ref l ∧ y = .int k ∧ SqL K H l xs ∧ -(2 ^ 63) ≤ k ∧ k < 2 ^ 63 ∧ xs.length * k.toNat ≤ sizeLine ∧ ∀ p, H p = none → Q (.ref p) (upd H p (.lst (List.replicate k.toNat xs).flatten))
theorem op_repS : OpR X (binaryOp .Mult) (rRepS X.K) := by
  intro pins s σ H x y v u Q I rx ry h
  obtain ⟨l, k, xs, rfl, rfl, hH, h1, h2, hz, q⟩ := h
  cases rx
  obtain ⟨t, rfl⟩ := ry
  obtain ⟨its, r, ⟨⟨cls, dd, data, sl⟩, n, e, hc, hdn, hdt⟩, _⟩ := I.list hH
  simp only at hc hdt
  subst hc hdt
  have hl := r.length
  have hlen : its.toArray.size * k.toNat ≤ sizeLine := by rw [List.size_toArray, ← hl]; exact hz
  have hcap : ¬ its.toArray.size * k.toNat > (2 ^ 63 - 1) / 8 := by
    have : (sizeLine : Nat) ≤ (2 ^ 63 - 1) / 8 := by decide
    omega
  have hfit : ¬ (!Builtin.List.listFitsIndex k) = true := by
    rw [fitsIndex_both h1 h2]
    exact Bool.false_ne_true
  have hlong : ¬ Builtin.List.listTooLong (its.toArray.size * k.toNat) = true := by
    rw [notLongL hlen]
    exact Bool.false_ne_true
  have hnew : List.foldl (fun x1 x2 => x1 ++ x2) #[] (List.replicate (if its.toArray.isEmpty = true then 0 else k.toNat) its.toArray) = (List.replicate k.toNat its).flatten.toArray := by
    have f0 : ∀ m : Nat, List.foldl (fun x1 x2 => x1 ++ x2) #[] (List.replicate m its.toArray) = (List.replicate m its).flatten.toArray := fun m => by
      have := foldl_rep its m []
      rw [List.nil_append] at this
      exact this
    rw [f0]
    cases its with
    | nil => simp
    | cons a r' => rw [if_neg (by simp)]
  refine wpAny_binaryOp_repeat_ref (T := "list") (U := "int") (by decide) ⟨_, e, rfl⟩ (fun s' => typeIs_int s' k t) noFill_list_mul F.fills_int_mul F.slot_int_rmul repeat_list F.slot_int_index.lookup
    (call_meets F.slot_int_rmul (typeIs_int s k t) F.entry_int_rmul (F.args_int_rmul_2 _ _) (lm_int_rmul_list_any k t l its.toArray n dd sl)
      ⟨e, rfl, ⟨_, e, rfl⟩, call_meets F.slot_list_mul ⟨_, e, rfl⟩ F.entry_list_mul (F.args_list_mul_2 _ _) (lm_list_mul_any l its.toArray n dd sl k t hfit hcap hlong) ⟨e, ?_⟩⟩)
  rw [hnew]
  exact ⟨.ref _, _, I.lnew (t' := s.toks) (r.rep k.toNat) (by rw [PyProof.Rows.lm_len_rep_flat, Nat.mul_comm]; exact hz), rfl, q _ I.fresh⟩
def rMul (K : PySem.W.Frag) : R2 := fun x y H Q => rI CMulW (fun i j => .int (i * j)) x y H Q ∨ rRepS K x y H Q
theorem op_mulU : OpR X (binaryOp .Mult) (rMul X.K) := fun pins s σ H x y v u Q I rx ry h => h.elim (op_mulW pins s σ H x y v u Q I rx ry) (op_repS pins s σ H x y v u Q I rx ry)
def φMul : List (PyData × Md) → Option (PyData × Md)
  | [(.int a, _), (.int b, _)] => if a.natAbs.log2 + b.natAbs.log2 < 1000000 then some (.int (a * b), .S) else none
  | [(.list a, m), (.int k, _)] => if (m.fl && decide (k ≤ 100000) && decide (a.length * k.toNat ≤ LIM) && decide (-100000 ≤ k)) = true then some (.list (List.replicate k.toNat a).flatten, .F 1) else none
  | _ => none
theorem opn_mul : OpN K (n2 (rMul K)) φMul := by
  intro U H vs rs T d k Q hU h1 hT he hq x y e
  unfold φMul at he
  split at he
  · split at he
    · rename_i hb
      cases he
      obtain ⟨x', y', T1, T2, e', h1, h2, _, _⟩ := h1.two_inv
      rw [e] at e'; cases e'
      cases h1.intV
      cases h2.intV
      exact .inl ⟨_, _, rfl, rfl, hb, hq _ H [] (fun _ _ z => z) (fun _ z => nomatch z) (fun _ z => nomatch z) (vl_imm fun _ => .int _)⟩
    · cases he
  · rename_i a m' k' n'
    split at he
    · rename_i hl
      cases he
      rw [Bool.and_eq_true, Bool.and_eq_true, Bool.and_eq_true] at hl
      obtain ⟨⟨⟨f1, hk⟩, hl⟩, hk2⟩ := hl
      have hk := of_decide_eq_true hk
      have hl := of_decide_eq_true hl
      have hk2 := of_decide_eq_true hk2
      obtain ⟨x', y', T1, T2, e', h1, h2, i1, i2⟩ := h1.two_inv
      rw [e] at e'; cases e'
      cases h2.intV
      obtain ⟨p, xs, rfl, hp, rp⟩ := h1.flat hT i1 f1
      refine .inr ⟨_, _, _, rfl, rfl, hp, by omega, by omega, ?_, fun q hn => ?_⟩
      · rw [rpL_len rp]; exact lim_ok hl
      · exact hq _ _ [q] (same_new hn) (new_far hU hn) (new_new hn) (vl_list hn (rpL_rep rp _))
    · cases he
  · cases he
theorem op_powW : OpR X (binaryOp .Pow) (rI (fun i j => 0 ≤ j ∧ (i.natAbs.log2 + 1) * j.toNat ≤ 2 ^ 27) fun i j => .int (i ^ j.toNat)) := opI fun i j _ _ _ _ _ hc q => PyProof.Rows.pow_int hc.1 (by
  have h1 : Builtin.Int.intBits i ≤ i.natAbs.log2 + 1 := by
    unfold Builtin.Int.intBits
    split <;> omega
  have h2 : Builtin.Int.intBits i * j.toNat ≤ 2 ^ 27 := Nat.le_trans (Nat.mul_le_mul_right _ h1) hc.2
  have h3 : ((j.toNat : Nat) : Int) = j := Int.toNat_of_nonneg hc.1
  rw [← h3]
  have h4 : ((Builtin.Int.intBits i * j.toNat : Nat) : Int) ≤ ((2 ^ 27 : Nat) : Int) := Int.ofNat_le.mpr h2
  rw [Int.natCast_mul] at h4
  exact h4) q
def gPowW (a b : Int) : Option PyData := if 0 ≤ b ∧ (a.natAbs.log2 + 1) * b.toNat ≤ 2 ^ 27 then some (.int (a ^ b.toNat)) else none
theorem opn_powW : OpN K (n2 (rI (fun i j => 0 ≤ j ∧ (i.natAbs.log2 + 1) * j.toNat ≤ 2 ^ 27) fun i j => .int (i ^ j.toNat))) (fI (ii gPowW)) := opn_ii fun a b d H Q e q => by
  unfold gPowW at e
  split at e
  · rename_i h; cases e; exact ⟨a, b, rfl, rfl, h, q _ fun G => .int _⟩
  · cases e
/-! ### unary -/
def pNeg : List PyData → Option PyData
  | [.int a] => some (.int (-a))
  | _ => none
theorem opn_neg : OpN K (n1 (rU fun i => .int (-i))) (fI pNeg) := opn_imm fun H vs ds d Q hr he hq x e => by
  subst e
  match ds, he with
  | [.int a], he =>
    cases he
    cases hr with
    | cons h1 h2 => cases h1; exact ⟨a, rfl, hq _ fun _ => .int _⟩
/-! ### == != < <= > >= -/
def scalD : PyData → PyData → Bool
  | .none, .none => true | .none, .int _ => true | .int _, .none => true | .none, .bool _ => true | .bool _, .none => true | .none, .str _ => true | .str _, .none => true
  | .int _, .int _ => true | .bool _, .bool _ => true | .str _, .str _ => true
  | .int _, .str _ => true | .str _, .int _ => true | .bool _, .str _ => true | .str _, .bool _ => true
  | _, _ => false
def pEqv (a b : PyData) : Option Bool := if (scalD a b || (okN 9 a && okN 9 b)) = true then some (PyData.eqv a b) else none
def pEq : List PyData → Option PyData
  | [a, b] => match pEqv a b with
    | some c => some (.bool c)
    | none => none
  | _ => none
def pNe : List PyData → Option PyData
  | [a, b] => match pEqv a b with
    | some c => some (.bool (!c))
    | none => none
  | _ => none
def rEqU (K : PySem.W.Frag) : R2 := fun x y H Q => rEq x y H Q ∨ rEqD K x y H Q
def rNeU (K : PySem.W.Frag) : R2 := fun x y H Q => rNe x y H Q ∨ rNeD K x y H Q
theorem op_eqU (hu : X.A.units + 64 < cLine) : OpR X (compareOp .Eq) (rEqU X.K) := fun pins s σ H x y v u Q I rx ry h => h.elim (op_eq pins s σ H x y v u Q I rx ry) (op_eqD hu pins s σ H x y v u Q I rx ry)
theorem op_neU (hu : X.A.units + 64 < cLine) : OpR X (compareOp .NotEq) (rNeU X.K) := fun pins s σ H x y v u Q I rx ry h => h.elim (op_ne pins s σ H x y v u Q I rx ry) (op_neD hu pins s σ H x y v u Q I rx ry)
theorem scal_rp {e : PyData} (hx : Rp K H x d) (hy : Rp K H y e) (h : scalD d e = true) : scal x y = true ∧ decide (x = y) = PyData.eqv d e := by
  cases hx <;> cases hy <;> first
    | (simp [scalD] at h; done)
    | (refine ⟨rfl, ?_⟩; simp [PyData.eqv]; done)
    | (refine ⟨rfl, ?_⟩; simp [PyData.eqv]; rw [Bool.eq_iff_iff]; simp)
theorem pEqv_run {e : PyData} {c : Bool} {Q : VK} (hx : Rp K H x d) (hy : Rp K H y e) (h : pEqv d e = some c) (q : ∀ k, k = c → Q (.bl k) H) : rEqU K x y H Q := by
  unfold pEqv at h
  split at h
  · rename_i hc
    cases h
    rw [Bool.or_eq_true] at hc
    rcases hc with hc | hc
    · obtain ⟨h1, h2⟩ := scal_rp hx hy hc
      exact .inl ⟨h1, q _ h2⟩
    · rw [Bool.and_eq_true] at hc
      exact .inr ⟨d, e, hx.dp hc.1, hy.dp hc.2, okN_shaped (by decide) hc.1, okN_shaped (by decide) hc.2, q _ rfl⟩
  · cases h
theorem pNev_run {e : PyData} {c : Bool} {Q : VK} (hx : Rp K H x d) (hy : Rp K H y e) (h : pEqv d e = some c) (q : ∀ k, k = !c → Q (.bl k) H) : rNeU K x y H Q := by
  unfold pEqv at h
  split at h
  · rename_i hc
    cases h
    rw [Bool.or_eq_true] at hc
    rcases hc with hc | hc
    · obtain ⟨h1, h2⟩ := scal_rp hx hy hc
      exact .inl ⟨h1, q _ (by rw [h2])⟩
    · rw [Bool.and_eq_true] at hc
      exact .inr ⟨d, e, hx.dp hc.1, hy.dp hc.2, okN_shaped (by decide) hc.1, okN_shaped (by decide) hc.2, q _ rfl⟩
  · cases h
theorem opn_eq : OpN K (n2 (rEqU K)) (fI pEq) := opn_imm fun H vs ds d Q hr he hq x y e => by
  subst e
  match ds, he with
  | [a, b], he =>
    simp only [pEq] at he
    split at he
    · rename_i c hc
      cases he
      cases hr with
      | cons h1 h2 => cases h2 with
        | cons h2 h3 => exact pEqv_run h1 h2 hc fun k e => by subst e; exact hq _ fun _ => .bl _
    · cases he
theorem opn_ne : OpN K (n2 (rNeU K)) (fI pNe) := opn_imm fun H vs ds d Q hr he hq x y e => by
  subst e
  match ds, he with
  | [a, b], he =>
    simp only [pNe] at he
    split at he
    · rename_i c hc
      cases he
      cases hr with
      | cons h1 h2 => cases h2 with
        | cons h2 h3 => exact pNev_run h1 h2 hc fun k e => by subst e; exact hq _ fun _ => .bl _
    · cases he
def intsD : List PyData → Option (List Int)
  | [] => some []
  | .int i :: r => match intsD r with
    | some l => some (i :: l)
    | none => none
  | _ => none
theorem intsD_rp {G : Hp} : ∀ {ds : List PyData} {ns : List Int} {xs : List V}, intsD ds = some ns → RpL K G xs ds → xs = ns.map V.int
  | [], ns, xs, e, r => by cases e; cases r; rfl
  | d :: ds, ns, xs, e, r => by
    cases r with
    | cons h1 h2 =>
      cases h1 with
      | int i =>
        simp only [intsD] at e
        split at e
        · rename_i l hl
          cases e
          rw [intsD_rp hl h2]
          rfl
        · cases e
      | _ => simp [intsD] at e
theorem intsD_map (ns : List Int) : intsD (ns.map .int) = some ns := by
  induction ns with
  | nil => rfl
  | cons n ns ih => simp only [List.map_cons, intsD, ih]
def pLt : List PyData → Option PyData
  | [.int a, .int b] => some (.bool (decide (a < b)))
  | [.tuple a, .tuple b] => match intsD a, intsD b with
    | some l, some k => some (.bool (HT.lexLt l k))
    | _, _ => none
  | _ => none
def rLtU (K : PySem.W.Frag) : R2 := fun x y H Q => rI0 (fun i j => .bl (decide (i < j))) x y H Q ∨ rLtT K x y H Q
theorem op_ltU (hu : X.A.units < cLine) : OpR X (compareOp .Lt) (rLtU X.K) := fun pins s σ H x y v u Q I rx ry h => h.elim (op_lt pins s σ H x y v u Q I rx ry) (op_ltT hu pins s σ H x y v u Q I rx ry)
theorem opn_lt : OpN K (n2 (rLtU K)) (fI pLt) := opn_imm fun H vs ds d Q hr he hq x y e => by
  subst e
  unfold pLt at he
  split at he
  · cases he
    cases hr with
    | cons h1 h2 => cases h2 with
      | cons h2 h3 => cases h1; cases h2; exact .inl ⟨_, _, rfl, rfl, hq _ fun _ => .bl _⟩
  · split at he
    · rename_i hl hk
      cases he
      cases hr with
      | cons h1 h2 => cases h2 with
        | cons h2 h3 =>
          cases h1 with
          | tup a1 b1 => cases h2 with
            | tup a2 b2 =>
              rw [intsD_rp hl b1] at a1
              rw [intsD_rp hk b2] at a2
              exact .inr ⟨_, _, _, _, rfl, rfl, .of a1, .of a2, hq _ fun _ => .bl _⟩
    · cases he
  · cases he
theorem opn_le : OpN K (n2 (rI0 fun i j => .bl (decide (i ≤ j)))) (fI (ii gLe)) := opn_ii fun a b d H Q e q => ⟨a, b, rfl, rfl, q _ fun G => by cases e; exact .bl _⟩
theorem opn_gt : OpN K (n2 (rI0 fun i j => .bl (decide (j < i)))) (fI (ii gGt)) := opn_ii fun a b d H Q e q => ⟨a, b, rfl, rfl, q _ fun G => by cases e; exact .bl _⟩
theorem opn_ge : OpN K (n2 (rI0 fun i j => .bl (decide (j ≤ i)))) (fI (ii gGe)) := opn_ii fun a b d H Q e q => ⟨a, b, rfl, rfl, q _ fun G => by cases e; exact .bl _⟩
/-! ### is -/
def pIs : List PyData → Option PyData
  | [.none, .none] => some (.bool true)
  | [_, .none] => some (.bool false)
  | [.bool a, .bool b] => some (.bool (decide (a = b)))
  | _ => none
def pIsNot : List PyData → Option PyData
  | [.none, .none] => some (.bool false)
  | [_, .none] => some (.bool true)
  | [.bool a, .bool b] => some (.bool (!decide (a = b)))
  | _ => none
def rIs : R2 := fun x y H Q => (y = .non ∧ Q (.bl (decide (x = .non))) H) ∨ (∃ a b, x = .bl a ∧ y = .bl b ∧ Q (.bl (decide (a = b))) H)
def rIsNot : R2 := fun x y H Q => (y = .non ∧ Q (.bl (!decide (x = .non))) H) ∨ (∃ a b, x = .bl a ∧ y = .bl b ∧ Q (.bl (!decide (a = b))) H)
theorem op_isU : OpR X (compareOp .Is) rIs := fun pins s σ H x y v u Q I rx ry h => h.elim (op_isN pins s σ H x y v u Q I rx ry) (op_is_bl pins s σ H x y v u Q I rx ry)
theorem op_isnotU : OpR X (compareOp .IsNot) rIsNot := fun pins s σ H x y v u Q I rx ry h => h.elim (op_notN pins s σ H x y v u Q I rx ry) (op_isnot_bl pins s σ H x y v u Q I rx ry)
theorem rp_none (h : Rp K H x d) : (d = .none ∧ x = .non) ∨ (d ≠ .none ∧ x ≠ .non) := by
  cases h <;> first
    | exact .inl ⟨rfl, rfl⟩
    | exact .inr ⟨fun z => (nomatch z), fun z => (nomatch z)⟩
theorem opn_is : OpN K (n2 rIs) (fI pIs) := opn_imm fun H vs ds d Q hr he hq x y e => by
  subst e
  unfold pIs at he
  split at he
  · cases he
    cases hr with
    | cons h1 h2 => cases h2 with
      | cons h2 h3 => cases h1; cases h2; exact .inl ⟨rfl, hq _ fun _ => .bl _⟩
  · rename_i a hna
    cases he
    cases hr with
    | cons h1 h2 => cases h2 with
      | cons h2 h3 =>
        cases h2
        rcases rp_none h1 with ⟨e, _⟩ | ⟨_, e⟩
        · exact (hna e).elim
        · exact .inl ⟨rfl, by rw [decide_eq_false e]; exact hq _ fun _ => .bl _⟩
  · cases he
    cases hr with
    | cons h1 h2 => cases h2 with
      | cons h2 h3 => cases h1; cases h2; exact .inr ⟨_, _, rfl, rfl, hq _ fun _ => .bl _⟩
  · cases he
theorem opn_isnot : OpN K (n2 rIsNot) (fI pIsNot) := opn_imm fun H vs ds d Q hr he hq x y e => by
  subst e
  unfold pIsNot at he
  split at he
  · cases he
    cases hr with
    | cons h1 h2 => cases h2 with
      | cons h2 h3 => cases h1; cases h2; exact .inl ⟨rfl, hq _ fun _ => .bl _⟩
  · rename_i a hna
    cases he
    cases hr with
    | cons h1 h2 => cases h2 with
      | cons h2 h3 =>
        cases h2
        rcases rp_none h1 with ⟨e, _⟩ | ⟨_, e⟩
        · exact (hna e).elim
        · exact .inl ⟨rfl, by rw [decide_eq_false e]; exact hq _ fun _ => .bl _⟩
  · cases he
    cases hr with
    | cons h1 h2 => cases h2 with
      | cons h2 h3 => cases h1; cases h2; exact .inr ⟨_, _, rfl, rfl, hq _ fun _ => .bl _⟩
  · cases he
end
end DL

end
section
set_option maxHeartbeats 1000000
namespace DL
open PySem PySem.Spec L2
section
variable {X : Cx} {K : PySem.W.Frag} {U : Rg} {H H' : Hp} {v x y : V} {d : PyData} {ds : List PyData} {vs xs : List V} {m n : Md} {T S : List Addr} {p : Addr} {o : HO} {rs : List (PyData × Md)} {r : List V → Hp → VK → Prop} {e a b : Expr} {es : List Expr} {f g : FE} {q q1 q2 : Bool} {pos : Pos}
/-! ### in, not in -/
def rInT (K : PySem.W.Frag) : R2 := fun x y H Q => ∃ d ds, Dp K H x d ∧ Dp K H y (.tuple ds) ∧ SeqAt.shaped d = true ∧ SeqAt.shaped (.tuple ds) = true ∧ Q (.bl (ds.any fun z => PyData.eqv z d)) H
def rNotInT (K : PySem.W.Frag) : R2 := fun x y H Q => ∃ d ds, Dp K H x d ∧ Dp K H y (.tuple ds) ∧ SeqAt.shaped d = true ∧ SeqAt.shaped (.tuple ds) = true ∧ Q (.bl (!ds.any fun z => PyData.eqv z d)) H
theorem room_in_tup {A : Around} {ds : List PyData} (h : SeqAt.shaped d = true) (hu : A.units + 65 < cLine) : A.units + 1 + min (PyData.depthAll ds) d.depth < cLine := by
  have h1 := SeqAt.depth_of_shaped h
  omega
theorem op_inT (hu : X.A.units + 65 < cLine) : OpR X (compareOp .In) (rInT X.K) := by
  intro pins s σ H x y v u Q I rx ry h
  obtain ⟨d, ds, hd, he, sd, se, q⟩ := h
  obtain ⟨as, r1⟩ := Dp.reads I d x v hd rx
  obtain ⟨bs, r2⟩ := Dp.reads I (.tuple ds) y u he ry
  exact SeqAt.in_tuple_reads r2 r1 (SeqAt.canLay_of_shaped se) (SeqAt.canLay_of_shaped sd) (room_in_tup sd hu) ⟨.bl _, H, I, rfl, q⟩
theorem op_notInT (hu : X.A.units + 65 < cLine) : OpR X (compareOp .NotIn) (rNotInT X.K) := by
  intro pins s σ H x y v u Q I rx ry h
  obtain ⟨d, ds, hd, he, sd, se, q⟩ := h
  obtain ⟨as, r1⟩ := Dp.reads I d x v hd rx
  obtain ⟨bs, r2⟩ := Dp.reads I (.tuple ds) y u he ry
  exact SeqAt.notIn_tuple_reads r2 r1 (SeqAt.canLay_of_shaped se) (SeqAt.canLay_of_shaped sd) (room_in_tup sd hu) ⟨.bl _, H, I, rfl, q⟩
def rInU (K : PySem.W.Frag) : R2 := fun x y H Q => rInD K x y H Q ∨ rInT K x y H Q
def rNotInU (K : PySem.W.Frag) : R2 := fun x y H Q => rNotInD K x y H Q ∨ rNotInT K x y H Q
theorem op_inU (hu : X.A.units + 65 < cLine) : OpR X (compareOp .In) (rInU X.K) := fun pins s σ H x y v u Q I rx ry h => h.elim (op_inD hu pins s σ H x y v u Q I rx ry) (op_inT hu pins s σ H x y v u Q I rx ry)
theorem op_notInU (hu : X.A.units + 65 < cLine) : OpR X (compareOp .NotIn) (rNotInU X.K) := fun pins s σ H x y v u Q I rx ry h => h.elim (op_notInD hu pins s σ H x y v u Q I rx ry) (op_notInT hu pins s σ H x y v u Q I rx ry)
def inD (neg : Bool) (d : PyData) (ds : List PyData) : Option PyData := if (okN 9 d && ds.all (okN 9)) = true then some (.bool (if neg then !ds.any (fun z => PyData.eqv z d) else ds.any fun z => PyData.eqv z d)) else none
def pIn (neg : Bool) : List PyData → Option PyData
  | [d, .list ds] => inD neg d ds
  | [d, .tuple ds] => inD neg d ds
  | _ => none
theorem inD_inv {neg : Bool} {e : PyData} (h : inD neg d ds = some e) : okN 9 d = true ∧ ds.all (okN 9) = true ∧ e = .bool (if neg then !ds.any (fun z => PyData.eqv z d) else ds.any fun z => PyData.eqv z d) := by
  unfold inD at h
  split at h
  · rename_i hc
    rw [Bool.and_eq_true] at hc
    cases h
    exact ⟨hc.1, hc.2, rfl⟩
  · cases h
theorem opn_in : OpN K (n2 (rInU K)) (fI (pIn false)) := opn_imm fun H vs ds d Q hr he hq x y e => by
  subst e
  unfold pIn at he
  split at he
  · obtain ⟨h1, h2, rfl⟩ := inD_inv he
    cases hr with
    | cons r1 r2 => cases r2 with
      | cons r2 r3 =>
        have h3 : okN 10 (.list _) = true := h2
        exact .inl ⟨_, _, r1.dp h1, r2.dp h3, okN_shaped (by decide) h1, okN_shaped (by decide) h3, hq _ fun _ => .bl _⟩
  · obtain ⟨h1, h2, rfl⟩ := inD_inv he
    cases hr with
    | cons r1 r2 => cases r2 with
      | cons r2 r3 =>
        have h3 : okN 10 (.tuple _) = true := h2
        exact .inr ⟨_, _, r1.dp h1, r2.dp h3, okN_shaped (by decide) h1, okN_shaped (by decide) h3, hq _ fun _ => .bl _⟩
  · cases he
theorem opn_notin : OpN K (n2 (rNotInU K)) (fI (pIn true)) := opn_imm fun H vs ds d Q hr he hq x y e => by
  subst e
  unfold pIn at he
  split at he
  · obtain ⟨h1, h2, rfl⟩ := inD_inv he
    cases hr with
    | cons r1 r2 => cases r2 with
      | cons r2 r3 =>
        have h3 : okN 10 (.list _) = true := h2
        exact .inl ⟨_, _, r1.dp h1, r2.dp h3, okN_shaped (by decide) h1, okN_shaped (by decide) h3, hq _ fun _ => .bl _⟩
  · obtain ⟨h1, h2, rfl⟩ := inD_inv he
    cases hr with
    | cons r1 r2 => cases r2 with
      | cons r2 r3 =>
        have h3 : okN 10 (.tuple _) = true := h2
        exact .inr ⟨_, _, r1.dp h1, r2.dp h3, okN_shaped (by decide) h1, okN_shaped (by decide) h3, hq _ fun _ => .bl _⟩
  · cases he
/-! ### xs[i] -/
def fIx : List (PyData × Md) → Option (PyData × Md)
  | [(.list ds, m), (.int i, _)] => match atI ds i with
    | some d => match m with
      | .S => some (d, .S)
      | .F _ => some (d, .S)
      | .B 1 => some (d, .S)
      | .B (n + 2) => some (d, .B (n + 1))
      | .B 0 => none
    | none => none
  | [(.tuple ds, _), (.int i, _)] => match atI ds i with
    | some d => some (d, .S)
    | none => none
  | _ => none
theorem bwL_at {G : Hp} {k : Nat} : ∀ {xs : List V} {ds : List PyData} {i : Nat} {d : PyData}, BwL K G H k xs ds → ds[i]? = some d → ∃ x, xs[i]? = some x ∧ Bw K G H k x d
  | _, _, i, _, .nil, e => by simp at e
  | _, _, 0, _, .cons h r, e => by
    simp at e
    subst e
    exact ⟨_, rfl, h⟩
  | _, _, i + 1, _, .cons h r, e => by
    obtain ⟨x, e1, e2⟩ := bwL_at (i := i) r (by simpa using e)
    exact ⟨x, by simpa using e1, e2⟩
theorem bwL_len {G : Hp} {k : Nat} : ∀ {xs : List V} {ds : List PyData}, BwL K G H k xs ds → xs.length = ds.length
  | _, _, .nil => rfl
  | _, _, .cons h r => congrArg (· + 1) (bwL_len r)
theorem bwL_atI {G : Hp} {k : Nat} {i : Int} (h : BwL K G H k xs ds) (e : atI ds i = some d) : ∃ x, atI xs i = some x ∧ Bw K G H k x d := by
  unfold atI at e ⊢
  rw [bwL_len h]
  cases q : ixN ds.length i with
  | none => rw [q] at e; cases e
  | some j => rw [q] at e; exact bwL_at h e
theorem opn_ix : OpN K (n2 (rIx K)) fIx := by
  intro U H vs rs T d k Q hU h1 hT he hq x y e
  have nn := fun (a : Addr) (z : a ∈ ([] : List Addr)) => (nomatch z : ¬ U a)
  have n2 := fun (a : Addr) (z : a ∈ ([] : List Addr)) => (nomatch z : a ∈ T ∨ H a = none)
  have flat : ∀ {ds : List PyData} {m mi : Md} {i : Int}, m.fl = true → atI ds i = some d → k = .S → VlL K (plus U T) H vs [(.list ds, m), (.int i, mi)] T → rIx K x y H Q := fun {ds m mi i} hm hat hk h1 => by
    obtain ⟨x', y', T1, T2, e', h1, h2, i1, i2⟩ := h1.two_inv
    rw [e] at e'; cases e'
    cases h2.intV
    subst hk
    obtain ⟨p, xs, rfl, hp, rp⟩ := h1.flat hT i1 hm
    obtain ⟨w, hw, rw'⟩ := rpL_atI rp hat
    exact .inl ⟨p, xs, _, w, rfl, rfl, hp, hw, hq w H [] (fun _ _ z => z) nn n2 ⟨rfl, rw'.mono sub_nil⟩⟩
  unfold fIx at he
  split at he
  · split at he
    · rename_i hat
      split at he
      · cases he; exact flat rfl hat rfl h1
      · cases he; exact flat rfl hat rfl h1
      · cases he; exact flat rfl hat rfl h1
      · cases he
        obtain ⟨x', y', T1, T2, e', h1, h2, i1, i2⟩ := h1.two_inv
        rw [e] at e'; cases e'
        cases h2.intV
        obtain ⟨_, h1⟩ := h1
        cases h1 with
        | lst hl hb =>
          obtain ⟨w, hw, bw⟩ := bwL_atI hb hat
          exact .inl ⟨_, _, _, w, rfl, rfl, .of hl, hw, hq w H [] (fun _ _ z => z) nn n2 ⟨rfl, bw.mono (fun a o z => sub_nil a o (sub_plus hT a o z)) fun _ _ z => z⟩⟩
      · cases he
    · cases he
  · split at he
    · rename_i hat
      cases he
      obtain ⟨x', y', T1, T2, e', h1, h2, i1, i2⟩ := h1.two_inv
      rw [e] at e'; cases e'
      cases h2.intV
      obtain ⟨p, xs, rfl, hp, rp⟩ := h1.tupS hT
      obtain ⟨w, hw, rw'⟩ := rpL_atI rp hat
      exact .inr (.inl ⟨p, xs, _, w, rfl, rfl, .of hp, hw, hq w H [] (fun _ _ z => z) nn n2 ⟨rfl, rw'.mono sub_nil⟩⟩)
    · cases he
  · cases he
theorem de_ix (ha : DE X q1 a f) (hb : DE X q2 b g) (hs : PlainIx b := by exact fun _ _ => rfl) : DE X (q1 && q2) (.Subscript a b pos) (f2 q2 f g fIx) := L2.PE.weak (pe_ix ix_seq ha hb hs) (top_run opn_ix)
/-! ### xs[a:b] -/
abbrev FO := Rho → Option (Option Int)
def tDO (K : PySem.W.Frag) (f : FO) : TO := fun σ H Q => ∃ R U pn ρ i, SR K R U pn ρ σ H ∧ f ρ = some i ∧ ∀ H' U', Pst K R U pn ρ σ H true U' [] H' → Q i H'
def DO (X : Cx) (e : Option Expr) (f : FO) : Prop := ∃ t, PO X e t ∧ ∀ σ H Q, tDO X.K f σ H Q → t σ H Q
def foN : FO := fun _ => some none
/-- quiet: the slots stay -/
def foS (f : FE) : FO := fun ρ => match f ρ with
  | some (.int i, _, _) => some (some i)
  | _ => none
theorem do_none : DO X none foN := ⟨_, po_none, fun σ H Q z => by
  obtain ⟨R, U, pn, ρ, i, I, e, k⟩ := z
  cases e
  exact k H U (.refl I)⟩
theorem do_some (h : DE X true e f) (hf : ∀ ρ d m ρ', f ρ = some (d, m, ρ') → ρ' = ρ) : DO X (some e) (foS f) := ⟨_, po_some h, fun σ H Q z => by
  obtain ⟨R, U, pn, ρ, i, I, e, k⟩ := z
  unfold foS at e
  split at e
  · rename_i j m ρ1 he
    cases e
    have := hf _ _ _ _ he
    subst this
    refine ⟨R, U, pn, _, _, _, _, I, he, fun v H' U' T p r => ⟨j, r.intV, k H' _ p.drop⟩⟩
  · cases e⟩
def cutD (ds : List PyData) (lo hi : Option Int) : List PyData := (ds.drop (HT.sIx ds.length 0 lo)).take (HT.sIx ds.length ds.length hi - HT.sIx ds.length 0 lo)
def fSl (f : FE) (lo hi : FO) : FE := fun ρ => match f ρ with
  | some (d, m, ρ1) => match lo ρ1, hi ρ1 with
    | some l, some h => match d with
      | .list ds => if m.fl = true then some (.list (cutD ds l h), .F 1, ρ1) else none
      | .tuple ds => some (.tuple (cutD ds l h), .S, ρ1)
      | _ => none
    | _, _ => none
  | none => none
def rSlU (K : PySem.W.Frag) : V → Option Int → Option Int → Hp → VK → Prop := fun x lo hi H Q => rSlL K x lo hi H Q ∨ rSlA K x lo hi H Q
theorem rpL_cut {G : Hp} {lo hi : Option Int} (h : RpL K G xs ds) : RpL K G (cutV xs lo hi) (cutD ds lo hi) := by
  unfold cutV cutD
  rw [rpL_len h]
  exact rpL_take _ (rpL_drop _ h)
def nSl (r : V → Option Int → Option Int → Hp → VK → Prop) (lo hi : Option Int) : List V → Hp → VK → Prop := fun vs H Q => ∀ x, vs = [x] → r x lo hi H Q
def φSl (lo hi : Option Int) : List (PyData × Md) → Option (PyData × Md)
  | [(.list ds, m)] => if m.fl = true then some (.list (cutD ds lo hi), .F 1) else none
  | [(.tuple ds, _)] => some (.tuple (cutD ds lo hi), .S)
  | _ => none
theorem cut_all {lo hi : Option Int} (h : HT.sIx ds.length 0 lo = 0 ∧ HT.sIx ds.length ds.length hi = ds.length) : cutD ds lo hi = ds := by
  unfold cutD
  rw [h.1, h.2]
  simp
theorem opn_sl {lo hi : Option Int} : OpN K (nSl (rSlU K) lo hi) (φSl lo hi) := by
  intro U H vs rs T d k Q hU h1 hT he hq x e
  unfold φSl at he
  split at he
  · split at he
    · rename_i hm
      cases he
      obtain ⟨x', e', h1⟩ := h1.one_inv
      rw [e] at e'; cases e'
      obtain ⟨p, xs, rfl, hp, rp⟩ := h1.flat hT (fun _ z => z) hm
      exact .inl ⟨p, xs, rfl, hp, fun q hn => hq _ _ [q] (same_new hn) (new_far hU hn) (new_new hn) (vl_list hn (rpL_cut rp))⟩
    · cases he
  · cases he
    obtain ⟨x', e', h1⟩ := h1.one_inv
    rw [e] at e'; cases e'
    have w1 := h1.tupR hT
    obtain ⟨p, xs, rfl, hp, rp⟩ := h1.tupS hT
    refine .inr ⟨p, xs, rfl, .of hp, fun z => ?_, fun _ q hn => hq _ _ [] (same_new hn) (fun _ z => nomatch z) (fun _ z => nomatch z) (vl_tup hU hn (rpL_cut rp))⟩
    rw [rpL_len rp] at z
    refine hq _ H [] (fun _ _ z => z) (fun _ z => nomatch z) (fun _ z => nomatch z) ⟨rfl, ?_⟩
    rw [cut_all z]
    exact w1.mono sub_nil
  · cases he
theorem de_slice {lo hi : Option Expr} {l h : FO} {p2 : Pos} (ha : DE X q a f) (hl : DO X lo l) (hh : DO X hi h) : DE X q (.Subscript a (.Slice lo hi none p2) pos) (fSl f l h) := by
  obtain ⟨tl, pl, wl⟩ := hl
  obtain ⟨th, ph, wh⟩ := hh
  refine L2.PE.weak (pe_slice (SlR.or sl_list sl_tupA) ha pl ph) fun σ H Q z => ?_
  obtain ⟨R, U, pn, ρ, d, m, ρ', I, e, k⟩ := z
  unfold fSl at e
  split at e
  · rename_i d1 m1 ρ1 he
    split at e
    · rename_i i j hi hj
      refine ⟨R, U, pn, ρ, _, _, _, I, he, fun v H1 U1 T p r => wl _ _ _ ⟨_, _, _, _, _, p.sr, hi, fun H2 U2 p2 => wh _ _ _ ⟨_, _, _, _, _, p2.sr0, hj, fun H3 U3 p3 => ?_⟩⟩⟩
      have pp : Pst X.K R U pn ρ1 σ H (q && (true && true)) U3 (T ++ []) H3 := p.trans (p2.trans0 p3)
      have pq : Pst X.K R U pn ρ1 σ H q U3 T H3 := by simpa using pp
      have r' : Vl X.K U3 H3 v d1 m1 T := (r.keep p2 fun _ => rfl).keep (R := R) (ρ'' := ρ1) (p3) fun _ => rfl
      have key : ∀ dd k', φSl i j [(d1, m1)] = some (dd, k') → some (dd, k', ρ1) = some (d, m, ρ') → rSlL X.K v i j H3 Q ∨ rSlA X.K v i j H3 Q := fun dd k' hφ hh => by
        cases hh
        exact opn_run opn_sl pq (VlL.one r') hφ k v rfl
      split at e
      · split at e
        · rename_i hm
          exact key _ _ (by simp [φSl, hm]) e
        · cases e
      · exact key _ _ rfl e
      · cases e
    · cases e
  · cases e
/-! ### displays -/
theorem VlL.shr {vs : List V} {rs : List (PyData × Md)} {S : List Addr} (h : VlL K (plus U T) H vs rs S) (hT : ∀ a ∈ T, ¬ U a) : (∀ a ∈ S, a ∈ T) → (rs.all fun r => !r.2.b) = true → RpL K (DL.sub H U) vs (rs.map (·.1)) := by
  induction h with
  | nil => exact fun _ _ => .nil
  | cons h1 _ _ ih =>
    intro hs hb
    rw [List.all_cons, Bool.and_eq_true] at hb
    exact .cons (h1.shr hT (fun a ha => hs a (List.mem_append_left _ ha)) (by simpa using hb.1)) (ih (fun a ha => hs a (List.mem_append_right _ ha)) hb.2)
def φTup (rs : List (PyData × Md)) : Option (PyData × Md) := if ((rs.all fun r => !r.2.b) && decide (rs.length ≤ LIM)) = true then some (.tuple (rs.map (·.1)), .S) else none
def φLst (rs : List (PyData × Md)) : Option (PyData × Md) := if ((rs.all fun r => !r.2.b) && decide (rs.length ≤ LIM)) = true then some (.list (rs.map (·.1)), .F 1) else none
def rTup : List V → Hp → VK → Prop := fun xs H Q => xs.length ≤ sizeLine ∧ ∀ p, H p = none → Q (.ref p) (upd H p (.tup xs))
def rLst : List V → Hp → VK → Prop := fun xs H Q => xs.length ≤ sizeLine ∧ ∀ p, H p = none → Q (.ref p) (upd H p (.lst xs))
theorem vlL_len {W : Rg} {vs : List V} {rs : List (PyData × Md)} (h : VlL K W H vs rs T) : vs.length = rs.length := by
  induction h with
  | nil => rfl
  | cons _ _ _ ih => simp [ih]
theorem opn_tup : OpN K rTup φTup := by
  intro U H vs rs T d k Q hU h1 hT he hq
  unfold φTup at he
  split at he
  · rename_i hc
    rw [Bool.and_eq_true] at hc
    cases he
    refine ⟨by rw [vlL_len h1]; exact lim_ok (of_decide_eq_true hc.2), fun p hp => hq _ _ [] (same_new hp) (fun _ z => nomatch z) (fun _ z => nomatch z) (vl_tup hU hp (h1.shr hT (fun _ z => z) hc.1))⟩
  · cases he
theorem opn_lst : OpN K rLst φLst := by
  intro U H vs rs T d k Q hU h1 hT he hq
  unfold φLst at he
  split at he
  · rename_i hc
    rw [Bool.and_eq_true] at hc
    cases he
    exact ⟨by rw [vlL_len h1]; exact lim_ok (of_decide_eq_true hc.2), fun p hp => hq _ _ [p] (same_new hp) (new_far hU hp) (new_new hp) (vl_list hp (h1.shr hT (fun _ z => z) hc.1))⟩
  · cases he
theorem de_tup {fa : FA} {x1 : _} (h : DA X q es fa) : DE X q (.Tuple es x1 pos) (fN fa φTup) := L2.PE.weak (pe_tup h) (tcb_run opn_tup)
theorem de_lst {fa : FA} (h : DA X q es fa) : DE X q (.List es pos) (fN fa φLst) := L2.PE.weak (pe_lst h) (tcb_run opn_lst)
/-- an empty list that will hold lists, owned to depth n -/
def φNil (n : Nat) (rs : List (PyData × Md)) : Option (PyData × Md) := match rs with
  | [] => some (.list [], .F (n + 1))
  | _ => none
theorem opn_nil (n : Nat) : OpN K rLst (φNil n) := by
  intro U H vs rs T d k Q hU h1 hT he hq
  unfold φNil at he
  split at he
  · cases he
    cases h1
    exact ⟨Nat.zero_le _, fun p hp => hq _ _ [p] (same_new hp) (new_far hU hp) (new_new hp) (Own.lst (T := []) upd_same .nil fun z => nomatch z)⟩
  · cases he
theorem de_nil (n : Nat) {fa : FA} (h : DA X q es fa) : DE X q (.List es pos) (fN fa (φNil n)) := L2.PE.weak (pe_lst h) (tcb_run (opn_nil n))
end
end DL

end
section
set_option maxHeartbeats 1000000
namespace DL
open PySem PySem.Spec L2
section
variable {X : Cx} {K : PySem.W.Frag} {U : Rg} {H H' : Hp} {v x y : V} {d : PyData} {ds : List PyData} {vs xs : List V} {m n : Md} {T S : List Addr} {p : Addr} {o : HO} {rs : List (PyData × Md)} {r : List V → Hp → VK → Prop} {e a b : Expr} {es : List Expr} {f g : FE} {q q1 q2 : Bool} {pos : Pos} {fv : Value}
theorem CallR.or {r r' : List V → Hp → VK → Prop} (h : CallR X fv r) (h' : CallR X fv r') : CallR X fv (fun vs H Q => r vs H Q ∨ r' vs H Q) := fun pins s σ H vs us Q I rv z => z.elim (h pins s σ H vs us Q I rv) (h' pins s σ H vs us Q I rv)
/-- a call of a builtin, of a type -/
theorem de_callB {id : String} {x : Str} {φ : List (PyData × Md) → Option (PyData × Md)} {fa : FA} {p : Pos} (hc : CallR X (.builtin id) r) (ho : OpN X.K r φ) (hg : Gl X x) (hm : X.mg x = none) (hv : bootBuiltins x = some (.builtin id)) (ha : DA X q (e :: es) fa) (hn : x ≠ "__name__" := by decide) (hdb : (x == ("__debug__" : Str)) = false := by decide)
    (he : starEach (e :: es) X.env = (false, eval e X.env) :: starEach es X.env := by rfl) (hpl : (backTo pos (starEach es X.env)).any (·.1) = false := by rfl) : DE X q (.Call (.Name x p) (e :: es) [] pos) (fN fa φ) := L2.PE.weak (pe_callB hc hg hm hv ha hn hdb he hpl) (tcb_run ho)
theorem de_callT {id : String} {x : Str} {φ : List (PyData × Md) → Option (PyData × Md)} {fa : FA} {p : Pos} (hc : CallR X (.type id) r) (ho : OpN X.K r φ) (hg : Gl X x) (hm : X.mg x = none) (hv : bootBuiltins x = some (.type id)) (ha : DA X q (e :: es) fa) (hn : x ≠ "__name__" := by decide) (hdb : (x == ("__debug__" : Str)) = false := by decide)
    (he : starEach (e :: es) X.env = (false, eval e X.env) :: starEach es X.env := by rfl) (hpl : (backTo pos (starEach es X.env)).any (·.1) = false := by rfl) : DE X q (.Call (.Name x p) (e :: es) [] pos) (fN fa φ) := L2.PE.weak (pe_callTy hc hg hm hv ha hn hdb he hpl) (tcb_run ho)
/-! ### len -/
def pLen : List PyData → Option PyData
  | [.list ds] => some (.int ds.length)
  | [.tuple ds] => some (.int ds.length)
  | _ => none
theorem opn_len : OpN K (fun xs H Q => ∃ p ys, xs = [.ref p] ∧ (SqL K H p ys ∨ SqT K H p ys) ∧ Q (.int ys.length) H) (fI pLen) := opn_imm fun H vs ds d Q hr he hq => by
  unfold pLen at he
  split at he
  · cases he
    cases hr with
    | cons r1 r2 =>
      cases r2
      cases r1 with
      | lst h1 h2 => exact ⟨_, _, rfl, .inl h1, by rw [rpL_len h2]; exact hq _ fun _ => .int _⟩
  · cases he
    cases hr with
    | cons r1 r2 =>
      cases r2
      cases r1 with
      | tup h1 h2 => exact ⟨_, _, rfl, .inr (.of h1), by rw [rpL_len h2]; exact hq _ fun _ => .int _⟩
  · cases he
/-! ### abs, int -/
def pAbs : List PyData → Option PyData
  | [.int a] => some (.int (if a < 0 then -a else a))
  | _ => none
theorem opn_abs : OpN K (fun xs H Q => ∃ i, xs = [.int i] ∧ Q (.int (if i < 0 then -i else i)) H) (fI pAbs) := opn_imm fun H vs ds d Q hr he hq => by
  unfold pAbs at he
  split at he
  · cases he
    cases hr with
    | cons r1 r2 => cases r2; cases r1; exact ⟨_, rfl, hq _ fun _ => .int _⟩
  · cases he
def pInt : List PyData → Option PyData
  | [.int a] => some (.int a)
  | [.bool b] => some (.int (if b then 1 else 0))
  | _ => none
theorem opn_int : OpN K (fun xs H Q => (∃ i, xs = [.int i] ∧ Q (.int i) H) ∨ ∃ k, xs = [.bl k] ∧ Q (.int (if k then 1 else 0)) H) (fI pInt) := opn_imm fun H vs ds d Q hr he hq => by
  unfold pInt at he
  split at he
  · cases he
    cases hr with
    | cons r1 r2 => cases r2; cases r1; exact .inl ⟨_, rfl, hq _ fun _ => .int _⟩
  · cases he
    cases hr with
    | cons r1 r2 => cases r2; cases r1; exact .inr ⟨_, rfl, hq _ fun _ => .int _⟩
  · cases he
/-! ### min, max of ints -/
def maxP : List Int → Option PyData
  | n :: ns => some (.int (ns.foldl max n))
  | _ => none
def minP : List Int → Option PyData
  | n :: ns => some (.int (ns.foldl min n))
  | _ => none
def pMM (k : List Int → Option PyData) : List PyData → Option PyData
  | [.int a, .int b] => k [a, b]
  | [.int a, .int b, .int c] => k [a, b, c]
  | [.list ds] => match intsD ds with
    | some l => k l
    | none => none
  | [.tuple ds] => match intsD ds with
    | some l => k l
    | none => none
  | _ => none
def rMM (K : PySem.W.Frag) (k : List Int → Option PyData) : List V → Hp → VK → Prop := fun vs H Q =>
  (∃ ns i, (vs = [.int (ns.getD 0 0), .int (ns.getD 1 0)] ∧ ns.length = 2 ∨ vs = [.int (ns.getD 0 0), .int (ns.getD 1 0), .int (ns.getD 2 0)] ∧ ns.length = 3) ∧ k ns = some (.int i) ∧ Q (.int i) H) ∨
  ∃ a ns i, vs = [.ref a] ∧ (SqL K H a (ns.map V.int) ∨ SqT K H a (ns.map V.int)) ∧ k ns = some (.int i) ∧ Q (.int i) H
theorem foldl_max : ∀ {ns : List Int} {n : Int}, (ns.foldl max n) ∈ n :: ns ∧ ∀ y ∈ n :: ns, y ≤ ns.foldl max n
  | [], n => ⟨List.mem_singleton.mpr rfl, fun y hy => by rw [List.mem_singleton.mp hy]; exact Int.le_refl _⟩
  | a :: ns, n => by
    obtain ⟨h1, h2⟩ := foldl_max (ns := ns) (n := max n a)
    show (ns.foldl max (max n a)) ∈ n :: a :: ns ∧ ∀ y ∈ n :: a :: ns, y ≤ ns.foldl max (max n a)
    have hm := h2 (max n a) List.mem_cons_self
    constructor
    · rcases List.mem_cons.mp h1 with e | e
      · rw [e]
        rcases Int.le_total n a with h | h
        · rw [Int.max_eq_right h]; exact List.mem_cons_of_mem _ List.mem_cons_self
        · rw [Int.max_eq_left h]; exact List.mem_cons_self
      · exact List.mem_cons_of_mem _ (List.mem_cons_of_mem _ e)
    · intro y hy
      rcases List.mem_cons.mp hy with e | hy
      · rw [e]; exact Int.le_trans (Int.le_max_left n a) hm
      · rcases List.mem_cons.mp hy with e | hy
        · rw [e]; exact Int.le_trans (Int.le_max_right n a) hm
        · exact h2 y (List.mem_cons_of_mem _ hy)
theorem foldl_min : ∀ {ns : List Int} {n : Int}, (ns.foldl min n) ∈ n :: ns ∧ ∀ y ∈ n :: ns, ns.foldl min n ≤ y
  | [], n => ⟨List.mem_singleton.mpr rfl, fun y hy => by rw [List.mem_singleton.mp hy]; exact Int.le_refl _⟩
  | a :: ns, n => by
    obtain ⟨h1, h2⟩ := foldl_min (ns := ns) (n := min n a)
    show (ns.foldl min (min n a)) ∈ n :: a :: ns ∧ ∀ y ∈ n :: a :: ns, ns.foldl min (min n a) ≤ y
    have hm := h2 (min n a) List.mem_cons_self
    constructor
    · rcases List.mem_cons.mp h1 with e | e
      · rw [e]
        rcases Int.le_total n a with h | h
        · rw [Int.min_eq_left h]; exact List.mem_cons_self
        · rw [Int.min_eq_right h]; exact List.mem_cons_of_mem _ List.mem_cons_self
      · exact List.mem_cons_of_mem _ (List.mem_cons_of_mem _ e)
    · intro y hy
      rcases List.mem_cons.mp hy with e | hy
      · rw [e]; exact Int.le_trans hm (Int.min_le_left n a)
      · rcases List.mem_cons.mp hy with e | hy
        · rw [e]; exact Int.le_trans hm (Int.min_le_right n a)
        · exact h2 y (List.mem_cons_of_mem _ hy)
theorem opn_mm {k : List Int → Option PyData} (hk : ∀ ns d, k ns = some d → ∃ i, d = .int i) : OpN K (rMM K k) (fI (pMM k)) := opn_imm fun H vs ds d Q hr he hq => by
  unfold pMM at he
  split at he
  · obtain ⟨i, rfl⟩ := hk _ _ he
    cases hr with
    | cons r1 r2 => cases r2 with
      | cons r2 r3 => cases r3; cases r1; cases r2; exact .inl ⟨_, i, .inl ⟨rfl, rfl⟩, he, hq _ fun _ => .int _⟩
  · obtain ⟨i, rfl⟩ := hk _ _ he
    cases hr with
    | cons r1 r2 => cases r2 with
      | cons r2 r3 => cases r3 with
        | cons r3 r4 => cases r4; cases r1; cases r2; cases r3; exact .inl ⟨_, i, .inr ⟨rfl, rfl⟩, he, hq _ fun _ => .int _⟩
  · split at he
    · rename_i hi
      obtain ⟨i, rfl⟩ := hk _ _ he
      cases hr with
      | cons r1 r2 =>
        cases r2
        cases r1 with
        | lst h1 h2 =>
          rw [intsD_rp hi h2] at h1
          exact .inr ⟨_, _, i, rfl, .inl h1, he, hq _ fun _ => .int _⟩
    · cases he
  · split at he
    · rename_i hi
      obtain ⟨i, rfl⟩ := hk _ _ he
      cases hr with
      | cons r1 r2 =>
        cases r2
        cases r1 with
        | tup h1 h2 =>
          rw [intsD_rp hi h2] at h1
          exact .inr ⟨_, _, i, rfl, .inr (.of h1), he, hq _ fun _ => .int _⟩
    · cases he
  · cases he
theorem opn_max : OpN K (rMM K maxP) (fI (pMM maxP)) := opn_mm fun ns d h => by
  cases ns with
  | nil => cases h
  | cons => cases h; exact ⟨_, rfl⟩
theorem opn_min : OpN K (rMM K minP) (fI (pMM minP)) := opn_mm fun ns d h => by
  cases ns with
  | nil => cases h
  | cons => cases h; exact ⟨_, rfl⟩
theorem readsAll_ints {h : Heap} : ∀ {ns : List Int} {us : List Value}, Vals (ns.map V.int) us → ∃ as, ReadsAll h us (ns.map PyData.int) as
  | [], us, r => by cases r; exact ⟨[], .nil⟩
  | n :: ns, us, r => by
    cases r with
    | cons r1 r2 =>
      obtain ⟨as, h2⟩ := readsAll_ints r2
      obtain ⟨t, rfl⟩ := r1
      exact ⟨_, .cons (.int n t) h2⟩
theorem alike_ints (ns : List Int) : PySem.W.AlikeAll (ns.map PyData.int) := ⟨fun x hx y hy => by
  obtain ⟨a, _, rfl⟩ := List.mem_map.mp hx
  obtain ⟨b, _, rfl⟩ := List.mem_map.mp hy
  simp [PySem.W.alike], fun x hx => by
  obtain ⟨a, _, rfl⟩ := List.mem_map.mp hx
  exact fun z => nomatch z⟩
theorem reads_int {h : Heap} {v : Value} {i : Int} {as : List Addr} (r : Reads h v (.int i) as) : ∃ t, v = .int i t := by
  cases r; exact ⟨_, rfl⟩
theorem call_maxU (hc : X.calm = true) (hu : X.A.units + 65 < cLine) : CallR X (.builtin "max") (rMM X.K maxP) := by
  intro pins s σ H vs us Q I r h
  rcases h with ⟨ns, i, h | h, hk, q⟩ | ⟨a, ns, i, rfl, hs, hk, q⟩
  · obtain ⟨rfl, hl⟩ := h
    match ns, hl with
    | [a, b], _ =>
      cases hk
      refine call_max2 hc pins s σ H _ us Q I r ⟨_, _, rfl, ?_⟩
      have e : (if b > a then b else a) = max a b := by rw [Int.max_def]; split <;> split <;> omega
      exact e ▸ q
  · obtain ⟨rfl, hl⟩ := h
    match ns, hl with
    | [a, b, c], _ =>
      cases hk
      cases r with
      | cons r1 r2 => cases r2 with
        | cons r2 r3 => cases r3 with
          | cons r3 r4 =>
            cases r4
            obtain ⟨t1, rfl⟩ := r1
            obtain ⟨t2, rfl⟩ := r2
            obtain ⟨t3, rfl⟩ := r3
            refine max_three_ints (I.ok.hd hc) fun h' tk k => ⟨.int (max (max a b) c), H, I.kept k, ?_, q⟩
            show RelV _ (if b > a then (if c > b then Value.int c t3 else .int b t2) else (if c > a then .int c t3 else .int a t1))
            have e : max (max a b) c = (if b > a then (if c > b then c else b) else (if c > a then c else a)) := by
              rw [Int.max_def, Int.max_def]
              split <;> split <;> split <;> omega
            rw [e]
            split
            · split
              · exact ⟨_, rfl⟩
              · exact ⟨_, rfl⟩
            · split
              · exact ⟨_, rfl⟩
              · exact ⟨_, rfl⟩
  · match ns, hk with
    | n :: ns, hk =>
      cases hk
      obtain ⟨u, rfl, ru⟩ := vals1 r
      obtain rfl : u = Value.ref a := ru
      have hdp : PyData.depthAll ((n :: ns).map PyData.int) = 0 := PySem.W.depth_ints _
      rcases hs with hs | hs
      · obtain ⟨its, rv, hl, hz⟩ := I.list hs
        obtain ⟨as, hr⟩ := readsAll_ints (h := s.heap) rv
        refine PySem.W.max_list_data (x := .int n) (xs := ns.map .int) (I.ok.hd hc) hl.isList (by simpa using hr) (alike_ints (n :: ns)) (by rw [show PyData.int n :: ns.map .int = (n :: ns).map PyData.int from rfl, hdp]; omega) fun i v h' tk bs hv hrd hk => ?_
        rw [PySem.W.maxD_ints] at hrd
        obtain ⟨t, rfl⟩ := reads_int hrd
        exact ⟨.int _, H, I.kept hk, ⟨_, rfl⟩, q⟩
      · obtain ⟨its, rv, hl, hz⟩ := I.tuple hs
        obtain ⟨as, hr⟩ := readsAll_ints (h := s.heap) rv
        refine PySem.W.max_tuple_data (x := .int n) (xs := ns.map .int) (I.ok.hd hc) hl (by simpa using hr) (alike_ints (n :: ns)) (by rw [show PyData.int n :: ns.map .int = (n :: ns).map PyData.int from rfl, hdp]; omega) fun i v h' tk bs hv hrd hk => ?_
        rw [PySem.W.maxD_ints] at hrd
        obtain ⟨t, rfl⟩ := reads_int hrd
        exact ⟨.int _, H, I.kept hk, ⟨_, rfl⟩, q⟩
theorem call_minU (hc : X.calm = true) (hu : X.A.units + 65 < cLine) : CallR X (.builtin "min") (rMM X.K minP) := by
  intro pins s σ H vs us Q I r h
  rcases h with ⟨ns, i, h | h, hk, q⟩ | ⟨a, ns, i, rfl, hs, hk, q⟩
  · obtain ⟨rfl, hl⟩ := h
    match ns, hl with
    | [a, b], _ =>
      cases hk
      refine call_min2 hc pins s σ H _ us Q I r ⟨_, _, rfl, ?_⟩
      have e : (if b < a then b else a) = min a b := by rw [Int.min_def]; split <;> split <;> omega
      exact e ▸ q
  · obtain ⟨rfl, hl⟩ := h
    match ns, hl with
    | [a, b, c], _ =>
      cases hk
      cases r with
      | cons r1 r2 => cases r2 with
        | cons r2 r3 => cases r3 with
          | cons r3 r4 =>
            cases r4
            obtain ⟨t1, rfl⟩ := r1
            obtain ⟨t2, rfl⟩ := r2
            obtain ⟨t3, rfl⟩ := r3
            refine min_three_ints (I.ok.hd hc) fun h' tk k => ⟨.int (min (min a b) c), H, I.kept k, ?_, q⟩
            show RelV _ (if b < a then (if c < b then Value.int c t3 else .int b t2) else (if c < a then .int c t3 else .int a t1))
            have e : min (min a b) c = (if b < a then (if c < b then c else b) else (if c < a then c else a)) := by
              rw [Int.min_def, Int.min_def]
              split <;> split <;> split <;> omega
            rw [e]
            split
            · split
              · exact ⟨_, rfl⟩
              · exact ⟨_, rfl⟩
            · split
              · exact ⟨_, rfl⟩
              · exact ⟨_, rfl⟩
  · match ns, hk with
    | n :: ns, hk =>
      cases hk
      obtain ⟨u, rfl, ru⟩ := vals1 r
      obtain rfl : u = Value.ref a := ru
      have hdp : PyData.depthAll ((n :: ns).map PyData.int) = 0 := PySem.W.depth_ints _
      rcases hs with hs | hs
      · obtain ⟨its, rv, hl, hz⟩ := I.list hs
        obtain ⟨as, hr⟩ := readsAll_ints (h := s.heap) rv
        refine PySem.W.min_list_data (x := .int n) (xs := ns.map .int) (I.ok.hd hc) hl.isList (by simpa using hr) (alike_ints (n :: ns)) (by rw [show PyData.int n :: ns.map .int = (n :: ns).map PyData.int from rfl, hdp]; omega) fun i v h' tk bs hv hrd hk => ?_
        rw [PySem.W.minD_ints] at hrd
        obtain ⟨t, rfl⟩ := reads_int hrd
        exact ⟨.int _, H, I.kept hk, ⟨_, rfl⟩, q⟩
      · obtain ⟨its, rv, hl, hz⟩ := I.tuple hs
        obtain ⟨as, hr⟩ := readsAll_ints (h := s.heap) rv
        refine PySem.W.min_tuple_data (x := .int n) (xs := ns.map .int) (I.ok.hd hc) hl (by simpa using hr) (alike_ints (n :: ns)) (by rw [show PyData.int n :: ns.map .int = (n :: ns).map PyData.int from rfl, hdp]; omega) fun i v h' tk bs hv hrd hk => ?_
        rw [PySem.W.minD_ints] at hrd
        obtain ⟨t, rfl⟩ := reads_int hrd
        exact ⟨.int _, H, I.kept hk, ⟨_, rfl⟩, q⟩
/-! ### sum, any, all of a list -/
def pSum : List PyData → Option PyData
  | [.list ds] => match intsD ds with
    | some l => some (.int l.sum)
    | none => none
  | _ => none
theorem opn_sum : OpN K (rSum K) (fI pSum) := opn_imm fun H vs ds d Q hr he hq => by
  unfold pSum at he
  split at he
  · split at he
    · rename_i hi
      cases he
      cases hr with
      | cons r1 r2 =>
        cases r2
        cases r1 with
        | lst h1 h2 =>
          rw [intsD_rp hi h2] at h1
          exact ⟨_, _, rfl, h1, hq _ fun _ => .int _⟩
    · cases he
  · cases he
def boolsD : List PyData → Option (List Bool)
  | [] => some []
  | .bool i :: r => match boolsD r with
    | some l => some (i :: l)
    | none => none
  | _ => none
theorem boolsD_rp {G : Hp} : ∀ {ds : List PyData} {ns : List Bool} {xs : List V}, boolsD ds = some ns → RpL K G xs ds → xs = ns.map V.bl
  | [], ns, xs, e, r => by cases e; cases r; rfl
  | d :: ds, ns, xs, e, r => by
    cases r with
    | cons h1 h2 =>
      cases h1 with
      | bl i =>
        simp only [boolsD] at e
        split at e
        · rename_i l hl
          cases e
          rw [boolsD_rp hl h2]
          rfl
        · cases e
      | _ => simp [boolsD] at e
theorem boolsD_map (ns : List Bool) : boolsD (ns.map .bool) = some ns := by
  induction ns with
  | nil => rfl
  | cons n ns ih => simp only [List.map_cons, boolsD, ih]
def pAny : List PyData → Option PyData
  | [.list ds] => match boolsD ds with
    | some l => some (.bool (l.any id))
    | none => none
  | _ => none
def pAll : List PyData → Option PyData
  | [.list ds] => match boolsD ds with
    | some l => some (.bool (l.all id))
    | none => none
  | _ => none
theorem opn_any : OpN K (rAny K) (fI pAny) := opn_imm fun H vs ds d Q hr he hq => by
  unfold pAny at he
  split at he
  · split at he
    · rename_i hi
      cases he
      cases hr with
      | cons r1 r2 =>
        cases r2
        cases r1 with
        | lst h1 h2 =>
          rw [boolsD_rp hi h2] at h1
          exact ⟨_, _, rfl, h1, hq _ fun _ => .bl _⟩
    · cases he
  · cases he
theorem opn_all : OpN K (rAll K) (fI pAll) := opn_imm fun H vs ds d Q hr he hq => by
  unfold pAll at he
  split at he
  · split at he
    · rename_i hi
      cases he
      cases hr with
      | cons r1 r2 =>
        cases r2
        cases r1 with
        | lst h1 h2 =>
          rw [boolsD_rp hi h2] at h1
          exact ⟨_, _, rfl, h1, hq _ fun _ => .bl _⟩
    · cases he
  · cases he
/-! ### list(xs), tuple(xs) -/
def φList : List (PyData × Md) → Option (PyData × Md)
  | [(.list ds, m)] => if m.fl = true then some (.list ds, .F 1) else none
  | [(.tuple ds, _)] => some (.list ds, .F 1)
  | _ => none
def φTuple : List (PyData × Md) → Option (PyData × Md)
  | [(.list ds, m)] => if m.fl = true then some (.tuple ds, .S) else none
  | [(.tuple ds, _)] => some (.tuple ds, .S)
  | _ => none
theorem opn_list : OpN K (fun xs H Q => ∃ p ys, xs = [.ref p] ∧ (SqL K H p ys ∨ SqT K H p ys) ∧ ∀ l, H l = none → Q (.ref l) (upd H l (.lst ys))) φList := by
  intro U H vs rs T d k Q hU h1 hT he hq
  unfold φList at he
  split at he
  · split at he
    · rename_i hm
      cases he
      obtain ⟨x', rfl, h2⟩ := h1.one_inv
      obtain ⟨p, xs, rfl, hp, rp⟩ := h2.flat hT (fun _ z => z) hm
      exact ⟨p, xs, rfl, .inl hp, fun q hn => hq _ _ [q] (same_new hn) (new_far hU hn) (new_new hn) (vl_list hn rp)⟩
    · cases he
  · cases he
    obtain ⟨x', rfl, h2⟩ := h1.one_inv
    obtain ⟨p, xs, rfl, hp, rp⟩ := h2.tupS hT
    exact ⟨p, xs, rfl, .inr (.of hp), fun q hn => hq _ _ [q] (same_new hn) (new_far hU hn) (new_new hn) (vl_list hn rp)⟩
  · cases he
theorem opn_tuple : OpN K (fun xs H Q => ∃ p ys, xs = [.ref p] ∧ ((SqL K H p ys ∧ ∀ l, H l = none → Q (.ref l) (upd H l (.tup ys))) ∨ (SqT K H p ys ∧ Q (.ref p) H))) φTuple := by
  intro U H vs rs T d k Q hU h1 hT he hq
  unfold φTuple at he
  split at he
  · split at he
    · rename_i hm
      cases he
      obtain ⟨x', rfl, h2⟩ := h1.one_inv
      obtain ⟨p, xs, rfl, hp, rp⟩ := h2.flat hT (fun _ z => z) hm
      exact ⟨p, xs, rfl, .inl ⟨hp, fun q hn => hq _ _ [] (same_new hn) (fun _ z => nomatch z) (fun _ z => nomatch z) (vl_tup hU hn rp)⟩⟩
    · cases he
  · cases he
    obtain ⟨x', rfl, h2⟩ := h1.one_inv
    have w1 := h2.tupR hT
    obtain ⟨p, xs, rfl, hp, rp⟩ := h2.tupS hT
    exact ⟨p, xs, rfl, .inr ⟨.of hp, hq _ H [] (fun _ _ z => z) (fun _ z => nomatch z) (fun _ z => nomatch z) ⟨rfl, w1.mono sub_nil⟩⟩⟩
  · cases he
/-! ### sorted of a list -/
def sortOk (ds : List PyData) : Bool := (ds.all fun a => ds.all fun b => PySem.W.alike a b) && ((ds.all fun a => match a with | .tuple (_ :: _) => true | _ => false) || (ds.all fun a => match a with | .tuple _ => false | .none => false | _ => true)) && ds.all (okN 9)
def sortD (ds : List PyData) : List PyData := ds.mergeSort (PySem.W.dataLe false id)
def φSorted : List (PyData × Md) → Option (PyData × Md)
  | [(.list ds, m)] => if (m.fl && sortOk ds) = true then some (.list (sortD ds), .F 1) else none
  | _ => none
def rSortedD (K : PySem.W.Frag) : List V → Hp → VK → Prop := fun vs H Q => ∃ (a : Addr) (ps : List (V × PyData)), vs = [.ref a] ∧ SqL K H a (ps.map (·.1)) ∧ RpL K H (ps.map (·.1)) (ps.map (·.2)) ∧ sortOk (ps.map (·.2)) = true ∧ ∀ p, H p = none → Q (.ref p) (upd H p (.lst ((ps.mergeSort (PySem.W.dataLe false (·.2))).map (·.1))))
theorem each_vals : ∀ {ps : List (V × PyData)} {us : List Value}, Vals (ps.map (·.1)) us → PySem.W.EachIs (fun (u : Value) (b : V × PyData) => RelV b.1 u) us ps
  | [], _, r => by cases r; exact .nil
  | p :: ps, _, r => by
    cases r with
    | cons r1 r2 => exact .cons r1 (each_vals r2)
theorem vals_each : ∀ {ps : List (V × PyData)} {us : List Value}, PySem.W.EachIs (fun (u : Value) (b : V × PyData) => RelV b.1 u) us ps → Vals (ps.map (·.1)) us
  | [], _, r => by cases r; exact .nil
  | p :: ps, _, r => by
    cases r with
    | cons r1 r2 => exact .cons r1 (vals_each r2)
theorem each_reads {pins : List (Addr × Obj)} {σ : L2.St} {s : Shared} (I : Inv X pins σ H s) : ∀ {ps : List (V × PyData)} {us : List Value}, (∀ p ∈ ps, okN 9 p.2 = true) → RpL X.K H (ps.map (·.1)) (ps.map (·.2)) → Vals (ps.map (·.1)) us →
    PySem.W.EachIs (fun (u : Value) (b : V × PyData) => ∃ as, Reads s.heap u b.2 as) us ps
  | [], _, _, _, r => by cases r; exact .nil
  | p :: ps, _, ho, hr, r => by
    cases r with
    | cons r1 r2 => cases hr with
      | cons h1 h2 => exact .cons (Dp.reads I _ _ _ (h1.dp (ho p List.mem_cons_self)) r1) (each_reads I (fun q hq => ho q (List.mem_cons_of_mem _ hq)) h2 r2)
theorem sortOk_inv {ds : List PyData} (h : sortOk ds = true) : PySem.W.AllAlike ds ∧ PySem.W.Sortable ds ∧ ∀ d ∈ ds, okN 9 d = true := by
  unfold sortOk at h
  rw [Bool.and_eq_true, Bool.and_eq_true, Bool.or_eq_true, List.all_eq_true, List.all_eq_true, List.all_eq_true, List.all_eq_true] at h
  obtain ⟨⟨h1, h2⟩, h3⟩ := h
  refine ⟨fun d hd d' hd' => List.all_eq_true.mp (h1 d hd) d' hd', ?_, h3⟩
  rcases h2 with h2 | h2
  · refine .inl fun d hd => ?_
    have := h2 d hd
    split at this
    · exact ⟨_, _, rfl⟩
    · cases this
  · refine .inr fun d hd => ?_
    have := h2 d hd
    split at this
    · cases this
    · cases this
    · rename_i a b
      exact ⟨b, a⟩
theorem cr_sortedD (hu : X.A.units + 65 < cLine) : CallR X (.builtin "sorted") (rSortedD X.K) := by
  intro pins s σ H vs us Q I r h
  obtain ⟨a, ps, rfl, hs, rp, hok, q⟩ := h
  obtain ⟨its, rv, hl, hz⟩ := I.list hs
  obtain ⟨u, rfl, ru⟩ := vals1 r
  obtain rfl : u = Value.ref a := ru
  obtain ⟨o1, o2, o3⟩ := sortOk_inv hok
  have o3' : ∀ p ∈ ps, okN 9 p.2 = true := fun p hp => o3 _ (List.mem_map.mpr ⟨p, hp, rfl⟩)
  have hzl : ps.length ≤ sizeLine := by simpa using hz
  refine PySem.W.sorted_data (R := fun (u : Value) (b : V × PyData) => RelV b.1 u) (bs := ps) (enc := fun b => b.2) hl.isList (each_vals rv) (each_reads I o3' rp rv) o1 o2 hzl (fun b hb => ?_) fun out hlen he => ?_
  · have := (okN_lay 9 _ (o3' b hb)).2
    omega
  · have hv := vals_each he
    have hn : H (s.heap.objs.size + 1) = none := I.hok.fresh (Nat.le_succ _)
    obtain ⟨n, hat⟩ := PyProof.Rows.sortedAll_at s.heap its out.toArray
    refine ⟨.ref (s.heap.objs.size + 1), _, I.laid (t' := s.toks) (o := .lst ((ps.mergeSort (PySem.W.dataLe false fun b => b.2)).map (·.1))) (fun b o e => PyProof.Rows.sortedAll_old e) (Nat.le_succ _) ⟨?_, out, n, hv, hat⟩, rfl, q _ hn⟩
    rw [List.length_map, List.length_mergeSort]
    exact hzl
theorem rpL_zip {G : Hp} : ∀ {xs : List V} {ds : List PyData}, RpL K G xs ds → (xs.zip ds).map (·.1) = xs ∧ (xs.zip ds).map (·.2) = ds
  | _, _, .nil => ⟨rfl, rfl⟩
  | _, _, .cons h r => by
    obtain ⟨h1, h2⟩ := rpL_zip r
    exact ⟨by simp only [List.zip_cons_cons, List.map_cons, h1], by simp only [List.zip_cons_cons, List.map_cons, h2]⟩
theorem rpL_pairs {G : Hp} : ∀ {ps : List (V × PyData)}, RpL K G (ps.map (·.1)) (ps.map (·.2)) → ∀ p ∈ ps, Rp K G p.1 p.2
  | [], _, _, hp => nomatch hp
  | p :: ps, r, q, hq => by
    cases r with
    | cons h1 h2 =>
      rcases List.mem_cons.mp hq with e | hq
      · rw [e]; exact h1
      · exact rpL_pairs h2 q hq
theorem rpL_of {G : Hp} : ∀ {ps : List (V × PyData)}, (∀ p ∈ ps, Rp K G p.1 p.2) → RpL K G (ps.map (·.1)) (ps.map (·.2))
  | [], _ => .nil
  | p :: ps, h => .cons (h p List.mem_cons_self) (rpL_of fun q hq => h q (List.mem_cons_of_mem _ hq))
theorem sort_snd (ps : List (V × PyData)) : (ps.mergeSort (PySem.W.dataLe false (·.2))).map (·.2) = sortD (ps.map (·.2)) := by
  unfold sortD
  rw [List.map_mergeSort]
  intro a _ b _
  rfl
theorem opn_sorted : OpN K (rSortedD K) φSorted := by
  intro U H vs rs T d k Q hU h1 hT he hq
  unfold φSorted at he
  split at he
  · split at he
    · rename_i hm
      rw [Bool.and_eq_true] at hm
      cases he
      obtain ⟨x', rfl, h2⟩ := h1.one_inv
      obtain ⟨p, xs, rfl, hp, rp⟩ := h2.flat hT (fun _ z => z) hm.1
      obtain ⟨z1, z2⟩ := rpL_zip rp
      refine ⟨p, xs.zip _, rfl, by rw [z1]; exact hp, by rw [z1, z2]; exact rp.mono sub_le, by rw [z2]; exact hm.2, fun q hn => hq _ _ [q] (same_new hn) (new_far hU hn) (new_new hn) ?_⟩
      have key : RpL K (DL.sub H U) (((xs.zip _).mergeSort (PySem.W.dataLe false (·.2))).map (·.1)) (((xs.zip _).mergeSort (PySem.W.dataLe false (·.2))).map (·.2)) := rpL_of fun q hq => by
        have hq' := (List.mergeSort_perm (xs.zip _) (PySem.W.dataLe false (·.2))).mem_iff.mp hq
        exact rpL_pairs (by rw [z1, z2]; exact rp) q hq'
      rw [sort_snd, z2] at key
      exact vl_list hn key
    · cases he
  · cases he
end
end DL

end
section
set_option maxHeartbeats 1000000
namespace DL
open PySem PySem.Spec L2

/-! ### statements by data -/
inductive Out | nx | bk | ct | rt (d : PyData) (m : Md)
abbrev FS := Rho → Option (Out × Rho)
abbrev FG := PyData → Md → Rho → Option Rho
def Thn (K : PySem.W.Frag) (R U : Rg) (pn : List (Nat × V)) (H : Hp) (D : Ends) (ρ' : Rho) : Out → Prop
  | .nx => ∀ σ' H' U', SR K R U' pn ρ' σ' H' → Fr R U H U' H' → D.nx σ' H'
  | .bk => ∀ σ' H' U', SR K R U' pn ρ' σ' H' → Fr R U H U' H' → D.bk σ' H'
  | .ct => ∀ σ' H' U', SR K R U' pn ρ' σ' H' → Fr R U H U' H' → D.ct σ' H'
  | .rt d m => ∀ v σ' H' U' T, SR K (plus R T) U' pn ρ' σ' H' → (∀ a ∈ T, ¬ R a) → Fr R U H U' H' → Vl K U' H' v d m T → D.rt v H'
def tS (K : PySem.W.Frag) (io : List Nat) (f : FS) : TS := fun D σ H => ∃ R U pn ρ out ρ', SR K R U pn ρ σ H ∧ (∀ p ∈ pn, p.1 ∈ io) ∧ f ρ = some (out, ρ') ∧ Thn K R U pn H D ρ' out
/-- slots js alone are stored; with 99999 among them objects, too -/
def Touch (js : List Nat) (σ σ' : L2.St) (H H' : Hp) : Prop := σ'.length = σ.length ∧ (∀ j, j ∉ js → σ'[j]? = σ[j]?) ∧ (99999 ∉ js → Same H H')
def tG (K : PySem.W.Frag) (io js : List Nat) (h : FG) : TG := fun v σ H Q => ∃ R U T pn ρ d m ρ', SR K (plus R T) U pn ρ σ H ∧ (∀ p ∈ pn, p.1 ∈ io) ∧ (∀ a ∈ T, ¬ R a) ∧ Vl K U H v d m T ∧ h d m ρ = some ρ' ∧ ∀ σ' H' U', SR K R U' pn ρ' σ' H' → Fr R U H U' H' → Touch js σ σ' H H' → Q σ' H'
def DS (X : Cx) (io : List Nat) (st : Stmt) (f : FS) : Prop := PS X st (tS X.K io f)
def DSs (X : Cx) (io : List Nat) (st : List Stmt) (f : FS) : Prop := PSs X st (tS X.K io f)
def DG (X : Cx) (io js : List Nat) (tg : Expr) (h : FG) : Prop := PG X tg (tG X.K io js h)
section
variable {X : Cx} {K : PySem.W.Frag} {R U U' : Rg} {H H' : Hp} {v x y : V} {d : PyData} {ds : List PyData} {vs xs : List V} {m n : Md} {T S : List Addr} {p : Addr} {o : HO} {rs : List (PyData × Md)} {e a b : Expr} {es : List Expr} {q q1 q2 : Bool} {pos : Pos} {io : List Nat} {st : Stmt} {sts : List Stmt} {f : FE} {fs gs : FS} {D D' : Ends} {pn : List (Nat × V)} {ρ ρ' : Rho} {σ σ' : L2.St} {out : Out}
theorem _root_.L2.PS.weak {t t' : TS} (h : PS X st t) (w : ∀ D σ H, t' D σ H → t D σ H) : PS X st t' := ⟨fun pins s σ H D I z => h.run pins s σ H D I (w D σ H z)⟩
theorem _root_.L2.PSs.weak {t t' : TS} (h : PSs X sts t) (w : ∀ D σ H, t' D σ H → t D σ H) : PSs X sts t' := ⟨fun pins s σ H D I z => h.run pins s σ H D I (w D σ H z)⟩
theorem _root_.L2.PG.weak {t t' : TG} {tg : Expr} (h : PG X tg t) (w : ∀ v σ H Q, t' v σ H Q → t v σ H Q) : PG X tg t' := ⟨fun pins s σ H v u Q I r z => h.run pins s σ H v u Q I r (w v σ H Q z)⟩
/-- later on -/
theorem Thn.later (h : Thn K R U pn H D ρ' out) (fr : Fr R U H U' H') : Thn K R U' pn H' D ρ' out := by
  cases out with
  | nx => exact fun σ' H2 U2 I f2 => h σ' H2 U2 I (fr.trans0 f2)
  | bk => exact fun σ' H2 U2 I f2 => h σ' H2 U2 I (fr.trans0 f2)
  | ct => exact fun σ' H2 U2 I f2 => h σ' H2 U2 I (fr.trans0 f2)
  | rt d m => exact fun v σ' H2 U2 T I hT f2 => h v σ' H2 U2 T I hT (fr.trans0 f2)
/-! ### blocks -/
def fNop : FS := fun ρ => some (.nx, ρ)
def fBrk : FS := fun ρ => some (.bk, ρ)
def fCnt : FS := fun ρ => some (.ct, ρ)
def fBad : FS := fun _ => none
def fSeq (f g : FS) : FS := fun ρ => match f ρ with
  | some (.nx, ρ1) => g ρ1
  | r => r
theorem dss_nil : DSs X io [] fNop := L2.PSs.weak pss_nil fun D σ H z => by
  obtain ⟨R, U, pn, ρ, out, ρ', I, hp, e, k⟩ := z
  cases e
  exact k σ H U I I.frefl
theorem dss_cons (h : DS X io st fs) (h2 : DSs X io sts gs) : DSs X io (st :: sts) (fSeq fs gs) := L2.PSs.weak (pss_cons h h2) fun D σ H z => by
  obtain ⟨R, U, pn, ρ, out, ρ', I, hp, e, k⟩ := z
  unfold fSeq at e
  split at e
  · rename_i ρ1 h1
    exact ⟨R, U, pn, ρ, .nx, ρ1, I, hp, h1, fun σ1 H1 U1 I1 fr => ⟨R, U1, pn, ρ1, out, ρ', I1, hp, e, k.later fr⟩⟩
  · rename_i hne
    refine ⟨R, U, pn, ρ, out, ρ', I, hp, e, ?_⟩
    cases out with
    | nx => exact (hne _ e).elim
    | bk => exact k
    | ct => exact k
    | rt d m => exact k
theorem dss_one (h : DS X io st fs) : DSs X io [st] fs := L2.PSs.weak (pss_one h) fun D σ H z => z
theorem ds_pass : DS X io (.Pass pos) fNop := L2.PS.weak ps_pass fun D σ H z => by
  obtain ⟨R, U, pn, ρ, out, ρ', I, hp, e, k⟩ := z
  cases e
  exact k σ H U I I.frefl
theorem ds_break : DS X io (.Break pos) fBrk := L2.PS.weak ps_break fun D σ H z => by
  obtain ⟨R, U, pn, ρ, out, ρ', I, hp, e, k⟩ := z
  cases e
  exact k σ H U I I.frefl
theorem ds_continue : DS X io (.Continue pos) fCnt := L2.PS.weak ps_continue fun D σ H z => by
  obtain ⟨R, U, pn, ρ, out, ρ', I, hp, e, k⟩ := z
  cases e
  exact k σ H U I I.frefl
/-- a statement that is never come to -/
theorem ds_bad : DS X io st fBad := L2.PS.weak ps_never fun D σ H z => by
  obtain ⟨R, U, pn, ρ, out, ρ', I, hp, e, k⟩ := z
  cases e
/-! ### if -/
def fIf (c : FT) (f g : FS) : FS := fun ρ => match c ρ with
  | some (true, ρ1) => f ρ1
  | some (false, ρ1) => g ρ1
  | none => none
theorem ds_if {c : Expr} {b1 b2 : List Stmt} {fc : FT} (hc : DT X q c fc) (h1 : DSs X io b1 fs) (h2 : DSs X io b2 gs) : DS X io (.If c b1 b2 pos) (fIf fc fs gs) := L2.PS.weak (ps_if hc h1 h2) fun D σ H z => by
  obtain ⟨R, U, pn, ρ, out, ρ', I, hp, e, k⟩ := z
  unfold fIf at e
  split at e
  · rename_i ρ1 h1
    refine ⟨R, U, pn, ρ, _, ρ1, I, h1, fun H1 U1 p => ?_⟩
    refine iteT ?_
    exact ⟨R, U1, pn, ρ1, out, ρ', p.sr0, hp, e, k.later p.fr⟩
  · rename_i ρ1 h1
    refine ⟨R, U, pn, ρ, _, ρ1, I, h1, fun H1 U1 p => ?_⟩
    refine iteF ?_
    exact ⟨R, U1, pn, ρ1, out, ρ', p.sr0, hp, e, k.later p.fr⟩
  · cases e
/-! ### return, an expression alone -/
def fRet (f : FE) : FS := fun ρ => match f ρ with
  | some (d, m, ρ1) => if m.b = true then none else some (.rt d m, ρ1)
  | none => none
theorem ds_ret (h : DE X q e f) : DS X io (.Return (some e) pos) (fRet f) := L2.PS.weak (ps_ret h) fun D σ H z => by
  obtain ⟨R, U, pn, ρ, out, ρ', I, hp, e, k⟩ := z
  unfold fRet at e
  split at e
  · rename_i d m ρ1 h1
    split at e
    · cases e
    · cases e
      exact ⟨R, U, pn, ρ, d, m, _, I, h1, fun v H' U' T p r => k v σ H' U' T p.sr p.far p.fr r⟩
  · cases e
theorem ds_retN : DS X io (.Return none pos) (fun ρ => some (.rt .none .S, ρ)) := L2.PS.weak ps_retN fun D σ H z => by
  obtain ⟨R, U, pn, ρ, out, ρ', I, hp, e, k⟩ := z
  cases e
  exact k .non σ H U [] I.plus_nil (fun _ z => nomatch z) I.frefl (vl_imm fun _ => .non)
def fExpr (f : FE) : FS := fun ρ => match f ρ with
  | some (_, _, ρ1) => some (.nx, ρ1)
  | none => none
theorem ds_expr (h : DE X q e f) (hs : swapsWith e none pos.line X.env = pure false := by rfl) : DS X io (.Expr e pos) (fExpr f) := L2.PS.weak (ps_expr h hs) fun D σ H z => by
  obtain ⟨R, U, pn, ρ, out, ρ', I, hp, e, k⟩ := z
  unfold fExpr at e
  split at e
  · rename_i d m ρ1 h1
    cases e
    exact ⟨R, U, pn, ρ, d, m, _, I, h1, fun v H' U' T p r => k σ H' _ p.drop.sr0 p.drop.fr⟩
  · cases e
theorem ds_doc {x : Str} {j : Nat} {pos' : Pos} : DS X io (.Expr (.Constant (.str x) j pos) pos') fNop := L2.PS.weak ps_doc fun D σ H z => by
  obtain ⟨R, U, pn, ρ, out, ρ', I, hp, e, k⟩ := z
  cases e
  exact k σ H U I I.frefl
/-! ### targets -/
def gS (i : Nat) : FG := fun d m ρ => if (!m.b && decide (i < ρ.length)) = true then some (ρ.set i (.sh d)) else none
def gO (i : Nat) : FG := fun d m ρ => match m with
  | .F n => if i < ρ.length then some (ρ.set i (.ow n d)) else none
  | _ => none
theorem touch_set (i : Nat) (o : Option V) (σ : L2.St) (H : Hp) : Touch [i] σ (σ.set i o) H H := ⟨List.length_set, fun j hj => List.getElem?_set_ne (fun z => hj (by simp [z])), fun _ _ _ z => z⟩
theorem Touch.trans {js ks : List Nat} {σ σ' σ'' : L2.St} {H H' H'' : Hp} (a : Touch js σ σ' H H') (b : Touch ks σ' σ'' H' H'') : Touch (js ++ ks) σ σ'' H H'' := ⟨b.1.trans a.1, fun j hj => (b.2.1 j fun z => hj (List.mem_append_right _ z)).trans (a.2.1 j fun z => hj (List.mem_append_left _ z)), fun z => (a.2.2 fun w => z (List.mem_append_left _ w)).trans (b.2.2 fun w => z (List.mem_append_right _ w))⟩
theorem dg_name {i : Nat} {x : Str} (hN : X.N.Nodup) (hi : X.N[i]? = some x) (hio : i ∉ io) (hx : Loc X.env.scope x) (hf : X.fn x = true ∨ X.env.scope.names.lookup x = some .local := by first | exact .inl rfl | exact .inr rfl | assumption) : DG X io [i] (.Name x pos) (gS i) := L2.PG.weak (pg_name hN hi hx hf) fun v σ H Q z => by
  obtain ⟨R, U, T, pn, ρ, d, m, ρ', I, hp, hT, r, e, k⟩ := z
  unfold gS at e
  split at e
  · rename_i hc
    rw [Bool.and_eq_true] at hc
    cases e
    obtain ⟨U', I', fr⟩ := I.putS (i := i) hT r (by simpa using hc.1) (by rw [← I.len]; exact of_decide_eq_true hc.2) (fun p hq z => hio (z ▸ hp p hq))
    exact k _ H U' I' fr (touch_set i _ σ H)
  · cases e
theorem dg_nameO {i : Nat} {x : Str} (hN : X.N.Nodup) (hi : X.N[i]? = some x) (hio : i ∉ io) (hx : Loc X.env.scope x) (hf : X.fn x = true ∨ X.env.scope.names.lookup x = some .local := by first | exact .inl rfl | exact .inr rfl | assumption) : DG X io [i] (.Name x pos) (gO i) := L2.PG.weak (pg_name hN hi hx hf) fun v σ H Q z => by
  obtain ⟨R, U, T, pn, ρ, d, m, ρ', I, hp, hT, r, e, k⟩ := z
  unfold gO at e
  split at e
  · split at e
    · rename_i hc
      cases e
      obtain ⟨U', I', fr⟩ := I.putO (i := i) hT r (by rw [← I.len]; exact hc) (fun p hq z => hio (z ▸ hp p hq))
      exact k _ H U' I' fr (touch_set i _ σ H)
    · cases e
  · cases e
theorem gS_run {i : Nat} (hio : i ∉ io) : ∀ v σ H Q, tG K io [i] (gS i) v σ H Q → gName i v σ H Q := fun v σ H Q z => by
  obtain ⟨R, U, T, pn, ρ, d, m, ρ', I, hp, hT, r, e, k⟩ := z
  unfold gS at e
  split at e
  · rename_i hc
    rw [Bool.and_eq_true] at hc
    cases e
    obtain ⟨U', I', fr⟩ := I.putS (i := i) hT r (by simpa using hc.1) (by rw [← I.len]; exact of_decide_eq_true hc.2) (fun p hq z => hio (z ▸ hp p hq))
    exact k _ H U' I' fr (touch_set i _ σ H)
  · cases e
theorem gO_run {i : Nat} (hio : i ∉ io) : ∀ v σ H Q, tG K io [i] (gO i) v σ H Q → gName i v σ H Q := fun v σ H Q z => by
  obtain ⟨R, U, T, pn, ρ, d, m, ρ', I, hp, hT, r, e, k⟩ := z
  unfold gO at e
  split at e
  · split at e
    · rename_i hc
      cases e
      obtain ⟨U', I', fr⟩ := I.putO (i := i) hT r (by rw [← I.len]; exact hc) (fun p hq z => hio (z ▸ hp p hq))
      exact k _ H U' I' fr (touch_set i _ σ H)
    · cases e
  · cases e
/-- several targets, each with its value -/
abbrev FGs := List (PyData × Md) → Rho → Option Rho
def tGs (K : PySem.W.Frag) (io js : List Nat) (h : FGs) : TGs := fun vs σ H Q => ∃ R U T pn ρ rs ρ', SR K (plus R T) U pn ρ σ H ∧ (∀ p ∈ pn, p.1 ∈ io) ∧ (∀ a ∈ T, ¬ R a) ∧ VlL K U H vs rs T ∧ h rs ρ = some ρ' ∧ ∀ σ' H' U', SR K R U' pn ρ' σ' H' → Fr R U H U' H' → Touch js σ σ' H H' → Q σ' H'
def DGs (X : Cx) (io js : List Nat) (tgs : List Expr) (h : FGs) : Prop := PGs X tgs (tGs X.K io js h)
def gsNil : FGs := fun rs ρ => match rs with
  | [] => some ρ
  | _ => none
def gsCons (g : FG) (h : FGs) : FGs := fun rs ρ => match rs with
  | (d, m) :: r => if (r.any fun z => z.2.b) = true then none else match g d m ρ with
    | some ρ1 => h r ρ1
    | none => none
  | [] => none
theorem _root_.L2.PGs.weak {t t' : TGs} {tgs : List Expr} (h : PGs X tgs t) (w : ∀ v σ H Q, t' v σ H Q → t v σ H Q) : PGs X tgs t' := ⟨fun pins s σ H v u Q I r z => h.run pins s σ H v u Q I r (w v σ H Q z)⟩
theorem dgs_nil : DGs X io [] [] gsNil := L2.PGs.weak pgs_nil fun v σ H Q z => by
  obtain ⟨R, U, T, pn, ρ, rs, ρ', I, hp, hT, r, e, k⟩ := z
  unfold gsNil at e
  split at e
  · cases e
    cases r
    exact ⟨rfl, k _ H U I.nil_plus I.nil_plus.frefl ⟨rfl, fun _ _ => rfl, fun _ _ _ z => z⟩⟩
  · cases e
theorem SR.assoc {T1 T2 : List Addr} (I : SR K (plus R (T1 ++ T2)) U pn ρ σ H) : SR K (plus (plus R T2) T1) U pn ρ σ H := I.shrink (fun a h => by
    rcases h with (h | h) | h
    · exact .inl h
    · exact .inr (List.mem_append_right _ h)
    · exact .inr (List.mem_append_left _ h)) fun a => ⟨fun h => ⟨h, fun z => by
      rcases z with z | z
      · exact .inl (.inl z)
      · exact (List.mem_append.mp z).elim .inr fun z => .inl (.inr z)⟩, fun h => h.1⟩
theorem Fr.weakR {R1 : Rg} (h : Fr R1 U H U' H') (w : ∀ a, R a → R1 a) : Fr R U H U' H' := fun a o e => ⟨fun r => (h a o e).1 (w a r), (h a o e).2⟩
theorem dgs_cons {js ks : List Nat} {tg : Expr} {tgs : List Expr} {g : FG} {h : FGs} (h1 : DG X io js tg g) (h2 : DGs X io ks tgs h) (hs : (assignEach (tg :: tgs) X.env).map (·.2) = assign tg X.env :: (assignEach tgs X.env).map (·.2) := by rfl) : DGs X io (js ++ ks) (tg :: tgs) (gsCons g h) := L2.PGs.weak (pgs_cons h1 h2 hs) fun v σ H Q z => by
  obtain ⟨R, U, T, pn, ρ, rs, ρ', I, hp, hT, r, e, k⟩ := z
  unfold gsCons at e
  split at e
  · split at e
    · cases e
    · rename_i hb
      split at e
      · rename_i ρ1 hg
        cases r with
        | cons r1 r2 nd =>
          rename_i T1 T2
          refine ⟨_, _, rfl, plus R T2, U, T1, pn, ρ, _, _, ρ1, I.assoc, hp, fun a ha z => ?_, r1, hg, fun σ1 H1 U1 I1 f1 t1 => ?_⟩
          · rcases z with z | z
            · exact hT a (List.mem_append_left _ ha) z
            · exact nd a ha z
          · refine ⟨R, U1, T2, pn, ρ1, _, ρ', I1, hp, fun a ha => hT a (List.mem_append_right _ ha), r2.mono f1.sub (fun a ha o e => (f1 a o e).1 (.inr ha) |>.1) (fun r hr z => absurd (List.any_eq_true.mpr ⟨r, hr, z⟩) hb), e, fun σ2 H2 U2 I2 f2 t2 => k σ2 H2 U2 I2 ?_ (t1.trans t2)⟩
            exact (f1.weakR fun a h => .inl h).trans0 f2
      · cases e
  · cases e
/-- a tuple target -/
def gT (n : Nat) (h : FGs) : FG := fun d m ρ => match d with
  | .tuple ds => if ds.length = n then h (ds.map fun d => (d, Md.S)) ρ else none
  | _ => none
theorem dg_tup {js : List Nat} {tgs : List Expr} {k n : Nat} {h : FGs} (hc : X.calm = true) (hs : DGs X io js tgs h) (hn : (assignEach tgs X.env).length = n := by rfl) (hst : (assignEach tgs X.env).findIdx? (·.1) = none := by rfl) : DG X io js (.Tuple tgs k pos) (gT n h) := L2.PG.weak (pg_tup hc hs hn hst) fun v σ H Q z => by
  obtain ⟨R, U, T, pn, ρ, d, m, ρ', I, hp, hT, r, e, k⟩ := z
  unfold gT at e
  split at e
  · split at e
    · rename_i hl
      have w := r.mono (U' := plus (fun a => U a ∧ a ∉ T) T) (H' := H) (fun a o z => let ⟨n, z⟩ := of_sub z; sub_at (fun w => w.elim (fun w => n w.1) fun w => n (I.ru a (.inr w))) z) (fun _ _ _ z => z) fun _ _ _ z => z
      obtain ⟨a, xs, rfl, ha, hx⟩ := w.tupS fun a ha z => z.2 ha
      refine ⟨a, xs, rfl, .of ha, by rw [rpL_len hx]; exact hl, R, _, [], pn, ρ, _, ρ', (I.drop hT).plus_nil, hp, fun _ z => (nomatch z), ?_, e, fun σ1 H1 U1 I1 f1 t1 => k σ1 H1 U1 I1 ?_ t1⟩
      · have := VlL.rps hx VlL.nil
        simpa using this
      · exact fun b o e => ⟨fun r => (f1 b o e).1 r, fun n => (f1 b o e).2 fun z => n z.1⟩
    · cases e
  · cases e
/-! ### x = e -/
def fAsg (f : FE) (g : FG) : FS := fun ρ => match f ρ with
  | some (d, m, ρ1) => match g d m ρ1 with
    | some ρ2 => some (.nx, ρ2)
    | none => none
  | none => none
theorem asg_run {js : List Nat} {g : FG} : ∀ D σ H, tS K io (fAsg f g) D σ H → tAsg (tD K q f) (tG K io js g) D σ H := fun D σ H z => by
  obtain ⟨R, U, pn, ρ, out, ρ', I, hp, e, k⟩ := z
  unfold fAsg at e
  split at e
  · rename_i d m ρ1 h1
    split at e
    · rename_i ρ2 h2
      cases e
      refine ⟨R, U, pn, ρ, d, m, ρ1, I, h1, fun v H' U' T p r => ⟨R, U', T, pn, ρ1, d, m, _, p.sr, hp, p.far, r, h2, fun σ1 H1 U1 I1 f1 _ => k σ1 H1 U1 I1 (p.fr.trans0 f1)⟩⟩
    · cases e
  · cases e
theorem ds_asg {js : List Nat} {tg : Expr} {g : FG} (he : DE X q e f) (hg : DG X io js tg g) (hs : swapsWithSole [tg] e pos.line X.env = pure false := by rfl) (hw : swappedStores [tg] e X.env = pure none := by rfl)
    (h1 : (assignEach [tg] X.env).map (·.2) = [assign tg X.env] := by rfl) : DS X io (.Assign [tg] e pos) (fAsg f g) := L2.PS.weak (ps_asg he hg hs hw h1) asg_run
/-- a name that is stored: shared, owned -/
theorem ds_set {i : Nat} {x : Str} {pos' : Pos} (hN : X.N.Nodup) (hi : X.N[i]? = some x) (hio : i ∉ io) (hx : Loc X.env.scope x) (he : DE X q e f) (hs : swapsWith e (some (.Name x pos')) pos.line X.env = pure false := by rfl) (hf : X.fn x = true ∨ X.env.scope.names.lookup x = some .local := by first | exact .inl rfl | exact .inr rfl | assumption) :
    DS X io (.Assign [.Name x pos'] e pos) (fAsg f (gS i)) := L2.PS.weak (ps_set hN hi hx he hs hf) fun D σ H z => by
  obtain ⟨R, U, pn, ρ, d, m, ρ', I, h1, k⟩ := asg_run (q := q) (js := [i]) D σ H z
  refine ⟨R, U, pn, ρ, d, m, ρ', I, h1, fun v H' U' T p r => ?_⟩
  obtain ⟨R2, U2, T2, pn2, ρ2, d2, m2, ρ3, I2, hp, hT, r2, e, k2⟩ := k v H' U' T p r
  unfold gS at e
  split at e
  · rename_i hc
    rw [Bool.and_eq_true] at hc
    cases e
    obtain ⟨U', I', fr⟩ := I2.putS (i := i) hT r2 (by simpa using hc.1) (by rw [← I2.len]; exact of_decide_eq_true hc.2) (fun p hq z => hio (z ▸ hp p hq))
    exact k2 _ _ U' I' fr (touch_set i _ _ _)
  · cases e
theorem ds_setO {i : Nat} {x : Str} {pos' : Pos} (hN : X.N.Nodup) (hi : X.N[i]? = some x) (hio : i ∉ io) (hx : Loc X.env.scope x) (he : DE X q e f) (hs : swapsWith e (some (.Name x pos')) pos.line X.env = pure false := by rfl) (hf : X.fn x = true ∨ X.env.scope.names.lookup x = some .local := by first | exact .inl rfl | exact .inr rfl | assumption) :
    DS X io (.Assign [.Name x pos'] e pos) (fAsg f (gO i)) := L2.PS.weak (ps_set hN hi hx he hs hf) fun D σ H z => by
  obtain ⟨R, U, pn, ρ, d, m, ρ', I, h1, k⟩ := asg_run (q := q) (js := [i]) D σ H z
  refine ⟨R, U, pn, ρ, d, m, ρ', I, h1, fun v H' U' T p r => ?_⟩
  obtain ⟨R2, U2, T2, pn2, ρ2, d2, m2, ρ3, I2, hp, hT, r2, e, k2⟩ := k v H' U' T p r
  unfold gO at e
  split at e
  · split at e
    · rename_i hc
      cases e
      obtain ⟨U', I', fr⟩ := I2.putO (i := i) hT r2 (by rw [← I2.len]; exact hc) (fun p hq z => hio (z ▸ hp p hq))
      exact k2 _ _ U' I' fr (touch_set i _ _ _)
    · cases e
  · cases e
/-! ### loops -/
/-- what one turn leaves: go on, out of the loop, out of the def -/
def turn (r : Option (Out × Rho)) (k : Rho → Option (Out × Rho)) : Option (Out × Rho) := match r with
  | some (.nx, ρ1) => k ρ1
  | some (.ct, ρ1) => k ρ1
  | some (.bk, ρ1) => some (.nx, ρ1)
  | some (.rt d m, ρ1) => some (.rt d m, ρ1)
  | none => none
def fWhile (c : FT) (f : FS) : Nat → FS
  | 0, _ => none
  | n + 1, ρ => match c ρ with
    | some (true, ρ1) => turn (f ρ1) (fWhile c f n)
    | some (false, ρ1) => some (.nx, ρ1)
    | none => none
theorem ds_while {c : Expr} {b1 : List Stmt} {fc : FT} (n : Nat) (hpass : PassesOwn (model X.prog X.w) X.A X.env X.xe) (hc : DT X q c fc) (h1 : DSs X io b1 fs) : DS X io (.While c b1 [] pos) (fWhile fc fs n) := L2.PS.weak (ps_while hpass hc h1) fun D σ H z => by
  obtain ⟨R, U, pn, ρ, out, ρ', I, hp, e, k⟩ := z
  refine ⟨fun m σ1 H1 => ∃ U1 ρ1, SR X.K R U1 pn ρ1 σ1 H1 ∧ Fr R U H U1 H1 ∧ fWhile fc fs m ρ1 = some (out, ρ'), ⟨n, U, ρ, I, I.frefl, e⟩, fun m σ1 H1 hw => ?_⟩
  obtain ⟨U1, ρ1, I1, f1, e1⟩ := hw
  cases m with
  | zero => cases e1
  | succ m =>
    unfold fWhile at e1
    split at e1
    · rename_i ρ2 h2
      refine ⟨R, U1, pn, ρ1, true, ρ2, I1, h2, fun H2 U2 p2 => ?_⟩
      refine iteT ?_
      refine ⟨fun σ3 H3 => ∃ U3 ρ3, SR X.K R U3 pn ρ3 σ3 H3 ∧ Fr R U H U3 H3 ∧ fWhile fc fs m ρ3 = some (out, ρ'), fun σ3 H3 h3 => ⟨m, Nat.lt_succ_self m, h3⟩, ?_⟩
      have f2 := f1.trans0 p2.fr
      cases hb : fs ρ2 with
      | none => rw [hb] at e1; cases e1
      | some z =>
        obtain ⟨o3, ρ3⟩ := z
        rw [hb] at e1
        refine ⟨R, U2, pn, ρ2, o3, ρ3, p2.sr0, hp, hb, ?_⟩
        cases o3 with
        | nx => exact fun σ3 H3 U3 I3 f3 => ⟨U3, ρ3, I3, f2.trans0 f3, e1⟩
        | ct => exact fun σ3 H3 U3 I3 f3 => ⟨U3, ρ3, I3, f2.trans0 f3, e1⟩
        | bk =>
          cases e1
          exact fun σ3 H3 U3 I3 f3 => k σ3 H3 U3 I3 (f2.trans0 f3)
        | rt d m =>
          cases e1
          exact fun v σ3 H3 U3 T I3 hT f3 r => k v σ3 H3 U3 T I3 hT (f2.trans0 f3) r
    · rename_i ρ2 h2
      cases e1
      refine ⟨R, U1, pn, ρ1, false, _, I1, h2, fun H2 U2 p2 => ?_⟩
      refine iteF ?_
      exact k _ _ U2 p2.sr0 (f1.trans0 p2.fr)
    · cases e1
/-! ### what is walked: its items are shared -/
/-- J gives just these items, wherever what is shared now is still there -/
def ItOk (K : PySem.W.Frag) (J : It) (G : Hp) (items : List PyData) : Prop :=
  ∀ (U : Rg) (H : Hp), Same G (DL.sub H U) → (∀ a, U a → Dm H a) → ∀ i, (i = items.length → J.stop i H) ∧ ∀ d, items[i]? = some d → J.go i H ∧ ∀ x H', J.yld i H x H' → Same H H' ∧ Rp K (DL.sub H' U) x d
abbrev FI := Rho → Option (List PyData × Rho)
def tI (K : PySem.W.Frag) (q : Bool) (f : FI) : TI := fun σ H Q => ∃ R U pn ρ items ρ', SR K R U pn ρ σ H ∧ f ρ = some (items, ρ') ∧ ∀ J H' U', Pst K R U pn ρ' σ H q U' [] H' → ItOk K J (DL.sub H' U') items → Q J H'
def DI (X : Cx) (q : Bool) (tg iter : Expr) (f : FI) : Prop := ∃ t, PI X tg iter t ∧ ∀ σ H Q, tI X.K q f σ H Q → t σ H Q
def fFor (g : FG) (f : FS) : List PyData → FS
  | [], ρ => some (.nx, ρ)
  | d :: ds, ρ => match g d .S ρ with
    | some ρ1 => turn (f ρ1) (fFor g f ds)
    | none => none
def fForS (it : FI) (g : FG) (f : FS) : FS := fun ρ => match it ρ with
  | some (items, ρ1) => fFor g f items ρ1
  | none => none
theorem SR.same (I : SR K R U pn ρ σ H) (e : Same H H') : SR K R U pn ρ σ H' := by
  have := (I.grow (T := []) e (fun _ z => nomatch z) fun _ z => nomatch z)
  exact this.shrink (fun _ h => .inl h) fun a => ⟨fun h => ⟨.inl h, fun z => z.elim id fun z => nomatch z⟩, fun h => h.1.elim id fun z => nomatch z⟩
theorem ds_for {js : List Nat} {tg iter : Expr} {body : List Stmt} {it : FI} {g : FG} (hpass : PassesOwn (model X.prog X.w) X.A X.env X.xe) (hc : X.calm = true) (hi : DI X q tg iter it) (hg : DG X io js tg g) (hb : DSs X io body fs) (hs : ∀ x, foldedSetIterable iter X.env x = pure x := by intro _; rfl) :
    DS X io (.For tg iter body [] pos) (fForS it g fs) := by
  obtain ⟨t, pi, w⟩ := hi
  refine L2.PS.weak (ps_for hpass hc pi hg hb hs) fun D σ H z => ?_
  obtain ⟨R, U, pn, ρ, out, ρ', I, hp, e, k⟩ := z
  unfold fForS at e
  split at e
  · rename_i items ρ1 h1
    refine w _ _ _ ⟨R, U, pn, ρ, items, ρ1, I, h1, fun J H1 U1 p1 ok => ?_⟩
    refine ⟨fun i m σ2 H2 => m + i = items.length ∧ ∃ U2 ρ2, SR X.K R U2 pn ρ2 σ2 H2 ∧ Fr R U1 H1 U2 H2 ∧ fFor g fs (items.drop i) ρ2 = some (out, ρ'), ⟨items.length, rfl, U1, ρ1, p1.sr0, p1.sr0.frefl, e⟩, fun i m σ2 H2 hw => ?_⟩
    obtain ⟨hm, U2, ρ2, I2, f2, e2⟩ := hw
    have okh := ok U2 H2 f2.sub I2.domM i
    cases hd : items[i]? with
    | none =>
      have hl : items.length ≤ i := List.getElem?_eq_none_iff.mp hd
      rw [List.drop_eq_nil_of_le hl] at e2
      cases e2
      exact .inl ⟨okh.1 (by omega), k σ2 H2 U2 I2 (p1.fr.trans0 f2)⟩
    | some d =>
      have hl : i < items.length := (List.getElem?_eq_some_iff.mp hd).1
      have hdr : items.drop i = d :: items.drop (i + 1) := by
        rw [List.drop_eq_getElem_cons hl]
        have := (List.getElem?_eq_some_iff.mp hd).2
        rw [this]
      rw [hdr] at e2
      obtain ⟨hgo, hy⟩ := okh.2 d hd
      unfold fFor at e2
      split at e2
      · rename_i ρ3 h3
        refine .inr ⟨hgo, fun σ' H' => ∃ U' ρ4, SR X.K R U' pn ρ4 σ' H' ∧ Fr R U1 H1 U' H' ∧ fFor g fs (items.drop (i + 1)) ρ4 = some (out, ρ'), fun σ' H' hN => ⟨m - 1, by omega, by omega, hN⟩, fun x H3 hx => ?_⟩
        obtain ⟨sm, rp⟩ := hy x H3 hx
        have I3 : SR X.K R U2 pn ρ2 σ2 H3 := I2.same sm
        have f3 : Fr R U1 H1 U2 H3 := f2.trans0 fun a o e => ⟨fun r => ⟨sm a o e, I2.ru a r⟩, fun n => ⟨sm a o e, n⟩⟩
        refine ⟨R, U2, [], pn, ρ2, d, .S, ρ3, I3.plus_nil, hp, fun _ z => (nomatch z), ⟨rfl, rp⟩, h3, fun σ4 H4 U4 I4 f4 _ => ?_⟩
        have f5 := f3.trans0 f4
        cases hb : fs ρ3 with
        | none => rw [hb] at e2; cases e2
        | some z =>
          obtain ⟨o3, ρ4⟩ := z
          rw [hb] at e2
          refine ⟨R, U4, pn, ρ3, o3, ρ4, I4, hp, hb, ?_⟩
          cases o3 with
          | nx => exact fun σ5 H5 U5 I5 f6 => ⟨U5, ρ4, I5, f5.trans0 f6, e2⟩
          | ct => exact fun σ5 H5 U5 I5 f6 => ⟨U5, ρ4, I5, f5.trans0 f6, e2⟩
          | bk =>
            cases e2
            exact fun σ5 H5 U5 I5 f6 => k σ5 H5 U5 I5 (p1.fr.trans0 (f5.trans0 f6))
          | rt d m =>
            cases e2
            exact fun v σ5 H5 U5 T I5 hT f6 r => k v σ5 H5 U5 T I5 hT (p1.fr.trans0 (f5.trans0 f6)) r
      · cases e2
  · cases e
/-! ### sources -/
def items1 (f : FE) : FI := fun ρ => match f ρ with
  | some (.list ds, m, ρ1) => if m.b = true then none else some (ds, ρ1)
  | _ => none
theorem itl_ok {a : Addr} {G : Hp} (h : SqL K G a xs) (r : RpL K G xs ds) : ItOk K (Itl K a) G ds := fun U H e hU i => by
  have h' : SqL K H a xs := same_l (fun b o z => sub_le _ _ (e b o z)) h
  refine ⟨fun hl => ?_, fun d hd => ?_⟩
  · exact ⟨xs, h', by rw [rpL_len r, hl]; exact Nat.le_refl _⟩
  · obtain ⟨x, hx, rx⟩ := rpL_at r hd
    refine ⟨⟨xs, x, h', hx⟩, fun y H' hy => ?_⟩
    obtain ⟨rfl, hz⟩ := hy
    have := hz xs h'
    rw [hx] at this
    cases this
    exact ⟨fun _ _ z => z, rx.mono e⟩
end
end DL

end
section
set_option maxHeartbeats 1000000
namespace PySem
set_option maxHeartbeats 2000000 in
theorem dl_meets_enumerate {v : Value} {o : Obj} {H : Heap → Prop} (B : Begins v o H) :
    Meets (Builtin.«enumerate.__new__» ⟨[.type "enumerate", v], []⟩) (fun _ R s => H s.heap ∧
      R (.ok (.ret (.ref (s.heap.push o).objs.size))) { s with heap := (s.heap.push o).push { cls := .type "enumerate", data := .fields #[.none, .bool false, .ref s.heap.objs.size, rawInt 0, .none, .none] } }) :=
  .of_wp fun prog w A R s h => by
    obtain ⟨hp, g, d, tk, os⟩ := s; obtain ⟨h1, h⟩ := h
    have hsub := sub_enumerate
    have q1 : ∀ {A' : Around} {E : Value → Shared → Prop} {Q : Value → Shared → Prop}, Q (.ref hp.objs.size) ⟨hp.push o, g, d, tk, os⟩ → wpAny (model prog w) A' (pyIter v) Q E ⟨hp, g, d, tk, os⟩ :=
      fun q => B.iter prog w _ _ ⟨hp, g, d, tk, os⟩ _ h1 q
    wp_walk using q1
    refine wpAny_stack_any fun st => wpAny_pure ?_
    split
    · rename_i c _ _ _ _ _
      cases (c == Value.type "enumerate")
      · wp_walk using q1
        exact ⟨_, rfl, h⟩
      · wp_walk using q1
        exact ⟨_, rfl, h⟩
    · wp_walk using q1
      exact ⟨_, rfl, h⟩
section
variable {prog : Program} {w : World} {A : Around} {E : Value → Shared → Prop} {s : Shared}
theorem dl_enum_begins {v : Value} {o : Obj} {H : Heap → Prop} {Q : Value → Shared → Prop} (B : Begins v o H) (h1 : H s.heap)
    (h : ∀ h', IsEnum h' (s.heap.objs.size + 1) s.heap.objs.size 0 .none → h'.get? s.heap.objs.size = some o → h'.objs.size = s.heap.objs.size + 2 →
      (∀ b o, s.heap.get? b = some o → h'.get? b = some o) → Q (.ref (s.heap.objs.size + 1)) { s with heap := h' }) :
    wpAny (model prog w) A (call (.type "enumerate") [v]) Q E s := by
  refine callType_new F.called_enumerate (by decide) (F.typeCall_enumerate_1 _) (F.newCall_enumerate_1 _) (fun obj => F.args_object_init_2 obj _) F.entry_enumerate_new
    (dl_meets_enumerate B) ⟨h1, ?_⟩
  have hz : (s.heap.push o).objs.size = s.heap.objs.size + 1 := Heap.size_push ..
  show _ ∧ _
  rw [hz]
  have he : IsEnum ((s.heap.push o).push { cls := .type "enumerate", data := .fields #[.none, .bool false, .ref s.heap.objs.size, rawInt 0, .none, .none] }) (s.heap.objs.size + 1) s.heap.objs.size 0 .none := by
    have := Heap.get?_push_size (s.heap.push o) (o := { cls := .type "enumerate", data := .fields #[.none, .bool false, .ref s.heap.objs.size, rawInt 0, .none, .none] }) rfl
    rw [hz] at this; exact this
  refine ⟨⟨_, he, rfl⟩, h _ he (Heap.get?_push_of_some _ (Heap.get?_push_size _ B.free)) (by rw [Heap.size_push, hz]) fun b o x => Heap.get?_push_of_some _ (Heap.get?_push_of_some _ x)⟩
end
end PySem
namespace DL
open PySem PySem.Spec L2
/-! ### enumerate of a tuple -/
def IteT (K : PySem.W.Frag) (a : Addr) : It :=
  ⟨fun i H => ∃ (xs : List V) (x : V), SqT K H a xs ∧ xs[i]? = some x, fun i H v H' => ∃ T x, v = .ref T ∧ H T = none ∧ H' = upd H T (.tup [.int (i : Nat), x]) ∧ ∀ xs, SqT K H a xs → xs[i]? = some x, fun i H => ∃ xs : List V, SqT K H a xs ∧ xs.length = i⟩
theorem turn_enumT {P : Program} {w : World} {K : PySem.W.Frag} {elts : List Expr} {kk : Nat} {tpos : Pos} (a e it : Addr) :
    Turn P w K (.Tuple elts kk tpos) (IteT K a) [e, it] e (fun i h => (∃ old, IsEnum h e it ((i : Nat) : Int) old) ∧ h.IsTupleIter it a i ∧ e ≠ it) where
  mem := by simp
  obj := fun i h st b hb => by
    obtain ⟨⟨old, he⟩, ⟨o, ho, hc, hd⟩, _⟩ := st
    have e' : b = e ∨ b = it := by simpa using hb
    rcases e' with z | z
    · rw [z]; exact ⟨_, he, fun v q => nomatch q⟩
    · rw [z]; exact ⟨o, ho, fun v q => by rw [hd] at q; cases q⟩
  keep := fun i h h' st k => let ⟨⟨old, he⟩, hi, hne⟩ := st; ⟨⟨old, k e (by simp) _ he⟩, hi.at fun o q => k it (by simp) o q, hne⟩
  item := by
    intro X hP hw hK hc i pins s σ H E I hf st hg
    subst hP hw hK
    obtain ⟨⟨old, he⟩, hit, hne⟩ := st
    obtain ⟨xs, x, hq, hx⟩ := hg
    obtain ⟨its, rv, p, hz⟩ := I.tuple hq
    obtain ⟨u, hu, ru⟩ := rv.get hx
    have hel : e < s.heap.objs.size := Heap.lt_size he
    have hil : it < s.heap.objs.size := by obtain ⟨_, q, _⟩ := hit; exact Heap.lt_size q
    have pt : s.heap.IsTuple a its.toArray := p
    have hia : a ≠ it := fun z => by
      obtain ⟨o1, e1, c1, _⟩ := hit
      obtain ⟨o2, e2, c2, _⟩ := id pt
      rw [← z, e2] at e1; cases e1
      rw [c2] at c1
      injection c1 with c1
      exact absurd c1 (by decide)
    have hea : e ≠ a := fun z => by
      obtain ⟨o2, e2, c2, _⟩ := id pt
      have he' := he
      unfold IsEnum at he'
      rw [z, e2] at he'
      injection he' with he'
      rw [he'] at c2
      injection c2 with c2
      exact absurd c2 (by decide)
    refine wpAny_pyNext_enum_itemC (Draws.tuple (A := X.A.in1) (prog := X.prog) (w := X.w) (I.ok.hd hc) it a hia its.toArray) he ⟨hit, pt⟩ (by simpa using (List.getElem?_eq_some_iff.mp hu).1) hne (by simp [hne, hea]) fun u' h' tk hu' ho hit' hT hsz hk => ?_
    have eu : u' = u := by
      have h1 : its.toArray[i]? = some u' := hu'
      have h2 : its.toArray[i]? = some u := by simpa using hu
      rw [h1] at h2; exact Option.some.inj h2
    subst eu
    refine ⟨_, rfl, wpAny_letOwnedTupleGo_enum (s := { s with heap := h', toks := tk + 1 }) ho fun h'' he' sb => ?_⟩
    have hT2 : h''.get? s.heap.objs.size = some { cls := .type "tuple", data := .seq #[.int i tk, u'] } := (sb.2 _ (Nat.ne_of_gt hel)).trans hT
    have new : ObjOk X.prog X.w (upd H s.heap.objs.size (.tup [.int (i : Nat), x])) h'' s.heap.objs.size (.tup [.int (i : Nat), x]) :=
      ⟨by show 2 ≤ sizeLine; decide, [.int i tk, u'], .cons ⟨_, rfl⟩ (.cons ru .nil), ⟨_, hT2, rfl, _, rfl⟩⟩
    have I1 : Inv X pins σ (upd H s.heap.objs.size (.tup [.int (i : Nat), x])) { s with heap := h'', toks := tk + 1 } :=
      I.turnedNew (ch := [e, it]) (fun b ob hb q => (sb.2 b (fun z => hb (by simp [z]))).trans (hk b ob (fun z => hb (by simp [z])) (fun z => hb (by simp [z])) q)) hf (Nat.le_refl _) new
    refine ⟨.ref s.heap.objs.size, _, I1, rfl, ⟨_, x, rfl, I.hok.fresh (Nat.le_refl _), rfl, fun ys hy => by rw [I.tuple_inj hy hq]; exact hx⟩, ⟨⟨u', ?_⟩, hit'.1.at fun o q => (sb.2 it (Ne.symm hne)).trans q, hne⟩, fun b hb => ?_⟩
    · have e1 : ((i + 1 : Nat) : Int) = (i : Int) + 1 := by omega
      rw [e1]; exact he'
    · have hb' : b < s.heap.objs.size := by
        have e' : b = e ∨ b = it := by simpa using hb
        rcases e' with z | z
        · rw [z]; exact hel
        · rw [z]; exact hil
      rw [upd_ne (Nat.ne_of_lt hb')]
      exact (hf b hb).1
  done := by
    intro X hP hw hK hc i pins s σ H E I hf st hg
    subst hP hw hK
    obtain ⟨⟨old, he⟩, hit, hne⟩ := st
    obtain ⟨xs, hq, hx⟩ := hg
    obtain ⟨its, rv, p, hz⟩ := I.tuple hq
    obtain ⟨f0, f1, f2, f3, f4, f5⟩ := hf it (by simp)
    have hl := rv.length
    have pt : s.heap.IsTuple a its.toArray := p
    have hia : a ≠ it := fun z => by
      obtain ⟨o1, e1, c1, _⟩ := hit
      obtain ⟨o2, e2, c2, _⟩ := id pt
      rw [← z, e2] at e1; cases e1
      rw [c2] at c1
      injection c1 with c1
      exact absurd c1 (by decide)
    refine wpAny_pyNext_enum_endD (Draws.tuple (A := X.A.in1) (prog := X.prog) (w := X.w) (I.ok.hd hc) it a hia its.toArray) he ⟨by rw [List.size_toArray, ← hl, hx]; exact hit, pt⟩ fun h' eb => ⟨rfl, I.turned (t' := s.toks) (fun b o hb q => eb b o hb q) f0 f1 f3 f4 f5⟩
  self := fun A i s Q E st h => let ⟨⟨_, he⟩, _⟩ := st; wpAny_pyIter_enum he h
def iEnumT (K : PySem.W.Frag) (ta : TA) : TI := fun σ H R => ta σ H fun vs H1 => ∃ a xs, vs = [.ref a] ∧ SqT K H1 a xs ∧ R (IteT K a) H1
theorem pi_enumT {X : Cx} {e : Expr} {ta : TA} {p pos tpos : Pos} {elts : List Expr} {kk : Nat} (hg : Gl X "enumerate") (hm : X.mg "enumerate" = none) (ha : PA X [e] ta) (hs : starEach [e] X.env = [(false, eval e X.env)] := by rfl) :
    PI X (.Tuple elts kk tpos) (.Call (.Name "enumerate" p) [e] [] pos) (iEnumT X.K ta) := by
  refine ⟨fun pins s σ H R I h => ?_⟩
  refine PyProof.Rows.Call_ (ld_blt I hg hm PyProof.Rows.boot_enumerate (PyProof.Rows.callWith_type1 (thn (ha.run pos pins s σ H _ I h) fun us s1 ⟨vs, H1, I1, r1, q1⟩ => ?_) hs rfl))
  obtain ⟨a, xs, ex, hq, q⟩ := q1
  subst ex
  cases r1 with
  | cons r rr =>
    cases rr
    cases r
    obtain ⟨its, rv, p', hz⟩ := I1.tuple hq
    have pt : s1.heap.IsTuple a its.toArray := p'
    refine dl_enum_begins (begins_tuple a its.toArray) pt fun h' he hit hsz hk => wpAny_pyIter_enum he ?_
    have I2 : Inv X pins σ H1 { s1 with heap := h' } := I1.kept (t' := s1.toks) hk
    refine ⟨s1.heap.objs.size + 1, [s1.heap.objs.size + 1, s1.heap.objs.size], _, _, H1, rfl, I2, turn_enumT a (s1.heap.objs.size + 1) s1.heap.objs.size, ⟨⟨.none, he⟩, ⟨_, hit, rfl, rfl⟩, Nat.succ_ne_self _⟩, fun b hb => ?_, q⟩
    have e' : b = s1.heap.objs.size + 1 ∨ b = s1.heap.objs.size := by simpa using hb
    have hle : s1.heap.objs.size ≤ b := by
      rcases e' with z | z
      · rw [z]; exact Nat.le_add_right _ _
      · rw [z]; exact Nat.le_refl _
    exact I1.fpOk hle (I1.hok.fresh hle)
/-! ### sources by data -/
section
variable {X : Cx} {K : PySem.W.Frag} {R U U' : Rg} {H H' G : Hp} {v x y : V} {d : PyData} {ds es' : List PyData} {vs xs ys : List V} {m n : Md} {T S : List Addr} {p : Addr} {o : HO} {rs : List (PyData × Md)} {e a b tg : Expr} {es : List Expr} {q q1 q2 : Bool} {pos : Pos} {f : FE} {ρ ρ' : Rho} {σ σ' : L2.St}
theorem PI.or {t t' : TI} {iter : Expr} (h : PI X tg iter t) (h' : PI X tg iter t') : PI X tg iter (fun σ H R => t σ H R ∨ t' σ H R) := ⟨fun pins s σ H R I z => z.elim (h.run pins s σ H R I) (h'.run pins s σ H R I)⟩
theorem itt_ok {a : Addr} (h : G a = some (.tup xs)) (r : RpL K G xs ds) : ItOk K (Itt K a) G ds := fun U H e hU i => by
  have h' : SqT K H a xs := .of (sub_le _ _ (e _ _ h))
  refine ⟨fun hl => ⟨xs, h', by rw [rpL_len r, hl]; exact Nat.le_refl _⟩, fun d hd => ?_⟩
  obtain ⟨x, hx, rx⟩ := rpL_at r hd
  refine ⟨⟨xs, x, h', hx⟩, fun y H' hy => ?_⟩
  obtain ⟨rfl, hz⟩ := hy
  have := hz xs h'
  rw [hx] at this
  cases this
  exact ⟨fun _ _ z => z, rx.mono e⟩
/-- a list or a tuple -/
def iSeq (f : FE) : FI := fun ρ => match f ρ with
  | some (.list ds, m, ρ1) => if m.b = true then none else some (ds, ρ1)
  | some (.tuple ds, _, ρ1) => some (ds, ρ1)
  | _ => none
theorem di_seq (h : DE X q e f) : DI X q tg e (iSeq f) := ⟨_, PI.or (pi_list h) (pi_tup h), fun σ H Q z => by
  obtain ⟨R, U, pn, ρ, items, ρ', I, e, k⟩ := z
  unfold iSeq at e
  split at e
  · split at e
    · cases e
    · rename_i hb
      cases e
      refine .inl ⟨R, U, pn, ρ, _, _, _, I, ‹_›, fun v H1 U1 T p r => ?_⟩
      have r' := r.drop (by simpa using hb)
      obtain ⟨_, r'⟩ := r'
      cases r' with
      | lst hl rl => exact ⟨_, rfl, ⟨_, same_l sub_le hl⟩, k _ H1 _ p.drop (itl_ok hl rl)⟩
  · cases e
    refine .inr ⟨R, U, pn, ρ, _, _, _, I, ‹_›, fun v H1 U1 T p r => ?_⟩
    have w := r.mono (U' := plus (fun a => U1 a ∧ a ∉ T) T) (H' := H1) (fun a o z => let ⟨n, z⟩ := of_sub z; sub_at (fun w => w.elim (fun w => n w.1) fun w => n (p.sr.ru a (.inr w))) z) (fun _ _ _ z => z) fun _ _ _ z => z
    have r' := w.tupR fun a ha z => z.2 ha
    cases r' with
    | tup hl rl => exact ⟨_, rfl, ⟨_, .of (sub_le _ _ hl)⟩, k _ H1 _ p.drop (itt_ok hl rl)⟩
  · cases e⟩
/-- from arguments -/
def IOk (K : PySem.W.Frag) (C : List V → Hp → (It → Hp → Prop) → Prop) (κ : List (PyData × Md) → Option (List PyData)) : Prop :=
  ∀ (U : Rg) (H : Hp) (vs : List V) (rs : List (PyData × Md)) (T : List Addr) (items : List PyData) (Q : It → Hp → Prop), (∀ a, U a → Dm H a) → VlL K (plus U T) H vs rs T → (∀ a ∈ T, ¬ U a) → κ rs = some items → (∀ J, ItOk K J (DL.sub H U) items → Q J H) → C vs H Q
def iA (fa : FA) (κ : List (PyData × Md) → Option (List PyData)) : FI := fun ρ => match fa ρ with
  | some (rs, ρ1) => match κ rs with
    | some l => some (l, ρ1)
    | none => none
  | none => none
theorem di_args {fa : FA} {κ : List (PyData × Md) → Option (List PyData)} {C : List V → Hp → (It → Hp → Prop) → Prop} {iter : Expr} (h : DA X q es fa) (hi : PI X tg iter (fun σ H R => tDA X.K q fa σ H fun vs H1 => C vs H1 R)) (ok : IOk X.K C κ) : DI X q tg iter (iA fa κ) := ⟨_, hi, fun σ H Q z => by
  obtain ⟨R, U, pn, ρ, items, ρ', I, e, k⟩ := z
  unfold iA at e
  split at e
  · rename_i rs ρ1 he
    split at e
    · rename_i l hl
      cases e
      refine ⟨R, U, pn, ρ, rs, _, I, he, fun vs H1 U1 T p r => ?_⟩
      have w := r.mono (U' := plus (fun a => U1 a ∧ a ∉ T) T) (H' := H1) (fun a o z => let ⟨n, z⟩ := of_sub z; sub_at (fun w => w.elim (fun w => n w.1) fun w => n (p.sr.ru a (.inr w))) z) (fun _ _ _ z => z) fun _ _ _ _ _ z => z
      exact ok _ H1 vs rs T _ _ (fun a h => p.sr.domM a h.1) w (fun a ha z => z.2 ha) hl fun J hJ => k J H1 _ p.drop hJ
    · cases e
  · cases e⟩
def rangeD (lo : Int) (n : Nat) : List PyData := (List.range n).map fun i => .int (lo + (i : Nat))
theorem itr_ok (lo : Int) (n : Nat) : ItOk K (Itr lo n) G (rangeD lo n) := fun U H e hU i => by
  refine ⟨fun hl => ?_, fun d hd => ?_⟩
  · show n ≤ i
    simp [rangeD] at hl; omega
  · have hi : i < n := by
      have := (List.getElem?_eq_some_iff.mp hd).1
      simpa [rangeD] using this
    have ed : d = .int (lo + (i : Nat)) := by
      simp [rangeD, hi] at hd
      exact hd.symm
    subst ed
    refine ⟨hi, fun x H' hx => ?_⟩
    obtain ⟨rfl, rfl⟩ := hx
    exact ⟨fun _ _ z => z, .int _⟩
/-- a bound that range takes -/
def inR (j : Int) : Bool := decide (j.natAbs ≤ 1000000000)
theorem inR_ok {j : Int} (h : inR j = true) : -(2 ^ 62) ≤ j ∧ j < 2 ^ 62 := by
  have := of_decide_eq_true h
  omega
def κR1 : List (PyData × Md) → Option (List PyData)
  | [(.int j, _)] => if inR j = true then some (rangeD 0 j.toNat) else none
  | _ => none
def κR2 : List (PyData × Md) → Option (List PyData)
  | [(.int i, _), (.int j, _)] => if (inR i && inR j) = true then some (rangeD i (j - i).toNat) else none
  | _ => none
theorem iok_r1 : IOk K (fun vs H1 R => ∃ j : Int, vs = [.int j] ∧ -(2 ^ 62) ≤ j ∧ j < 2 ^ 62 ∧ R (Itr 0 j.toNat) H1) κR1 := by
  intro U H vs rs T items Q hU h1 hT he hq
  unfold κR1 at he
  split at he
  · split at he
    · rename_i hc
      cases he
      obtain ⟨x, rfl, h2⟩ := h1.one_inv
      cases h2.intV
      exact ⟨_, rfl, (inR_ok hc).1, (inR_ok hc).2, hq _ (itr_ok _ _)⟩
    · cases he
  · cases he
theorem iok_r2 : IOk K (fun vs H1 R => ∃ i j : Int, vs = [.int i, .int j] ∧ (-(2 ^ 62) ≤ i ∧ i < 2 ^ 62 ∧ -(2 ^ 62) ≤ j ∧ j < 2 ^ 62) ∧ R (Itr i (j - i).toNat) H1) κR2 := by
  intro U H vs rs T items Q hU h1 hT he hq
  unfold κR2 at he
  split at he
  · split at he
    · rename_i hc
      cases he
      obtain ⟨x, y, T1, T2, rfl, h2, h3, _, _⟩ := h1.two_inv
      cases h2.intV
      cases h3.intV
      rw [Bool.and_eq_true] at hc
      exact ⟨_, _, rfl, ⟨(inR_ok hc.1).1, (inR_ok hc.1).2, (inR_ok hc.2).1, (inR_ok hc.2).2⟩, hq _ (itr_ok _ _)⟩
    · cases he
  · cases he
def enumD : Nat → List PyData → List PyData
  | _, [] => []
  | k, d :: ds => .tuple [.int (k : Nat), d] :: enumD (k + 1) ds
theorem enumD_len : ∀ (k : Nat) (ds : List PyData), (enumD k ds).length = ds.length
  | _, [] => rfl
  | k, d :: ds => congrArg (· + 1) (enumD_len (k + 1) ds)
theorem enumD_at : ∀ {k i : Nat} {ds : List PyData} {z : PyData}, (enumD k ds)[i]? = some z → ∃ d, ds[i]? = some d ∧ z = .tuple [.int ((k + i : Nat) : Int), d]
  | k, i, [], z, h => by simp [enumD] at h
  | k, 0, d :: ds, z, h => by simp [enumD] at h; exact ⟨d, rfl, h.symm⟩
  | k, i + 1, d :: ds, z, h => by
    obtain ⟨d', h1, h2⟩ := enumD_at (k := k + 1) (i := i) (ds := ds) (z := z) (by simpa [enumD] using h)
    refine ⟨d', by simpa using h1, ?_⟩
    rw [h2, show k + 1 + i = k + (i + 1) by omega]
theorem pair_rp {T0 : Addr} {d1 d2 : PyData} (hU : ∀ a, U a → Dm H a) (hn : H T0 = none) (h1 : Rp K (DL.sub H U) x d1) (h2 : Rp K (DL.sub H U) y d2) : Rp K (DL.sub (upd H T0 (.tup [x, y])) U) (.ref T0) (.tuple [d1, d2]) := by
  have := (vl_tup (K := K) hU hn (.cons h1 (.cons h2 .nil))).2
  exact this.mono fun a o e => let ⟨n, e⟩ := of_sub e; sub_at (fun z => n (.inl z)) e
theorem ite_ok {a : Addr} (h : SqL K G a xs) (r : RpL K G xs ds) : ItOk K (Ite K a) G (enumD 0 ds) := fun U H e hU i => by
  have h' : SqL K H a xs := same_l (fun b o z => sub_le _ _ (e b o z)) h
  refine ⟨fun hl => ⟨xs, h', by rw [rpL_len r, hl, enumD_len]; exact Nat.le_refl _⟩, fun z hz => ?_⟩
  obtain ⟨d, hd, rfl⟩ := enumD_at hz
  obtain ⟨x, hx, rx⟩ := rpL_at r hd
  refine ⟨⟨xs, x, h', hx⟩, fun y H' hy => ?_⟩
  obtain ⟨T, x', rfl, hn, rfl, hz⟩ := hy
  have := hz xs h'
  rw [hx] at this
  cases this
  exact ⟨same_new hn, by simpa using pair_rp hU hn (.int (i : Nat)) (rx.mono e)⟩
theorem iteT_ok {a : Addr} (h : G a = some (.tup xs)) (r : RpL K G xs ds) : ItOk K (IteT K a) G (enumD 0 ds) := fun U H e hU i => by
  have h' : SqT K H a xs := .of (sub_le _ _ (e _ _ h))
  refine ⟨fun hl => ⟨xs, h', by rw [rpL_len r, hl, enumD_len]⟩, fun z hz => ?_⟩
  obtain ⟨d, hd, rfl⟩ := enumD_at hz
  obtain ⟨x, hx, rx⟩ := rpL_at r hd
  refine ⟨⟨xs, x, h', hx⟩, fun y H' hy => ?_⟩
  obtain ⟨T, x', rfl, hn, rfl, hz⟩ := hy
  have := hz xs h'
  rw [hx] at this
  cases this
  exact ⟨same_new hn, by simpa using pair_rp hU hn (.int (i : Nat)) (rx.mono e)⟩
def κEnumL : List (PyData × Md) → Option (List PyData)
  | [(.list ds, m)] => if m.fl = true then some (enumD 0 ds) else none
  | _ => none
def κEnumT : List (PyData × Md) → Option (List PyData)
  | [(.tuple ds, _)] => some (enumD 0 ds)
  | _ => none
/-- the list itself is shared, not borrowed -/
theorem Vl.shrL (h : Vl K (plus U T) H v (.list ds) m S) (hT : ∀ a ∈ T, ¬ U a) (hs : ∀ a ∈ S, a ∈ T) (hm : m.b = false) : ∃ a xs, v = .ref a ∧ SqL K (DL.sub H U) a xs ∧ RpL K (DL.sub H U) xs ds := by
  have h' := h.shr hT hs hm
  cases h' with
  | lst h1 h2 => exact ⟨_, _, rfl, h1, h2⟩
theorem Vl.shrT (h : Vl K (plus U T) H v (.tuple ds) m S) (hT : ∀ a ∈ T, ¬ U a) : ∃ a xs, v = .ref a ∧ DL.sub H U a = some (.tup xs) ∧ RpL K (DL.sub H U) xs ds := by
  have h' := h.tupR hT
  cases h' with
  | tup h1 h2 => exact ⟨_, _, rfl, h1, h2⟩
def κEnumL' : List (PyData × Md) → Option (List PyData)
  | [(.list ds, m)] => if m.b = true then none else some (enumD 0 ds)
  | _ => none
theorem iok_enumL : IOk K (fun vs H1 R => ∃ a xs, vs = [.ref a] ∧ SqL K H1 a xs ∧ R (Ite K a) H1) κEnumL' := by
  intro U H vs rs T items Q hU h1 hT he hq
  unfold κEnumL' at he
  split at he
  · split at he
    · cases he
    · rename_i hm
      cases he
      obtain ⟨x, rfl, h2⟩ := h1.one_inv
      obtain ⟨a, xs, rfl, h3, h4⟩ := h2.shrL hT (fun _ z => z) (by simpa using hm)
      exact ⟨a, xs, rfl, same_l sub_le h3, hq _ (ite_ok h3 h4)⟩
  · cases he
theorem iok_enumT : IOk K (fun vs H1 R => ∃ a xs, vs = [.ref a] ∧ SqT K H1 a xs ∧ R (IteT K a) H1) κEnumT := by
  intro U H vs rs T items Q hU h1 hT he hq
  unfold κEnumT at he
  split at he
  · cases he
    obtain ⟨x, rfl, h2⟩ := h1.one_inv
    obtain ⟨a, xs, rfl, h3, h4⟩ := h2.shrT hT
    exact ⟨a, xs, rfl, .of (sub_le _ _ h3), hq _ (iteT_ok h3 h4)⟩
  · cases he
/-! zip -/
def zipD : List PyData → List PyData → List PyData
  | d :: ds, e :: es => .tuple [d, e] :: zipD ds es
  | _, _ => []
theorem zipD_at : ∀ {i : Nat} {ds es : List PyData} {z : PyData}, (zipD ds es)[i]? = some z → ∃ d e, ds[i]? = some d ∧ es[i]? = some e ∧ z = .tuple [d, e]
  | i, [], _, z, h => by simp [zipD] at h
  | i, _ :: _, [], z, h => by simp [zipD] at h
  | 0, d :: ds, e :: es, z, h => by simp [zipD] at h; exact ⟨d, e, rfl, rfl, h.symm⟩
  | i + 1, d :: ds, e :: es, z, h => by
    obtain ⟨d', e', h1, h2, h3⟩ := zipD_at (i := i) (ds := ds) (es := es) (z := z) (by simpa [zipD] using h)
    exact ⟨d', e', by simpa using h1, by simpa using h2, h3⟩
theorem zipD_len : ∀ (ds es : List PyData), ds.length ≤ (zipD ds es).length ∨ es.length ≤ (zipD ds es).length
  | [], _ => .inl (Nat.zero_le _)
  | _ :: _, [] => .inr (Nat.zero_le _)
  | d :: ds, e :: es => by
    rcases zipD_len ds es with h | h
    · exact .inl (by simp [zipD]; exact h)
    · exact .inr (by simp [zipD]; exact h)
theorem itz_ok {a b : Addr} {es : List PyData} (h : SqL K G a xs) (r : RpL K G xs ds) (h2 : SqL K G b ys) (r2 : RpL K G ys es) : ItOk K (Itz K a b) G (zipD ds es) := fun U H e hU i => by
  have h' : SqL K H a xs := same_l (fun b o z => sub_le _ _ (e b o z)) h
  have h2' : SqL K H b ys := same_l (fun b o z => sub_le _ _ (e b o z)) h2
  refine ⟨fun hl => ⟨xs, ys, h', h2', by rw [rpL_len r, rpL_len r2, hl]; exact zipD_len _ _⟩, fun z hz => ?_⟩
  obtain ⟨d, d2, hd, hd2, rfl⟩ := zipD_at hz
  obtain ⟨x, hx, rx⟩ := rpL_at r hd
  obtain ⟨y, hy, ry⟩ := rpL_at r2 hd2
  refine ⟨⟨xs, ys, x, y, h', h2', hx, hy⟩, fun y' H' hy' => ?_⟩
  obtain ⟨T, x', y'', rfl, hn, rfl, hz, hz2⟩ := hy'
  have e1 := hz xs h'
  have e2 := hz2 ys h2'
  rw [hx] at e1
  rw [hy] at e2
  cases e1
  cases e2
  exact ⟨same_new hn, pair_rp hU hn (rx.mono e) (ry.mono e)⟩
theorem itzT_ok {a b : Addr} {es : List PyData} (h : G a = some (.tup xs)) (r : RpL K G xs ds) (h2 : G b = some (.tup ys)) (r2 : RpL K G ys es) : ItOk K (RZ.ItzT K a b) G (zipD ds es) := fun U H e hU i => by
  have h' : SqT K H a xs := .of (sub_le _ _ (e _ _ h))
  have h2' : SqT K H b ys := .of (sub_le _ _ (e _ _ h2))
  refine ⟨fun hl => ⟨xs, ys, h', h2', by rw [rpL_len r, rpL_len r2, hl]; exact zipD_len _ _⟩, fun z hz => ?_⟩
  obtain ⟨d, d2, hd, hd2, rfl⟩ := zipD_at hz
  obtain ⟨x, hx, rx⟩ := rpL_at r hd
  obtain ⟨y, hy, ry⟩ := rpL_at r2 hd2
  refine ⟨⟨xs, ys, x, y, h', h2', hx, hy⟩, fun y' H' hy' => ?_⟩
  obtain ⟨T, x', y'', rfl, hn, rfl, hz, hz2⟩ := hy'
  have e1 := hz xs h'
  have e2 := hz2 ys h2'
  rw [hx] at e1
  rw [hy] at e2
  cases e1
  cases e2
  exact ⟨same_new hn, pair_rp hU hn (rx.mono e) (ry.mono e)⟩
def κZip : List (PyData × Md) → Option (List PyData)
  | [(.list ds, m), (.list es, n)] => if (m.b || n.b) = true then none else some (zipD ds es)
  | [(.tuple ds, _), (.tuple es, _)] => some (zipD ds es)
  | _ => none
theorem iok_zip : IOk K (fun vs H1 R => ∃ a b xs ys, vs = [.ref a, .ref b] ∧ ((SqL K H1 a xs ∧ SqL K H1 b ys ∧ R (Itz K a b) H1) ∨ (SqT K H1 a xs ∧ SqT K H1 b ys ∧ R (RZ.ItzT K a b) H1))) κZip := by
  intro U H vs rs T items Q hU h1 hT he hq
  unfold κZip at he
  split at he
  · split at he
    · cases he
    · rename_i hm
      cases he
      obtain ⟨x, y, T1, T2, rfl, h2, h3, i1, i2⟩ := h1.two_inv
      obtain ⟨a, xs, rfl, h4, h5⟩ := h2.shrL hT i1 (by simp at hm; exact hm.1)
      obtain ⟨b, ys, rfl, h6, h7⟩ := h3.shrL hT i2 (by simp at hm; exact hm.2)
      exact ⟨a, b, xs, ys, rfl, .inl ⟨same_l sub_le h4, same_l sub_le h6, hq _ (itz_ok h4 h5 h6 h7)⟩⟩
  · cases he
    obtain ⟨x, y, T1, T2, rfl, h2, h3, i1, i2⟩ := h1.two_inv
    obtain ⟨a, xs, rfl, h4, h5⟩ := h2.shrT hT
    obtain ⟨b, ys, rfl, h6, h7⟩ := h3.shrT hT
    exact ⟨a, b, xs, ys, rfl, .inr ⟨.of (sub_le _ _ h4), .of (sub_le _ _ h6), hq _ (itzT_ok h4 h5 h6 h7)⟩⟩
  · cases he
end
end DL

end
section
set_option maxHeartbeats 1000000
namespace DL
open PySem PySem.Spec L2
def wipeR : List Nat → Rho → Rho
  | [], ρ => ρ
  | v :: vs, ρ => (wipeR vs ρ).set v .no
section
variable {X : Cx} {K : PySem.W.Frag} {R U U' : Rg} {H H' G : Hp} {v x y : V} {d : PyData} {ds : List PyData} {vs xs ys : List V} {m n : Md} {T S : List Addr} {p : Addr} {o : HO} {rs : List (PyData × Md)} {e a b tg : Expr} {es : List Expr} {q q1 q2 q3 : Bool} {pos : Pos} {f : FE} {ρ ρ' : Rho} {σ σ' : L2.St} {pn : List (Nat × V)} {js ks : List Nat}
theorem SR.unpin (I : SR K R U pn ρ σ H) : SR K R U [] ρ σ H := ⟨I.len, I.lay, fun _ z => nomatch z⟩
theorem wipeR_len : ∀ (ks : List Nat) (ρ : Rho), (wipeR ks ρ).length = ρ.length
  | [], _ => rfl
  | k :: ks, ρ => by rw [wipeR, List.length_set, wipeR_len]
theorem wipeR_no : ∀ {ks : List Nat} {ρ : Rho} {j : Nat} {s : Sl}, j ∈ ks → (wipeR ks ρ)[j]? = some s → s = .no
  | k :: ks, ρ, j, s, hj, h => by
    rw [wipeR] at h
    by_cases e : j = k
    · subst e
      by_cases hl : j < (wipeR ks ρ).length
      · rw [List.getElem?_set_self hl] at h
        cases h; rfl
      · rw [List.set_eq_of_length_le (by omega)] at h
        rw [List.getElem?_eq_none_iff.mpr (by omega)] at h
        cases h
    · rw [List.getElem?_set_ne (Ne.symm e)] at h
      exact wipeR_no ((List.mem_cons.mp hj).resolve_left e) h
theorem wipe_out : ∀ {ks : List Nat} {σ : L2.St} {j : Nat}, j ∉ ks → (wipe σ ks)[j]? = σ[j]?
  | [], _, _, _ => rfl
  | k :: ks, σ, j, h => by
    rw [wipe, List.getElem?_set_ne (fun z => h (by simp [z]))]
    exact wipe_out fun z => h (List.mem_cons_of_mem _ z)
theorem wipe_in : ∀ {ks : List Nat} {σ : L2.St} {j : Nat}, j ∈ ks → (wipe σ ks)[j]? = if j < σ.length then some none else none
  | k :: ks, σ, j, h => by
    rw [wipe]
    by_cases e : j = k
    · subst e
      by_cases hl : j < σ.length
      · rw [List.getElem?_set_self (by rw [wipe_length]; exact hl), if_pos hl]
      · rw [if_neg hl, List.getElem?_eq_none_iff.mpr (by rw [List.length_set, wipe_length]; omega)]
    · rw [List.getElem?_set_ne (Ne.symm e)]
      exact wipe_in ((List.mem_cons.mp h).resolve_left e)
theorem touch_wipe (h : Touch ks (wipe σ ks) σ' H H') : wipe σ' ks = wipe σ ks := by
  refine List.ext_getElem? fun j => ?_
  have hl : σ'.length = σ.length := by rw [h.1, wipe_length]
  by_cases hj : j ∈ ks
  · rw [wipe_in hj, wipe_in hj, hl]
  · rw [wipe_out hj, h.2.1 j hj]
theorem Touch.mono (h : Touch js σ σ' H H') (w : ∀ j ∈ js, j ∈ ks) : Touch ks σ σ' H H' ∨ 99999 ∈ ks := (Classical.em (99999 ∈ ks)).elim .inr fun n => .inl ⟨h.1, fun j hj => h.2.1 j fun z => hj (w j z), fun _ => h.2.2 fun z => n (w _ z)⟩
theorem SR.wipe : ∀ {ks : List Nat}, SR K R U [] ρ σ H → ∃ U', SR K R U' [] (wipeR ks ρ) (L2.wipe σ ks) H ∧ Fr R U H U' H
  | [], I => ⟨U, I, I.frefl⟩
  | k :: ks, I => by
    obtain ⟨U1, I1, f1⟩ := SR.wipe (ks := ks) I
    by_cases hk : k < (L2.wipe σ ks).length
    · obtain ⟨U2, I2, f2⟩ := I1.putN (i := k) (o := none) hk fun _ z => nomatch z
      exact ⟨U2, I2, f1.trans0 f2⟩
    · have e1 : wipeR (k :: ks) ρ = wipeR ks ρ := by rw [wipeR, List.set_eq_of_length_le (by have := I1.len; omega)]
      have e2 : L2.wipe σ (k :: ks) = L2.wipe σ ks := by rw [L2.wipe, List.set_eq_of_length_le (by omega)]
      rw [e1, e2]
      exact ⟨U1, I1, f1⟩
theorem SR.unwipe (I : SR K R U [] (wipeR ks ρ) (L2.wipe σ ks) H) (hp : ∀ p ∈ pn, σ[p.1]? = some (some p.2)) : SR K R U pn (wipeR ks ρ) σ H := by
  obtain ⟨hl, ⟨ow, L⟩, _⟩ := I
  refine ⟨by rw [hl, wipe_length], ⟨ow, L.all, L.far, L.two, fun i s h => ?_, L.out, L.dom⟩, hp⟩
  have q := L.at_ i s h
  by_cases hi : i ∈ ks
  · have := wipeR_no hi h
    subst this
    cases hq : ow i with
    | nil => exact .no
    | cons a r => rw [hq] at q; cases q
  · rw [wipe_out hi] at q
    exact q
/-! ### comprehensions -/
def DTs (X : Cx) (q : Bool) (ifs : List Expr) (t : FT) : Prop := PTs X ifs (tDT X.K q t)
theorem _root_.L2.PTs.weak {t t' : TT} {ifs : List Expr} (h : PTs X ifs t) (w : ∀ σ H Q, t' σ H Q → t σ H Q) : PTs X ifs t' := ⟨fun pins s σ H Q I z => h.run pins s σ H Q I (w σ H Q z)⟩
def ftYes : FT := fun ρ => some (true, ρ)
theorem dts_nil : DTs X true [] ftYes := L2.PTs.weak pts_nil fun σ H Q z => by
  obtain ⟨R, U, pn, ρ, b, ρ', I, e, k⟩ := z
  cases e
  exact k H U (.refl I)
theorem dts_one {c : Expr} {t : FT} (h : DT X q c t) : DTs X q [c] t := pts_one h
/-- the list that is filled: D is ours alone -/
theorem SR.accum {D : Addr} {acc : List V} (hmu : mu o = true) (I : SR K (plus R [D]) U [] ρ σ H) (uD : U D) (hD : H D = some (.lst acc)) (r : RpL K (DL.sub H U) xs ds) :
    SR K (plus R [D]) U [] ρ σ (upd H D o) ∧ (∀ a u, a ≠ D → H a = some u → upd H D o a = some u) ∧ RpL K (DL.sub (upd H D o) U) xs ds := by
  have ss : Same (DL.sub H U) (DL.sub (upd H D o) U) := fun a u e => by
    obtain ⟨n, e⟩ := of_sub e
    have : a ≠ D := fun z => n (z ▸ uD)
    exact sub_at n (by rw [upd_ne this]; exact e)
  obtain ⟨hl, ⟨ow, L⟩, hp⟩ := I
  refine ⟨⟨hl, ⟨ow, L.all, L.far, L.two, fun i s h => (L.at_ i s h).mono ss fun a ha u e => ?_, L.out, fun a h => ?_⟩, hp⟩, fun a u n e => by rw [upd_ne n]; exact e, r.mono ss⟩
  · have : a ≠ D := fun z => L.far i a ha (.inr (by rw [z]; exact List.mem_singleton.mpr rfl))
    rw [upd_ne this]; exact e
  · by_cases e : a = D
    · exact ⟨o, by rw [e]; exact upd_same, hmu⟩
    · obtain ⟨u, z, m⟩ := L.dom a h
      exact ⟨u, by rw [upd_ne e]; exact z, m⟩
theorem Fr.trans0' {D : Addr} (f : Fr R U H U' H') (hD : H D = none) (nD : ∀ a, R a → a ≠ D ∨ True) (g : ∀ a u, a ≠ D → H' a = some u → upd H' D o a = some u) : Fr R U H U' (upd H' D o) := fun a u e => by
  have ne : a ≠ D := ne_of_none e hD
  exact ⟨fun r => ⟨g a u ne ((f a u e).1 r).1, ((f a u e).1 r).2⟩, fun n => ⟨g a u ne ((f a u e).2 n).1, ((f a u e).2 n).2⟩⟩
def fLc (g : FG) (t : FT) (f : FE) (ks : List Nat) : List PyData → Rho → Option (List PyData × Rho)
  | [], ρ => some ([], ρ)
  | d :: ds, ρ => match g d .S ρ with
    | some ρ1 => match t ρ1 with
      | some (true, ρ2) => match f ρ2 with
        | some (e, m, ρ3) => if m.b = true then none else match fLc g t f ks ds (wipeR ks ρ3) with
          | some (r, ρ4) => some (e :: r, ρ4)
          | none => none
        | none => none
      | some (false, ρ2) => fLc g t f ks ds (wipeR ks ρ2)
      | none => none
    | none => none
def fComp (it : FI) (g : FG) (t : FT) (f : FE) (ks : List Nat) : FE := fun ρ => match it ρ with
  | some (items, ρ1) => if items.length ≤ LIM then match fLc g t f ks items (wipeR ks ρ1) with
    | some (r, ρ2) => some (.list r, .F 1, wipeR ks ρ2)
    | none => none
    else none
  | none => none
theorem fr_same (hRU : ∀ a, R a → U a) (e : Same H H') : Fr R U H U H' := fun a o h => ⟨fun r => ⟨e a o h, hRU a r⟩, fun n => ⟨e a o h, n⟩⟩
theorem lc_run {it : FI} {g : FG} {t : FT} {wi : TI} (ks : List Nat) (w : ∀ σ H Q, tI K q1 it σ H Q → wi σ H Q) (hjs : ∀ j ∈ js, j ∈ ks) (h9 : 99999 ∉ ks) :
    ∀ σ H Q, tD K (q1 && (q2 && q3)) (fComp it g t f ks) σ H Q → tLc wi (tG K [] js g) (tDT K q2 t) (tD K q3 f) ks σ H Q := fun σ H Q z => by
  obtain ⟨R, U, pn, ρ, d, m, ρ', I, e, k⟩ := z
  unfold fComp at e
  split at e
  · rename_i items ρ1 hit
    split at e
    · rename_i hlim
      split at e
      · rename_i r ρ2 hr
        cases e
        refine w σ H _ ⟨R, U, pn, ρ, items, ρ1, I, hit, fun J H1 U1 p1 okJ D hD => ?_⟩
        obtain ⟨U2, I2, f2⟩ := SR.wipe (ks := ks) p1.sr0.unpin
        have hn0 : Same H1 (upd H1 D (.lst [])) := same_new hD
        have I3 : SR K (plus R [D]) (plus U2 [D]) [] (wipeR ks ρ1) (L2.wipe σ ks) (upd H1 D (.lst [])) := I2.grow hn0 (fun a ha => by rw [List.mem_singleton.mp ha]; exact hD) (fun a ha => ⟨.lst [], by rw [List.mem_singleton.mp ha]; exact upd_same, rfl⟩)
        have f3 : Fr R U1 H1 (plus U2 [D]) (upd H1 D (.lst [])) := f2.trans0 (fr_grow I2.ru hn0 fun a ha => by rw [List.mem_singleton.mp ha]; exact hD)
        have nD : ¬ R D := fun z => by
          obtain ⟨o, z⟩ := I2.domU D (I2.ru D z)
          rw [hD] at z; cases z
        refine ⟨fun i m H => m + i = items.length ∧ ∃ U ρi accV accD rest, SR K (plus R [D]) U [] ρi (L2.wipe σ ks) H ∧ Fr R U1 H1 U H ∧ H D = some (.lst accV) ∧ RpL K (DL.sub H U) accV accD ∧ accD.length ≤ i ∧ fLc g t f ks (items.drop i) ρi = some (rest, ρ2) ∧ r = accD ++ rest ∧ ((q2 && q3) = true → ∀ a o, H1 a = some o → H a = some o),
          ⟨items.length, rfl, plus U2 [D], wipeR ks ρ1, [], [], r, I3, f3, upd_same, .nil, Nat.zero_le _, hr, rfl, fun _ => hn0⟩, fun i m H2 hw => ?_⟩
        obtain ⟨hm, U3, ρi, accV, accD, rest, I4, f4, hDl, hacc, hal, hl2, hre, hsm⟩ := hw
        have okh := okJ U3 H2 f4.sub I4.domM i
        cases hd : items[i]? with
        | none =>
          have hl : items.length ≤ i := List.getElem?_eq_none_iff.mp hd
          rw [List.drop_eq_nil_of_le hl] at hl2
          cases hl2
          rw [List.append_nil] at hre
          subst hre
          refine .inl ⟨okh.1 (by omega), ?_⟩
          obtain ⟨U4, I5, f5⟩ := SR.wipe (ks := ks) I4
          have ew : L2.wipe (L2.wipe σ ks) ks = L2.wipe σ ks := touch_wipe (H := H2) (H' := H2) ⟨rfl, fun _ _ => rfl, fun _ _ _ z => z⟩
          rw [ew] at I5
          have I6 : SR K (plus R [D]) U4 pn (wipeR ks _) σ H2 := I5.unwipe p1.sr0.pin
          have f6 : Fr R U1 H1 U4 H2 := f4.trans0 (f5.weakR fun a h => .inl h)
          refine k (.ref D) H2 U4 [D] ⟨I6, fun a ha z => nD (by rw [List.mem_singleton.mp ha] at z; exact z), p1.fr.trans0 f6, fun hq => ?_⟩ ?_
          · rw [Bool.and_eq_true] at hq
            exact (p1.sm hq.1).trans (hsm hq.2)
          · exact Own.lst (T := []) hDl (ownL0 (hacc.mono f5.sub)) fun z => nomatch z
        | some d =>
          have hl : i < items.length := (List.getElem?_eq_some_iff.mp hd).1
          have hdr : items.drop i = d :: items.drop (i + 1) := by
            rw [List.drop_eq_getElem_cons hl]
            have := (List.getElem?_eq_some_iff.mp hd).2
            rw [this]
          rw [hdr] at hl2
          obtain ⟨hgo, hy⟩ := okh.2 d hd
          unfold fLc at hl2
          split at hl2
          · rename_i ρ3 h3
            refine .inr ⟨hgo, fun H => (m - 1) + (i + 1) = items.length ∧ ∃ U ρi accV accD rest, SR K (plus R [D]) U [] ρi (L2.wipe σ ks) H ∧ Fr R U1 H1 U H ∧ H D = some (.lst accV) ∧ RpL K (DL.sub H U) accV accD ∧ accD.length ≤ i + 1 ∧ fLc g t f ks (items.drop (i + 1)) ρi = some (rest, ρ2) ∧ r = accD ++ rest ∧ ((q2 && q3) = true → ∀ a o, H1 a = some o → H a = some o), fun H' hN => ⟨m - 1, by omega, hN⟩, fun x H3 hx => ?_⟩
            obtain ⟨sm, rp⟩ := hy x H3 hx
            have I5 := I4.same sm
            have f5 : Fr R U1 H1 U3 H3 := f4.trans0 (fr_same (fun a h => I4.ru a (.inl h)) sm)
            refine ⟨plus R [D], U3, [], [], ρi, d, .S, ρ3, I5.plus_nil, fun _ z => (nomatch z), fun _ z => (nomatch z), ⟨rfl, rp⟩, h3, fun σ4 H4 U4 I6 f6 tc => ?_⟩
            have tc' := (tc.mono hjs).resolve_right h9
            have tw : L2.wipe σ4 ks = L2.wipe σ ks := touch_wipe tc'
            have f7 : Fr R U1 H1 U4 H4 := f5.trans0 (f6.weakR fun a h => .inl h)
            have hD4 : H4 D = some (.lst accV) := ((f6 D _ (sm D _ hDl)).1 (.inr (List.mem_singleton.mpr rfl))).1
            have hac4 : RpL K (DL.sub H4 U4) accV accD := (hacc.mono (fr_same (R := plus R [D]) I4.ru sm).sub).mono f6.sub
            refine ⟨tw, ?_⟩
            have sm4 : (q2 && q3) = true → Same H1 H4 := fun hq a o z => tc'.2.2 h9 a o (sm a o (hsm hq a o z))
            split at hl2
            · rename_i ρ4 h4
              split at hl2
              · rename_i e1 m1 ρ5 h5
                split at hl2
                · cases hl2
                · rename_i hmb
                  split at hl2
                  · rename_i r' ρ6 h6
                    cases hl2
                    refine ⟨plus R [D], U4, [], ρ3, true, ρ4, I6, h4, fun H5 U5 p5 => iteT ?_⟩
                    refine ⟨plus R [D], U5, [], ρ4, e1, m1, ρ5, p5.sr0, h5, fun v H6 U6 T p6 rv => ?_⟩
                    have p56 := p5.trans0 p6
                    have p7 := p56.drop
                    have rv' := rv.drop (by simpa using hmb)
                    have hD6 : H6 D = some (.lst accV) := ((p7.fr D _ hD4).1 (.inr (List.mem_singleton.mpr rfl))).1
                    refine ⟨accV, hD6, ?_, ?_⟩
                    · rw [rpL_len hacc]; exact lim_lt (by omega)
                    · obtain ⟨U7, I8, f8⟩ := SR.wipe (ks := ks) p7.sr0
                      rw [tw] at I8
                      have e7 : RpL K (DL.sub H6 U7) (accV ++ [v]) (accD ++ [e1]) := rpL_app ((hac4.mono p7.fr.sub).mono f8.sub) (.cons (rv'.2.mono f8.sub) .nil)
                      have uD : U7 D := (f8 D _ hD6).1 (.inr (List.mem_singleton.mpr rfl)) |>.2
                      obtain ⟨I9, f9, e9⟩ := I8.accum (o := .lst (accV ++ [v])) rfl uD hD6 e7
                      refine ⟨by omega, U7, wipeR ks ρ5, accV ++ [v], accD ++ [e1], r', I9, ?_, upd_same, e9, by simp; omega, h6, by rw [hre]; simp, fun hq a o z => ?_⟩
                      · exact ((f7.trans0 (p7.fr.weakR fun a h => .inl h)).trans0 (f8.weakR fun a h => .inl h)).trans0' hD (fun a h => .inr trivial) f9
                      · have z1 := (p56.sm hq) a o (sm4 hq a o z)
                        rw [upd_ne (ne_of_none z hD)]
                        exact z1
                  · cases hl2
              · cases hl2
            · rename_i ρ4 h4
              refine ⟨plus R [D], U4, [], ρ3, false, ρ4, I6, h4, fun H5 U5 p5 => iteF ?_⟩
              obtain ⟨U6, I7, f8⟩ := SR.wipe (ks := ks) p5.sr0
              rw [tw] at I7
              exact ⟨by omega, U6, wipeR ks ρ4, accV, accD, rest, I7, f7.trans0 ((p5.fr.weakR fun a h => .inl h).trans0 (f8.weakR fun a h => .inl h)), ((p5.fr D _ hD4).1 (.inr (List.mem_singleton.mpr rfl))).1, (hac4.mono p5.fr.sub).mono f8.sub, by omega, hl2, hre, fun hq => (sm4 hq).trans (p5.sm (by rw [Bool.and_eq_true] at hq; exact hq.1))⟩
            · cases hl2
          · cases hl2
      · cases e
    · cases e
  · cases e
theorem de_lc {elt iter : Expr} {ifs : List Expr} {scope : Scope} {own : List (Str × Nat)} {it : FI} {g : FG} {t : FT} (hc : X.calm = true) (hN : X.N.Nodup) (hi : DI X q1 tg iter it) (ok : BlkOk X.N X.env.scope scope own)
    (hg : ∀ (s : Shared) (H : Hp) (C : Addr) (cl : List (Str × Addr)) (fp : List Addr), DG (X.blk s H scope (compEnvC scope cl C X.env) fp) [] js tg g) (ht : ∀ (s : Shared) (H : Hp) (C : Addr) (cl : List (Str × Addr)) (fp : List Addr), DTs (X.blk s H scope (compEnvC scope cl C X.env) fp) q2 ifs t)
    (he : ∀ (s : Shared) (H : Hp) (C : Addr) (cl : List (Str × Addr)) (fp : List Addr), DE (X.blk s H scope (compEnvC scope cl C X.env) fp) q3 elt f) (hjs : ∀ j ∈ js, j ∈ own.map (·.2) := by decide) (h9 : 99999 ∉ own.map (·.2) := by decide) (hs : ∀ x, foldedSetIterable iter X.env x = pure x := by intro _; rfl) :
    DE X (q1 && (q2 && q3)) (.ListComp elt [⟨tg, iter, ifs, 0⟩] scope pos) (fComp it g t f (own.map (·.2))) := by
  obtain ⟨wi, pi, w⟩ := hi
  exact L2.PE.weak (pe_lc (g := tG X.K [] js g) (tt := tDT X.K q2 t) (te := tD X.K q3 f) hc hN pi ok hg ht he hs) (lc_run _ w hjs h9)
/-- name = [..]: the name is stored within the comprehension's frame -/
theorem ds_setLc {i : Nat} {y : Str} {py spos : Pos} {io ks' : List Nat} {elt iter : Expr} {ifs : List Expr} {scope : Scope} {own : List (Str × Nat)} {it : FI} {g gy : FG} {t : FT} (hc : X.calm = true) (hN : X.N.Nodup) (hy : X.N[i]? = some y) (hyl : X.env.scope.names.lookup y = some .local)
    (hsw : swapsWith (.ListComp elt [⟨tg, iter, ifs, 0⟩] scope pos) (some (.Name y py)) spos.line X.env = pure true) (hgy : ∀ v σ H Q, tG X.K io ks' gy v σ H Q → gName i v σ H Q) (hi : DI X q1 tg iter it) (ok : BlkOk X.N X.env.scope scope own)
    (hg : ∀ (s : Shared) (H : Hp) (C : Addr) (cl : List (Str × Addr)) (fp : List Addr), DG (X.blk s H scope (compEnvC scope cl C X.env) fp) [] js tg g) (ht : ∀ (s : Shared) (H : Hp) (C : Addr) (cl : List (Str × Addr)) (fp : List Addr), DTs (X.blk s H scope (compEnvC scope cl C X.env) fp) q2 ifs t)
    (he : ∀ (s : Shared) (H : Hp) (C : Addr) (cl : List (Str × Addr)) (fp : List Addr), DE (X.blk s H scope (compEnvC scope cl C X.env) fp) q3 elt f) (hjs : ∀ j ∈ js, j ∈ own.map (·.2) := by decide) (h9 : 99999 ∉ own.map (·.2) := by decide) (hs : ∀ x, foldedSetIterable iter X.env x = pure x := by intro _; rfl) :
    DS X io (.Assign [.Name y py] (.ListComp elt [⟨tg, iter, ifs, 0⟩] scope pos) spos) (fAsg (fComp it g t f (own.map (·.2))) gy) := by
  obtain ⟨wi, pi, w⟩ := hi
  refine L2.PS.weak (ps_setLc (g := tG X.K [] js g) (tt := tDT X.K q2 t) (te := tD X.K q3 f) hc hN hy hyl hsw pi ok hg ht he hs) fun D σ H z => ?_
  have z1 := asg_run (K := X.K) (q := q1 && (q2 && q3)) (js := ks') D σ H z
  have z2 : tAsg (tD X.K (q1 && (q2 && q3)) (fComp it g t f (own.map (·.2)))) (gName i) D σ H := by
    obtain ⟨R, U, pn, ρ, d, m, ρ', I, h1, k⟩ := z1
    exact ⟨R, U, pn, ρ, d, m, ρ', I, h1, fun v H' U' T p r => hgy _ _ _ _ (k v H' U' T p r)⟩
  exact lc_run _ w hjs h9 σ H _ z2
end
end DL

end
section
set_option maxHeartbeats 1000000
namespace DL
open PySem PySem.Spec L2
abbrev FF := List Sl → Option (PyData × Md × List Sl)
def spD (K : PySem.W.Frag) (np : Nat) (G : FF) : Sp := fun vs H Q _ => ∃ R U ρa d m ρb, vs.length = np ∧ SR K R U [] ρa (vs.map some) H ∧ G ρa = some (d, m, ρb) ∧
  ∀ v H' U' T, SR K (plus R T) U' [] ρb (vs.map some) H' → (∀ a ∈ T, ¬ R a) → Fr R U H U' H' → Vl K U' H' v d m T → Q v H'
def outs (io : List Nat) : Nat → List Sl → List Sl → Option (List Sl)
  | _, [], _ => some []
  | i, s :: r, s' :: r' => match outs io (i + 1) r r' with
    | none => none
    | some l => match s with
      | .ow _ _ => if i ∈ io then match s' with
        | .ow n d => some (.ow n d :: l)
        | _ => none
        else some (.no :: l)
      | s => some (s :: l)
  | _, _ :: _, [] => none
def runFn (io : List Nat) (nN : Nat) (fs : FS) : FF := fun ρa => match fs (ρa ++ List.replicate (nN - ρa.length) .no) with
  | some (.rt d m, ρ') => match outs io 0 ρa ρ' with
    | some ρb => some (d, m, ρb)
    | none => none
  | some (.nx, ρ') => match outs io 0 ρa ρ' with
    | some ρb => some (.none, .S, ρb)
    | none => none
  | _ => none
theorem outs_at {io : List Nat} : ∀ {k : Nat} {ρa ρ' ρb : List Sl}, outs io k ρa ρ' = some ρb → ρb.length = ρa.length ∧ ∀ i s, ρb[i]? = some s → ((∃ n d, s = .ow n d) ∧ k + i ∈ io ∧ ρ'[i]? = some s) ∨ s = .no ∨ ((∃ d, s = .sh d) ∧ ρa[i]? = some s)
  | k, [], ρ', ρb, h => by
    simp [outs] at h
    subst h
    exact ⟨rfl, fun i s h => by simp at h⟩
  | k, s0 :: r, s' :: r', ρb, h => by
    unfold outs at h
    split at h
    · cases h
    · rename_i l hl
      obtain ⟨h1, h2⟩ := outs_at hl
      have nxt : ∀ i s, l[i]? = some s → ((∃ n d, s = .ow n d) ∧ k + (i + 1) ∈ io ∧ (s' :: r')[i + 1]? = some s) ∨ s = .no ∨ ((∃ d, s = .sh d) ∧ (s0 :: r)[i + 1]? = some s) := fun i s hs => by
        have := h2 i s hs
        rw [show k + 1 + i = k + (i + 1) by omega] at this
        simpa using this
      split at h
      · split at h
        · rename_i hk
          split at h
          · cases h
            refine ⟨by simp [h1], fun i s hs => ?_⟩
            cases i with
            | zero => simp at hs; subst hs; exact .inl ⟨⟨_, _, rfl⟩, by simpa using hk, rfl⟩
            | succ i => exact nxt i s (by simpa using hs)
          · cases h
        · cases h
          refine ⟨by simp [h1], fun i s hs => ?_⟩
          cases i with
          | zero => simp at hs; subst hs; exact .inr (.inl rfl)
          | succ i => exact nxt i s (by simpa using hs)
      · rename_i hno
        cases h
        refine ⟨by simp [h1], fun i s hs => ?_⟩
        cases i with
        | zero =>
          simp at hs; subst hs
          cases s0 with
          | no => exact .inr (.inl rfl)
          | sh d => exact .inr (.inr ⟨⟨d, rfl⟩, rfl⟩)
          | ow n d => exact (hno _ _ rfl).elim
        | succ i => exact nxt i s (by simpa using hs)
section
variable {P : Program} {w : World} {K : PySem.W.Frag} {mg : Str → Option Value} {base : Heap} {R U U' : Rg} {H H' : Hp} {T : List Addr} {vs : List V} {pn : List (Nat × V)} {ρ ρ' ρa ρb : List Sl} {σ' : L2.St}
theorem SR.start {N : List Str} {io : List Nat} (I : SR K R U [] ρa (vs.map some) H) : SR K R U (io.filterMap fun i => vs[i]?.map fun v => (i, v)) (ρa ++ List.replicate (N.length - ρa.length) .no) (L2.start N vs) H := by
  obtain ⟨hl, ⟨ow, L⟩, _⟩ := I
  have hv : ρa.length = vs.length := by simpa using hl
  have cut : ∀ i, i < ρa.length → (L2.start N vs)[i]? = (vs.map some)[i]? := fun i hi => by
    unfold L2.start
    rw [List.getElem?_append_left (by simpa using (hv ▸ hi))]
  refine ⟨by simp [L2.start, hv], ⟨fun i => if i < ρa.length then ow i else [], fun a => ?_, fun i a h => ?_, fun i j a hij h1 h2 => ?_, fun i s h => ?_, fun i h => ?_, L.dom⟩, fun p hp => ?_⟩
  · rw [L.all a]
    constructor
    · rintro (h | ⟨i, h⟩)
      · exact .inl h
      · refine .inr ⟨i, ?_⟩
        by_cases hi : i < ρa.length
        · rw [if_pos hi]; exact h
        · rw [L.out i (List.getElem?_eq_none_iff.mpr (by omega))] at h; cases h
    · rintro (h | ⟨i, h⟩)
      · exact .inl h
      · split at h
        · exact .inr ⟨i, h⟩
        · cases h
  · split at h
    · exact L.far i a h
    · cases h
  · split at h1
    · split at h2
      · exact L.two i j a hij h1 h2
      · cases h2
    · cases h1
  · by_cases hi : i < ρa.length
    · rw [if_pos hi, cut i hi]
      rw [List.getElem?_append_left hi] at h
      exact L.at_ i s h
    · rw [if_neg hi]
      rw [List.getElem?_append_right (by omega)] at h
      have : s = .no := by
        rw [List.getElem?_replicate] at h
        split at h
        · cases h; rfl
        · cases h
      subst this
      exact .no
  · rw [if_neg ?_]
    have := List.getElem?_eq_none_iff.mp h
    simp at this
    omega
  · obtain ⟨i, _, e⟩ := List.mem_filterMap.mp hp
    cases hv' : vs[i]? with
    | none => rw [hv'] at e; cases e
    | some v =>
      rw [hv'] at e
      cases e
      have hi : i < vs.length := (List.getElem?_eq_some_iff.mp hv').1
      rw [cut i (by omega), List.getElem?_map, hv']
      rfl
/-- what is left behind the def's end -/
theorem SR.leave {io : List Nat} (I : SR K R U [] ρa (vs.map some) H) (I2 : SR K (plus R T) U' (io.filterMap fun i => vs[i]?.map fun v => (i, v)) ρ' σ' H') (fr : Fr R U H U' H') (ho : outs io 0 ρa ρ' = some ρb) :
    ∃ U3, SR K (plus R T) U3 [] ρb (vs.map some) H' ∧ (∀ a, U3 a → U' a) ∧ (∀ a, plus R T a → U3 a) := by
  obtain ⟨hlb, hat⟩ := outs_at ho
  obtain ⟨hl, ⟨ow, L⟩, _⟩ := I
  obtain ⟨hl2, ⟨ow2, L2'⟩, hp⟩ := I2
  classical
  let ow3 : Nat → List Addr := fun i => match ρb[i]? with
    | some (.ow _ _) => ow2 i
    | _ => []
  have o3 : ∀ i a, a ∈ ow3 i → (∃ n d, ρb[i]? = some (.ow n d)) ∧ a ∈ ow2 i := fun i a h => by
    simp only [ow3] at h
    split at h
    · rename_i n d e; exact ⟨⟨n, d, e⟩, h⟩
    · cases h
  have sub3 : ∀ a, (plus R T a ∨ ∃ i, a ∈ ow3 i) → U' a := fun a h => by
    rcases h with h | ⟨i, h⟩
    · exact (L2'.all a).mpr (.inl h)
    · exact (L2'.all a).mpr (.inr ⟨i, (o3 i a h).2⟩)
  have ss : Same (DL.sub H' U') (DL.sub H' fun a => plus R T a ∨ ∃ i, a ∈ ow3 i) := fun a o e => let ⟨n, e⟩ := of_sub e; sub_at (fun z => n (sub3 a z)) e
  refine ⟨fun a => plus R T a ∨ ∃ i, a ∈ ow3 i, ⟨by rw [hlb]; exact hl, ⟨ow3, fun a => Iff.rfl, fun i a h => L2'.far i a (o3 i a h).2, fun i j a hij h1 h2 => L2'.two i j a hij (o3 i a h1).2 (o3 j a h2).2, fun i s h => ?_, fun i h => ?_, L2'.dom⟩, fun _ z => nomatch z⟩, sub3, fun a h => .inl h⟩
  · rcases hat i s h with ⟨⟨n, d, e⟩, hio, h'⟩ | e | ⟨⟨d, e⟩, h'⟩
    · subst e
      have e3 : ow3 i = ow2 i := by simp only [ow3, h]
      rw [e3]
      have q := (L2'.at_ i _ h').mono ss fun _ _ _ z => z
      have hi : i < vs.length := by
        have h3 := (List.getElem?_eq_some_iff.mp h).1
        have : ρa.length = vs.length := by simpa using hl
        omega
      have pv := hp (i, vs[i]) (List.mem_filterMap.mpr ⟨i, by simpa using hio, by rw [List.getElem?_eq_getElem hi]; rfl⟩)
      rw [pv] at q
      rw [List.getElem?_map, List.getElem?_eq_getElem hi]
      exact q
    · subst e
      have e3 : ow3 i = [] := by simp only [ow3, h]
      rw [e3]
      exact .no
    · subst e
      have e3 : ow3 i = [] := by simp only [ow3, h]
      rw [e3]
      have q := L.at_ i _ h'
      obtain ⟨x, hx, rx⟩ := q.of_sh
      exact .sh hx ((rx.mono fr.sub).mono ss)
  · simp only [ow3, h]
theorem fn_ok {x qual : Str} {st : Stmt} {f : Addr} {fd : FuncData} {N ps : List Str} {k : Nat} {fs : FS} (io : List Nat) (F : Fun K x qual st f fd) (S : FnScope N ps (defScope st))
    (hb : ∀ (cdv : Value) (A : Around) (outer : List Env) (s : Shared) (H : Hp) (E : XK), Room k (A.deeper (PyProof.Rows.envOfC qual (defScope st) s.heap.objs.size f cdv)) → DSs (cxOf CX0 P w K mg base N qual (defScope st) f cdv A outer s H E).nox io (defBody st) fs) :
    FnOk P w K mg base CX0 (k + 1) f fd ps (spD K ps.length (runFn io N.length fs)) := by
  refine F.ok S (fun vs H Q E h => ?_) fun cdv A outer s H vs Q E hr h => ?_
  · obtain ⟨R, U, ρa, d, m, ρb, hl, _⟩ := h
    exact hl
  · obtain ⟨R, U, ρa, d, m, ρb, hl, I, hG, hq⟩ := h
    refine ⟨_, hb cdv A outer s H E hr, ?_⟩
    have I1 := I.start (N := N) (io := io)
    have hpin : ∀ p ∈ (io.filterMap fun i => vs[i]?.map fun v => (i, v)), p.1 ∈ io := fun p hp => by
      obtain ⟨i, hi, e⟩ := List.mem_filterMap.mp hp
      cases hv' : vs[i]? with
      | none => rw [hv'] at e; cases e
      | some v => rw [hv'] at e; cases e; exact hi
    unfold runFn at hG
    split at hG
    · rename_i d' m' ρ' e
      split at hG
      · rename_i ρb' ho
        cases hG
        refine ⟨R, U, _, _, _, ρ', I1, hpin, e, fun v σ' H' U' T I2 hT fr r => ?_⟩
        obtain ⟨U3, I3, h3, h4⟩ := I.leave I2 fr ho
        refine hq v H' U3 T I3 hT (fun a o e => ⟨fun r => ⟨((fr a o e).1 r).1, h4 a (.inl r)⟩, fun n => ⟨((fr a o e).2 n).1, fun z => ((fr a o e).2 n).2 (h3 a z)⟩⟩) ?_
        exact r.mono (fun a o e => let ⟨n, e⟩ := of_sub e; sub_at (fun z => n (h3 a z)) e) (fun _ _ _ z => z) fun _ _ _ z => z
      · cases hG
    · rename_i ρ' e
      split at hG
      · rename_i ρb' ho
        cases hG
        refine ⟨R, U, _, _, _, ρ', I1, hpin, e, fun σ' H' U' I2 fr => ?_⟩
        obtain ⟨U3, I3, h3, h4⟩ := I.leave (T := []) I2.plus_nil fr ho
        exact hq .non H' U3 [] I3 (fun _ z => nomatch z) (fun a o e => ⟨fun r => ⟨((fr a o e).1 r).1, h4 a (.inl r)⟩, fun n => ⟨((fr a o e).2 n).1, fun z => ((fr a o e).2 n).2 (h3 a z)⟩⟩) (vl_imm fun _ => .non)
      · cases hG
    · cases hG
end
/-! ### calls of own defs -/
def φCall (G : FF) : List (PyData × Md) → Option (PyData × Md) := fun rs => if (rs.all fun r => !r.2.b) = true then match G (rs.map fun r => .sh r.1) with
    | some (d, m, _) => some (d, m)
    | none => none
  else none
section
variable {X : Cx} {K : PySem.W.Frag} {R U U' : Rg} {H H' G : Hp} {v x y : V} {d : PyData} {ds : List PyData} {vs xs : List V} {m n : Md} {T S : List Addr} {rs : List (PyData × Md)} {e : Expr} {es : List Expr} {q q1 q2 : Bool} {pos : Pos} {f : FE} {ρ ρ' : Rho} {σ : L2.St} {pn : List (Nat × V)}
theorem sr_args (hU : ∀ a, U a → Dm H a) : ∀ {vs : List V} {ds : List PyData}, RpL K (DL.sub H U) vs ds → SR K U U [] (ds.map .sh) (vs.map some) H := fun {vs ds} r => by
  refine ⟨by simp [rpL_len r], ⟨fun _ => [], fun a => ⟨.inl, fun h => h.elim id fun ⟨_, z⟩ => (nomatch z)⟩, fun _ _ z => (nomatch z), fun _ _ _ _ z => (nomatch z), fun i s h => ?_, fun _ _ => rfl, hU⟩, fun _ z => (nomatch z)⟩
  rw [List.getElem?_map] at h
  cases hd : ds[i]? with
  | none => rw [hd] at h; cases h
  | some d =>
    rw [hd] at h
    cases h
    obtain ⟨x, hx, rx⟩ := rpL_at r hd
    exact .sh (by rw [List.getElem?_map, hx]; rfl) rx
theorem opn_call {np : Nat} {G : FF} (E : XK) : OpN K (fun vs H Q => vs.length = np → spD K np G vs H Q E) (φCall G) := by
  intro U H vs rs T d k Q hU h1 hT he hq hnp
  unfold φCall at he
  split at he
  · rename_i hb
    split at he
    · rename_i d' m' ρb hG
      cases he
      have rp := h1.shr hT (fun _ z => z) hb
      have e1 : (rs.map fun r => Sl.sh r.1) = (rs.map (·.1)).map .sh := by simp
      refine ⟨U, U, _, _, _, ρb, hnp, e1 ▸ sr_args hU rp, hG, fun v H' U' S I hS fr r => ?_⟩
      have sm : Same H H' := fun a o e => (Classical.em (U a)).elim (fun z => ((fr a o e).1 z).1) fun z => ((fr a o e).2 z).1
      refine hq v H' S sm hS (fun a ha => .inr ?_) ?_
      · cases q : H a with
        | none => rfl
        | some o => exact absurd (I.ru a (.inr ha)) ((fr a o q).2 (hS a ha)).2
      · refine r.mono (fun a o e => let ⟨n, e⟩ := of_sub e; sub_at (fun z => n ?_) e) (fun _ _ _ z => z) fun _ _ _ z => z
        exact I.ru a z
    · cases he
  · cases he
theorem tcall_run {np : Nat} {G : FF} {fa : FA} {E : XK} (hl : ∀ ρ rs ρ', fa ρ = some (rs, ρ') → rs.length = np) : ∀ σ H Q, tD K q (fN fa (φCall G)) σ H Q → tCall (spD K np G) [] E (tDA K q fa) σ H Q := fun σ H Q z => by
  obtain ⟨R, U, pn, ρ, d, m, ρ', I, e, k⟩ := z
  obtain ⟨rs, e1, e2⟩ := fN_inv e
  refine ⟨R, U, pn, ρ, rs, ρ', I, e1, fun vs H' U' T p r1 => ?_⟩
  have hln := hl _ _ _ e1
  show spD K np G (vs ++ []) H' Q E
  rw [List.append_nil]
  exact opn_run (opn_call E) p r1 e2 k (by rw [vlL_len r1, hln])
/-- how many arguments -/
def FaLen (fa : FA) (n : Nat) : Prop := ∀ ρ rs ρ', fa ρ = some (rs, ρ') → rs.length = n
theorem faLen_nil : FaLen faNil 0 := fun ρ rs ρ' h => by cases h; rfl
theorem faLen_cons {q2 : Bool} {f : FE} {g : FA} {n : Nat} (h : FaLen g n) : FaLen (faCons q2 f g) (n + 1) := fun ρ rs ρ' e => by
  unfold faCons at e
  split at e
  · split at e
    · cases e
    · split at e
      · cases e
        rename_i he
        have := h _ _ _ he
        simp [this]
      · cases e
  · cases e
theorem de_call {k np : Nat} {f : Addr} {fd : FuncData} {ps : List Str} {G : FF} {x : Str} {fa : FA} {p : Pos} (F : FnOk X.prog X.w X.K X.mg X.base CX0 k f fd ps (spD X.K np G)) (hr : Room k X.A) (hg : Gl X x) (hm : X.mg x = some (.ref f)) (hk : PySem.W.keepIn X.K (.ref f) = true) (hb : Binds X.K fd ps [])
    (ha : DA X q (e :: es) fa) (hl : FaLen fa np) (hdb : (x == ("__debug__" : Str)) = false := by decide) (he : starEach (e :: es) X.env = (false, eval e X.env) :: starEach es X.env := by rfl) (hpl : (backTo pos (starEach es X.env)).any (·.1) = false := by rfl) :
    DE X q (.Call (.Name x p) (e :: es) [] pos) (fN fa (φCall G)) := L2.PE.weak (pe_call F hr hg hm hk hb .nil pass0 ha hdb he hpl) (tcall_run hl)
end
end DL

end
section
set_option maxHeartbeats 1000000
namespace DL
open PySem PySem.Spec L2
section
variable {X : Cx} {K : PySem.W.Frag} {R U U' : Rg} {H H' G : Hp} {v x y : V} {d : PyData} {ds : List PyData} {vs xs : List V} {m n : Md} {T S : List Addr} {e a b c : Expr} {es rest : List Expr} {q q1 q2 q3 : Bool} {pos : Pos} {f g h : FE} {t u : FT} {ρ ρ' : Rho} {σ : L2.St} {pn : List (Nat × V)}
theorem Pst.wq (p : Pst K R U pn ρ' σ H q1 U' T H') (w : q = true → q1 = true) : Pst K R U pn ρ' σ H q U' T H' := ⟨p.sr, p.far, p.fr, fun e => p.sm (w e)⟩
theorem tD_wq (w : q = true → q1 = true) : ∀ σ H Q, tD K q f σ H Q → tD K q1 f σ H Q := fun σ H Q ⟨R, U, pn, ρ, d, m, ρ', I, e, k⟩ => ⟨R, U, pn, ρ, d, m, ρ', I, e, fun v H' U' T p => k v H' U' T (p.wq w)⟩
theorem DE.wq (h : DE X q1 e f) (w : q = true → q1 = true) : DE X q e f := L2.PE.weak h (tD_wq w)
/-! ### and, or, not -/
def fAnd (t u : FT) : FT := fun ρ => match t ρ with
  | some (true, ρ1) => u ρ1
  | some (false, ρ1) => some (false, ρ1)
  | none => none
def fOr (t u : FT) : FT := fun ρ => match t ρ with
  | some (true, ρ1) => some (true, ρ1)
  | some (false, ρ1) => u ρ1
  | none => none
def fNot (t : FT) : FT := fun ρ => match t ρ with
  | some (b, ρ1) => some (!b, ρ1)
  | none => none
theorem l_and {a b : Bool} : (a && b) = true → a = true := fun h => (Bool.and_eq_true_iff.mp h).1
theorem dw_and1 (ha : DT X q a t) : DW X q (.BoolOp .And [a] pos) t := pw_and1 ha
theorem dw_or1 (ha : DT X q a t) : DW X q (.BoolOp .Or [a] pos) t := pw_or1 ha
theorem dw_and (ha : DT X q1 a t) (hb : DW X q2 (.BoolOp .And (b :: rest) pos) u) : DW X (q1 && q2) (.BoolOp .And (a :: b :: rest) pos) (fAnd t u) := L2.PW.weak (pw_and ha hb) fun σ H Q z => by
  obtain ⟨R, U, pn, ρ, r, ρ', I, e, k⟩ := z
  unfold fAnd at e
  split at e
  · rename_i ρ1 h1
    refine ⟨R, U, pn, ρ, true, ρ1, I, h1, fun H1 U1 p => ?_⟩
    refine iteT ?_
    exact ⟨R, U1, pn, ρ1, r, ρ', p.sr0, e, fun H2 U2 p2 => k H2 U2 (p.trans0 p2)⟩
  · rename_i ρ1 h1
    cases e
    refine ⟨R, U, pn, ρ, false, _, I, h1, fun H1 U1 p => ?_⟩
    refine iteF ?_
    exact k H1 U1 (p.wq l_and)
  · cases e
theorem dw_or (ha : DT X q1 a t) (hb : DW X q2 (.BoolOp .Or (b :: rest) pos) u) : DW X (q1 && q2) (.BoolOp .Or (a :: b :: rest) pos) (fOr t u) := L2.PW.weak (pw_or ha hb) fun σ H Q z => by
  obtain ⟨R, U, pn, ρ, r, ρ', I, e, k⟩ := z
  unfold fOr at e
  split at e
  · rename_i ρ1 h1
    cases e
    refine ⟨R, U, pn, ρ, true, _, I, h1, fun H1 U1 p => ?_⟩
    refine iteT ?_
    exact k H1 U1 (p.wq l_and)
  · rename_i ρ1 h1
    refine ⟨R, U, pn, ρ, false, ρ1, I, h1, fun H1 U1 p => ?_⟩
    refine iteF ?_
    exact ⟨R, U1, pn, ρ1, r, ρ', p.sr0, e, fun H2 U2 p2 => k H2 U2 (p.trans0 p2)⟩
  · cases e
theorem dt_w (h : DW X q e t) : DT X q e t := PW.pt h
theorem dt_not (ha : DT X q a t) : DT X q (.UnaryOp .Not a pos) (fNot t) := L2.PT.weak (pt_not ha) fun σ H Q z => by
  obtain ⟨R, U, pn, ρ, r, ρ', I, e, k⟩ := z
  unfold fNot at e
  split at e
  · rename_i b ρ1 h1
    cases e
    exact ⟨R, U, pn, ρ, b, _, I, h1, fun H1 U1 p => k H1 U1 p⟩
  · cases e
/-- .. as values -/
def vAnd (f g : FE) : FE := fun ρ => match f ρ with
  | some (.bool true, _, ρ1) => g ρ1
  | some (.bool false, _, ρ1) => some (.bool false, .S, ρ1)
  | _ => none
def vOr (f g : FE) : FE := fun ρ => match f ρ with
  | some (.bool true, _, ρ1) => some (.bool true, .S, ρ1)
  | some (.bool false, _, ρ1) => g ρ1
  | _ => none
def vNot (f : FE) : FE := fun ρ => match f ρ with
  | some (.bool b, _, ρ1) => some (.bool (!b), .S, ρ1)
  | _ => none
theorem de_one {op} (h : DE X q a f) : DE X q (.BoolOp op [a] pos) f := pe_one h
theorem de_and (ha : DE X q1 a f) (hb : DE X q2 (.BoolOp .And (b :: rest) pos) g) : DE X (q1 && q2) (.BoolOp .And (a :: b :: rest) pos) (vAnd f g) := L2.PE.weak (pe_and ha hb) fun σ H Q z => by
  obtain ⟨R, U, pn, ρ, d, m, ρ', I, e, k⟩ := z
  unfold vAnd at e
  split at e
  · rename_i ρ1 h1
    refine ⟨R, U, pn, ρ, _, _, ρ1, I, h1, fun v H1 U1 T p r => ⟨true, r.boolV, ?_⟩⟩
    refine iteT ?_
    exact ⟨R, _, pn, ρ1, d, m, ρ', p.drop.sr0, e, fun v H2 U2 S p2 => k v H2 U2 S (p.drop.trans0 p2)⟩
  · rename_i ρ1 h1
    cases e
    refine ⟨R, U, pn, ρ, _, _, _, I, h1, fun v H1 U1 T p r => ⟨false, r.boolV, ?_⟩⟩
    refine iteF ?_
    exact k _ H1 _ [] (p.drop.wq l_and) (vl_imm fun _ => .bl _)
  · cases e
theorem de_or (ha : DE X q1 a f) (hb : DE X q2 (.BoolOp .Or (b :: rest) pos) g) : DE X (q1 && q2) (.BoolOp .Or (a :: b :: rest) pos) (vOr f g) := L2.PE.weak (pe_or ha hb) fun σ H Q z => by
  obtain ⟨R, U, pn, ρ, d, m, ρ', I, e, k⟩ := z
  unfold vOr at e
  split at e
  · rename_i ρ1 h1
    cases e
    refine ⟨R, U, pn, ρ, _, _, _, I, h1, fun v H1 U1 T p r => ⟨true, r.boolV, ?_⟩⟩
    refine iteT ?_
    exact k _ H1 _ [] (p.drop.wq l_and) (vl_imm fun _ => .bl _)
  · rename_i ρ1 h1
    refine ⟨R, U, pn, ρ, _, _, ρ1, I, h1, fun v H1 U1 T p r => ⟨false, r.boolV, ?_⟩⟩
    refine iteF ?_
    exact ⟨R, _, pn, ρ1, d, m, ρ', p.drop.sr0, e, fun v H2 U2 S p2 => k v H2 U2 S (p.drop.trans0 p2)⟩
  · cases e
theorem de_not (ha : DE X q a f) : DE X q (.UnaryOp .Not a pos) (vNot f) := L2.PE.weak (pe_not ha) fun σ H Q z => by
  obtain ⟨R, U, pn, ρ, d, m, ρ', I, e, k⟩ := z
  unfold vNot at e
  split at e
  · rename_i b mm ρ1 h1
    cases e
    exact ⟨R, U, pn, ρ, _, _, _, I, h1, fun v H1 U1 T p r => ⟨b, r.boolV, k _ H1 _ [] p.drop (vl_imm fun _ => .bl _)⟩⟩
  · cases e
/-! ### a if t else b -/
def fIte (t : FT) (f g : FE) : FE := fun ρ => match t ρ with
  | some (true, ρ1) => f ρ1
  | some (false, ρ1) => g ρ1
  | none => none
theorem l_ite1 {a b c : Bool} : (a && (b && c)) = true → (a && b) = true := by cases a <;> cases b <;> simp
theorem l_ite2 {a b c : Bool} : (a && (b && c)) = true → (a && c) = true := by cases a <;> cases b <;> cases c <;> simp
theorem de_ite (hc : DT X q1 c t) (ha : DE X q2 a f) (hb : DE X q3 b g) : DE X (q1 && (q2 && q3)) (.IfExp c a b pos) (fIte t f g) := L2.PE.weak (pe_ifExp hc ha hb) fun σ H Q z => by
  obtain ⟨R, U, pn, ρ, d, m, ρ', I, e, k⟩ := z
  unfold fIte at e
  split at e
  · rename_i ρ1 h1
    refine ⟨R, U, pn, ρ, true, ρ1, I, h1, fun H1 U1 p => ?_⟩
    refine iteT ?_
    exact ⟨R, U1, pn, ρ1, d, m, ρ', p.sr0, e, fun v H2 U2 S p2 => k v H2 U2 S ((p.trans0 p2).wq l_ite1)⟩
  · rename_i ρ1 h1
    refine ⟨R, U, pn, ρ, false, ρ1, I, h1, fun H1 U1 p => ?_⟩
    refine iteF ?_
    exact ⟨R, U1, pn, ρ1, d, m, ρ', p.sr0, e, fun v H2 U2 S p2 => k v H2 U2 S ((p.trans0 p2).wq l_ite2)⟩
  · cases e
/-! ### a op b op' c -/
def fChain (q2 : Bool) (f g h : FE) (φ φ' : List (PyData × Md) → Option (PyData × Md)) : FE := fun ρ => match faCons q2 f (faCons true g faNil) ρ with
  | some (rs, ρ2) => match rs, φ rs with
    | [_, (db, .S)], some (.bool true, _) => match h ρ2 with
      | some (dc, mc, ρ3) => match φ' [(db, .S), (dc, mc)] with
        | some (d, m) => some (d, m, ρ3)
        | none => none
      | none => none
    | _, some (.bool false, _) => some (.bool false, .S, ρ2)
    | _, _ => none
  | none => none
theorem Pst.stay (p : Pst K R U pn ρ' σ H q U' T H') : Pst K R U' pn ρ' σ H' true U' T H' := ⟨p.sr, p.far, fr_refl fun a h => p.sr.ru a (.inl h), fun _ _ _ z => z⟩
theorem Pst.join (p : Pst K R U pn ρ' σ H q U' T H') {U'' : Rg} {H'' : Hp} {ρ'' : Rho} (p2 : Pst K R U' pn ρ'' σ H' q1 U'' S H'') : Pst K R U pn ρ'' σ H (q && q1) U'' S H'' := ⟨p2.sr, p2.far, p.fr.trans0 p2.fr, fun e => by
    obtain ⟨e1, e2⟩ := Bool.and_eq_true_iff.mp e
    exact (p.sm e1).trans (p2.sm e2)⟩
theorem VlL.two {v w : V} {d1 d2 : PyData} {m1 m2 : Md} (r : VlL K U H [v, w] [(d1, m1), (d2, m2)] T) : ∃ T1 T2, T = T1 ++ T2 ∧ Vl K U H v d1 m1 T1 ∧ Vl K U H w d2 m2 T2 := by
  cases r with
  | cons r1 r2 _ => cases r2 with
    | cons r2 r3 _ => cases r3; exact ⟨_, _, by simp, r1, r2⟩
theorem chain_run {r r' : R2} {φ φ' : List (PyData × Md) → Option (PyData × Md)} (ho : OpN K (n2 r) φ) (ho' : OpN K (n2 r') φ') : ∀ σ H Q, tD K (q1 && q2 && q3) (fChain q2 f g h φ φ') σ H Q → tChain r r' (tD K q1 f) (tD K q2 g) (tD K q3 h) σ H Q := fun σ H Q z => by
  obtain ⟨R, U, pn, ρ, d, m, ρ', I, e, k⟩ := z
  unfold fChain at e
  split at e
  · rename_i rs ρ2 he
    unfold faCons at he
    split at he
    · rename_i d1 m1 ρ1 h1
      split at he
      · cases he
      · rename_i hb1
        split at he
        · rename_i rs1 ρ3 h2
          cases he
          split at h2
          · rename_i d2 m2 ρ4 h3
            split at h2
            · cases h2
            · cases h2
              refine ⟨R, U, pn, ρ, _, _, _, I, h1, fun v H1 U1 T p r => ⟨_, _, _, _, _, _, _, p.sr, h3, fun w H2 U2 S p2 r2 => ?_⟩⟩
              have pp := p.trans p2
              have rl := VlL.cons (r.keep p2 (notB hb1)) (VlL.one r2) p2.apart
              split at e
              · rename_i hrs hφ
                cases hrs
                refine opn_run (q := true) ho pp.stay rl hφ (fun z H3 U3 T3 p3 r3 => ⟨true, r3.boolV, ?_⟩) v w rfl
                refine iteT ?_
                split at e
                · rename_i dc mc ρ5 h4
                  split at e
                  · rename_i d' m' hφ'
                    cases e
                    refine ⟨_, _, _, _, _, _, _, p3.drop.sr0, h4, fun c H4 U4 T4 p4 r4 => ?_⟩
                    have b0 := r2.2
                    have b1 := b0.mono p3.drop.fr.sub
                    have b2 : Vl K U4 H4 w d2 .S [] := ⟨rfl, b1.mono p4.fr.sub⟩
                    have rr := VlL.cons b2 (VlL.one r4) (fun _ z => nomatch z)
                    have pq : Pst K R U pn _ σ H (q1 && q2 && q3) U4 T4 H4 := (pp.join p3.drop).join p4 |>.wq (by cases q1 <;> cases q2 <;> cases q3 <;> simp)
                    exact opn_run ho' pq rr hφ' (fun v H5 U5 T5 p5 r5 => k v H5 U5 T5 p5 r5) w c rfl
                  · cases e
                · cases e
              · rename_i hφ
                cases e
                refine opn_run (q := true) ho pp.stay rl hφ (fun z H3 U3 T3 p3 r3 => ⟨false, r3.boolV, ?_⟩) v w rfl
                refine iteF ?_
                exact k _ H3 _ [] ((pp.join p3.drop).wq (by cases q1 <;> cases q2 <;> cases q3 <;> simp)) (vl_imm fun _ => .bl _)
              · cases e
          · cases h2
        · cases he
    · cases he
  · cases e
theorem de_chain {op op' : CmpOp} {r r' : R2} {φ φ' : List (PyData × Md) → Option (PyData × Md)} (hr : OpR X (compareOp op) r) (ho : OpN X.K (n2 r) φ) (hr' : OpR X (compareOp op') r') (ho' : OpN X.K (n2 r') φ') (ha : DE X q1 a f) (hb : DE X q2 b g) (hc : DE X q3 c h)
    (hm : lastMarks [op, op'] [b, c] = false := by with_unfolding_all rfl) : DE X (q1 && q2 && q3) (.Compare a [op, op'] [b, c] pos) (fChain q2 f g h φ φ') := L2.PE.weak (pe_chain hr hr' ha hb hc hm) (chain_run ho ho')
theorem dt_chain {op op' : CmpOp} {r r' : R2} {φ φ' : List (PyData × Md) → Option (PyData × Md)} (hr : OpR X (compareOp op) r) (ho : OpN X.K (n2 r) φ) (hr' : OpR X (compareOp op') r') (ho' : OpN X.K (n2 r') φ') (ha : DE X q1 a f) (hb : DE X q2 b g) (hc : DE X q3 c h)
    (hm : lastMarks [op, op'] [b, c] = false := by with_unfolding_all rfl) : DT X (q1 && q2 && q3) (.Compare a [op, op'] [b, c] pos) (fT (fChain q2 f g h φ φ')) :=
  L2.PT.weak (L2.PT.weak (pt_chain hr hr' ha hb hc hm) fun σ H Q z => by
    obtain ⟨R, U, pn, ρ, d, m, ρ', I, e, k⟩ := z
    exact chain_run ho ho' σ H _ ⟨R, U, pn, ρ, d, m, ρ', I, e, k⟩) ttest_run
end
end DL

end
section
set_option maxHeartbeats 1000000
namespace DL
open PySem PySem.Spec L2
/-! ### calls that are handed owned slots -/
inductive AI | v (d : PyData) (m : Md) | s (i : Nat)
abbrev FX := Rho → Option (List AI × Rho)
inductive VX (K : PySem.W.Frag) (U : Rg) (H : Hp) (σ : L2.St) : List V → List AI → List (List Addr) → Prop
  | nil : VX K U H σ [] [] []
  | v {v : V} {d : PyData} {m : Md} {T : List Addr} {vs : List V} {as : List AI} {Ts : List (List Addr)} : Vl K U H v d m T → VX K U H σ vs as Ts → (∀ a ∈ T, a ∉ Ts.flatten) → VX K U H σ (v :: vs) (.v d m :: as) (T :: Ts)
  | s {v : V} {i : Nat} {vs : List V} {as : List AI} {Ts : List (List Addr)} : σ[i]? = some (some v) → VX K U H σ vs as Ts → VX K U H σ (v :: vs) (.s i :: as) ([] :: Ts)
def tDX (K : PySem.W.Frag) (q : Bool) (fx : FX) : TA := fun σ H Q => ∃ R U pn ρ as ρ', SR K R U pn ρ σ H ∧ fx ρ = some (as, ρ') ∧ ∀ vs H' U' Ts, Pst K R U pn ρ' σ H q U' Ts.flatten H' → VX K U' H' σ vs as Ts → Q vs H'
def DX (X : Cx) (q : Bool) (es : List Expr) (fx : FX) : Prop := PA X es (tDX X.K q fx)
def fxNil : FX := fun ρ => some ([], ρ)
def fxVal (f : FE) (g : FX) : FX := fun ρ => match f ρ with
  | some (d, m, ρ1) => if m.b = true then none else match g ρ1 with
    | some (as, ρ2) => some (.v d m :: as, ρ2)
    | none => none
  | none => none
def fxName (i : Nat) (g : FX) : FX := fun ρ => match ρ[i]? with
  | some (.ow _ _) => match g ρ with
    | some (as, ρ2) => some (.s i :: as, ρ2)
    | none => none
  | some (.sh d) => match g ρ with
    | some (as, ρ2) => some (.v d .S :: as, ρ2)
    | none => none
  | _ => none
def slotsOf : List AI → List Nat
  | [] => []
  | .s i :: r => i :: slotsOf r
  | .v _ _ :: r => slotsOf r
def aSl (ρ : Rho) : AI → Option Sl
  | .v d .S => some (.sh d)
  | .v d (.F n) => some (.ow n d)
  | .v _ (.B _) => none
  | .s i => match ρ[i]? with
    | some (.ow n d) => some (.ow n d)
    | _ => none
def aSls (ρ : Rho) : List AI → Option (List Sl)
  | [] => some []
  | a :: as => match aSl ρ a, aSls ρ as with
    | some s, some r => some (s :: r)
    | _, _ => none
def backs : List AI → List Sl → Rho → Option Rho
  | [], [], ρ => some ρ
  | .v _ _ :: as, _ :: r, ρ => backs as r ρ
  | .s i :: as, .ow n d :: r, ρ => backs as r (ρ.set i (.ow n d))
  | _, _, _ => none
def dupL : List Nat → Bool
  | [] => false
  | i :: r => r.contains i || dupL r
def afterX (as : List AI) (G : FF) (ρ1 : Rho) : Option (PyData × Md × Rho) := if dupL (slotsOf as) = true then none else match aSls ρ1 as with
  | some ρa => match G ρa with
    | some (d, m, ρb) => match backs as ρb ρ1 with
      | some ρ2 => some (d, m, ρ2)
      | none => none
    | none => none
  | none => none
def fCallX (fx : FX) (G : FF) : FE := fun ρ => match fx ρ with
  | some (as, ρ1) => afterX as G ρ1
  | none => none
section
variable {X : Cx} {K : PySem.W.Frag} {R U U' U2 : Rg} {H H' H2 G : Hp} {v x y : V} {d : PyData} {ds : List PyData} {vs xs : List V} {m n : Md} {T S : List Addr} {e a b c : Expr} {es rest : List Expr} {q q1 q2 q3 : Bool} {pos : Pos} {f : FE} {g : FX} {as : List AI} {Ts : List (List Addr)} {ρ ρ' ρ1 ρa ρb ρ2 : Rho} {σ : L2.St} {pn : List (Nat × V)}
theorem VX.keep (h : VX K U' H' σ vs as Ts) (hb : ∀ d m, AI.v d m ∈ as → m.b = false) (p2 : Pst K (plus R T) U' pn ρ' σ H' q2 U2 S H2) (hT : ∀ a ∈ Ts.flatten, a ∈ T) : VX K U2 H2 σ vs as Ts := by
  induction h with
  | nil => exact .nil
  | v r _ nd ih => exact .v (r.mono p2.fr.sub (fun a ha o e => (p2.fr a o e).1 (.inr (hT a (by simp [ha]))) |>.1) fun z => by rw [hb _ _ List.mem_cons_self] at z; cases z) (ih (fun d m h => hb d m (List.mem_cons_of_mem _ h)) fun a ha => hT a (by rw [List.flatten_cons]; exact List.mem_append_right _ ha)) nd
  | s h _ ih => exact .s h (ih (fun d m h => hb d m (List.mem_cons_of_mem _ h)) fun a ha => hT a (by rw [List.flatten_cons]; exact List.mem_append_right _ ha))
theorem dx_nil : DX X true [] fxNil := L2.PA.weak pa_nil fun σ H Q z => by
  obtain ⟨R, U, pn, ρ, d, ρ', I, e, k⟩ := z
  cases e
  exact k [] H U [] (.refl I) .nil
theorem dx_val (ha : DE X q1 a f) (hb : DX X q2 es g) (hs : starEach (a :: es) X.env = (false, eval a X.env) :: starEach es X.env := by rfl) : DX X (q1 && q2) (a :: es) (fxVal f g) := L2.PA.weak (pa_cons ha hb hs) fun σ H Q z => by
  obtain ⟨R, U, pn, ρ, d, ρ', I, e, k⟩ := z
  unfold fxVal at e
  split at e
  · rename_i d1 m1 ρ1 he
    split at e
    · cases e
    · rename_i hb
      split at e
      · rename_i rs ρ2 he2
        cases e
        refine ⟨R, U, pn, ρ, _, _, _, I, he, fun v H1 U1 T p r => ⟨_, _, _, _, _, _, p.sr, he2, fun vs H2 U2 S p2 r2 => ?_⟩⟩
        exact k _ H2 U2 (T :: S) (by rw [List.flatten_cons]; exact p.trans p2) (.v (r.keep p2 (fun z => absurd z hb)) r2 p2.apart)
      · cases e
  · cases e
theorem dx_name (i : Nat) {x : Str} {p : Pos} (hb : DX X q es g) (hN : X.N[i]? = some x := by rfl) (hv : Vis X.env.scope x := by first | exact Or.inl rfl | exact Or.inr (Or.inl rfl) | exact Or.inr (Or.inr rfl)) (hd : (x == ("__debug__" : Str)) = false := by decide)
    (hcd : (x == ("__classdict__" : Str)) = false := by decide) (hs : starEach (.Name x p :: es) X.env = (false, eval (.Name x p) X.env) :: starEach es X.env := by rfl) : DX X q (.Name x p :: es) (fxName i g) := L2.PA.weak (pa_cons (pe_var hN hv hd hcd) hb hs) fun σ H Q z => by
  obtain ⟨R, U, pn, ρ, d, ρ', I, e, k⟩ := z
  obtain ⟨ow, L⟩ := I.lay
  unfold fxName at e
  split at e
  · rename_i h
    obtain ⟨x, hv, hr⟩ := (L.at_ i _ h).of_ow
    split at e
    · rename_i rs ρ2 he2
      cases e
      refine ⟨_, hv, R, U, pn, ρ, _, _, I, he2, fun vs H2 U2 S p2 r2 => ?_⟩
      exact k _ H2 U2 ([] :: S) p2 (.s hv r2)
    · cases e
  · rename_i h
    obtain ⟨x, hv, hr⟩ := (L.at_ i _ h).of_sh
    split at e
    · rename_i rs ρ2 he2
      cases e
      refine ⟨_, hv, R, U, pn, ρ, _, _, I, he2, fun vs H2 U2 S p2 r2 => ?_⟩
      exact k _ H2 U2 ([] :: S) p2 (.v ⟨rfl, hr.mono p2.fr.sub⟩ r2 fun _ z => nomatch z)
    · cases e
  · cases e
theorem vx_len : VX K U H σ vs as Ts → as.length = vs.length ∧ Ts.length = as.length := fun h => by
  induction h with
  | nil => exact ⟨rfl, rfl⟩
  | v _ _ _ ih => exact ⟨by simp [ih.1], by simp [ih.2]⟩
  | s _ _ ih => exact ⟨by simp [ih.1], by simp [ih.2]⟩
theorem vx_v (h : VX K U H σ vs as Ts) : ∀ (j : Nat) (d : PyData) (m : Md), as[j]? = some (AI.v d m) → ∃ v T, vs[j]? = some v ∧ Ts[j]? = some T ∧ Vl K U H v d m T := by
  induction h with
  | nil => intro j d m e; simp at e
  | v r _ _ ih =>
    intro j d m e
    cases j with
    | zero => simp at e; obtain ⟨rfl, rfl⟩ := e; exact ⟨_, _, rfl, rfl, r⟩
    | succ j => exact ih j d m (by simpa using e)
  | s _ _ ih =>
    intro j d m e
    cases j with
    | zero => simp at e
    | succ j => exact ih j d m (by simpa using e)
theorem vx_s (h : VX K U H σ vs as Ts) : ∀ (j i : Nat), as[j]? = some (AI.s i) → ∃ v, vs[j]? = some v ∧ σ[i]? = some (some v) := by
  induction h with
  | nil => intro j i e; simp at e
  | v r _ _ ih =>
    intro j i e
    cases j with
    | zero => simp at e
    | succ j => exact ih j i (by simpa using e)
  | s h _ ih =>
    intro j i e
    cases j with
    | zero => simp at e; subst e; exact ⟨_, rfl, h⟩
    | succ j => exact ih j i (by simpa using e)
theorem mem_flat {j : Nat} {a : Addr} (h : Ts[j]? = some T) (ha : a ∈ T) : a ∈ Ts.flatten := List.mem_flatten.mpr ⟨T, List.mem_of_getElem? h, ha⟩
theorem vx_two (h : VX K U H σ vs as Ts) : ∀ (j k : Nat) (S T : List Addr), j ≠ k → Ts[j]? = some S → Ts[k]? = some T → ∀ a ∈ S, a ∉ T := by
  induction h with
  | nil => intro j k S T _ e; simp at e
  | v r _ nd ih =>
    intro j k S T hn e1 e2 a ha hb
    cases j with
    | zero =>
      cases k with
      | zero => exact hn rfl
      | succ k => simp at e1 e2; subst e1; exact nd a ha (mem_flat e2 hb)
    | succ j =>
      cases k with
      | zero => simp at e1 e2; subst e2; exact nd a hb (mem_flat e1 ha)
      | succ k => exact ih j k S T (fun z => hn (by rw [z])) (by simpa using e1) (by simpa using e2) a ha hb
  | s h _ ih =>
    intro j k S T hn e1 e2 a ha hb
    cases j with
    | zero => simp at e1; subst e1; cases ha
    | succ j =>
      cases k with
      | zero => simp at e2; subst e2; cases hb
      | succ k => exact ih j k S T (fun z => hn (by rw [z])) (by simpa using e1) (by simpa using e2) a ha hb
theorem aSls_at : ∀ {as : List AI} {ρa : List Sl}, aSls ρ as = some ρa → ρa.length = as.length ∧ ∀ (j : Nat) (a : AI), as[j]? = some a → ∃ s, aSl ρ a = some s ∧ ρa[j]? = some s
  | [], ρa, h => by cases h; exact ⟨rfl, fun j a e => by simp at e⟩
  | a :: as, ρa, h => by
    unfold aSls at h
    split at h
    · rename_i s r h1 h2
      cases h
      obtain ⟨i1, i2⟩ := aSls_at h2
      refine ⟨by simp [i1], fun j a e => ?_⟩
      cases j with
      | zero => simp at e; subst e; exact ⟨s, h1, rfl⟩
      | succ j => exact i2 j a (by simpa using e)
    · cases h
theorem slots_mem : ∀ {as : List AI} {i : Nat}, i ∈ slotsOf as ↔ ∃ j : Nat, as[j]? = some (AI.s i)
  | [], i => by simp [slotsOf]
  | .v d m :: as, i => by
    rw [slotsOf, slots_mem]
    constructor
    · rintro ⟨j, h⟩; exact ⟨j + 1, by simpa using h⟩
    · rintro ⟨j, h⟩
      cases j with
      | zero => simp at h
      | succ j => exact ⟨j, by simpa using h⟩
  | .s k :: as, i => by
    rw [slotsOf, List.mem_cons, slots_mem]
    constructor
    · rintro (rfl | ⟨j, h⟩)
      · exact ⟨0, rfl⟩
      · exact ⟨j + 1, by simpa using h⟩
    · rintro ⟨j, h⟩
      cases j with
      | zero => simp at h; exact .inl h.symm
      | succ j => exact .inr ⟨j, by simpa using h⟩
theorem slots_inj : ∀ {as : List AI}, dupL (slotsOf as) = false → ∀ {i j k : Nat}, as[j]? = some (AI.s i) → as[k]? = some (AI.s i) → j = k
  | [], _, i, j, k, h, _ => by simp at h
  | .v d m :: as, hd, i, j, k, h1, h2 => by
    cases j with
    | zero => simp at h1
    | succ j =>
      cases k with
      | zero => simp at h2
      | succ k => exact congrArg Nat.succ (slots_inj (as := as) (i := i) (j := j) (k := k) hd (by simpa using h1) (by simpa using h2))
  | .s l :: as, hd, i, j, k, h1, h2 => by
    unfold slotsOf dupL at hd
    rw [Bool.or_eq_false_iff] at hd
    have hl : l ∉ slotsOf as := fun z => by
      have := List.contains_iff_mem.mpr z
      rw [hd.1] at this; cases this
    cases j with
    | zero =>
      cases k with
      | zero => rfl
      | succ k => simp at h1; subst h1; exact absurd (slots_mem.mpr ⟨k, by simpa using h2⟩) hl
    | succ j =>
      cases k with
      | zero => simp at h2; subst h2; exact absurd (slots_mem.mpr ⟨j, by simpa using h1⟩) hl
      | succ k => exact congrArg Nat.succ (slots_inj (as := as) (i := i) (j := j) (k := k) hd.2 (by simpa using h1) (by simpa using h2))
theorem backs_at : ∀ {as : List AI} {ρb : List Sl} {ρ ρ2 : Rho}, dupL (slotsOf as) = false → backs as ρb ρ = some ρ2 → ρ2.length = ρ.length ∧ (∀ k : Nat, k ∉ slotsOf as → ρ2[k]? = ρ[k]?) ∧ ∀ j i : Nat, as[j]? = some (AI.s i) → i < ρ.length → ρ2[i]? = ρb[j]? ∧ ∃ n d, ρb[j]? = some (.ow n d)
  | [], [], ρ, ρ2, _, h => by cases h; exact ⟨rfl, fun _ _ => rfl, fun j i e => by simp at e⟩
  | [], _ :: _, ρ, ρ2, _, h => by cases h
  | .v d m :: as, [], ρ, ρ2, _, h => by cases h
  | .v d m :: as, s :: r, ρ, ρ2, hd, h => by
    obtain ⟨i1, i2, i3⟩ := backs_at (as := as) (ρb := r) hd h
    refine ⟨i1, i2, fun j i e hi => ?_⟩
    cases j with
    | zero => simp at e
    | succ j => exact i3 j i (by simpa using e) hi
  | .s l :: as, [], ρ, ρ2, _, h => by cases h
  | .s l :: as, .no :: r, ρ, ρ2, _, h => by cases h
  | .s l :: as, .sh d :: r, ρ, ρ2, _, h => by cases h
  | .s l :: as, .ow n d :: r, ρ, ρ2, hd, h => by
    unfold slotsOf dupL at hd
    rw [Bool.or_eq_false_iff] at hd
    have hl : l ∉ slotsOf as := fun z => by
      have := List.contains_iff_mem.mpr z
      rw [hd.1] at this; cases this
    obtain ⟨i1, i2, i3⟩ := backs_at (as := as) (ρb := r) hd.2 h
    refine ⟨by simpa using i1, fun k hk => ?_, fun j i e hi => ?_⟩
    · rw [slotsOf, List.mem_cons, not_or] at hk
      rw [i2 k hk.2, List.getElem?_set_ne (Ne.symm hk.1)]
    · cases j with
      | zero =>
        simp at e
        subst e
        refine ⟨?_, n, d, rfl⟩
        rw [i2 _ hl, List.getElem?_set_self hi]
        simp
      | succ j => exact i3 j i (by simpa using e) (by simpa using hi)
/-- what each argument hands over -/
def owc (as : List AI) (Ts : List (List Addr)) (ow : Nat → List Addr) (j : Nat) : List Addr := match as[j]? with
  | some (.v _ (.F _)) => Ts[j]?.getD []
  | some (.s i) => ow i
  | _ => []
theorem owc_in {ow : Nat → List Addr} (hv : VX K U' H' σ vs as Ts) {j : Nat} {a : Addr} (h : a ∈ owc as Ts ow j) : (∃ d n T, as[j]? = some (.v d (.F n)) ∧ Ts[j]? = some T ∧ a ∈ T) ∨ ∃ i, as[j]? = some (.s i) ∧ a ∈ ow i := by
  unfold owc at h
  split at h
  · rename_i d n e
    obtain ⟨v, T, _, h2, _⟩ := vx_v hv _ _ _ e
    rw [h2] at h
    exact .inl ⟨d, n, T, e, h2, h⟩
  · rename_i i e
    exact .inr ⟨i, e, h⟩
  · cases h
theorem sr_callee {ow : Nat → List Addr} (p : Pst K R U pn ρ1 σ H q U' Ts.flatten H') (L : Lay K (plus R Ts.flatten) U' ρ1 σ H' ow) (hv : VX K U' H' σ vs as Ts) (hd : dupL (slotsOf as) = false) (ha : aSls ρ1 as = some ρa) :
    SR K (fun a => U' a ∧ ∀ j, a ∉ owc as Ts ow j) U' [] ρa (vs.map some) H' := by
  obtain ⟨la, ata⟩ := aSls_at ha
  obtain ⟨lv, lt⟩ := vx_len hv
  have inU : ∀ j a, a ∈ owc as Ts ow j → U' a := fun j a h => by
    rcases owc_in hv h with ⟨d, n, T, _, h2, h3⟩ | ⟨i, _, h3⟩
    · exact p.sr.ru a (.inr (mem_flat h2 h3))
    · exact (L.all a).mpr (.inr ⟨i, h3⟩)
  refine ⟨by simp [la, lv], ⟨owc as Ts ow, fun a => ?_, fun i a h z => z.2 i h, fun j k a hjk h1 h2 => ?_, fun j s h => ?_, fun j h => ?_, fun a h => L.domM a h.1⟩, fun _ z => (nomatch z)⟩
  · constructor
    · intro h
      by_cases z : ∃ j, a ∈ owc as Ts ow j
      · exact .inr z
      · exact .inl ⟨h, fun j w => z ⟨j, w⟩⟩
    · rintro (h | ⟨j, h⟩)
      · exact h.1
      · exact inU j a h
  · rcases owc_in hv h1 with ⟨d, n, T, _, e2, e3⟩ | ⟨i, e1, e3⟩
    · rcases owc_in hv h2 with ⟨d', n', T', _, g2, g3⟩ | ⟨i', g1, g3⟩
      · exact vx_two hv _ _ _ _ hjk e2 g2 a e3 g3
      · exact L.far i' a g3 (.inr (mem_flat e2 e3))
    · rcases owc_in hv h2 with ⟨d', n', T', _, g2, g3⟩ | ⟨i', g1, g3⟩
      · exact L.far i a e3 (.inr (mem_flat g2 g3))
      · by_cases hi : i = i'
        · subst hi; exact hjk (slots_inj hd e1 g1)
        · exact L.two i i' a hi e3 g3
  · have hj : j < as.length := by rw [← la]; exact (List.getElem?_eq_some_iff.mp h).1
    obtain ⟨s', h1, h2⟩ := ata j as[j] (List.getElem?_eq_getElem hj)
    rw [h] at h2
    cases h2
    have ej : as[j]? = some as[j] := List.getElem?_eq_getElem hj
    generalize as[j] = a0 at ej h1
    cases a0 with
    | v d m =>
      obtain ⟨v, T, hv1, hT, r⟩ := vx_v hv _ _ _ ej
      have hm : (vs.map some)[j]? = some (some v) := by rw [List.getElem?_map, hv1]; rfl
      rw [hm]
      cases m with
      | S =>
        cases h1
        have : owc as Ts ow j = [] := by unfold owc; rw [ej]
        rw [this]
        exact .sh rfl r.2
      | F n =>
        cases h1
        have : owc as Ts ow j = T := by unfold owc; rw [ej]; simp only [hT]; rfl
        rw [this]
        exact .ow rfl r
      | B n => cases h1
    | s i =>
      obtain ⟨v, hv1, hs⟩ := vx_s hv _ _ ej
      have hm : (vs.map some)[j]? = some (some v) := by rw [List.getElem?_map, hv1]; rfl
      rw [hm]
      have : owc as Ts ow j = ow i := by unfold owc; rw [ej]
      rw [this]
      simp only [aSl] at h1
      split at h1
      · rename_i n d e
        cases h1
        obtain ⟨x, hx, ho⟩ := (L.at_ i _ e).of_ow
        rw [hs] at hx
        cases hx
        exact .ow rfl ho
      · cases h1
  · have hj : as[j]? = none := by
      rw [List.getElem?_eq_none_iff] at h ⊢
      omega
    unfold owc
    rw [hj]
theorem sr_back {ow : Nat → List Addr} {H2 : Hp} {T2 : List Addr} (p : Pst K R U pn ρ1 σ H q U' Ts.flatten H') (L : Lay K (plus R Ts.flatten) U' ρ1 σ H' ow) (hv : VX K U' H' σ vs as Ts) (hd : dupL (slotsOf as) = false) (ha : aSls ρ1 as = some ρa) (hb : backs as ρb ρ1 = some ρ2) (hl : ρ1.length = σ.length)
    (I2 : SR K (plus (fun a => U' a ∧ ∀ j, a ∉ owc as Ts ow j) T2) U2 [] ρb (vs.map some) H2) (hT2 : ∀ a ∈ T2, ¬ (U' a ∧ ∀ j, a ∉ owc as Ts ow j)) (fr : Fr (fun a => U' a ∧ ∀ j, a ∉ owc as Ts ow j) U' H' U2 H2) (r2 : Vl K U2 H2 v d m T2) :
    ∃ U3, Pst K R U pn ρ2 σ H false U3 T2 H2 ∧ Vl K U3 H2 v d m T2 := by
  obtain ⟨hlb, hk, hs⟩ := backs_at hd hb
  obtain ⟨lb2, ⟨ow2, L2'⟩, _⟩ := I2
  obtain ⟨lv, lt⟩ := vx_len hv
  classical
  let ow3 : Nat → List Addr := fun i => if h : ∃ j : Nat, as[j]? = some (AI.s i) then ow2 h.choose else if i ∈ slotsOf as then [] else ow i
  have o3s : ∀ i j, as[j]? = some (AI.s i) → ow3 i = ow2 j := fun i j h => by
    have ex : ∃ j : Nat, as[j]? = some (AI.s i) := ⟨j, h⟩
    simp only [ow3, dif_pos ex]
    rw [slots_inj hd ex.choose_spec h]
  have o3n : ∀ i, (¬ ∃ j : Nat, as[j]? = some (AI.s i)) → ow3 i = ow i := fun i h => by
    have : i ∉ slotsOf as := fun z => h (slots_mem.mp z)
    simp only [ow3, dif_neg h, if_neg this]
  have far0 : ∀ i a, (¬ ∃ j : Nat, as[j]? = some (AI.s i)) → a ∈ ow i → U' a ∧ ∀ j, a ∉ owc as Ts ow j := fun i a h ha => ⟨(L.all a).mpr (.inr ⟨i, ha⟩), fun j z => by
    rcases owc_in hv z with ⟨d, n, T, _, e2, e3⟩ | ⟨i', e1, e3⟩
    · exact L.far i a ha (.inr (mem_flat e2 e3))
    · have : i ≠ i' := fun z => h ⟨j, z ▸ e1⟩
      exact L.two i i' a this ha e3⟩
  have rR : ∀ a, R a → U' a ∧ ∀ j, a ∉ owc as Ts ow j := fun a h => ⟨p.sr.ru a (.inl h), fun j z => by
    rcases owc_in hv z with ⟨d, n, T, _, e2, e3⟩ | ⟨i', e1, e3⟩
    · exact p.far a (mem_flat e2 e3) h
    · exact L.far i' a e3 (.inl h)⟩
  have keep : ∀ a u, (U' a ∧ ∀ j, a ∉ owc as Ts ow j) → H' a = some u → H2 a = some u ∧ U2 a := fun a u h e => (fr a u e).1 h
  have inU2 : ∀ a, (U' a ∧ ∀ j, a ∉ owc as Ts ow j) → U2 a := fun a h => (L2'.all a).mpr (.inl (.inl h))
  have U32 : ∀ a, (plus R T2 a ∨ ∃ i, a ∈ ow3 i) → U2 a := fun a h => by
    rcases h with (h | h) | ⟨i, h⟩
    · exact inU2 a (rR a h)
    · exact (L2'.all a).mpr (.inl (.inr h))
    · by_cases ex : ∃ j : Nat, as[j]? = some (AI.s i)
      · obtain ⟨j, hj⟩ := ex
        rw [o3s i j hj] at h
        exact (L2'.all a).mpr (.inr ⟨j, h⟩)
      · rw [o3n i ex] at h
        exact inU2 a (far0 i a ex h)
  have ss : Same (DL.sub H2 U2) (DL.sub H2 fun a => plus R T2 a ∨ ∃ i, a ∈ ow3 i) := fun a o e => let ⟨n, e⟩ := of_sub e; sub_at (fun z => n (U32 a z)) e
  refine ⟨fun a => plus R T2 a ∨ ∃ i, a ∈ ow3 i, ⟨⟨by rw [hlb]; exact hl, ⟨ow3, fun a => Iff.rfl, fun i a h => ?_, fun i k a hik h1 h2 => ?_, fun i s h => ?_, fun i h => ?_, fun a h => ?_⟩, p.sr.pin⟩, fun a ha z => hT2 a ha (rR a z), p.fr.trans0 fun a o e => ⟨fun z => ?_, fun z => ?_⟩, fun z => (nomatch z)⟩, r2.mono ss (fun _ _ _ z => z) fun _ _ _ z => z⟩
  · by_cases ex : ∃ j : Nat, as[j]? = some (AI.s i)
    · obtain ⟨j, hj⟩ := ex
      rw [o3s i j hj] at h
      exact fun z => L2'.far j a h (z.elim (fun z => .inl (rR a z)) .inr)
    · rw [o3n i ex] at h
      rintro (z | z)
      · exact L.far i a h (.inl z)
      · exact hT2 a z (far0 i a ex h)
  · by_cases ex : ∃ j : Nat, as[j]? = some (AI.s i)
    · obtain ⟨j, hj⟩ := ex
      rw [o3s i j hj] at h1
      by_cases ex' : ∃ j : Nat, as[j]? = some (AI.s k)
      · obtain ⟨j', hj'⟩ := ex'
        rw [o3s k j' hj'] at h2
        refine L2'.two j j' a (fun z => ?_) h1 h2
        subst z
        rw [hj] at hj'
        cases hj'
        exact hik rfl
      · rw [o3n k ex'] at h2
        exact L2'.far j a h1 (.inl (far0 k a ex' h2))
    · rw [o3n i ex] at h1
      by_cases ex' : ∃ j : Nat, as[j]? = some (AI.s k)
      · obtain ⟨j', hj'⟩ := ex'
        rw [o3s k j' hj'] at h2
        exact L2'.far j' a h2 (.inl (far0 i a ex h1))
      · rw [o3n k ex'] at h2
        exact L.two i k a hik h1 h2
  · by_cases ex : ∃ j : Nat, as[j]? = some (AI.s i)
    · obtain ⟨j, hj⟩ := ex
      rw [o3s i j hj]
      obtain ⟨w, hw, hsg⟩ := vx_s hv _ _ hj
      have hi : i < ρ1.length := by rw [← hlb]; exact (List.getElem?_eq_some_iff.mp h).1
      obtain ⟨h1, n, d', h2⟩ := hs j i hj hi
      rw [h, h2] at h1
      cases h1
      have := (L2'.at_ j _ h2).mono ss fun _ _ _ z => z
      rw [List.getElem?_map, hw] at this
      rw [hsg]
      exact this
    · rw [o3n i ex]
      have h' : ρ1[i]? = some s := by rw [← hk i fun z => ex (slots_mem.mp z)]; exact h
      refine (L.at_ i s h').mono (fr.sub.trans ss) fun a ha u hu => (keep a u (far0 i a ex ha) hu).1
  · have h' : ρ1[i]? = none := by rw [List.getElem?_eq_none_iff] at h ⊢; omega
    by_cases ex : ∃ j : Nat, as[j]? = some (AI.s i)
    · obtain ⟨j, hj⟩ := ex
      obtain ⟨w, hw, hsg⟩ := vx_s hv _ _ hj
      have : i < σ.length := (List.getElem?_eq_some_iff.mp hsg).1
      rw [List.getElem?_eq_none_iff] at h'
      omega
    · rw [o3n i ex]
      exact L.out i h'
  · rcases h with h | h
    · exact L2'.dom a (.inl (rR a h))
    · exact L2'.dom a (.inr h)
  · exact ⟨(keep a o (rR a z) e).1, .inl (.inl z)⟩
  · exact ⟨((fr a o e).2 z).1, fun w => ((fr a o e).2 z).2 (U32 a w)⟩
def FxLen (fx : FX) (n : Nat) : Prop := ∀ ρ as ρ', fx ρ = some (as, ρ') → as.length = n
theorem fxLen_nil : FxLen fxNil 0 := fun ρ rs ρ' h => by cases h; rfl
theorem fxLen_val {n : Nat} (h : FxLen g n) : FxLen (fxVal f g) (n + 1) := fun ρ rs ρ' e => by
  unfold fxVal at e
  split at e
  · split at e
    · cases e
    · split at e
      · cases e
        rename_i he
        simp [h _ _ _ he]
      · cases e
  · cases e
theorem fxLen_name {n i : Nat} (h : FxLen g n) : FxLen (fxName i g) (n + 1) := fun ρ rs ρ' e => by
  unfold fxName at e
  split at e
  · split at e
    · cases e
      rename_i he
      simp [h _ _ _ he]
    · cases e
  · split at e
    · cases e
      rename_i he
      simp [h _ _ _ he]
    · cases e
  · cases e
theorem callx_core {np : Nat} {G : FF} {Q : VK} (p : Pst K R U pn ρ1 σ H q U' Ts.flatten H') (hv : VX K U' H' σ vs as Ts) (e : afterX as G ρ1 = some (d, m, ρ2)) (hl : as.length = np) (k : ∀ v H2 U3 T2, Pst K R U pn ρ2 σ H false U3 T2 H2 → Vl K U3 H2 v d m T2 → Q v H2) : ∀ E, spD K np G vs H' Q E := fun E => by
  unfold afterX at e
  split at e
  · cases e
  · rename_i hd
    have hd : dupL (slotsOf as) = false := by simpa using hd
    split at e
    · rename_i ρa ha
      split at e
      · rename_i d' m' ρb hG
        split at e
        · rename_i ρ2 hb
          cases e
          obtain ⟨ow, L⟩ := p.sr.lay
          have lv := (vx_len hv).1
          refine ⟨_, U', ρa, d, m, ρb, by rw [← lv]; exact hl, sr_callee p L hv hd ha, hG, fun v H2 U2 T2 I2 hT2 fr r2 => ?_⟩
          obtain ⟨U3, p3, r3⟩ := sr_back p L hv hd ha hb p.sr.len I2 hT2 fr r2
          exact k v H2 U3 T2 p3 r3
        · cases e
      · cases e
    · cases e
theorem callx_run {np : Nat} {G : FF} (hl : FxLen g np) : ∀ σ H Q, tD K false (fCallX g G) σ H Q → tDX K q g σ H (fun vs H1 => ∀ E : XK, spD K np G vs H1 Q E) := fun σ H Q z => by
  obtain ⟨R, U, pn, ρ, d, m, ρ', I, e, k⟩ := z
  unfold fCallX at e
  split at e
  · rename_i as ρ1 h1
    exact ⟨R, U, pn, ρ, as, ρ1, I, h1, fun vs H1 U1 Ts p hv => callx_core p hv e (hl _ _ _ h1) k⟩
  · cases e
theorem de_callX {k np : Nat} {f : Addr} {fd : FuncData} {ps : List Str} {G : FF} {x : Str} {p : Pos} (F : FnOk X.prog X.w X.K X.mg X.base CX0 k f fd ps (spD X.K np G)) (hr : Room k X.A) (hg : Gl X x) (hm : X.mg x = some (.ref f)) (hk : PySem.W.keepIn X.K (.ref f) = true) (hb : Binds X.K fd ps [])
    (ha : DX X q (e :: es) g) (hl : FxLen g np) (hdb : (x == ("__debug__" : Str)) = false := by decide) (he : starEach (e :: es) X.env = (false, eval e X.env) :: starEach es X.env := by rfl) (hpl : (backTo pos (starEach es X.env)).any (·.1) = false := by rfl) :
    DE X false (.Call (.Name x p) (e :: es) [] pos) (fCallX g G) := L2.PE.weak (pe_call F hr hg hm hk hb .nil pass0 ha hdb he hpl) fun σ H Q z => by
  obtain ⟨R, U, pn, ρ, as, ρ', I, e1, k⟩ := callx_run (q := q) hl σ H Q z
  exact ⟨R, U, pn, ρ, as, ρ', I, e1, fun vs H' U' Ts p r => by
    show spD X.K np G (vs ++ []) H' Q _
    rw [List.append_nil]
    exact k vs H' U' Ts p r _⟩
end
end DL

end
section
set_option maxHeartbeats 1000000
namespace DL
open PySem PySem.Spec L2
section
variable {X : Cx} {K : PySem.W.Frag} {R U U' U1 U2 : Rg} {H H' H2 G : Hp} {v x y : V} {d d' : PyData} {ds es : List PyData} {vs xs ys : List V} {m : Md} {T T0 S : List Addr} {n k : Nat} {p a : Addr} {s : Sl}
/-! ### owned lists -/
theorem ownL_len : ∀ {xs : List V} {ds : List PyData} {T : List Addr}, OwnL K G H n xs ds T → xs.length = ds.length
  | _, _, _, .nil => rfl
  | _, _, _, .cons _ r _ => by simp [ownL_len r]
theorem ownL_snoc : ∀ {xs : List V} {ds : List PyData} {T : List Addr}, OwnL K G H n xs ds T → Own K G H n v d S → (∀ a ∈ T, a ∉ S) → OwnL K G H n (xs ++ [v]) (ds ++ [d]) (T ++ S)
  | _, _, _, .nil, h, _ => by
    have := OwnL.cons h .nil fun _ _ z => nomatch z
    simpa using this
  | _, _, _, .cons h1 r nd, h, hd => by
    have := OwnL.cons h1 (ownL_snoc r h fun a ha => hd a (List.mem_append_right _ ha)) fun a ha z => (List.mem_append.mp z).elim (nd a ha) (hd a (List.mem_append_left _ ha))
    rw [List.append_assoc]
    exact this
theorem ownL_app : ∀ {xs : List V} {ds : List PyData} {T : List Addr}, OwnL K G H n xs ds T → OwnL K G H n ys es S → (∀ a ∈ T, a ∉ S) → OwnL K G H n (xs ++ ys) (ds ++ es) (T ++ S)
  | _, _, _, .nil, h, _ => h
  | _, _, _, .cons h1 r nd, h, hd => by
    have := OwnL.cons h1 (ownL_app r h fun a ha => hd a (List.mem_append_right _ ha)) fun a ha z => (List.mem_append.mp z).elim (nd a ha) (hd a (List.mem_append_left _ ha))
    rw [List.append_assoc]
    exact this
theorem ownL_erase : ∀ {k : Nat} {xs : List V} {ds : List PyData} {T : List Addr}, OwnL K G H n xs ds T → ds[k]? = some d → ∃ v T1 T2, xs[k]? = some v ∧ Own K G H n v d T1 ∧ OwnL K G H n (xs.eraseIdx k) (ds.eraseIdx k) T2 ∧ (∀ a ∈ T1, a ∉ T2) ∧ (∀ a ∈ T1, a ∈ T) ∧ ∀ a ∈ T2, a ∈ T
  | _, _, _, _, .nil, h => by simp at h
  | 0, _, _, _, .cons h1 r nd, h => by
    simp at h
    subst h
    exact ⟨_, _, _, rfl, h1, r, nd, fun a ha => List.mem_append_left _ ha, fun a ha => List.mem_append_right _ ha⟩
  | k + 1, _, _, _, .cons h1 r nd, h => by
    obtain ⟨v, T1, T2, e, o1, o2, n1, i1, i2⟩ := ownL_erase r (by simpa using h)
    refine ⟨v, T1, _ ++ T2, by simpa using e, o1, .cons h1 o2 fun a ha z => nd a ha (i2 a z), fun a ha z => (List.mem_append.mp z).elim (fun z => nd a z (i1 a ha)) (n1 a ha), fun a ha => List.mem_append_right _ (i1 a ha), fun a ha => (List.mem_append.mp ha).elim (List.mem_append_left _) fun z => List.mem_append_right _ (i2 a z)⟩
theorem ownL_set : ∀ {k : Nat} {xs : List V} {ds : List PyData} {T : List Addr}, OwnL K G H n xs ds T → k < ds.length → (∀ a ∈ S, a ∉ T) → ∃ T2, (∀ a ∈ T2, a ∈ T ∨ a ∈ S) ∧ ∀ G' H', Same G G' → (∀ a ∈ T, ∀ o, H a = some o → H' a = some o) → Own K G' H' n v d S → OwnL K G' H' n (xs.set k v) (ds.set k d) T2
  | _, _, _, _, .nil, h, _ => by simp at h
  | 0, _, _, _, .cons h1 r nd, h, hd => ⟨S ++ _, fun a ha => (List.mem_append.mp ha).elim .inr fun z => .inl (List.mem_append_right _ z), fun G' H' ss t o => .cons o (r.mono ss fun a ha => t a (List.mem_append_right _ ha)) fun a ha z => hd a ha (List.mem_append_right _ z)⟩
  | k + 1, _, _, _, .cons h1 r nd, h, hd => by
    obtain ⟨T2, i2, o2⟩ := ownL_set (k := k) r (by simpa using h) fun a ha z => hd a ha (List.mem_append_right _ z)
    refine ⟨_ ++ T2, fun a ha => (List.mem_append.mp ha).elim (fun z => .inl (List.mem_append_left _ z)) fun z => (i2 a z).elim (fun z => .inl (List.mem_append_right _ z)) .inr, fun G' H' ss t o => .cons (h1.mono ss fun a ha => t a (List.mem_append_left _ ha)) (o2 G' H' ss (fun a ha => t a (List.mem_append_right _ ha)) o) fun a ha z => (i2 a z).elim (nd a ha) fun z => hd a z (List.mem_append_left _ ha)⟩
/-- a value that is handed over to a place of depth n -/
def gGiv (n : Nat) : Sl → Option PyData
  | .sh d => if n = 0 then some d else none
  | .ow k d => if k = n ∨ n = 0 then some d else none
  | .no => none
theorem giv_ok {o : Option (Option V)} (h : SlOk K U H o s T) (e : gGiv n s = some d) : ∃ v T', o = some (some v) ∧ (∀ b ∈ T', b ∈ T) ∧ ∀ U1 H', Same (DL.sub H U) (DL.sub H' U1) → (∀ b ∈ T, ∀ o, H b = some o → H' b = some o) → (∀ b ∈ T, b ∉ T' → ¬ U1 b) → Own K (DL.sub H' U1) H' n v d T' := by
  cases h with
  | no => cases e
  | sh hv r =>
    simp only [gGiv] at e
    split at e
    · rename_i h0
      cases e
      subst h0
      exact ⟨_, [], hv, fun _ z => (nomatch z), fun U1 H' ss _ _ => .leaf (r.mono ss)⟩
    · cases e
  | @ow k x d0 T hv r =>
    simp only [gGiv] at e
    split at e
    · rename_i h0
      cases e
      by_cases hk : k = n
      · subst hk
        exact ⟨_, T, hv, fun _ z => z, fun U1 H' ss t _ => r.mono ss t⟩
      · have h0 := h0.resolve_left hk
        subst h0
        exact ⟨_, [], hv, fun _ z => (nomatch z), fun U1 H' ss t nz => .leaf (Own.rp ss (fun b hb o e => sub_at (nz b hb (by simp)) (t b hb o e)) r)⟩
    · cases e
/-- the list of slot 0 is written; what the other slots held may go into it, or out of it -/
theorem mut_sr {ρr ρr' : List Sl} {σr : L2.St} {ow : Nat → List Addr} {xs xs' : List V} {ds' : List PyData} {T0' : List Addr} (hl : ρr.length = σr.length) (L : Lay K R U (.ow (n + 1) (.list ds) :: ρr) (some (.ref a) :: σr) H ow) (hA : H a = some (.lst xs)) (h0 : a ∈ ow 0)
    (hr : ρr'.length = ρr.length) (hk : ∀ j s, ρr'[j]? = some s → s = .no ∨ (ρr[j]? = some s ∧ ∀ b ∈ ow (j + 1), b ∉ T0' ∧ b ∉ S)) (ha1 : a ∉ T0') (ha2 : a ∉ S) (h12 : ∀ b ∈ S, b ∉ T0') (hi : ∀ b, b ∈ T0' ∨ b ∈ S → ∃ i, b ∈ ow i)
    (hO : ∀ U1 H', Same (DL.sub H U) (DL.sub H' U1) → (∀ b, b ≠ a → ∀ o, H b = some o → H' b = some o) → (∀ b, (∃ i, b ∈ ow i) → b ≠ a → b ∉ T0' → b ∉ S → (∀ j s, ρr'[j]? = some s → s = .no ∨ b ∉ ow (j + 1)) → ¬ U1 b) → OwnL K (DL.sub H' U1) H' n xs' ds' T0' ∧ Vl K U1 H' v d m S) :
    ∃ U1, SR K (plus R S) U1 [] (.ow (n + 1) (.list ds') :: ρr') (some (.ref a) :: σr) (upd H a (.lst xs')) ∧ (∀ b ∈ S, ¬ R b) ∧ Fr R U H U1 (upd H a (.lst xs')) ∧ Vl K U1 (upd H a (.lst xs')) v d m S := by
  classical
  let ow1 : Nat → List Addr := fun i => match i with
    | 0 => a :: T0'
    | j + 1 => match ρr'[j]? with
      | some (.ow _ _) => ow (j + 1)
      | _ => []
  have o1 : ∀ j b, b ∈ ow1 (j + 1) → b ∈ ow (j + 1) ∧ ∃ s, ρr'[j]? = some s ∧ s ≠ .no := fun j b h => by
    simp only [ow1] at h
    split at h
    · rename_i k d e; exact ⟨h, _, e, fun z => nomatch z⟩
    · cases h
  have far0 : ∀ b, b ∈ T0' ∨ b ∈ S → ¬ R b := fun b h z => let ⟨i, h⟩ := hi b h; L.far i b h z
  have inU : ∀ b, (plus R S b ∨ ∃ i, b ∈ ow1 i) → U b := fun b h => by
    rcases h with (h | h) | ⟨i, h⟩
    · exact (L.all b).mpr (.inl h)
    · exact (L.all b).mpr (.inr (hi b (.inr h)))
    · cases i with
      | zero =>
        rcases List.mem_cons.mp h with rfl | h
        · exact (L.all _).mpr (.inr ⟨0, h0⟩)
        · exact (L.all b).mpr (.inr (hi b (.inl h)))
      | succ j => exact (L.all b).mpr (.inr ⟨j + 1, (o1 j b h).1⟩)
  have aU1 : plus R S a ∨ ∃ i, a ∈ ow1 i := .inr ⟨0, List.mem_cons_self⟩
  have ne : ∀ b, b ≠ a → ∀ o, H b = some o → upd H a (.lst xs') b = some o := fun b hb o e => by rw [upd_ne hb]; exact e
  have ss : Same (DL.sub H U) (DL.sub (upd H a (.lst xs')) fun b => plus R S b ∨ ∃ i, b ∈ ow1 i) := fun b o e => by
    obtain ⟨nU, e⟩ := of_sub e
    have nb : b ≠ a := fun z => nU (z ▸ inU a aU1)
    exact sub_at (fun z => nU (inU b z)) (ne b nb o e)
  obtain ⟨q1, q2⟩ := hO _ _ ss ne fun b hb nb n0 nS nj z => by
    rcases z with (z | z) | ⟨i, z⟩
    · obtain ⟨i, hb⟩ := hb; exact L.far i b hb z
    · exact nS z
    · cases i with
      | zero => exact (List.mem_cons.mp z).elim nb n0
      | succ j =>
        obtain ⟨z1, s, e, hs⟩ := o1 j b z
        exact (nj j s e).elim hs fun w => w z1
  refine ⟨fun b => plus R S b ∨ ∃ i, b ∈ ow1 i, ⟨by simp [hr, hl], ⟨ow1, fun b => Iff.rfl, fun i b h z => ?_, fun i j b hij h1 h2 => ?_, fun i s h => ?_, fun i h => ?_, fun b h => ?_⟩, fun _ z => (nomatch z)⟩, fun b h => far0 b (.inr h), fun b o e => ⟨fun r => ?_, fun nU => ?_⟩, q2⟩
  · cases i with
    | zero =>
      rcases List.mem_cons.mp h with rfl | h
      · exact z.elim (L.far 0 _ h0) ha2
      · exact z.elim (far0 b (.inl h)) fun z => h12 b z h
    | succ j =>
      obtain ⟨h1, s, e, hs⟩ := o1 j b h
      rcases z with z | z
      · exact L.far _ b h1 z
      · rcases hk j s e with w | ⟨_, w⟩
        · exact hs w
        · exact (w b h1).2 z
  · have no0 : ∀ j, b ∈ ow1 0 → b ∈ ow1 (j + 1) → False := fun j h1 h2 => by
      obtain ⟨g1, s, e, hs⟩ := o1 j b h2
      rcases List.mem_cons.mp h1 with rfl | h1
      · exact L.two 0 (j + 1) _ (by omega) h0 g1
      · rcases hk j s e with w | ⟨_, w⟩
        · exact hs w
        · exact (w b g1).1 h1
    cases i with
    | zero =>
      cases j with
      | zero => exact hij rfl
      | succ j => exact no0 j h1 h2
    | succ i =>
      cases j with
      | zero => exact no0 i h2 h1
      | succ j => exact L.two (i + 1) (j + 1) b hij (o1 i b h1).1 (o1 j b h2).1
  · cases i with
    | zero =>
      simp at h
      subst h
      exact .ow rfl (.lst upd_same q1 ha1)
    | succ j =>
      have h' : ρr'[j]? = some s := by simpa using h
      rcases hk j s h' with rfl | ⟨e, w⟩
      · have : ow1 (j + 1) = [] := by simp only [ow1, h']
        rw [this]
        exact .no
      · have q := L.at_ (j + 1) s (by simpa using e)
        cases s with
        | no =>
          have : ow1 (j + 1) = [] := by simp only [ow1, h']
          rw [this]
          exact .no
        | sh d =>
          have : ow1 (j + 1) = [] := by simp only [ow1, h']
          rw [this]
          obtain ⟨x, hx, rx⟩ := q.of_sh
          exact .sh (by simpa using hx) (rx.mono ss)
        | ow k d =>
          have : ow1 (j + 1) = ow (j + 1) := by simp only [ow1, h']
          rw [this]
          have := q.mono ss fun b hb u hu => ne b (fun z => L.two 0 (j + 1) a (by omega) h0 (z ▸ hb)) u hu
          simpa using this
  · cases i with
    | zero => simp at h
    | succ j =>
      have h' : ρr'[j]? = none := by simpa using h
      simp only [ow1, h']
  · rcases h with h | h
    · have := L.dom b h
      obtain ⟨o, e, mo⟩ := this
      exact ⟨o, ne b (fun z => L.far 0 a h0 (z ▸ h)) o e, mo⟩
    · obtain ⟨o, e, mo⟩ := L.domM b ((L.all b).mpr (.inr (hi b (.inr h))))
      exact ⟨o, ne b (fun z => ha2 (z ▸ h)) o e, mo⟩
  · exact ⟨ne b (fun z => L.far 0 a h0 (z ▸ r)) o e, .inl (.inl r)⟩
  · exact ⟨ne b (fun z => nU (z ▸ inU a aU1)) o e, fun z => nU (inU b z)⟩
/-! ### the operations, as calls of owned slots -/
def gApp : FF := fun ρa => match ρa with
  | [.ow (n + 1) (.list ds), s] => if LIM ≤ ds.length then none else match gGiv n s with
    | some d => some (.none, .S, [.ow (n + 1) (.list (ds ++ [d])), .no])
    | none => none
  | _ => none
def mN (n : Nat) : Md := if n = 0 then .S else .F n
def gPop : FF := fun ρa => match ρa with
  | [.ow (n + 1) (.list ds)] => if LIM ≤ ds.length then none else match ds[ds.length - 1]? with
    | some d => some (d, mN n, [.ow (n + 1) (.list ds.dropLast)])
    | none => none
  | _ => none
def gPopAt : FF := fun ρa => match ρa with
  | [.ow (n + 1) (.list ds), .sh (.int i)] => if LIM ≤ ds.length then none else match ixN ds.length i with
    | some k => match ds[k]? with
      | some d => some (d, mN n, [.ow (n + 1) (.list (ds.eraseIdx k)), .no])
      | none => none
    | none => none
  | _ => none
def gSetI : FF := fun ρa => match ρa with
  | [.ow (n + 1) (.list ds), .sh (.int i), s] => match ixN ds.length i with
    | some k => match gGiv n s with
      | some d => some (.none, .S, [.ow (n + 1) (.list (ds.set k d)), .no, .no])
      | none => none
    | none => none
  | _ => none
def gExt : FF := fun ρa => match ρa with
  | [.ow (n + 1) (.list ds), .ow k (.list es)] => if k = n + 1 ∧ ds.length + es.length ≤ LIM then some (.none, .S, [.ow (n + 1) (.list (ds ++ es)), if n = 0 then .ow k (.list es) else .no]) else none
  | _ => none
theorem own_lst (h : Own K G H (n + 1) v (.list ds) T) : ∃ a xs T0, v = .ref a ∧ H a = some (.lst xs) ∧ OwnL K G H n xs ds T0 ∧ a ∉ T0 ∧ T = a :: T0 := by
  cases h with
  | lst h r na => exact ⟨_, _, _, rfl, h, r, na, rfl⟩
theorem vs_two {σ : L2.St} {x : V} (h : σ[0]? = some (some x)) {l : Nat} (hl : σ.length = l + 1) : ∃ σr, σ = some x :: σr ∧ σr.length = l := by
  cases σ with
  | nil => simp at h
  | cons s r => simp at h; subst h; exact ⟨r, rfl, by simpa using hl⟩
theorem ofu (nz : ∀ b, (∃ i, b ∈ (fun i : Nat => T) i) → True) : True := True.intro
theorem vl_own (h : Own K (DL.sub H U) H n v d T) : Vl K U H v d (mN n) T := by
  unfold mN
  split
  · rename_i e
    subst e
    cases h with
    | leaf r => exact ⟨rfl, r⟩
  · exact h
theorem app_spec {E : XK} {Q : VK} {vs : List V} (h : spD K 2 gApp vs H Q E) : ∃ x ys, vs = x :: ys ∧ tyV K "list" x H ∧ rAppend x ys H Q := by
  obtain ⟨R, U, ρa, d, m, ρb, hl, I, e, k⟩ := h
  unfold gApp at e
  split at e
  · rename_i n ds s
    split at e
    · cases e
    · rename_i hz
      split at e
      · rename_i d0 hg
        cases e
        obtain ⟨hl2, ⟨ow, L⟩, _⟩ := I
        match vs, hl with
        | [x, y], _ =>
          obtain ⟨x', hx, ho⟩ := (L.at_ 0 _ rfl).of_ow
          cases hx
          obtain ⟨a, xs, T0, rfl, hA, oL, na, hT⟩ := own_lst ho
          obtain ⟨w, T1, hw, i1, giv⟩ := giv_ok (L.at_ 1 s rfl) hg
          cases hw
          have hlen := ownL_len oL
          refine ⟨_, _, rfl, .inl ⟨rfl, xs, .of hA⟩, a, xs, y, rfl, rfl, hA, lim_lt (by omega), ?_⟩
          have a0 : a ∈ ow 0 := by rw [hT]; exact List.mem_cons_self
          have t0 : ∀ b ∈ T0, b ∈ ow 0 := fun b hb => by rw [hT]; exact List.mem_cons_of_mem _ hb
          have n01 : ∀ b ∈ T0, b ∉ T1 := fun b hb z => L.two 0 1 b (by decide) (t0 b hb) (i1 b z)
          have na1 : a ∉ T1 := fun z => L.two 0 1 a (by decide) a0 (i1 a z)
          obtain ⟨U1, I1, f1, fr, r⟩ := mut_sr (K := K) (R := R) (U := U) (n := n) (ds := ds) (a := a) (ρr := [s]) (ρr' := [.no]) (σr := [some y]) (ow := ow) (xs := xs) (xs' := xs ++ [y]) (ds' := ds ++ [d0]) (T0' := T0 ++ T1) (S := []) (v := .non) (d := .none) (m := .S) rfl L hA a0 rfl
            (fun j s h => by cases j with | zero => simp at h; exact .inl h.symm | succ j => simp at h) (fun z => (List.mem_append.mp z).elim na na1) (fun z => nomatch z) (fun _ z => nomatch z)
            (fun b h => h.elim (fun h => (List.mem_append.mp h).elim (fun z => ⟨0, t0 b z⟩) fun z => ⟨1, i1 b z⟩) fun z => nomatch z)
            fun U1 H' ss ne nz => ⟨ownL_snoc (oL.mono ss fun b hb o e => ne b (fun z => na (z ▸ hb)) o e) (giv U1 H' ss (fun b hb o e => ne b (fun z => L.two 0 1 a (by decide) a0 (z ▸ hb)) o e) fun b hb nb => nz b ⟨1, hb⟩ (fun z => L.two 0 1 a (by decide) a0 (z ▸ hb)) (fun z => (List.mem_append.mp z).elim (fun z => L.two 0 1 b (by decide) (t0 b z) hb) nb) (fun z => nomatch z) fun j s h => by cases j with | zero => simp at h; exact .inl h.symm | succ j => simp at h) n01, vl_imm fun _ => .non⟩
          exact k .non _ U1 [] I1 f1 fr r
      · cases e
  · cases e
theorem ix_len {l k : Nat} {i : Int} (h : ixN l i = some k) : k < l := by
  obtain ⟨h1, h2, h3, h4⟩ := ixN_seq h
  exact h2
theorem last_own {α : Type} {xs : List α} {l : Nat} (h : xs.length = l) : xs.eraseIdx (l - 1) = xs.dropLast := by
  subst h
  exact List.eraseIdx_length_sub_one
theorem pop_spec {E : XK} {Q : VK} {vs : List V} (h : spD K 1 gPop vs H Q E) : ∃ x ys, vs = x :: ys ∧ tyV K "list" x H ∧ rPop x ys H Q := by
  obtain ⟨R, U, ρa, d, m, ρb, hl, I, e, k⟩ := h
  unfold gPop at e
  split at e
  · rename_i n ds
    split at e
    · cases e
    · rename_i hz
      split at e
      · rename_i d0 hg
        cases e
        obtain ⟨hl2, ⟨ow, L⟩, _⟩ := I
        match vs, hl with
        | [x], _ =>
          obtain ⟨x', hx, ho⟩ := (L.at_ 0 _ rfl).of_ow
          cases hx
          obtain ⟨a, xs, T0, rfl, hA, oL, na, hT⟩ := own_lst ho
          have hlen := ownL_len oL
          obtain ⟨w, T1, T2, hw, oW, oR, n12, i1, i2⟩ := ownL_erase oL hg
          have a0 : a ∈ ow 0 := by rw [hT]; exact List.mem_cons_self
          have t0 : ∀ b ∈ T0, b ∈ ow 0 := fun b hb => by rw [hT]; exact List.mem_cons_of_mem _ hb
          rw [last_own hlen, last_own (xs := ds) rfl] at oR
          refine ⟨_, _, rfl, .inl ⟨rfl, xs, .of hA⟩, a, xs, w, rfl, rfl, hA, by rw [hlen]; exact hw, ?_⟩
          obtain ⟨U1, I1, f1, fr, r⟩ := mut_sr (K := K) (R := R) (U := U) (n := n) (ds := ds) (a := a) (ρr := []) (ρr' := []) (σr := []) (ow := ow) (xs := xs) (xs' := xs.dropLast) (ds' := ds.dropLast) (T0' := T2) (S := T1) (v := w) (d := d) (m := mN n) rfl L hA a0 rfl
            (fun j s h => by simp at h) (fun z => na (i2 a z)) (fun z => na (i1 a z)) (fun b hb z => n12 b hb z)
            (fun b h => h.elim (fun z => ⟨0, t0 b (i2 b z)⟩) fun z => ⟨0, t0 b (i1 b z)⟩)
            fun U1 H' ss ne nz => ⟨oR.mono ss fun b hb o e => ne b (fun z => na (z ▸ i2 b hb)) o e, vl_own (oW.mono ss fun b hb o e => ne b (fun z => na (z ▸ i1 b hb)) o e)⟩
          exact k w _ U1 T1 I1 f1 fr r
      · cases e
  · cases e
theorem popAt_spec {E : XK} {Q : VK} {vs : List V} (h : spD K 2 gPopAt vs H Q E) : ∃ x ys, vs = x :: ys ∧ tyV K "list" x H ∧ rPopAt x ys H Q := by
  obtain ⟨R, U, ρa, d, m, ρb, hl, I, e, k⟩ := h
  unfold gPopAt at e
  split at e
  · rename_i n ds ii
    split at e
    · cases e
    · rename_i hz
      split at e
      · rename_i kk hk
        split at e
        · rename_i d0 hg
          cases e
          obtain ⟨hl2, ⟨ow, L⟩, _⟩ := I
          match vs, hl with
          | [x, y], _ =>
            obtain ⟨x', hx, ho⟩ := (L.at_ 0 _ rfl).of_ow
            cases hx
            obtain ⟨y', hy, ry⟩ := (L.at_ 1 _ rfl).of_sh
            cases hy
            cases ry
            obtain ⟨a, xs, T0, rfl, hA, oL, na, hT⟩ := own_lst ho
            have hlen := ownL_len oL
            obtain ⟨w, T1, T2, hw, oW, oR, n12, i1, i2⟩ := ownL_erase oL hg
            have a0 : a ∈ ow 0 := by rw [hT]; exact List.mem_cons_self
            have t0 : ∀ b ∈ T0, b ∈ ow 0 := fun b hb => by rw [hT]; exact List.mem_cons_of_mem _ hb
            obtain ⟨g1, g2, g3, g4⟩ := ixN_seq hk
            have hL : LIM < 2 ^ 62 := by decide
            refine ⟨_, _, rfl, .inl ⟨rfl, xs, .of hA⟩, a, xs, ii, kk, w, rfl, rfl, hA, by omega, by omega, by rw [hlen]; exact g1, hw, ?_⟩
            obtain ⟨U1, I1, f1, fr, r⟩ := mut_sr (K := K) (R := R) (U := U) (n := n) (ds := ds) (a := a) (ρr := [.sh (.int ii)]) (ρr' := [.no]) (σr := [some (.int ii)]) (ow := ow) (xs := xs) (xs' := xs.eraseIdx kk) (ds' := ds.eraseIdx kk) (T0' := T2) (S := T1) (v := w) (d := d) (m := mN n) rfl L hA a0 rfl
              (fun j s h => by cases j with | zero => simp at h; exact .inl h.symm | succ j => simp at h) (fun z => na (i2 a z)) (fun z => na (i1 a z)) (fun b hb z => n12 b hb z)
              (fun b h => h.elim (fun z => ⟨0, t0 b (i2 b z)⟩) fun z => ⟨0, t0 b (i1 b z)⟩)
              fun U1 H' ss ne nz => ⟨oR.mono ss fun b hb o e => ne b (fun z => na (z ▸ i2 b hb)) o e, vl_own (oW.mono ss fun b hb o e => ne b (fun z => na (z ▸ i1 b hb)) o e)⟩
            exact k w _ U1 T1 I1 f1 fr r
        · cases e
      · cases e
  · cases e
theorem set_spec {E : XK} {Q : VK} {vs : List V} (h : spD K 3 gSetI vs H Q E) : ∃ x i y, vs = [x, i, y] ∧ rSetL x i y H (Q .non) := by
  obtain ⟨R, U, ρa, d, m, ρb, hl, I, e, k⟩ := h
  unfold gSetI at e
  split at e
  · rename_i n ds ii s
    split at e
    · rename_i kk hk
      split at e
      · rename_i d0 hg
        cases e
        obtain ⟨hl2, ⟨ow, L⟩, _⟩ := I
        match vs, hl with
        | [x, i, y], _ =>
          obtain ⟨x', hx, ho⟩ := (L.at_ 0 _ rfl).of_ow
          cases hx
          obtain ⟨y', hy, ry⟩ := (L.at_ 1 _ rfl).of_sh
          cases hy
          cases ry
          obtain ⟨a, xs, T0, rfl, hA, oL, na, hT⟩ := own_lst ho
          obtain ⟨w, T1, hw, i1, giv⟩ := giv_ok (L.at_ 2 s rfl) hg
          cases hw
          have hlen := ownL_len oL
          refine ⟨_, _, _, rfl, a, xs, ii, kk, rfl, rfl, hA, by rw [hlen]; exact hk, ?_⟩
          have a0 : a ∈ ow 0 := by rw [hT]; exact List.mem_cons_self
          have t0 : ∀ b ∈ T0, b ∈ ow 0 := fun b hb => by rw [hT]; exact List.mem_cons_of_mem _ hb
          have n01 : ∀ b ∈ T1, b ∉ T0 := fun b hb z => L.two 0 2 b (by decide) (t0 b z) (i1 b hb)
          have na1 : a ∉ T1 := fun z => L.two 0 2 a (by decide) a0 (i1 a z)
          have nn : ∀ (j : Nat) (s : Sl), ([Sl.no, Sl.no] : List Sl)[j]? = some s → s = Sl.no := fun j s h => by
            match j with
            | 0 => simp at h; exact h.symm
            | 1 => simp at h; exact h.symm
            | j + 2 => simp at h
          obtain ⟨T2, i2, oS⟩ := ownL_set (v := y) (d := d0) oL (ix_len hk) n01
          have na2 : ∀ b, b ∈ T2 → b ≠ a := fun b hb z => (i2 b hb).elim (fun w => na (z ▸ w)) fun w => na1 (z ▸ w)
          obtain ⟨U1, I1, f1, fr, r⟩ := mut_sr (K := K) (R := R) (U := U) (n := n) (ds := ds) (a := a) (ρr := [.sh (.int ii), s]) (ρr' := [.no, .no]) (σr := [some (.int ii), some y]) (ow := ow) (xs := xs) (xs' := xs.set kk y) (ds' := ds.set kk d0) (T0' := T2) (S := []) (v := .non) (d := .none) (m := .S) rfl L hA a0 rfl
            (fun j s h => .inl (nn j s h)) (fun z => na2 a z rfl) (fun z => nomatch z) (fun _ z => nomatch z)
            (fun b h => h.elim (fun h => (i2 b h).elim (fun z => ⟨0, t0 b z⟩) fun z => ⟨2, i1 b z⟩) fun z => nomatch z)
            fun U1 H' ss ne nz => ⟨oS _ H' ss (fun b hb o e => ne b (fun z => na (z ▸ hb)) o e) (giv U1 H' ss (fun b hb o e => ne b (fun z => L.two 0 2 a (by decide) a0 (z ▸ hb)) o e) fun b hb nb => nz b ⟨2, hb⟩ (fun z => L.two 0 2 a (by decide) a0 (z ▸ hb)) (fun z => (i2 b z).elim (fun z => L.two 0 2 b (by decide) (t0 b z) hb) nb) (fun z => nomatch z) fun j s h => .inl (nn j s h)), vl_imm fun _ => .non⟩
          exact k .non _ U1 [] I1 f1 fr r
      · cases e
    · cases e
  · cases e
theorem own0_rp : ∀ {xs : List V} {ds : List PyData} {T : List Addr}, OwnL K G H 0 xs ds T → RpL K G xs ds
  | _, _, _, .nil => .nil
  | _, _, _, .cons (.leaf h) r _ => .cons h (own0_rp r)
theorem ext_spec {E : XK} {Q : VK} {vs : List V} (h : spD K 2 gExt vs H Q E) : ∃ x ys, vs = x :: ys ∧ tyV K "list" x H ∧ rExtend x ys H Q := by
  obtain ⟨R, U, ρa, d, m, ρb, hl, I, e, k⟩ := h
  unfold gExt at e
  split at e
  · rename_i n ds kk es
    split at e
    · rename_i hz
      obtain ⟨rfl, hz⟩ := hz
      cases e
      obtain ⟨hl2, ⟨ow, L⟩, _⟩ := I
      match vs, hl with
      | [x, y], _ =>
        obtain ⟨x', hx, ho⟩ := (L.at_ 0 _ rfl).of_ow
        cases hx
        obtain ⟨y', hy, hp⟩ := (L.at_ 1 _ rfl).of_ow
        cases hy
        obtain ⟨a, xs, T0, rfl, hA, oL, na, hT⟩ := own_lst ho
        obtain ⟨b, ys, T1, rfl, hB, pL, nb, hS⟩ := own_lst hp
        have hlen := ownL_len oL
        have hlen2 := ownL_len pL
        refine ⟨_, _, rfl, .inl ⟨rfl, xs, .of hA⟩, a, b, xs, ys, rfl, rfl, hA, hB, by have := lim_ok hz; omega, ?_⟩
        have a0 : a ∈ ow 0 := by rw [hT]; exact List.mem_cons_self
        have b0 : b ∈ ow 1 := by rw [hS]; exact List.mem_cons_self
        have t0 : ∀ b ∈ T0, b ∈ ow 0 := fun b hb => by rw [hT]; exact List.mem_cons_of_mem _ hb
        have t1 : ∀ b ∈ T1, b ∈ ow 1 := fun b hb => by rw [hS]; exact List.mem_cons_of_mem _ hb
        have n01 : ∀ b ∈ T0, b ∉ T1 := fun b hb z => L.two 0 1 b (by decide) (t0 b hb) (t1 b z)
        have na1 : a ∉ T1 := fun z => L.two 0 1 a (by decide) a0 (t1 a z)
        have hk : ∀ (j : Nat) (s : Sl), [if n = 0 then Sl.ow (n + 1) (.list es) else Sl.no][j]? = some s → s = Sl.no ∨ (n = 0 ∧ s = Sl.ow (n + 1) (.list es) ∧ j = 0) := fun j s h => by
          cases j with
          | zero =>
            simp only [List.getElem?_cons_zero, Option.some.injEq] at h
            split at h
            · rename_i h0; exact .inr ⟨h0, h.symm, rfl⟩
            · exact .inl h.symm
          | succ j => simp at h
        obtain ⟨U1, I1, f1, fr, r⟩ := mut_sr (K := K) (R := R) (U := U) (n := n) (ds := ds) (a := a) (ρr := [.ow (n + 1) (.list es)]) (ρr' := [if n = 0 then .ow (n + 1) (.list es) else .no]) (σr := [some (.ref b)]) (ow := ow) (xs := xs) (xs' := xs ++ ys) (ds' := ds ++ es) (T0' := if n = 0 then [] else T0 ++ T1) (S := []) (v := .non) (d := .none) (m := .S) rfl L hA a0 rfl
          (fun j s h => (hk j s h).elim .inl fun ⟨h0, hs, hj⟩ => .inr ⟨by subst hj; rw [hs]; rfl, fun b hb => ⟨by rw [if_pos h0]; exact fun z => (nomatch z), fun z => (nomatch z)⟩⟩)
          (fun z => by split at z; cases z; exact (List.mem_append.mp z).elim na na1) (fun z => nomatch z) (fun _ z => nomatch z)
          (fun b h => h.elim (fun h => by split at h; cases h; exact (List.mem_append.mp h).elim (fun z => ⟨0, t0 b z⟩) fun z => ⟨1, t1 b z⟩) fun z => nomatch z)
          fun U1 H' ss ne nz => ⟨by
            have m1 := oL.mono ss fun b hb o e => ne b (fun z => na (z ▸ hb)) o e
            have m2 := pL.mono ss fun c hb o e => ne c (fun z => na1 (z ▸ hb)) o e
            split
            · rename_i h0
              subst h0
              exact ownL0 (rpL_app (own0_rp m1) (own0_rp m2))
            · exact ownL_app m1 m2 n01, vl_imm fun _ => .non⟩
        exact k .non _ U1 [] I1 f1 fr r
    · cases e
  · cases e
/-! ### x.m(..), x an owned list -/
def fxOwn (i : Nat) (g : FX) : FX := fun ρ => match ρ[i]? with
  | some (.ow (_ + 1) (.list _)) => match g ρ with
    | some (as, ρ2) => some (.s i :: as, ρ2)
    | none => none
  | _ => none
theorem fxLen_own {g : FX} {n i : Nat} (h : FxLen g n) : FxLen (fxOwn i g) (n + 1) := fun ρ rs ρ' e => by
  unfold fxOwn at e
  split at e
  · split at e
    · cases e
      rename_i he
      simp [h _ _ _ he]
    · cases e
  · cases e
def Mut (K : PySem.W.Frag) (np : Nat) (r : V → List V → Hp → VK → Prop) (G : FF) : Prop := ∀ (E : XK) (Q : VK) (vs : List V) (H : Hp), spD K np G vs H Q E → ∃ x ys, vs = x :: ys ∧ tyV K "list" x H ∧ r x ys H Q
theorem mut_app : Mut K 2 rAppend gApp := fun E Q vs H h => app_spec h
theorem mut_pop : Mut K 1 rPop gPop := fun E Q vs H h => pop_spec h
theorem mut_popAt : Mut K 2 rPopAt gPopAt := fun E Q vs H h => popAt_spec h
theorem mut_ext : Mut K 2 rExtend gExt := fun E Q vs H h => ext_spec h
theorem meth_run {g : FX} {np i : Nat} {G : FF} {r : V → List V → Hp → VK → Prop} {q : Bool} (hm : Mut K (np + 1) r G) (hl : FxLen g np) : ∀ σ H Q, tD K false (fCallX (fxOwn i g) G) σ H Q → ∃ x, σ[i]? = some (some x) ∧ tyV K "list" x H ∧ tDX K q g σ H (fun xs H2 => r x xs H2 Q) := fun σ H Q z => by
  obtain ⟨R, U, pn, ρ, as, ρ', I, e1, k⟩ := callx_run (q := q) (fxLen_own hl) σ H Q z
  obtain ⟨ow, L⟩ := I.lay
  unfold fxOwn at e1
  split at e1
  · rename_i n ds h
    split at e1
    · rename_i as2 ρ2 h2
      cases e1
      obtain ⟨x, hv, ho⟩ := (L.at_ i _ h).of_ow
      obtain ⟨a, xs, T0, rfl, hA, oL, na, hT⟩ := own_lst ho
      refine ⟨_, hv, .inl ⟨rfl, xs, .of hA⟩, R, U, pn, ρ, as2, _, I, h2, fun vs H' U' Ts p rr => ?_⟩
      obtain ⟨x2, ys, e, _, hr⟩ := hm (fun _ _ _ => True) Q _ H' (k (.ref a :: vs) H' U' ([] :: Ts) p (.s hv rr) _)
      cases e
      exact hr
    · cases e1
  · cases e1
theorem de_mut {q : Bool} {i np : Nat} {x name : Str} {id : String} {e : Expr} {es : List Expr} {g : FX} {G : FF} {r : V → List V → Hp → VK → Prop} {xpos apos cpos : Pos} (hM : Mut X.K (np + 1) r G) (slot : Slot "list" name id) (hty : typeOf (.builtin id) = pure (.type "method_descriptor")) (hm : MtR X id r) (ha : DX X q (e :: es) g) (hl : FxLen g np)
    (hN : X.N[i]? = some x := by rfl) (hv : Vis X.env.scope x := by first | exact Or.inl rfl | exact Or.inr (Or.inl rfl) | exact Or.inr (Or.inr rfl)) (hd : (x == ("__debug__" : Str)) = false := by decide) (hcd : (x == ("__classdict__" : Str)) = false := by decide)
    (hbase : attributeBase (.Name x xpos) name X.env (eval (.Name x xpos) X.env) = eval (.Name x xpos) X.env := by rfl)
    (hfew : ((backTo cpos (starEach (e :: es) X.env)).all (fun x => !x.1) && (backToKw cpos (keywordEach [] X.env)).all (fun x => x.1.isSome)
      && decide ((e :: es).length + ([] : List Keyword).length + (if ([] : List Keyword).isEmpty then 0 else 1) < 30)) = true := by rfl)
    (hline : (apos.endLine == cpos.line) = true := by rfl) (hs : starEach (e :: es) X.env = (false, eval e X.env) :: starEach es X.env := by rfl) (hplain : (backTo cpos (starEach es X.env)).any (·.1) = false := by rfl) :
    DE X false (.Call (.Attribute (.Name x xpos) name apos) (e :: es) [] cpos) (fCallX (fxOwn i g) G) := L2.PE.weak (pe_bm PySem.F.plainAttrs_list slot hty hm (pe_var hN hv hd hcd) ha hbase hfew hline hs hplain) fun σ H Q z => meth_run hM hl σ H Q z
theorem de_mut0 {i : Nat} {x name : Str} {id : String} {G : FF} {r : V → List V → Hp → VK → Prop} {xpos apos cpos : Pos} (hM : Mut X.K 1 r G) (slot : Slot "list" name id) (hty : typeOf (.builtin id) = pure (.type "method_descriptor")) (hm : MtR X id r)
    (hN : X.N[i]? = some x := by rfl) (hv : Vis X.env.scope x := by first | exact Or.inl rfl | exact Or.inr (Or.inl rfl) | exact Or.inr (Or.inr rfl)) (hd : (x == ("__debug__" : Str)) = false := by decide) (hcd : (x == ("__classdict__" : Str)) = false := by decide)
    (hbase : attributeBase (.Name x xpos) name X.env (eval (.Name x xpos) X.env) = eval (.Name x xpos) X.env := by rfl) (hline : (apos.endLine == cpos.line) = true := by rfl) :
    DE X false (.Call (.Attribute (.Name x xpos) name apos) [] [] cpos) (fCallX (fxOwn i fxNil) G) := L2.PE.weak (pe_bm0 PySem.F.plainAttrs_list slot hty hm (pe_var hN hv hd hcd) hbase hline) fun σ H Q z => by
  obtain ⟨x, hx, ty, R, U, pn, ρ, as, ρ', I, e1, k⟩ := meth_run (q := true) hM fxLen_nil σ H Q z
  cases e1
  exact ⟨x, hx, ty, k [] H U [] (.refl I) .nil⟩
/-! ### x[i] = .. -/
def gSt (i : Nat) (f : FE) : FG := fun d m ρ => match ρ[i]? with
  | some (.ow _ _) => if m.b = true then none else match f ρ with
    | some (.int k, .S, ρ1) => match afterX [.s i, .v (.int k) .S, .v d m] gSetI ρ1 with
      | some (_, _, ρ2) => some ρ2
      | none => none
    | _ => none
  | _ => none
theorem touchAll {σ : L2.St} {H H' : Hp} : Touch [99999] σ σ H H' := ⟨rfl, fun _ _ => rfl, fun z => absurd List.mem_cons_self z⟩
theorem dg_sub {q : Bool} {i : Nat} {x : Str} {ie : Expr} {f : FE} {io : List Nat} {pos xpos : Pos} (hi : DE X q ie f) (hN : X.N[i]? = some x := by rfl) (hv : Vis X.env.scope x := by first | exact Or.inl rfl | exact Or.inr (Or.inl rfl) | exact Or.inr (Or.inr rfl)) (hd : (x == ("__debug__" : Str)) = false := by decide) (hcd : (x == ("__classdict__" : Str)) = false := by decide)
    (ha : ∀ v, assign (.Subscript (.Name x xpos) ie pos) X.env v = (do
      let ov ← holding [v] (eval (.Name x xpos) X.env)
      let iv ← holding [v, ov] (eval ie X.env)
      standAt pos
      holding [v, ov, iv] (setItem ov iv v)
      release [v, ov, iv] []) := by intro _; rfl) : DG X io [99999] (.Subscript (.Name x xpos) ie pos) (gSt i f) := L2.PG.weak (pg_sub (pe_var hN hv hd hcd) hi set_list ha) fun v σ H Q z => by
  obtain ⟨R, U, T, pn, ρ, d, m, ρ', I, hp, hT, r, e, k⟩ := z
  unfold gSt at e
  split at e
  · rename_i n0 d0 hs0
    split at e
    · cases e
    · rename_i hb
      split at e
      · rename_i kk ρ1 hf
        split at e
        · rename_i d2 m2 ρ2 hc
          cases e
          obtain ⟨ow, L⟩ := I.lay
          obtain ⟨x, hx, _⟩ := (L.at_ i _ hs0).of_ow
          refine ⟨x, hx, plus R T, U, pn, ρ, _, _, ρ1, I, hf, fun y H1 U1 S p1 r1 => ?_⟩
          obtain ⟨rfl, r1⟩ := r1
          have rv : Vl X.K U1 H1 v d m T := r.keep (T := T) (R := R) ⟨p1.sr, p1.far, p1.fr, p1.sm⟩ fun z => absurd z hb
          have vx : VX X.K U1 H1 σ [x, y, v] [.s i, .v (.int kk) .S, .v d m] [[], [], T] := .s hx (.v ⟨rfl, r1⟩ (.v rv .nil fun _ _ z => nomatch z) fun _ z => nomatch z)
          have p2 : Pst X.K R U1 pn ρ1 σ H1 true U1 ([[], [], T] : List (List Addr)).flatten H1 := ⟨by simpa using p1.sr0, by simpa using hT, fr_refl fun a h => p1.sr0.ru a (.inl h), fun _ _ _ z => z⟩
          obtain ⟨x3, i3, y3, e3, hr⟩ := set_spec (callx_core (np := 3) p2 vx hc rfl (Q := fun _ H2 => Q σ H2) (fun v' H2 U3 T2 p3 r3 => k σ H2 _ p3.drop.sr0 (((p1.fr.weakR fun a h => .inl h).trans0 p3.drop.fr)) ⟨rfl, fun _ _ => rfl, fun z => absurd List.mem_cons_self z⟩) (fun _ _ _ => True))
          cases e3
          exact hr
        · cases e
      · cases e
  · cases e
end
end DL

end
section
set_option maxHeartbeats 1000000
namespace DL
open PySem PySem.Spec L2
section
variable {X : Cx} {K : PySem.W.Frag} {R U U' : Rg} {H H' G : Hp} {v x y : V} {d : PyData} {ds : List PyData} {vs xs : List V} {m n : Md} {T S : List Addr} {e a b c : Expr} {es rest : List Expr} {q q1 q2 q3 : Bool} {pos : Pos} {f g h : FE} {t u : FT} {ρ ρ' : Rho} {σ : L2.St} {pn : List (Nat × V)} {io js ks : List Nat}
/-! ### x, y = a, b -/
def Stor (K : PySem.W.Frag) (io : List Nat) (i : Nat) (g : FG) : Prop := ∀ v σ H Q, tG K io [i] g v σ H Q → gName i v σ H Q
theorem stor_S {i : Nat} (h : i ∉ io) : Stor K io i (gS i) := gS_run h
theorem stor_O {i : Nat} (h : i ∉ io) : Stor K io i (gO i) := gO_run h
theorem gsCons_run {g : FG} {hh : FGs} : ∀ vs σ H Q, tGs K io (js ++ ks) (gsCons g hh) vs σ H Q → gCons (tG K io js g) (tGs K io ks hh) vs σ H Q := fun v σ H Q z => by
  obtain ⟨R, U, T, pn, ρ, rs, ρ', I, hp, hT, r, e, k⟩ := z
  unfold gsCons at e
  split at e
  · split at e
    · cases e
    · rename_i hb
      split at e
      · rename_i ρ1 hg
        cases r with
        | cons r1 r2 nd =>
          rename_i T1 T2
          refine ⟨_, _, rfl, plus R T2, U, T1, pn, ρ, _, _, ρ1, I.assoc, hp, fun a ha z => ?_, r1, hg, fun σ1 H1 U1 I1 f1 t1 => ?_⟩
          · rcases z with z | z
            · exact hT a (List.mem_append_left _ ha) z
            · exact nd a ha z
          · refine ⟨R, U1, T2, pn, ρ1, _, ρ', I1, hp, fun a ha => hT a (List.mem_append_right _ ha), r2.mono f1.sub (fun a ha o e => (f1 a o e).1 (.inr ha) |>.1) (fun r hr z => absurd (List.any_eq_true.mpr ⟨r, hr, z⟩) hb), e, fun σ2 H2 U2 I2 f2 t2 => k σ2 H2 U2 I2 ?_ (t1.trans t2)⟩
            exact (f1.weakR fun a h => .inl h).trans0 f2
      · cases e
  · cases e
def fAsgs (f : FA) (h : FGs) : FS := fun ρ => match f ρ with
  | some (rs, ρ1) => match h rs ρ1 with
    | some ρ2 => some (.nx, ρ2)
    | none => none
  | none => none
theorem gsNil_run : ∀ vs σ H Q, tGs K io [] gsNil vs σ H Q → gNil vs σ H Q := fun v σ H Q z => by
  obtain ⟨R, U, T, pn, ρ, rs, ρ', I, hp, hT, r, e, k⟩ := z
  unfold gsNil at e
  split at e
  · cases e
    cases r
    exact ⟨rfl, k _ H U I.nil_plus I.nil_plus.frefl ⟨rfl, fun _ _ => rfl, fun _ _ _ z => z⟩⟩
  · cases e
theorem asgs_run {fa : FA} {hh : FGs} : ∀ D σ H, tS K io (fAsgs fa hh) D σ H → tDA K q fa σ H fun vs H1 => tGs K io js hh vs σ H1 D.nx := fun D σ H z => by
  obtain ⟨R, U, pn, ρ, out, ρ', I, hp, e, k⟩ := z
  unfold fAsgs at e
  split at e
  · rename_i rs ρ1 h1
    split at e
    · rename_i ρ2 h2
      cases e
      exact ⟨R, U, pn, ρ, rs, ρ1, I, h1, fun vs H' U' T p r => ⟨R, U', T, pn, ρ1, rs, _, p.sr, hp, p.far, r, h2, fun σ1 H1 U1 I1 f1 _ => k σ1 H1 U1 I1 (p.fr.trans0 f1)⟩⟩
    · cases e
  · cases e
theorem tDA_mono {fa : FA} {Q Q' : List V → Hp → Prop} (h : tDA K q fa σ H Q) (w : ∀ vs H, Q vs H → Q' vs H) : tDA K q fa σ H Q' := by
  obtain ⟨R, U, pn, ρ, rs, ρ', I, e, k⟩ := h
  exact ⟨R, U, pn, ρ, rs, ρ', I, e, fun vs H' U' T p r => w _ _ (k vs H' U' T p r)⟩
theorem ds_par {i j : Nat} {x y : Str} {fa : FA} {g1 g2 : FG} {px py pt : Pos} {kt k2 pt2} (hc : X.calm = true) (hN : X.N.Nodup) (hi : X.N[i]? = some x) (hj : X.N[j]? = some y) (hij : i ≠ j)
    (hx : X.env.scope.names.lookup x = some .local) (hy : X.env.scope.names.lookup y = some .local) (h1 : Stor X.K io i g1) (h2 : Stor X.K io j g2) (ha : DA X q [a, b] fa)
    (hw : swappedStores [.Tuple [.Name x px, .Name y py] kt pt] (.Tuple [a, b] k2 pt2) X.env = pure (some [x, y]))
    (hs : swapsWithSole [.Tuple [.Name x px, .Name y py] kt pt] (.Tuple [a, b] k2 pt2) pos.line X.env = pure false := by rfl) :
    DS X io (.Assign [.Tuple [.Name x px, .Name y py] kt pt] (.Tuple [a, b] k2 pt2) pos) (fAsgs fa (gsCons g1 (gsCons g2 gsNil))) := L2.PS.weak (ps_par hc hN hi hj hij hx hy ha hw hs) fun D σ H z => by
  refine tDA_mono (asgs_run (q := q) (js := [i] ++ ([j] ++ [])) D σ H z) fun vs H1 w => ?_
  obtain ⟨v, vs1, rfl, w1⟩ := gsCons_run _ _ _ _ w
  obtain ⟨v2, vs2, rfl, w2⟩ := gsCons_run _ _ _ _ (h1 _ _ _ _ w1)
  obtain ⟨rfl, w3⟩ := gsNil_run _ _ _ _ (h2 _ _ _ _ w2)
  exact ⟨v, v2, rfl, w3⟩
theorem ds_par3 {i j l : Nat} {x y z : Str} {fa : FA} {g1 g2 g3 : FG} {px py pz pt : Pos} {kt k2 pt2} (hc : X.calm = true) (hN : X.N.Nodup) (hi : X.N[i]? = some x) (hj : X.N[j]? = some y) (hl : X.N[l]? = some z) (hij : i ≠ j) (hil : i ≠ l) (hjl : j ≠ l)
    (hx : X.env.scope.names.lookup x = some .local) (hy : X.env.scope.names.lookup y = some .local) (hz : X.env.scope.names.lookup z = some .local) (h1 : Stor X.K io i g1) (h2 : Stor X.K io j g2) (h3 : Stor X.K io l g3) (ha : DA X q [a, b, c] fa)
    (hw : swappedStores [.Tuple [.Name x px, .Name y py, .Name z pz] kt pt] (.Tuple [a, b, c] k2 pt2) X.env = pure (some [x, y, z]))
    (hs : swapsWithSole [.Tuple [.Name x px, .Name y py, .Name z pz] kt pt] (.Tuple [a, b, c] k2 pt2) pos.line X.env = pure false := by rfl) :
    DS X io (.Assign [.Tuple [.Name x px, .Name y py, .Name z pz] kt pt] (.Tuple [a, b, c] k2 pt2) pos) (fAsgs fa (gsCons g1 (gsCons g2 (gsCons g3 gsNil)))) := L2.PS.weak (ps_par3 hc hN hi hj hl hij hil hjl hx hy hz ha hw hs) fun D σ H z => by
  refine tDA_mono (asgs_run (q := q) (js := [i] ++ ([j] ++ ([l] ++ []))) D σ H z) fun vs H1 w => ?_
  obtain ⟨v, vs1, rfl, w1⟩ := gsCons_run _ _ _ _ w
  obtain ⟨v2, vs2, rfl, w2⟩ := gsCons_run _ _ _ _ (h1 _ _ _ _ w1)
  obtain ⟨v3, vs3, rfl, w3⟩ := gsCons_run _ _ _ _ (h2 _ _ _ _ w2)
  obtain ⟨rfl, w4⟩ := gsNil_run _ _ _ _ (h3 _ _ _ _ w3)
  exact ⟨v, v2, v3, rfl, w4⟩
/-! ### (a, b) = a list -/
def gU (n : Nat) (h : FGs) : FG := fun d m ρ => match d with
  | .list ds => if ds.length = n ∧ m.b = false then h (ds.map fun d => (d, Md.S)) ρ else none
  | _ => none
theorem dg_unl {tgs : List Expr} {k n : Nat} {h : FGs} (hc : X.calm = true) (hs : DGs X io js tgs h) (hn : (assignEach tgs X.env).length = n := by rfl) (hst : (assignEach tgs X.env).findIdx? (·.1) = none := by rfl) : DG X io js (.Tuple tgs k pos) (gU n h) := L2.PG.weak (pg_unl hc hs hn hst) fun v σ H Q z => by
  obtain ⟨R, U, T, pn, ρ, d, m, ρ', I, hp, hT, r, e, k⟩ := z
  unfold gU at e
  split at e
  · split at e
    · rename_i hl
      have w := r.mono (U' := plus (fun a => U a ∧ a ∉ T) T) (H' := H) (fun a o z => let ⟨n, z⟩ := of_sub z; sub_at (fun w => w.elim (fun w => n w.1) fun w => n (I.ru a (.inr w))) z) (fun _ _ _ z => z) fun _ _ _ z => z
      obtain ⟨a, xs, rfl, ha, hx⟩ := w.shrL (fun a ha z => z.2 ha) (fun _ z => z) hl.2
      refine ⟨a, xs, rfl, same_l sub_le ha, by rw [rpL_len hx]; exact hl.1, R, _, [], pn, ρ, _, ρ', (I.drop hT).plus_nil, hp, fun _ z => (nomatch z), ?_, e, fun σ1 H1 U1 I1 f1 t1 => k σ1 H1 U1 I1 ?_ t1⟩
      · have := VlL.rps hx VlL.nil
        simpa using this
      · exact fun b o e => ⟨fun r => (f1 b o e).1 r, fun n => (f1 b o e).2 fun z => n z.1⟩
    · cases e
  · cases e
/-! ### x += e, ints -/
def fAug (i : Nat) (op : Int → Int → Int) (f : FE) : FS := fun ρ => match ρ[i]? with
  | some (.sh (.int a)) => match f ρ with
    | some (.int b, _, ρ1) => match ρ1[i]? with
      | some _ => some (.nx, ρ1.set i (.sh (.int (op a b))))
      | none => none
    | _ => none
  | _ => none
theorem ds_aug {i : Nat} {x : Str} {op : Operator} {F : Int → Int → Int} {pos' : Pos} (ho : PIp X op (ipI F)) (hN : X.N.Nodup) (hi : X.N[i]? = some x) (hio : i ∉ io) (hx : Loc X.env.scope x) (he : DE X q e f) (hf : X.fn x = true ∨ X.env.scope.names.lookup x = some .local := by first | exact .inl rfl | exact .inr rfl | assumption) :
    DS X io (.AugAssign (.Name x pos') op e pos) (fAug i F f) := L2.PS.weak (ps_aug hN hi hx he ho hf) fun D σ H z => by
  obtain ⟨R, U, pn, ρ, out, ρ', I, hp, e, k⟩ := z
  obtain ⟨ow, L⟩ := I.lay
  unfold fAug at e
  split at e
  · rename_i a h1
    obtain ⟨x, hv, hr⟩ := (L.at_ i _ h1).of_sh
    cases hr
    split at e
    · rename_i b m ρ1 h2
      split at e
      · rename_i s h3
        cases e
        refine ⟨_, hv, R, U, pn, ρ, _, _, _, I, h2, fun w H1 U1 T p r => ⟨a, b, rfl, r.intV, ?_⟩⟩
        obtain ⟨U2, I2, f2⟩ := (p.drop.sr0.plus_nil).putS (T := []) (i := i) (v := .int (F a b)) (d := .int (F a b)) (m := .S) (fun _ z => nomatch z) (vl_imm fun _ => .int _) rfl (List.getElem?_eq_some_iff.mp hv).1 (fun p hq z => hio (z ▸ hp p hq))
        exact k _ _ U2 I2 (p.drop.fr.trans0 f2)
      · cases e
    · cases e
  · cases e
/-! ### constants of the module -/
theorem de_glob {x : Str} {v : V} {u : Value} {d : PyData} (hg : Gl X x) (hm : X.mg x = some u) (r : RelV v u) (rp : ∀ G, Rp X.K G v d) (hd : (x == ("__debug__" : Str)) = false := by decide) : DE X true (.Name x pos) (fC d) := de_c (pe_glob hg hm r hd) rp
/-! ### isinstance -/
def tyN : PyData → String
  | .none => "NoneType"
  | .bool _ => "bool"
  | .int _ => "int"
  | .str _ => "str"
  | .list _ => "list"
  | .tuple _ => "tuple"
  | .dict _ => "dict"
def isiT (a b : String) : Bool := a == b || (a == "bool" && b == "int")
def fIsi (T : String) (f : FE) : FE := fun ρ => match f ρ with
  | some (d, _, ρ1) => some (.bool (isiT (tyN d) T), .S, ρ1)
  | none => none
theorem rp_ty (h : Rp K H v d) : TyX K H v (.type (tyN d)) := by
  cases h with
  | non => exact .base .non
  | bl b => exact .base (.bl b)
  | int i => exact .base (.int i)
  | str x => exact .base (.str x)
  | lst h _ =>
    rcases h with (h | ⟨o, h⟩) | ⟨o, its, n, hk, hc, _⟩
    · exact .base (.lst h)
    · exact .base (.frz h)
    · exact .kList hk hc
  | tup h _ => exact .base (.tup h)
  | dk h _ => exact .base (.dK h)
  | dt h _ => exact .base (.dT h)
def KT (T : String) : Prop := ∀ d, kitB (tyN d) T = some (isiT (tyN d) T)
theorem kt_int : KT "int" := fun d => by cases d <;> (simp only [tyN]; decide +kernel)
theorem kt_bool : KT "bool" := fun d => by cases d <;> (simp only [tyN]; decide +kernel)
theorem kt_str : KT "str" := fun d => by cases d <;> (simp only [tyN]; decide +kernel)
theorem kt_tuple : KT "tuple" := fun d => by cases d <;> (simp only [tyN]; decide +kernel)
theorem kt_list : KT "list" := fun d => by cases d <;> (simp only [tyN]; decide +kernel)
theorem kt_dict : KT "dict" := fun d => by cases d <;> (simp only [tyN]; decide +kernel)
theorem boot_isi : bootBuiltins "isinstance" = some (.builtin "isinstance") := by decide +kernel
theorem de_isi {T : String} {x : Str} {px pt : Pos} (ht : KT T) (ha : DE X q e f) (hg : Gl X "isinstance") (hm : X.mg "isinstance" = none) (hg2 : Gl X x) (hm2 : X.mg x = none) (hb2 : bootBuiltins x = some (.type T)) (hn : x ≠ "__name__" := by decide) (hd : (x == ("__debug__" : Str)) = false := by decide)
    (s1 : starEach [e, .Name x pt] X.env = (false, eval e X.env) :: starEach [.Name x pt] X.env := by rfl) (s2 : starEach [.Name x pt] X.env = (false, eval (.Name x pt) X.env) :: starEach [] X.env := by rfl) (hpl : (backTo pos (starEach [.Name x pt] X.env)).any (·.1) = false := by rfl) :
    DE X q (.Call (.Name "isinstance" px) [e, .Name x pt] [] pos) (fIsi T f) := L2.PE.weak (pe_callB call_isi hg hm boot_isi (pa_cons ha (pa_cons (pe_bltn (v := .ty T) hg2 hm2 hb2 rfl hn hd) pa_nil s2) s1) (by decide) (by decide) s1 hpl) fun σ H Q z => by
  obtain ⟨R, U, pn, ρ, d, m, ρ', I, e, k⟩ := z
  unfold fIsi at e
  split at e
  · rename_i d1 m1 ρ1 h1
    cases e
    refine ⟨R, U, pn, ρ, _, _, _, I, h1, fun v H1 U1 T1 p r => ⟨v, .ty T, .type (tyN d1), .type T, isiT (tyN d1) T, rfl, .ty T, rp_ty r.rp, kit_ty (ht d1), ?_⟩⟩
    exact k _ H1 _ [] p.drop (vl_imm fun _ => .bl _)
  · cases e
end
end DL

end
section
set_option maxHeartbeats 3200000
namespace DL
open PySem PySem.Spec PyProof.Rows L2
section
variable {P : Program} {w : World} {A : Around} {E : Value → Shared → Prop} {s : Shared}
theorem set_listI {l : Addr} {items : Array Value} (ns : List Int) {Q : Value → Shared → Prop} (hh : A.handled = none) (hl : s.heap.IsList l items) (hit : IntsAre items.toList ns) (hb : ns.length + 1 < scanBound)
    (h : ∀ (h' : Heap) (tk c : Nat), SetR w h' s.heap.objs.size (fun j => decide (j ∈ ns)) c → c ≤ ns.length → (∀ b o, s.heap.get? b = some o → h'.get? b = some o) → Q (.ref s.heap.objs.size) { s with heap := h', toks := tk }) :
    wpAny (model P w) A (call (.type "set") [.ref l]) Q E s := by
  have hisz : items.size = ns.length := by
    have q := IntsAre.length hit
    rw [Array.length_toList] at q
    exact q
  obtain ⟨c, tl, hmro⟩ := F.called_set.mro
  have hmade := F.called_set.made
  have hsub := F.called_set.sub
  refine wpAny_call (codeAny_of_tree ?_)
  show wpAny _ _ (callAny (.type "set") _) _ _ _
  refine wpAny_pure ⟨Code.quiet_builtin _ (by decide +kernel), codeAny_builtin F.entry_type_call ?_⟩
  rw [Around.under_plain (weight_type_call_type "set" [.ref l] []) rfl]
  have h1 := F.called_set.notType
  have h2 := F.called_set.canCreate
  have hct := F.typeCall_set_1 (.ref l)
  repeat (any_goals (first | assumption | wp_step))

  refine codeAny_mono (code_set_led1 (.ref l) (E := E) (Q₁ := fun obj s₁ => obj = .ref s.heap.objs.size ∧ s₁ = { s with heap := s.heap.push { cls := .type "set", dict := none, data := .set #[] 0 (.fresh 0 0 (!w.params.followText "set-order")) } }) ⟨rfl, rfl⟩) fun r s₁ hr => ?_
  cases r with
  | error e => exact hr
  | ok fl =>
    cases fl with
    | ret obj =>
      obtain ⟨rfl, rfl⟩ := hr
      have hS : (s.heap.push { cls := .type "set", dict := none, data := .set #[] 0 (.fresh 0 0 (!w.params.followText "set-order")) }).get? s.heap.objs.size = some { cls := .type "set", dict := none, data := .set #[] 0 (.fresh 0 0 (!w.params.followText "set-order")) } := Heap.get?_push_size _ rfl
      have hT : Shared.TypeIs { s with heap := s.heap.push { cls := .type "set", dict := none, data := .set #[] 0 (.fresh 0 0 (!w.params.followText "set-order")) } } (.ref s.heap.objs.size) "set" := ⟨_, hS, rfl⟩
      have hli := F.called_set.init.lookup
      have hbi := F.called_set.init.bind (.ref s.heap.objs.size)
      repeat (any_goals (first | assumption | wp_step))

      refine codeAny_mono (codeAny_call_builtin (R := wants (fun r s₂ => r = .none ∧ ∃ h' tk c, s₂ = { s with heap := h', toks := tk } ∧ SetR w h' s.heap.objs.size (fun j => decide (j ∈ ns)) c ∧ c ≤ ns.length ∧
          (∀ b o, s.heap.get? b = some o → h'.get? b = some o)) E) F.called_set.init.plain F.entry_set_init (check_set_init_1 hT ?_)) fun r₂ s₂ hr₂ => ?_
      · obtain ⟨ol, hol, hcl, nl, hdl⟩ := hl
        obtain ⟨ocls, odict, odata, oslots⟩ := ol
        simp only at hcl hdl
        subst hcl; subst hdl
        have hol' : (s.heap.push { cls := .type "set", dict := none, data := .set #[] 0 (.fresh 0 0 (!w.params.followText "set-order")) }).get? l = some { cls := .type "list", dict := odict, data := .seq items nl, slots := oslots } := Heap.get?_push_of_some _ hol
        have hsls := F.sub_list_set
        have hslf := F.sub_list_frozenset
        have hne : (Value.type "list" == Value.type "dict") = false := by decide
        have hl1 : (s.heap.push { cls := .type "set", dict := none, data := .set #[] 0 (.fresh 0 0 (!w.params.followText "set-order")) }).IsList l items := ⟨_, hol', rfl, nl, rfl⟩
        unfold Builtin.«set.__init__» noKeywords Builtin.Frozenset.updateFrom
        generalize hPI : pyIter = PI
        wp_walk
        subst hPI

        refine wpAny_pyIter_list hl1 ?_
        refine wpAny_bind (wpAny_runValue ?_)
        have hlS : l < s.heap.objs.size := Heap.lt_size hol
        have hh3 : A.in1.in1.in1.handled = none := by simp [hh]
        have hz1 : (s.heap.push { cls := .type "set", dict := none, data := .set #[] 0 (.fresh 0 0 (!w.params.followText "set-order")) }).objs.size = s.heap.objs.size + 1 := Heap.size_push ..
        have hneI : l ≠ (s.heap.push { cls := .type "set", dict := none, data := .set #[] 0 (.fresh 0 0 (!w.params.followText "set-order")) }).objs.size := by
          rw [Heap.size_push]; exact Nat.ne_of_lt (Nat.lt_succ_of_lt hlS)
        have hSf : s.heap.objs.size ∉ [(s.heap.push { cls := .type "set", dict := none, data := .set #[] 0 (.fresh 0 0 (!w.params.followText "set-order")) }).objs.size, l] := by
          rw [Heap.size_push]; simp only [List.mem_cons, List.mem_singleton, List.not_mem_nil, or_false, not_or]
          exact ⟨Nat.ne_of_lt (Nat.lt_succ_self _), Nat.ne_of_gt hlS⟩
        have hval : ∀ (i : Nat) (v : Value), items[i]? = some v → ∃ k t, ns[i]? = some k ∧ v = .int k t := fun i v hv => by
          have hi : i < ns.length := by rw [← hisz]; exact (Array.getElem?_eq_some_iff.mp hv).1
          obtain ⟨t, e⟩ := PyProof.Rows.IntsAre.int_at hit i v (by rw [Array.getElem?_toList]; exact hv)
          refine ⟨ns[i], t, List.getElem?_eq_getElem hi, ?_⟩
          rw [e, List.getD_eq_getElem?_getD, List.getElem?_eq_getElem hi] <;> rfl
        refine set_update_ints ((Walks.list hh3 _ l hneI items).toS) s.heap.objs.size
          hSf ns hisz hb hval (items.size - 0) 0 _ (by omega) (Nat.zero_le _)
          ⟨⟨_, Heap.get?_push_size _ rfl, rfl, rfl⟩, (hl1.push _)⟩ ?hS0 ?hR
        case hS0 =>
          have hget : ((s.heap.push { cls := .type "set", dict := none, data := .set #[] 0 (.fresh 0 0 (!w.params.followText "set-order")) }).push { cls := .type "list_iterator", data := .fields #[.ref l, .int 0 0] }).get? s.heap.objs.size
              = some { cls := .type "set", dict := none, data := .set #[] 0 (.fresh 0 0 (!w.params.followText "set-order")) } := Heap.get?_push_of_some _ hS
          exact ⟨0, Nat.le_refl 0, setR_new_at hget⟩
        case hR =>
          intro s' c' hm hc' hS'
          obtain ⟨h', g2, d', tk', os'⟩ := s'
          have eg : g2 = s.gens := hm.gens
          have ed : d' = s.drawn := hm.drawn
          have eo : os' = s.os := hm.os
          subst eg; subst ed; subst eo
          show wpAny _ _ _ _ _ _
          refine wpAny_pure ?_
          show wpAny _ _ (ret Value.none) _ _ _
          rw [hisz] at hc'
          refine wpAny_pure ⟨rfl, h', tk', c', rfl, hS', hc', fun b o e => ?_⟩
          have hb0 : b < s.heap.objs.size := Heap.lt_size e
          have hb1 : b ≠ s.heap.objs.size := Nat.ne_of_lt hb0
          have hb2 : b ≠ (s.heap.push { cls := .type "set", dict := none, data := .set #[] 0 (.fresh 0 0 (!w.params.followText "set-order")) }).objs.size := by
            rw [Heap.size_push]; exact Nat.ne_of_lt (Nat.lt_succ_of_lt hb0)
          exact hm.heap b o (by simp only [List.mem_cons, List.mem_singleton, List.not_mem_nil, or_false, not_or]; exact ⟨hb1, hb2⟩) (Heap.get?_push_of_some _ (Heap.get?_push_of_some _ e))

      · cases r₂ with
        | error e => exact hr₂
        | ok fl₂ =>
          cases fl₂ with
          | ret r =>
            obtain ⟨rfl, h', tk, c', rfl, hS', hc', hk'⟩ := hr₂
            repeat (any_goals (first | assumption | wp_step))
            exact h _ _ _ hS' hc' hk'
          | _ => exact hr₂.elim
    | _ => exact hr.elim

end
end DL

end
section
set_option maxHeartbeats 1000000
namespace DL
open PySem PySem.Spec L2
section
variable {X : Cx} {K : PySem.W.Frag} {R U U' : Rg} {H H' G : Hp} {v x y : V} {d : PyData} {ds : List PyData} {vs xs : List V} {m n : Md} {T S : List Addr} {e a b c : Expr} {es rest : List Expr} {q q1 q2 q3 : Bool} {pos : Pos} {f g h : FE} {t u : FT} {ρ ρ' : Rho} {σ : L2.St} {pn : List (Nat × V)} {io js ks : List Nat}
/-! ### xs[::-1] -/
def φRev : List (PyData × Md) → Option (PyData × Md)
  | [(.list ds, m)] => if m.fl = true then some (.list ds.reverse, .F 1) else none
  | _ => none
theorem opn_rev : OpN K (fun vs H Q => ∃ a xs, vs = [.ref a] ∧ SqL K H a xs ∧ ∀ p, H p = none → Q (.ref p) (upd H p (.lst xs.reverse))) φRev := by
  intro U H vs rs T d k Q hU h1 hT he hq
  unfold φRev at he
  split at he
  · split at he
    · rename_i hm
      cases he
      obtain ⟨x', rfl, h2⟩ := h1.one_inv
      obtain ⟨p, xs, rfl, hp, rp⟩ := h2.flat hT (fun _ z => z) hm
      exact ⟨p, xs, rfl, hp, fun q hn => hq _ _ [q] (same_new hn) (new_far hU hn) (new_new hn) (vl_list hn (rpL_rev rp))⟩
    · cases he
  · cases he
theorem de_rev {k : Nat} {p1 p2 p3 : Pos} (ha : DE X q a f) : DE X q (.Subscript a (.Slice none none (some (.UnaryOp .USub (.Constant (.int 1) k p1) p2)) p3) pos) (fU f φRev) := L2.PE.weak (pe_revL ha) fun σ H Q z => by
  have := tun_run (q := q) (r := fun x H Q => ∃ a xs, x = .ref a ∧ SqL X.K H a xs ∧ ∀ p, H p = none → Q (.ref p) (upd H p (.lst xs.reverse))) (f := f) (φ := φRev) (K := X.K) (fun U H vs rs T d k Q hU h1 hT he hq x e => ?_) σ H Q z
  · exact this
  · obtain ⟨a, xs, h1, h2⟩ := opn_rev U H vs rs T d k Q hU h1 hT he hq
    rw [e] at h1
    cases h1
    exact ⟨a, xs, rfl, h2⟩
/-! ### o.m(..) of a list that is read -/
def nM (r : V → List V → Hp → VK → Prop) : List V → Hp → VK → Prop := fun vs H Q => ∀ x xs, vs = x :: xs → r x xs H Q
theorem rp_tyList (h : Rp K H v (.list ds)) : tyV K "list" v H := by
  cases h with
  | lst h _ => exact .inl ⟨rfl, _, h⟩
theorem bm_run {r : V → List V → Hp → VK → Prop} {φ : List (PyData × Md) → Option (PyData × Md)} {fa : FA} (ho : OpN K (nM r) φ) (hφ : ∀ d m rs o, φ ((d, m) :: rs) = some o → ∃ ds, d = .list ds) : ∀ σ H Q, tD K (q1 && q2) (fN (faCons q2 f fa) φ) σ H Q → tBM K "list" r (tD K q1 f) (tDA K q2 fa) σ H Q := fun σ H Q z => by
  obtain ⟨R, U, pn, ρ, d, m, ρ', I, e, k⟩ := z
  obtain ⟨rs, e1, e2⟩ := fN_inv e
  unfold faCons at e1
  split at e1
  · rename_i d1 m1 ρ1 he
    split at e1
    · cases e1
    · rename_i hb
      split at e1
      · rename_i rs1 ρ2 he2
        cases e1
        obtain ⟨ds, rfl⟩ := hφ _ _ _ _ e2
        refine ⟨R, U, pn, ρ, _, _, _, I, he, fun v H1 U1 T p r => ⟨rp_tyList r.rp, _, _, _, _, _, _, p.sr, he2, fun vs H2 U2 S p2 r2 => ?_⟩⟩
        exact opn_run (q := q1 && q2) ho (p.trans p2) (VlL.cons (r.keep p2 (notB hb)) r2 p2.apart) e2 k v vs rfl
      · cases e1
  · cases e1
def pIndex : List PyData → Option PyData
  | [.list ds, d] => if (okN 9 d && ds.all (okN 9)) = true then match ds.findIdx? (fun z => PyData.eqv z d) with
    | some j => some (.int (j : Nat))
    | none => none
    else none
  | _ => none
theorem opn_index : OpN K (nM (rIndexD K)) (fI pIndex) := opn_imm fun H vs ds d Q hr he hq x xs e => by
  subst e
  unfold pIndex at he
  split at he
  · split at he
    · rename_i hc
      rw [Bool.and_eq_true] at hc
      split at he
      · rename_i j hj
        cases he
        obtain ⟨hlt, hp, hn⟩ := List.findIdx?_eq_some_iff_getElem.mp hj
        cases hr with
        | cons r1 r2 => cases r2 with
          | cons r2 r3 =>
            cases r3
            have h3 : okN 10 (.list _) = true := hc.2
            cases r1 with
            | lst hs hl =>
              refine ⟨_, _, _, _, j, _, rfl, rfl, (Rp.lst hs hl).dp h3, r2.dp hc.1, okN_shaped (by decide) h3, okN_shaped (by decide) hc.1, List.getElem?_eq_getElem hlt, hp, fun m z' hm hz' => ?_, hq _ fun _ => .int _⟩
              obtain ⟨h4, rfl⟩ := List.getElem?_eq_some_iff.mp hz'
              simpa using hn m hm
      · cases he
    · cases he
  · cases he
theorem de_index {fa : FA} {apos : Pos} (hu : X.A.units + 65 < cLine) (ha : DE X q1 a f) (hes : DA X q2 (e :: es) fa)
    (hbase : attributeBase a "index" X.env (eval a X.env) = eval a X.env := by rfl)
    (hfew : ((backTo pos (starEach (e :: es) X.env)).all (fun x => !x.1) && (backToKw pos (keywordEach [] X.env)).all (fun x => x.1.isSome)
      && decide ((e :: es).length + ([] : List Keyword).length + (if ([] : List Keyword).isEmpty then 0 else 1) < 30)) = true := by rfl)
    (hline : (apos.endLine == pos.line) = true := by rfl) (hs : starEach (e :: es) X.env = (false, eval e X.env) :: starEach es X.env := by rfl) (hplain : (backTo pos (starEach es X.env)).any (·.1) = false := by rfl) :
    DE X (q1 && q2) (.Call (.Attribute a "index" apos) (e :: es) [] pos) (fN (faCons q2 f fa) (fI pIndex)) :=
  L2.PE.weak (pe_bm PySem.F.plainAttrs_list PySem.F.slot_list_index PySem.F.type_list_index (mt_indexD hu) ha hes hbase hfew hline hs hplain) (bm_run opn_index fun d m rs o h => by
    unfold fI pIndex at h
    split at h
    · rename_i he
      split at he
      · rename_i ds d2 hd
        simp at hd
        exact ⟨ds, hd.1⟩
      · cases he
    · cases h)
/-! ### sorted(set(ints)) -/
def insU (x : Int) : List Int → List Int
  | [] => [x]
  | y :: r => if x < y then x :: y :: r else if x = y then y :: r else y :: insU x r
def sortU (ns : List Int) : List Int := ns.foldr insU []
theorem mem_insU {x z : Int} : ∀ {l : List Int}, z ∈ insU x l ↔ z = x ∨ z ∈ l
  | [] => by simp [insU]
  | y :: r => by
    unfold insU
    split
    · simp
    · split
      · rename_i h; subst h; simp
      · rw [List.mem_cons, mem_insU, List.mem_cons]
        constructor
        · rintro (h | h | h) <;> simp [h]
        · rintro (h | h | h) <;> simp [h]
theorem insU_lt {x : Int} : ∀ {l : List Int}, l.Pairwise (· < ·) → (insU x l).Pairwise (· < ·)
  | [], _ => by simp [insU]
  | y :: r, h => by
    obtain ⟨h1, h2⟩ := List.pairwise_cons.mp h
    unfold insU
    split
    · rename_i hx
      refine List.pairwise_cons.mpr ⟨fun z hz => ?_, h⟩
      rcases List.mem_cons.mp hz with rfl | hz
      · exact hx
      · exact Int.lt_trans hx (h1 z hz)
    · split
      · exact h
      · rename_i h3 h4
        refine List.pairwise_cons.mpr ⟨fun z hz => ?_, insU_lt h2⟩
        rcases mem_insU.mp hz with rfl | hz
        · omega
        · exact h1 z hz
theorem sortU_lt : ∀ (ns : List Int), (sortU ns).Pairwise (· < ·)
  | [] => by simp [sortU]
  | n :: ns => insU_lt (sortU_lt ns)
theorem mem_sortU {z : Int} : ∀ {ns : List Int}, z ∈ sortU ns ↔ z ∈ ns
  | [] => by simp [sortU]
  | n :: ns => by
    show z ∈ insU n (sortU ns) ↔ _
    rw [mem_insU, mem_sortU, List.mem_cons]
theorem lt_uniq : ∀ {l k : List Int}, l.Pairwise (· < ·) → k.Pairwise (· < ·) → (∀ z, z ∈ l ↔ z ∈ k) → l = k
  | [], [], _, _, _ => rfl
  | [], y :: r, _, _, h => by have := (h y).mpr List.mem_cons_self; cases this
  | x :: r, [], _, _, h => by have := (h x).mp List.mem_cons_self; cases this
  | x :: r, y :: s, h1, h2, h => by
    obtain ⟨a1, a2⟩ := List.pairwise_cons.mp h1
    obtain ⟨b1, b2⟩ := List.pairwise_cons.mp h2
    have hx : x = y := by
      rcases List.mem_cons.mp ((h x).mp List.mem_cons_self) with e | e
      · exact e
      · rcases List.mem_cons.mp ((h y).mpr List.mem_cons_self) with e' | e'
        · exact e'.symm
        · have := b1 x e; have := a1 y e'; omega
    subst hx
    congr 1
    refine lt_uniq a2 b2 fun z => ?_
    constructor
    · intro hz
      rcases List.mem_cons.mp ((h z).mp (List.mem_cons_of_mem _ hz)) with e | e
      · subst e; have := a1 z hz; omega
      · exact e
    · intro hz
      rcases List.mem_cons.mp ((h z).mpr (List.mem_cons_of_mem _ hz)) with e | e
      · subst e; have := b1 z hz; omega
      · exact e
def rSetLI (K : PySem.W.Frag) (w : World) : List V → Hp → VK → Prop := fun vs H Q => ∃ (l : Addr) (ns : List Int), vs = [.ref l] ∧ SqL K H l (ns.map V.int) ∧ ns.length < 64 ∧ ∀ q c, H q = none → c ≤ ns.length → Q (.ref q) (upd H q (SetO w q (fun j => decide (j ∈ ns)) c))
theorem cr_setLI (hc : X.calm = true) : CallR X (.type "set") (rSetLI X.K X.w) := by
  intro pins s σ H xs us Q I r h
  obtain ⟨l, ns, rfl, hq, hl, q1⟩ := h
  rw [Vals.ref1 r]
  obtain ⟨its, r, pl, hz⟩ := I.list hq
  refine set_listI ns (I.ok.hd hc) pl.isList (by simpa using RZ.intsAre_vals r) (by unfold scanBound; omega) fun h' tk c hS hc' hk => ?_
  exact ⟨.ref _, _, I.laid (t' := tk) (fun b u e => hk b u e) (Nat.le_refl _) (setO_new hS), rfl, q1 _ c (I.hok.fresh (Nat.le_refl _)) hc'⟩
def φSortU : List (PyData × Md) → Option (PyData × Md)
  | [(.list ds, m)] => if m.fl = true ∧ ds.length < 64 then match intsD ds with
    | some ns => some (.list ((sortU ns).map .int), .F 1)
    | none => none
    else none
  | _ => none
def rSortU (K : PySem.W.Frag) : List V → Hp → VK → Prop := fun vs H Q => ∃ (l : Addr) (ns : List Int), vs = [.ref l] ∧ SqL K H l (ns.map V.int) ∧ ns.length < 64 ∧ ∀ q o p, H q = none → mu o = false → upd H q o p = none → Q (.ref p) (upd (upd H q o) p (.lst ((sortU ns).map V.int)))
theorem opn_sortU : OpN K (rSortU K) φSortU := by
  intro U H vs rs T d k Q hU h1 hT he hq
  unfold φSortU at he
  split at he
  · split at he
    · rename_i hm
      split at he
      · rename_i ns hns
        cases he
        obtain ⟨x', rfl, h2⟩ := h1.one_inv
        obtain ⟨l, xs, rfl, hp, rp⟩ := h2.flat hT (fun _ z => z) hm.1
        have hx := intsD_rp hns rp
        subst hx
        have hlen := rpL_len rp
        rw [List.length_map] at hlen
        refine ⟨l, ns, rfl, hp, by omega, fun q o p hn ho hp2 => ?_⟩
        have hpq : H p = none := by
          cases hH : H p with
          | none => rfl
          | some u => rw [same_new hn p u hH] at hp2; cases hp2
        have hU' : ∀ a, U a → Dm (upd H q o) a := fun a h => (hU a h).mono (same_new hn)
        refine hq _ _ [p] ((same_new hn).trans (same_new hp2)) (new_far hU hpq) (new_new hpq) (vl_list hp2 ?_)
        have : ∀ l : List Int, RpL K (DL.sub (upd H q o) U) (l.map V.int) (l.map PyData.int) := fun l => by
          induction l with
          | nil => exact .nil
          | cons i l ih => exact .cons (.int i) ih
        exact this _
      · cases he
    · cases he
  · cases he
theorem boot_set : bootBuiltins "set" = some (.type "set") := by decide +kernel
theorem de_sortedSet {p1 p2 pos2 : Pos} (hc : X.calm = true) (ha : DE X q a f) (hg : Gl X "sorted") (hm : X.mg "sorted" = none) (hg2 : Gl X "set") (hm2 : X.mg "set" = none)
    (s1 : starEach [Expr.Call (.Name "set" p2) [a] [] pos2] X.env = (false, eval (.Call (.Name "set" p2) [a] [] pos2) X.env) :: starEach [] X.env := by rfl) (s2 : starEach [a] X.env = (false, eval a X.env) :: starEach [] X.env := by rfl)
    (l1 : (backTo pos (starEach [] X.env)).any (·.1) = false := by rfl) (l2 : (backTo pos2 (starEach [] X.env)).any (·.1) = false := by rfl) :
    DE X q (.Call (.Name "sorted" p1) [.Call (.Name "set" p2) [a] [] pos2] [] pos) (fU f φSortU) :=
  L2.PE.weak (pe_callB (cr_sortedSet hc) hg hm PyProof.Rows.boot_sorted (pa_cons (pe_callTy (cr_setLI hc) hg2 hm2 boot_set (pa_cons ha pa_nil s2) (by decide) (by decide) s2 l2) pa_nil s1) (by decide) (by decide) s1 l1) fun σ H Q z => by
  obtain ⟨R, U, pn, ρ, d, m, ρ', I, e, k⟩ := z
  obtain ⟨rs, e1, e2⟩ := fN_inv e
  unfold faCons at e1
  split at e1
  · rename_i d1 m1 ρ1 h1
    split at e1
    · cases e1
    · cases e1
      refine ⟨R, U, pn, ρ, _, _, _, I, h1, fun v H1 U1 T1 p r => ?_⟩
      obtain ⟨l, ns, e3, hq, hl, hk⟩ := opn_run opn_sortU p (VlL.one r) e2 k
      cases e3
      refine ⟨l, ns, rfl, hq, hl, fun q c hn hc' => ?_⟩
      refine ⟨q, _, c, rfl, by rw [upd_same], by omega, fun ms p hms hmem hlen hp => ?_⟩
      have : ms = sortU ns := lt_uniq hms (sortU_lt ns) fun z => by rw [hmem z, mem_sortU]; simp
      subst this
      exact hk q _ p hn rfl hp
  · cases e1
end
end DL

end
section
set_option maxHeartbeats 1000000
namespace DL
open PySem PySem.Spec L2
section
variable {X : Cx} {K : PySem.W.Frag} {R U U' : Rg} {H H' G : Hp} {v x y : V} {d : PyData} {ds : List PyData} {vs xs : List V} {m n : Md} {T S : List Addr} {e a b c : Expr} {es rest : List Expr} {q q1 q2 q3 : Bool} {pos : Pos} {f g h : FE} {t u : FT} {ρ ρ' : Rho} {σ : L2.St} {pn : List (Nat × V)} {io js ks : List Nat} {st : Stmt} {fs : FS}
/-! ### an owned slot from now on shared -/
def frz (i : Nat) (ρ : Rho) : Rho := match ρ[i]? with
  | some (.ow _ d) => ρ.set i (.sh d)
  | _ => ρ
theorem set_same : ∀ {l : List (Option V)} {i : Nat} {x : Option V}, l[i]? = some x → l.set i x = l
  | [], _, _, _ => rfl
  | y :: r, 0, x, h => by simp at h; subst h; rfl
  | y :: r, i + 1, x, h => by
    show y :: r.set i x = y :: r
    rw [set_same (l := r) (by simpa using h)]
theorem SR.frz (I : SR K R U pn ρ σ H) (i : Nat) : ∃ U', SR K R U' pn (DL.frz i ρ) σ H ∧ Fr R U H U' H := by
  unfold DL.frz
  split
  · rename_i k d h
    obtain ⟨ow, L⟩ := I.lay
    obtain ⟨x, hx, ho⟩ := (L.at_ i _ h).of_ow
    obtain ⟨hl, _, hp⟩ := I
    have hT : ∀ a ∈ ow i, ¬ R a := L.far i
    have inU : ∀ a, (R a ∨ ∃ j, a ∈ if j = i then [] else ow j) → U a := fun a h => by
      rcases h with h | ⟨j, h⟩
      · exact (L.all a).mpr (.inl h)
      · split at h
        · cases h
        · exact (L.all a).mpr (.inr ⟨j, h⟩)
    have nz : ∀ a ∈ ow i, ¬ (R a ∨ ∃ j, a ∈ if j = i then [] else ow j) := fun a ha z => by
      rcases z with z | ⟨j, z⟩
      · exact hT a ha z
      · split at z
        · cases z
        · rename_i hj; exact L.two i j a (Ne.symm hj) ha z
    have ss : Same (DL.sub H U) (DL.sub H fun a => R a ∨ ∃ j, a ∈ if j = i then [] else ow j) := fun a o e => let ⟨n, e⟩ := of_sub e; sub_at (fun z => n (inU a z)) e
    refine ⟨fun a => R a ∨ ∃ j, a ∈ if j = i then [] else ow j, ⟨by simpa using hl, ⟨fun j => if j = i then [] else ow j, fun a => Iff.rfl, fun j a h => ?_, fun j k a hjk h1 h2 => ?_, fun j s h => ?_, fun j h => ?_, L.dom⟩, hp⟩, fun a o e => ⟨fun r => ⟨e, .inl r⟩, fun n => ⟨e, fun z => n (inU a z)⟩⟩⟩
    · split at h
      · cases h
      · exact L.far j a h
    · split at h1
      · cases h1
      · split at h2
        · cases h2
        · exact L.two j k a hjk h1 h2
    · by_cases hj : j = i
      · subst hj
        rw [if_pos rfl]
        rw [List.getElem?_set_self (List.getElem?_eq_some_iff.mp ‹ρ[j]? = _›).1] at h
        cases h
        exact .sh hx (Own.rp ss (fun a ha o e => sub_at (nz a ha) e) ho)
      · rw [if_neg hj]
        rw [List.getElem?_set_ne (Ne.symm hj)] at h
        exact (L.at_ j s h).mono ss fun _ _ _ z => z
    · by_cases hj : j = i
      · rw [if_pos hj]
      · rw [if_neg hj]
        rw [List.getElem?_set_ne (Ne.symm hj)] at h
        exact L.out j h
  · exact ⟨U, I, I.frefl⟩
def fFrz (i : Nat) (fs : FS) : FS := fun ρ => fs (frz i ρ)
theorem ds_frz (i : Nat) (h : DS X io st fs) : DS X io st (fFrz i fs) := L2.PS.weak h fun D σ H z => by
  obtain ⟨R, U, pn, ρ, out, ρ', I, hp, e, k⟩ := z
  obtain ⟨U', I', fr⟩ := I.frz i
  exact ⟨R, U', pn, _, out, ρ', I', hp, e, k.later fr⟩
/-- an owned slot is given away -/
def fMv (i : Nat) : FE := fun ρ => match ρ[i]? with
  | some (.ow n d) => some (d, .F n, ρ.set i .no)
  | some (.sh d) => some (d, .S, ρ)
  | _ => none
theorem SR.mv {i n : Nat} (I : SR K R U pn ρ σ H) (h : ρ[i]? = some (.ow n d)) : ∃ x T, σ[i]? = some (some x) ∧ SR K (plus R T) U pn (ρ.set i .no) σ H ∧ (∀ a ∈ T, ¬ R a) ∧ Own K (DL.sub H U) H n x d T := by
  obtain ⟨hl, ⟨ow, L⟩, hp⟩ := I
  obtain ⟨x, hx, ho⟩ := (L.at_ i _ h).of_ow
  refine ⟨x, ow i, hx, ⟨by simpa using hl, ⟨fun j => if j = i then [] else ow j, fun a => ?_, fun j a h z => ?_, fun j k a hjk h1 h2 => ?_, fun j s h => ?_, fun j h => ?_, fun a h => ?_⟩, hp⟩, L.far i, ho⟩
  · constructor
    · intro w
      rcases (L.all a).mp w with w | ⟨j, w⟩
      · exact .inl (.inl w)
      · by_cases hj : j = i
        · subst hj; exact .inl (.inr w)
        · exact .inr ⟨j, by rw [if_neg hj]; exact w⟩
    · rintro ((h | h) | ⟨j, h⟩)
      · exact (L.all a).mpr (.inl h)
      · exact (L.all a).mpr (.inr ⟨i, h⟩)
      · split at h
        · cases h
        · exact (L.all a).mpr (.inr ⟨j, h⟩)
  · split at h
    · cases h
    · rename_i hj
      exact z.elim (L.far j a h) (L.two j i a hj h)
  · split at h1
    · cases h1
    · split at h2
      · cases h2
      · exact L.two j k a hjk h1 h2
  · by_cases hj : j = i
    · subst hj
      rw [List.getElem?_set_self (List.getElem?_eq_some_iff.mp ‹ρ[j]? = _›).1] at h
      cases h
      rw [if_pos rfl]
      exact .no
    · rw [if_neg hj]
      rw [List.getElem?_set_ne (Ne.symm hj)] at h
      exact L.at_ j s h
  · by_cases hj : j = i
    · rw [if_pos hj]
    · rw [if_neg hj]
      rw [List.getElem?_set_ne (Ne.symm hj)] at h
      exact L.out j h
  · rcases h with h | h
    · exact L.dom a h
    · exact L.domM a ((L.all a).mpr (.inr ⟨i, h⟩))
theorem de_mv (i : Nat) {x : Str} (hN : X.N[i]? = some x := by rfl) (hv : Vis X.env.scope x := by first | exact Or.inl rfl | exact Or.inr (Or.inl rfl) | exact Or.inr (Or.inr rfl)) (hd : (x == ("__debug__" : Str)) = false := by decide)
    (hcd : (x == ("__classdict__" : Str)) = false := by decide) : DE X true (.Name x pos) (fMv i) := by
  refine L2.PE.weak (pe_var hN hv hd hcd) fun σ H Q z => ?_
  obtain ⟨R, U, pn, ρ, d, m, ρ', I, e, q⟩ := z
  unfold fMv at e
  split at e
  · rename_i n d' h
    cases e
    obtain ⟨x, T, hx, I', hT, ho⟩ := I.mv h
    exact ⟨x, hx, q x H U T ⟨I', hT, I.frefl, fun _ _ _ z => z⟩ ho⟩
  · rename_i d' h
    cases e
    obtain ⟨ow, L⟩ := I.lay
    obtain ⟨x, hv, hr⟩ := (L.at_ i _ h).of_sh
    exact ⟨_, hv, q _ H U [] (.refl I) ⟨rfl, hr⟩⟩
  · cases e
/-! ### (t1, t2, ..) = (e1, e2, ..), the tuple in between not told -/
theorem ps_unt {tgs : List Expr} {ta : TA} {gg : TGs} {n : Nat} {kt k2 : Nat} {pt pt2 : Pos} (hc : X.calm = true) (ha : PA X es ta) (hg : PGs X tgs gg) (hl : n ≤ 100)
    (hw : swappedStores [.Tuple tgs kt pt] (.Tuple es k2 pt2) X.env = pure none) (hs : swapsWithSole [.Tuple tgs kt pt] (.Tuple es k2 pt2) pos.line X.env = pure false := by rfl)
    (h1 : (assignEach [.Tuple tgs kt pt] X.env).map (·.2) = [assign (.Tuple tgs kt pt) X.env] := by rfl) (hn : (assignEach tgs X.env).length = n := by rfl) (hst : (assignEach tgs X.env).findIdx? (·.1) = none := by rfl) :
    PS X (.Assign [.Tuple tgs kt pt] (.Tuple es k2 pt2) pos) (fun D σ H => ta σ H fun vs H1 => vs.length = n ∧ gg vs σ H1 D.nx) := by
  refine ⟨fun pins s σ H D I h => ?_⟩
  refine wpAny_Assign_stores (PyProof.Rows.Tuple_ (thn (ha.run _ pins s σ H _ I h) fun us s1 ⟨vs, H1, I1, r1, hlen, q1⟩ => ?_)) hs hw
  have hus : us.length = n := by rw [← r1.length]; exact hlen
  refine wpAny_newObj_type ?_ (by show us.toArray.size ≤ sizeLine; rw [List.size_toArray, hus, sizeLine_eq]; omega)
  rw [h1]
  have I2 : Inv X pins σ H1 { s1 with heap := s1.heap.push { cls := .type "tuple", data := .seq us.toArray } } := I1.kept (t' := s1.toks) fun b o e => Heap.get?_push_of_some _ e
  show wpAny _ _ (assign (.Tuple tgs kt pt) X.env (.ref s1.heap.objs.size)) _ _ _
  refine PyProof.Rows.assign_Tuple_tuple (items := us.toArray) (I.ok.hd hc) (PyProof.Rows.IsTup.new s1.heap _) (by rw [hn, List.size_toArray, hus]) hst fun h' hx => ?_
  have I3 := I2.kept (h' := h') (t' := s1.toks) fun b o e => hx b o (Nat.ne_of_lt (Heap.lt_size e)) e
  exact thn (hg.run pins _ σ H1 vs us _ I3 (by simpa using r1) q1) fun _ s4 q => q
theorem ds_unt {tgs : List Expr} {fa : FA} {hh : FGs} {n : Nat} {kt k2 : Nat} {pt pt2 : Pos} (hc : X.calm = true) (ha : DA X q es fa) (hlen : FaLen fa n) (hg : DGs X io js tgs hh) (hl : n ≤ 100 := by decide)
    (hw : swappedStores [.Tuple tgs kt pt] (.Tuple es k2 pt2) X.env = pure none := by rfl) (hs : swapsWithSole [.Tuple tgs kt pt] (.Tuple es k2 pt2) pos.line X.env = pure false := by rfl)
    (h1 : (assignEach [.Tuple tgs kt pt] X.env).map (·.2) = [assign (.Tuple tgs kt pt) X.env] := by rfl) (hn : (assignEach tgs X.env).length = n := by rfl) (hst : (assignEach tgs X.env).findIdx? (·.1) = none := by rfl) :
    DS X io (.Assign [.Tuple tgs kt pt] (.Tuple es k2 pt2) pos) (fAsgs fa hh) := L2.PS.weak (ps_unt hc ha hg hl hw hs h1 hn hst) fun D σ H z => by
  obtain ⟨R, U, pn, ρ, rs, ρ', I, e1, k⟩ := asgs_run (q := q) (js := js) D σ H z
  exact ⟨R, U, pn, ρ, rs, ρ', I, e1, fun vs H' U' T p r => ⟨by rw [vlL_len r, hlen _ _ _ e1], k vs H' U' T p r⟩⟩
/-! ### slots that stay -/
def Pur (f : FE) : Prop := ∀ ρ d m ρ', f ρ = some (d, m, ρ') → ρ' = ρ
def PurA (f : FA) : Prop := ∀ ρ r ρ', f ρ = some (r, ρ') → ρ' = ρ
theorem pur_var {i : Nat} : Pur (fVar i) := fun ρ d m ρ' h => by
  unfold fVar at h
  split at h
  · cases h; rfl
  · cases h; rfl
  · cases h
theorem pur_c : Pur (fC d) := fun ρ d m ρ' h => by cases h; rfl
theorem purA_nil : PurA faNil := fun ρ r ρ' h => by cases h; rfl
theorem purA_cons {fa : FA} (h1 : Pur f) (h2 : PurA fa) : PurA (faCons q f fa) := fun ρ r ρ' h => by
  unfold faCons at h
  split at h
  · rename_i d m ρ1 e1
    split at h
    · cases h
    · split at h
      · rename_i rs ρ2 e2
        cases h
        rw [h2 _ _ _ e2, h1 _ _ _ _ e1]
      · cases h
  · cases h
theorem pur_fN {fa : FA} {φ : List (PyData × Md) → Option (PyData × Md)} (h : PurA fa) : Pur (fN fa φ) := fun ρ d m ρ' e => by
  obtain ⟨rs, e1, _⟩ := fN_inv e
  exact h _ _ _ e1
/-! ### constants -/
theorem de_globE {x : Str} {v : V} {d : PyData} (hg : Gl X x) (hm : ∃ u, X.mg x = some u ∧ RelV v u) (rp : ∀ G, Rp X.K G v d) (hd : (x == ("__debug__" : Str)) = false := by decide) : DE X true (.Name x pos) (fC d) := by
  obtain ⟨u, h1, h2⟩ := hm
  exact de_glob hg h1 h2 rp hd
/-! ### list(range(..)) -/
def okR (a b : Int) : Bool := inR a && inR b && decide ((b - a).toNat ≤ 1048576)
def φRg1 : List (PyData × Md) → Option (PyData × Md)
  | [(.int b, _)] => if okR 0 b = true then some (.list (rangeD 0 b.toNat), .F 1) else none
  | _ => none
def φRg2 : List (PyData × Md) → Option (PyData × Md)
  | [(.int a, _), (.int b, _)] => if okR a b = true then some (.list (rangeD a (b - a).toNat), .F 1) else none
  | _ => none
theorem rpL_rg {G : Hp} (a b : Int) : RpL K G (rgV a b) (rangeD a (b - a).toNat) := by
  unfold rgV rangeD
  generalize List.range (b - a).toNat = l
  induction l with
  | nil => exact .nil
  | cons i l ih => exact .cons (.int _) ih
theorem okR_inv {a b : Int} (h : okR a b = true) : RgOk a b := by
  unfold okR at h
  rw [Bool.and_eq_true, Bool.and_eq_true] at h
  have h3 := of_decide_eq_true h.2
  exact ⟨(inR_ok h.1.1).1, (inR_ok h.1.1).2, (inR_ok h.1.2).1, (inR_ok h.1.2).2, by omega⟩
theorem opn_rg1 : OpN K (fun vs H Q => ∃ b : Int, vs = [.int b] ∧ RgOk 0 b ∧ ∀ q, H q = none → Q (.ref q) (upd H q (.lst (rgV 0 b)))) φRg1 := by
  intro U H vs rs T d k Q hU h1 hT he hq
  unfold φRg1 at he
  split at he
  · split at he
    · rename_i b _ hok
      cases he
      obtain ⟨x', rfl, h2⟩ := h1.one_inv
      refine ⟨b, by rw [h2.intV], okR_inv hok, fun q hn => hq _ _ [q] (same_new hn) (new_far hU hn) (new_new hn) ?_⟩
      have := rpL_rg (K := K) (G := DL.sub H U) 0 b
      rw [Int.sub_zero] at this
      exact vl_list hn this
    · cases he
  · cases he
theorem opn_rg2 : OpN K (fun vs H Q => ∃ a b : Int, vs = [.int a, .int b] ∧ RgOk a b ∧ ∀ q, H q = none → Q (.ref q) (upd H q (.lst (rgV a b)))) φRg2 := by
  intro U H vs rs T d k Q hU h1 hT he hq
  unfold φRg2 at he
  split at he
  · split at he
    · rename_i a _ b _ hok
      cases he
      obtain ⟨x, y, rfl⟩ : ∃ x y, vs = [x, y] := by
        have := vlL_len h1
        match vs, this with
        | [x, y], _ => exact ⟨x, y, rfl⟩
      obtain ⟨T1, T2, rfl, r1, r2⟩ := h1.two
      refine ⟨a, b, by rw [r1.intV, r2.intV], okR_inv hok, fun q hn => hq _ _ [q] (same_new hn) (new_far hU hn) (new_new hn) ?_⟩
      exact vl_list hn (rpL_rg a b)
    · cases he
  · cases he
theorem de_listR1 {p p2 pos2 : Pos} (hc : X.calm = true) (ha : DE X q a f) (hg : Gl X "list") (hm : X.mg "list" = none) (hg2 : Gl X "range") (hm2 : X.mg "range" = none) (na : starEach [a] X.env = (false, eval a X.env) :: starEach [] X.env := by rfl)
    (nb : starEach [Expr.Call (.Name "range" p2) [a] [] pos2] X.env = (false, eval (.Call (.Name "range" p2) [a] [] pos2) X.env) :: starEach [] X.env := by rfl) : DE X q (.Call (.Name "list" p) [.Call (.Name "range" p2) [a] [] pos2] [] pos) (fU f φRg1) := L2.PE.weak (pe_listRg hc hg hm (prg_1 hg2 hm2 ha na) nb) fun σ H Q z => by
  obtain ⟨R, U, pn, ρ, d, m, ρ', I, e, k⟩ := z
  obtain ⟨rs, e1, e2⟩ := fN_inv e
  unfold faCons at e1
  split at e1
  · rename_i d1 m1 ρ1 h1
    split at e1
    · cases e1
    · cases e1
      refine ⟨R, U, pn, ρ, _, _, _, I, h1, fun v H1 U1 T1 p r => ?_⟩
      obtain ⟨b, e3, hok, hk⟩ := opn_run opn_rg1 p (VlL.one r) e2 k
      cases e3
      exact ⟨b, rfl, hok, hk⟩
  · cases e1
theorem de_listR2 {p p2 pos2 : Pos} (hc : X.calm = true) (ha : DE X q1 a f) (hb : DE X q2 b g) (hg : Gl X "list") (hm : X.mg "list" = none) (hg2 : Gl X "range") (hm2 : X.mg "range" = none) (na : starEach [a, b] X.env = (false, eval a X.env) :: starEach [b] X.env := by rfl)
    (nb : starEach [b] X.env = (false, eval b X.env) :: starEach [] X.env := by rfl) (hp : (backTo pos2 (starEach [b] X.env)).any (·.1) = false := by rfl)
    (nc : starEach [Expr.Call (.Name "range" p2) [a, b] [] pos2] X.env = (false, eval (.Call (.Name "range" p2) [a, b] [] pos2) X.env) :: starEach [] X.env := by rfl) : DE X (q1 && q2) (.Call (.Name "list" p) [.Call (.Name "range" p2) [a, b] [] pos2] [] pos) (f2 q2 f g φRg2) := L2.PE.weak (pe_listRg hc hg hm (prg_2 hg2 hm2 ha hb na nb hp) nc) fun σ H Q z => by
  have := top_run (q1 := q1) (q2 := q2) (f := f) (g := g) (r := fun x y H Q => ∃ a b : Int, x = .int a ∧ y = .int b ∧ RgOk a b ∧ ∀ q, H q = none → Q (.ref q) (upd H q (.lst (rgV a b)))) (φ := φRg2) (K := X.K) (fun U H vs rs T d k Q hU h1 hT he hq x y e => by
    obtain ⟨a, b, e3, hok, hk⟩ := opn_rg2 U H vs rs T d k Q hU h1 hT he hq
    rw [e] at e3
    cases e3
    exact ⟨a, b, rfl, rfl, hok, hk⟩) σ H Q z
  exact this
theorem hu65 {k : Nat} {A : Around} (r : Room k A) : A.units + 65 < cLine := by have := r.un; omega
theorem di_argsF {fa : FA} {κ : List (PyData × Md) → Option (List PyData)} {C : List V → Hp → (It → Hp → Prop) → Prop} {iter tg : Expr} (hi : DA X q es fa → PI X tg iter (fun σ H R => tDA X.K q fa σ H fun vs H1 => C vs H1 R)) (ok : IOk X.K C κ) (h : DA X q es fa) : DI X q tg iter (iA fa κ) := di_args h (hi h) ok
end
end DL

end
section
set_option maxHeartbeats 1000000
namespace DL
open PySem PySem.Spec L2
/-- the law's own start -/
theorem start_law {K : PySem.W.Frag} {H : Hp} {a : Addr} {ns : List Int} {G : FF} {E : XK} (hS : SqL K H a (ns.map V.int)) (h : ∃ m ρb, G [.sh (.list (ns.map .int))] = some (.bool true, m, ρb)) : spD K 1 G [.ref a] H (fun v _ => v = .bl true) E := by
  obtain ⟨m, ρb, h⟩ := h
  have r : ∀ l : List Int, RpL K (DL.sub H emp) (l.map V.int) (l.map PyData.int) := fun l => by
    induction l with
    | nil => exact .nil
    | cons i l ih => exact .cons (.int i) ih
  have I := sr_args (K := K) (H := H) (U := emp) (fun _ z => z.elim) (.cons (Rp.lst (same_l sub_emp hS) (r ns)) .nil)
  exact ⟨emp, emp, _, _, m, ρb, rfl, I, h, fun v H' U' T I' hT fr r => r.boolV⟩
theorem ixN0 {n : Nat} : ixN (n + 1) 0 = some 0 := by simp [ixN] <;> omega
theorem ixN1 {n : Nat} : ixN (n + 2) 1 = some 1 := by simp [ixN] <;> omega
theorem ixN2 {n : Nat} : ixN (n + 3) 2 = some 2 := by simp [ixN] <;> omega
theorem ixN3 {n : Nat} : ixN (n + 4) 3 = some 3 := by simp [ixN] <;> omega
theorem at0 {α : Type} {x : α} {r : List α} : atI (x :: r) 0 = some x := by simp [atI, ixN0]
theorem at1 {α : Type} {x y : α} {r : List α} : atI (x :: y :: r) 1 = some y := by simp [atI, ixN1]
theorem at2 {α : Type} {x y z : α} {r : List α} : atI (x :: y :: z :: r) 2 = some z := by simp [atI, ixN2]
theorem at3 {α : Type} {x y z w : α} {r : List α} : atI (x :: y :: z :: w :: r) 3 = some w := by simp [atI, ixN3]
theorem ixN_nat {n k : Nat} (h : k < n) : ixN n (k : Int) = some k := by
  have h1 : (0 : Int) ≤ (k : Int) := by omega
  have h2 : (k : Int) < (n : Int) := by omega
  simp [ixN, h]
theorem at_nat {α : Type} {xs : List α} {k : Nat} {x : α} (h : xs[k]? = some x) : atI xs (k : Int) = some x := by
  unfold atI
  rw [ixN_nat (List.getElem?_eq_some_iff.mp h).1]
  exact h
theorem mulI {a b : Int} {m n : Md} (h : a.natAbs.log2 + b.natAbs.log2 < 1000000) : φMul [(.int a, m), (.int b, n)] = some (.int (a * b), .S) := by
  simp [φMul, h]
theorem lg {x : Int} {n : Nat} (h0 : 0 < n) (h1 : -(2 ^ n) < x) (h2 : x < 2 ^ n) : x.natAbs.log2 < n := by
  refine PySem.Flt.log2_lt_of h0 ?_
  have : ((2 ^ n : Nat) : Int) = 2 ^ n := by simp
  omega
theorem fm0 {a b : Int} (h : 0 < b) : 0 ≤ a.fmod b ∧ a.fmod b < b := ⟨Int.fmod_nonneg_of_pos _ h, Int.fmod_lt_of_pos _ h⟩
end DL

end
section
set_option maxHeartbeats 1000000
namespace DL
open PySem PySem.Spec L2
/-! ### loops, comprehensions: plain laws -/
def lcStep (g : FG) (t : FT) (f : FE) (ks : List Nat) (d : PyData) (ρ : Rho) : Option (Option PyData × Rho) := match g d .S ρ with
  | some ρ1 => match t ρ1 with
    | some (true, ρ2) => match f ρ2 with
      | some (e, m, ρ3) => if m.b = true then none else some (some e, wipeR ks ρ3)
      | none => none
    | some (false, ρ2) => some (none, wipeR ks ρ2)
    | none => none
  | none => none
theorem lc_cons {g : FG} {t : FT} {f : FE} {ks : List Nat} {d : PyData} {ds : List PyData} {ρ : Rho} : fLc g t f ks (d :: ds) ρ = match lcStep g t f ks d ρ with
    | some (some e, ρ1) => match fLc g t f ks ds ρ1 with
      | some (r, ρ2) => some (e :: r, ρ2)
      | none => none
    | some (none, ρ1) => fLc g t f ks ds ρ1
    | none => none := by
  rw [fLc, lcStep]
  cases h1 : g d .S ρ with
  | none => rfl
  | some ρ1 =>
    simp only []
    cases h2 : t ρ1 with
    | none => rfl
    | some z =>
      obtain ⟨b, ρ2⟩ := z
      cases b with
      | false => rfl
      | true =>
        simp only []
        cases h3 : f ρ2 with
        | none => rfl
        | some w =>
          obtain ⟨e, m, ρ3⟩ := w
          simp only []
          by_cases hm : m.b = true
          · simp only [if_pos hm]
            first | done | rfl
          · simp only [if_neg hm]
            first | done | rfl | (cases fLc g t f ks ds (wipeR ks ρ3) <;> rfl)
/-- each item by itself -/
theorem lc_fil {α : Type} {g : FG} {t : FT} {f : FE} {ks : List Nat} {ρ : Rho} (enc : α → PyData) (p : α → Bool) (h : α → PyData) : ∀ (xs : List α), (∀ x ∈ xs, lcStep g t f ks (enc x) ρ = some (if p x then some (h x) else none, ρ)) → fLc g t f ks (xs.map enc) ρ = some ((xs.filter p).map h, ρ)
  | [], _ => rfl
  | x :: xs, H => by
    rw [List.map_cons, lc_cons, H x List.mem_cons_self, List.filter_cons]
    have ih := lc_fil enc p h xs fun y hy => H y (List.mem_cons_of_mem _ hy)
    cases hp : p x with
    | true => simp [ih]
    | false => simp [ih]
theorem lc_map {α : Type} {g : FG} {t : FT} {f : FE} {ks : List Nat} {ρ : Rho} (enc : α → PyData) (h : α → PyData) (xs : List α) (H : ∀ x ∈ xs, lcStep g t f ks (enc x) ρ = some (some (h x), ρ)) : fLc g t f ks (xs.map enc) ρ = some (xs.map h, ρ) := by
  have := lc_fil enc (fun _ => true) h xs (fun x hx => by rw [H x hx]; rfl)
  rw [this, List.filter_eq_self.mpr fun _ _ => rfl]
/-- items by an invariant: what comes is told by a relation -/
theorem lc_inv {g : FG} {t : FT} {f : FE} {ks : List Nat} (I : Nat → Rho → List PyData → Prop) : ∀ (ds : List PyData) (k : Nat) (ρ : Rho) (acc : List PyData), I k ρ acc → (∀ i ρ acc d, I i ρ acc → k ≤ i → ds[i - k]? = some d → ∃ e ρ', lcStep g t f ks d ρ = some (some e, ρ') ∧ I (i + 1) ρ' (acc ++ [e])) → ∃ r ρ', fLc g t f ks ds ρ = some (r, ρ') ∧ I (k + ds.length) ρ' (acc ++ r)
  | [], k, ρ, acc, h, _ => ⟨[], ρ, rfl, by simpa using h⟩
  | d :: ds, k, ρ, acc, h, H => by
    obtain ⟨e, ρ1, h1, h2⟩ := H k ρ acc d h (Nat.le_refl _) (by simp)
    obtain ⟨r, ρ2, h3, h4⟩ := lc_inv I ds (k + 1) ρ1 (acc ++ [e]) h2 fun i ρ acc d' hI hk hd => H i ρ acc d' hI (by omega) (by
      have : i - k = (i - (k + 1)) + 1 := by omega
      rw [this]; simpa using hd)
    refine ⟨e :: r, ρ2, by rw [lc_cons, h1]; simp [h3], ?_⟩
    rw [List.length_cons, List.append_assoc] at *
    have : k + (ds.length + 1) = k + 1 + ds.length := by omega
    rw [this]
    simpa using h4
/-- one turn of a for loop that goes on -/
def forStep (g : FG) (f : FS) (d : PyData) (ρ : Rho) : Option (Out × Rho) := match g d .S ρ with
  | some ρ1 => match f ρ1 with
    | some (.ct, ρ2) => some (.nx, ρ2)
    | r => r
  | none => none
theorem for_cons {g : FG} {f : FS} {d : PyData} {ds : List PyData} {ρ : Rho} : fFor g f (d :: ds) ρ = match forStep g f d ρ with
    | some (.nx, ρ1) => fFor g f ds ρ1
    | some (.bk, ρ1) => some (.nx, ρ1)
    | r => r := by
  rw [fFor, forStep]
  cases h1 : g d .S ρ with
  | none => rfl
  | some ρ1 =>
    simp only []
    cases h2 : f ρ1 with
    | none => rfl
    | some z =>
      obtain ⟨o, ρ2⟩ := z
      cases o <;> rfl
theorem for_inv {g : FG} {f : FS} (I : Nat → Rho → Prop) : ∀ (ds : List PyData) (k : Nat) (ρ : Rho), I k ρ → (∀ i ρ d, I i ρ → k ≤ i → ds[i - k]? = some d → ∃ ρ', forStep g f d ρ = some (.nx, ρ') ∧ I (i + 1) ρ') → ∃ ρ', fFor g f ds ρ = some (.nx, ρ') ∧ I (k + ds.length) ρ'
  | [], k, ρ, h, _ => ⟨ρ, rfl, by simpa using h⟩
  | d :: ds, k, ρ, h, H => by
    obtain ⟨ρ1, h1, h2⟩ := H k ρ d h (Nat.le_refl _) (by simp)
    obtain ⟨ρ2, h3, h4⟩ := for_inv I ds (k + 1) ρ1 h2 fun i ρ d' hI hk hd => H i ρ d' hI (by omega) (by
      have : i - k = (i - (k + 1)) + 1 := by omega
      rw [this]; simpa using hd)
    refine ⟨ρ2, by rw [for_cons, h1]; exact h3, ?_⟩
    rw [List.length_cons]
    have : k + (ds.length + 1) = k + 1 + ds.length := by omega
    rw [this]
    exact h4
theorem for_fold {α σ : Type} {g : FG} {f : FS} (enc : α → PyData) (st : σ → Rho) (step : σ → α → σ) : ∀ (xs : List α) (s : σ), (∀ x ∈ xs, ∀ s, forStep g f (enc x) (st s) = some (.nx, st (step s x))) → fFor g f (xs.map enc) (st s) = some (.nx, st (xs.foldl step s))
  | [], s, _ => rfl
  | x :: xs, s, H => by
    rw [List.map_cons, for_cons, H x List.mem_cons_self s]
    exact for_fold enc st step xs (step s x) fun y hy => H y (List.mem_cons_of_mem _ hy)
theorem for_stay {α : Type} {g : FG} {f : FS} {ρ : Rho} (enc : α → PyData) (P : Rho → Prop) (xs : List α) (h0 : P ρ) (H : ∀ x ∈ xs, ∀ ρ, P ρ → ∃ ρ', forStep g f (enc x) ρ = some (.nx, ρ') ∧ P ρ') : ∃ ρ', fFor g f (xs.map enc) ρ = some (.nx, ρ') ∧ P ρ' := by
  obtain ⟨ρ', h1, h2⟩ := for_inv (g := g) (f := f) (fun _ ρ => P ρ) (xs.map enc) 0 ρ h0 fun i ρ d hP _ hd => by
    rw [List.getElem?_map] at hd
    cases hx : xs[i - 0]? with
    | none => rw [hx] at hd; cases hd
    | some x =>
      rw [hx] at hd
      cases hd
      exact H x (List.mem_of_getElem? hx) ρ hP
  exact ⟨ρ', h1, h2⟩
/-- the length of a list of small length is small -/
theorem pAll_map {α : Type} (p : α → Bool) (xs : List α) : pAll [.list (xs.map fun x => .bool (p x))] = some (.bool (xs.all p)) := by
  have : boolsD (xs.map fun x => PyData.bool (p x)) = some (xs.map p) := by
    have := boolsD_map (xs.map p)
    rwa [List.map_map] at this
  simp [pAll, this]
theorem pAny_map {α : Type} (p : α → Bool) (xs : List α) : pAny [.list (xs.map fun x => .bool (p x))] = some (.bool (xs.any p)) := by
  have : boolsD (xs.map fun x => PyData.bool (p x)) = some (xs.map p) := by
    have := boolsD_map (xs.map p)
    rwa [List.map_map] at this
  simp [pAny, this]
theorem intsD_of {α : Type} (p : α → Int) : ∀ (xs : List α), intsD (xs.map fun x => .int (p x)) = some (xs.map p)
  | [] => rfl
  | x :: xs => by simp [intsD, intsD_of p xs]
theorem lim100 {n : Nat} (h : n ≤ 100) : n ≤ LIM := by unfold LIM; omega
theorem seq_nx {f g : FS} {ρ ρ1 : Rho} (h : f ρ = some (.nx, ρ1)) : fSeq f g ρ = g ρ1 := by simp [fSeq, h]
theorem seq_rt {f g : FS} {ρ ρ1 : Rho} {d : PyData} {m : Md} (h : f ρ = some (.rt d m, ρ1)) : fSeq f g ρ = some (.rt d m, ρ1) := by simp [fSeq, h]
theorem inR_nat {n : Nat} (h : n ≤ LIM) : inR (n : Nat) = true := decide_eq_true (by unfold LIM at h; omega)
theorem kR1 {n : Nat} {m : Md} (h : n ≤ LIM) : κR1 [(.int (n : Nat), m)] = some (rangeD 0 n) := by
  simp only [κR1, inR_nat h, if_true, Int.toNat_natCast]
theorem kR1i {i : Int} {m : Md} (h0 : 0 ≤ i) (h : i ≤ (LIM : Nat)) : κR1 [(.int i, m)] = some (rangeD 0 i.toNat) := by
  have g : inR i = true := decide_eq_true (by unfold LIM at h; omega)
  simp only [κR1, g, if_true]
theorem iA_r1 {ρ : Rho} {n i : Nat} (hn : n ≤ LIM) (h0 : ρ[i]? = some (.sh (.int (n : Nat)))) : iA (faCons true (fVar i) faNil) κR1 ρ = some (rangeD 0 n, ρ) := by
  simp [iA, faCons, fVar, h0, faNil, Md.b, kR1 hn]
theorem comp_run {it : FI} {g : FG} {t : FT} {e : FE} {ks : List Nat} {ρ ρ1 ρw : Rho} {ds r : List PyData} (hi : it ρ = some (ds, ρ1)) (hl : ds.length ≤ LIM) (hw : wipeR ks ρ1 = ρw) (hw2 : wipeR ks ρw = ρw) (h : fLc g t e ks ds ρw = some (r, ρw)) : fComp it g t e ks ρ = some (.list r, .F 1, ρw) := by
  simp only [fComp, hi, hl, if_true, hw, h, hw2]
end DL

end
section
set_option maxHeartbeats 4000000
namespace K77
open PySem PySem.Spec L2 DL
def topS (i : Nat) : Stmt := PySem.Challenge.pw_holesheldopen_k77_whole_clocks_by_bounds.main.body.getD i (.Pass ⟨0, 0, 0, 0⟩)
abbrev s_is_int : Stmt := topS 5
theorem sc_is_int : FnScope ["value", "low", "high"] ["value", "low", "high"] (defScope s_is_int) := ⟨rfl, rfl, rfl, by decide +kernel, rfl, by decide +kernel, by decide +kernel⟩
abbrev s_are_ints : Stmt := topS 6
theorem sc_are_ints : FnScope ["value", "low", "high", "one"] ["value", "low", "high"] (defScope s_are_ints) := ⟨rfl, rfl, rfl, by decide +kernel, rfl, by decide +kernel, by decide +kernel⟩
abbrev s_is_told : Stmt := topS 7
theorem sc_is_told : FnScope ["value", "sizes"] ["value", "sizes"] (defScope s_is_told) := ⟨rfl, rfl, rfl, by decide +kernel, rfl, by decide +kernel, by decide +kernel⟩
abbrev s_look_at_letters_back : Stmt := topS 17
theorem sc_look_at_letters_back : FnScope ["exchanges", "times"] ["exchanges"] (defScope s_look_at_letters_back) := ⟨rfl, rfl, rfl, by decide +kernel, rfl, by decide +kernel, by decide +kernel⟩
abbrev s_told_between : Stmt := topS 18
theorem sc_told_between : FnScope ["times", "sent", "got_there", "sent_back", "got_back"] ["times"] (defScope s_told_between) := ⟨rfl, rfl, rfl, by decide +kernel, rfl, by decide +kernel, by decide +kernel⟩
abbrev s_told_apart : Stmt := topS 19
theorem sc_told_apart : FnScope ["some", "low", "high", "one"] ["some"] (defScope s_told_apart) := ⟨rfl, rfl, rfl, by decide +kernel, rfl, by decide +kernel, by decide +kernel⟩
abbrev s_clocks_apart : Stmt := topS 20
theorem sc_clocks_apart : FnScope ["exchanges", "times"] ["exchanges"] (defScope s_clocks_apart) := ⟨rfl, rfl, rfl, by decide +kernel, rfl, by decide +kernel, by decide +kernel⟩
abbrev s_look_at_spans : Stmt := topS 21
theorem sc_look_at_spans : FnScope ["spans", "span"] ["spans"] (defScope s_look_at_spans) := ⟨rfl, rfl, rfl, by decide +kernel, rfl, by decide +kernel, by decide +kernel⟩
abbrev s_most_agree : Stmt := topS 22
theorem sc_most_agree : FnScope ["spans", "best", "low", "some", "span"] ["spans"] (defScope s_most_agree) := ⟨rfl, rfl, rfl, by decide +kernel, rfl, by decide +kernel, by decide +kernel⟩
abbrev s_told_points : Stmt := topS 23
theorem sc_told_points : FnScope ["spans", "points", "lone", "high", "low", "at", "span"] ["spans"] (defScope s_told_points) := ⟨rfl, rfl, rfl, by decide +kernel, rfl, by decide +kernel, by decide +kernel⟩
abbrev s_fewest_numbers : Stmt := topS 24
theorem sc_fewest_numbers : FnScope ["spans"] ["spans"] (defScope s_fewest_numbers) := ⟨rfl, rfl, rfl, by decide +kernel, rfl, by decide +kernel, by decide +kernel⟩
abbrev s_look_at_bounds : Stmt := topS 25
theorem sc_look_at_bounds : FnScope ["many", "bounds", "bound"] ["many", "bounds"] (defScope s_look_at_bounds) := ⟨rfl, rfl, rfl, by decide +kernel, rfl, by decide +kernel, by decide +kernel⟩
abbrev s_told_clocks : Stmt := topS 26
theorem sc_told_clocks : FnScope ["many", "bounds", "shown", "ahead", "last", "lap", "at", "one", "other", "most", "ring", "here"] ["many", "bounds"] (defScope s_told_clocks) := ⟨rfl, rfl, rfl, by decide +kernel, rfl, by decide +kernel, by decide +kernel⟩
abbrev s_clocks_for : Stmt := topS 27
theorem sc_clocks_for : FnScope ["many", "bounds"] ["many", "bounds"] (defScope s_clocks_for) := ⟨rfl, rfl, rfl, by decide +kernel, rfl, by decide +kernel, by decide +kernel⟩
abbrev s_shows_clocks_for : Stmt := topS 28
theorem sc_shows_clocks_for : FnScope ["many", "bounds", "value", "some", "one", "other", "most", "at", "bound"] ["many", "bounds", "value"] (defScope s_shows_clocks_for) := ⟨rfl, rfl, rfl, by decide +kernel, rfl, by decide +kernel, by decide +kernel⟩
abbrev s__law_pot : Stmt := topS 30
theorem sc__law_pot : FnScope ["script", "place", "cell", "own", "small"] ["script", "place"] (defScope s__law_pot) := ⟨rfl, rfl, rfl, by decide +kernel, rfl, by decide +kernel, by decide +kernel⟩
abbrev s__law_take : Stmt := topS 31
theorem sc__law_take : FnScope ["pot", "upto", "digit", "prime", "blend"] ["pot", "upto"] (defScope s__law_take) := ⟨rfl, rfl, rfl, by decide +kernel, rfl, by decide +kernel, by decide +kernel⟩
abbrev s__law_of : Stmt := topS 32
theorem sc__law_of : FnScope ["pot", "some"] ["pot", "some"] (defScope s__law_of) := ⟨rfl, rfl, rfl, by decide +kernel, rfl, by decide +kernel, by decide +kernel⟩
abbrev s__law_cells : Stmt := topS 33
theorem sc__law_cells : FnScope ["script", "most"] ["script", "most"] (defScope s__law_cells) := ⟨rfl, rfl, rfl, by decide +kernel, rfl, by decide +kernel, by decide +kernel⟩
abbrev s__law_some : Stmt := topS 34
theorem sc__law_some : FnScope ["pot", "pool", "many", "rests", "found", "lap"] ["pot", "pool", "many"] (defScope s__law_some) := ⟨rfl, rfl, rfl, by decide +kernel, rfl, by decide +kernel, by decide +kernel⟩
abbrev s__law_letters_drawn : Stmt := topS 35
theorem sc__law_letters_drawn : FnScope ["pot", "upto", "ahead", "found", "lap", "sent", "there", "back"] ["pot"] (defScope s__law_letters_drawn) := ⟨rfl, rfl, rfl, by decide +kernel, rfl, by decide +kernel, by decide +kernel⟩
abbrev s__law_are_letters_right : Stmt := topS 36
theorem sc__law_are_letters_right : FnScope ["letters", "told", "bounds", "sent", "there", "back", "home", "by_bounds", "shown", "ahead", "words", "one", "other", "word"] ["letters"] (defScope s__law_are_letters_right) := ⟨rfl, rfl, rfl, by decide +kernel, rfl, by decide +kernel, by decide +kernel⟩
abbrev s__law_are_spans_right : Stmt := topS 37
theorem sc__law_are_spans_right : FnScope ["pot", "spans", "lap", "low", "most", "first", "last", "points", "lone", "more", "number", "one"] ["pot"] (defScope s__law_are_spans_right) := ⟨rfl, rfl, rfl, by decide +kernel, rfl, by decide +kernel, by decide +kernel⟩
abbrev s__law_are_bounds_right : Stmt := topS 38
theorem sc__law_are_bounds_right : FnScope ["pot", "many", "bounds", "shown", "lap", "one", "other", "told", "on", "turned", "back", "negative", "some", "clocks", "order", "ring", "word", "found", "clock", "end", "most", "at", "bound"] ["pot"] (defScope s__law_are_bounds_right) := ⟨rfl, rfl, rfl, by decide +kernel, rfl, by decide +kernel, by decide +kernel⟩
abbrev s__law_right : Stmt := topS 39
theorem sc__law_right : FnScope ["pot", "lap"] ["pot"] (defScope s__law_right) := ⟨rfl, rfl, rfl, by decide +kernel, rfl, by decide +kernel, by decide +kernel⟩
abbrev s_law : Stmt := topS 40
theorem sc_law : FnScope ["script", "at"] ["script"] (defScope s_law) := ⟨rfl, rfl, rfl, by decide +kernel, rfl, by decide +kernel, by decide +kernel⟩

def m_is_int : FS :=
  (fRet (vAnd (fIsi "int" (fVar 0)) (vAnd (vNot (fIsi "bool" (fVar 0))) (fChain true (fVar 1) (fVar 0) (fVar 2) (fI (ii gLe)) (fI (ii gLe))))))
def F_is_int : FF := runFn [] 3 m_is_int

def m_are_ints_e1 : FE := (fSh (fN (faCons true (fVar 3) (faCons true (fVar 1) (faCons true (fVar 2) faNil))) (φCall F_is_int)))
def m_are_ints_c1 : FE := (fComp (iSeq (fSh (fVar 0))) (gS 3) ftYes m_are_ints_e1 [3])
def m_are_ints : FS :=
  (fRet (vAnd (fIsi "tuple" (fVar 0)) (fN (faCons true m_are_ints_c1 faNil) (fI pAll))))
def F_are_ints : FF := runFn [] 4 m_are_ints


def m_is_told : FS :=
  (fRet (vAnd (fIsi "tuple" (fVar 0)) (vAnd (f2 true (fN (faCons true (fVar 0) faNil) (fI pLen)) (fVar 1) (fI (pIn false))) (fIsi "str" (f2 true (fVar 0) (fC (.int 0)) fIx)))))
def F_is_told : FF := runFn [] 2 m_is_told

def m_look_at_letters_back_b1 : FS := (fIf (fOr (fNot (fT (fN (faCons true (fVar 1) (faCons true (fSh (fU (fC (.int 1000000000000)) (fI pNeg))) (faCons true (fC (.int 1000000000000)) faNil))) (φCall F_are_ints)))) (fT (f2 true (fN (faCons true (fVar 1) faNil) (fI pLen)) (f2 true (fC (.int 3)) (fC (.int 1)) φAdd) (fI pNe)))) fBad fNop)
def m_look_at_letters_back_g1 : FG := (gS 1)
def m_look_at_letters_back_s1 : FS := (fIf (fOr (fNot (fT (fIsi "tuple" (fVar 0)))) (fNot (fT (fChain true (fC (.int 1)) (fN (faCons true (fVar 0) faNil) (fI pLen)) (fC (.int 200)) (fI (ii gLe)) (fI (ii gLe)))))) fBad fNop)
def m_look_at_letters_back_s2 : FS := (fForS (iSeq (fSh (fVar 0))) m_look_at_letters_back_g1 m_look_at_letters_back_b1)
def m_look_at_letters_back : FS :=
  (fSeq m_look_at_letters_back_s1
  m_look_at_letters_back_s2)
def F_look_at_letters_back : FF := runFn [] 2 m_look_at_letters_back

def m_told_between_s1 : FS := (fAsg (fVar 0) (gT 4 (gsCons (gS 1) (gsCons (gS 2) (gsCons (gS 3) (gsCons (gS 4) gsNil))))))
def m_told_between_s2 : FS := (fRet (fN (faCons true (f2 true (fVar 3) (fVar 4) (fI (ii gSub))) (faCons true (f2 true (fVar 2) (fVar 1) (fI (ii gSub))) faNil)) φTup))
def m_told_between : FS :=
  (fSeq m_told_between_s1
  m_told_between_s2)
def F_told_between : FF := runFn [] 5 m_told_between

def m_told_apart_e1 : FE := (fSh (f2 true (fVar 3) (fC (.int 0)) fIx))
def m_told_apart_c1 : FE := (fComp (iSeq (fSh (fVar 0))) (gS 3) ftYes m_told_apart_e1 [3])
def m_told_apart_e2 : FE := (fSh (f2 true (fVar 3) (fC (.int 1)) fIx))
def m_told_apart_c2 : FE := (fComp (iSeq (fSh (fVar 0))) (gS 3) ftYes m_told_apart_e2 [3])
def m_told_apart_e3 : FE := (fSh (f2 true (fVar 3) (fC (.int 1)) fIx))
def m_told_apart_c3 : FE := (fComp (iSeq (fSh (fVar 0))) (gS 3) ftYes m_told_apart_e3 [3])
def m_told_apart_e4 : FE := (fSh (f2 true (fVar 3) (fC (.int 0)) fIx))
def m_told_apart_c4 : FE := (fComp (iSeq (fSh (fVar 0))) (gS 3) ftYes m_told_apart_e4 [3])
def m_told_apart_s1 : FS := (fAsg (fN (faCons true m_told_apart_c1 faNil) (fI (pMM maxP))) (gS 1))
def m_told_apart_s2 : FS := (fAsg (fN (faCons true m_told_apart_c2 faNil) (fI (pMM minP))) (gS 2))
def m_told_apart_s3 : FS := (fIf (fT (f2 true (fVar 1) (fVar 2) (fI (ii gLe)))) (fRet (fN (faCons true (fC (.str ("apart" : Str))) (faCons true (fVar 1) (faCons true (fVar 2) faNil))) φTup)) fNop)
def m_told_apart_s4 : FS := (fRet (fN (faCons true (fC (.str ("never" : Str))) (faCons true (fN (faCons true m_told_apart_c4 (faCons true (fVar 1) faNil)) (fI pIndex)) (faCons true (fN (faCons true m_told_apart_c3 (faCons true (fVar 2) faNil)) (fI pIndex)) faNil))) φTup))
def m_told_apart : FS :=
  (fSeq m_told_apart_s1
  (fSeq m_told_apart_s2
  (fSeq m_told_apart_s3
  m_told_apart_s4)))
def F_told_apart : FF := runFn [] 4 m_told_apart

def m_clocks_apart_e1 : FE := (fSh (fN (faCons true (fVar 1) faNil) (φCall F_told_between)))
def m_clocks_apart_c1 : FE := (fComp (iSeq (fSh (fVar 0))) (gS 1) ftYes m_clocks_apart_e1 [1])
def m_clocks_apart_s1 : FS := (fExpr (fN (faCons true (fVar 0) faNil) (φCall F_look_at_letters_back)))
def m_clocks_apart_s2 : FS := (fRet (fN (faCons true (fSh m_clocks_apart_c1) faNil) (φCall F_told_apart)))
def m_clocks_apart : FS :=
  (fSeq m_clocks_apart_s1
  m_clocks_apart_s2)
def F_clocks_apart : FF := runFn [] 2 m_clocks_apart

def m_look_at_spans_b1 : FS := (fIf (fOr (fNot (fT (fN (faCons true (fVar 1) (faCons true (fSh (fU (fC (.int 1000000000000)) (fI pNeg))) (faCons true (fC (.int 1000000000000)) faNil))) (φCall F_are_ints)))) (fOr (fT (f2 true (fN (faCons true (fVar 1) faNil) (fI pLen)) (fC (.int 2)) (fI pNe))) (fT (f2 true (f2 true (fVar 1) (fC (.int 0)) fIx) (f2 true (fVar 1) (fC (.int 1)) fIx) (fI (ii gGt)))))) fBad fNop)
def m_look_at_spans_g1 : FG := (gS 1)
def m_look_at_spans_s1 : FS := (fIf (fOr (fNot (fT (fIsi "tuple" (fVar 0)))) (fNot (fT (fChain true (fC (.int 1)) (fN (faCons true (fVar 0) faNil) (fI pLen)) (fC (.int 200)) (fI (ii gLe)) (fI (ii gLe)))))) fBad fNop)
def m_look_at_spans_s2 : FS := (fForS (iSeq (fSh (fVar 0))) m_look_at_spans_g1 m_look_at_spans_b1)
def m_look_at_spans : FS :=
  (fSeq m_look_at_spans_s1
  m_look_at_spans_s2)
def F_look_at_spans : FF := runFn [] 2 m_look_at_spans

def m_most_agree_e1 : FE := (fSh (f2 true (fVar 4) (fC (.int 0)) fIx))
def m_most_agree_c1 : FE := (fComp (iSeq (fSh (fVar 0))) (gS 4) ftYes m_most_agree_e1 [4])
def m_most_agree_t1 : FT := (fT (fChain true (f2 true (fVar 4) (fC (.int 0)) fIx) (fVar 2) (f2 true (fVar 4) (fC (.int 1)) fIx) (fI (ii gLe)) (fI (ii gLe))))
def m_most_agree_e2 : FE := (fSh (fVar 4))
def m_most_agree_c2 : FE := (fComp (iSeq (fSh (fVar 0))) (gS 4) m_most_agree_t1 m_most_agree_e2 [4])
def m_most_agree_e3 : FE := (fSh (f2 true (fVar 4) (fC (.int 1)) fIx))
def m_most_agree_c3 : FE := (fComp (iSeq (fSh (fVar 3))) (gS 4) ftYes m_most_agree_e3 [4])
def m_most_agree_s1 : FS := (fAsg m_most_agree_c2 (gS 3))
def m_most_agree_s2 : FS := (fIf (fT (f2 true (fN (faCons true (fVar 3) faNil) (fI pLen)) (f2 true (fVar 1) (fC (.int 0)) fIx) (fI (ii gGt)))) (fAsg (fN (faCons true (fN (faCons true (fVar 3) faNil) (fI pLen)) (faCons true (fVar 2) (faCons true (fN (faCons true m_most_agree_c3 faNil) (fI (pMM minP))) faNil))) φTup) (gS 1)) fNop)
def m_most_agree_b1 : FS := (fSeq m_most_agree_s1
  m_most_agree_s2)
def m_most_agree_g1 : FG := (gS 2)
def m_most_agree_s3 : FS := (fExpr (fN (faCons true (fVar 0) faNil) (φCall F_look_at_spans)))
def m_most_agree_s4 : FS := (fAsg (fN (faCons true (fC (.int 0)) (faCons true (fC (.int 0)) (faCons true (fC (.int 0)) faNil))) φTup) (gS 1))
def m_most_agree_s5 : FS := (fForS (iSeq (fSh (fU m_most_agree_c1 φSortU))) m_most_agree_g1 m_most_agree_b1)
def m_most_agree_s6 : FS := (fRet (fVar 1))
def m_most_agree : FS :=
  (fSeq m_most_agree_s3
  (fSeq m_most_agree_s4
  (fSeq m_most_agree_s5
  m_most_agree_s6)))
def F_most_agree : FF := runFn [] 5 m_most_agree

def m_told_points_e1 : FE := (fSh (fN (faCons true (f2 true (fVar 6) (fC (.int 1)) fIx) (faCons true (f2 true (fVar 6) (fC (.int 0)) fIx) (faCons true (fVar 5) faNil))) φTup))
def m_told_points_c1 : FE := (fComp (iA (faCons true (fSh (fVar 0)) faNil) κEnumT) (gT 2 (gsCons (gS 5) (gsCons (gS 6) gsNil))) ftYes m_told_points_e1 [5, 6])
def m_told_points_s1 : FS := (fExpr (fCallX (fxOwn 1 (fxVal (fSh (fVar 3)) fxNil)) gApp))
def m_told_points_s2 : FS := (fExpr (fCallX (fxOwn 2 (fxVal (fSh (fVar 5)) fxNil)) gApp))
def m_told_points_b1 : FS := (fIf (fOr (fT (f2 true (fVar 1) (fN faNil φLst) (fI pEq))) (fT (f2 true (f2 true (fVar 1) (fU (fC (.int 1)) (fI pNeg)) fIx) (fVar 4) (fI pLt)))) (fSeq m_told_points_s1
  m_told_points_s2) fNop)
def m_told_points_g1 : FG := (gT 3 (gsCons (gS 3) (gsCons (gS 4) (gsCons (gS 5) gsNil))))
def m_told_points_s3 : FS := (fAsgs (faCons true (fN faNil φLst) (faCons true (fN faNil φLst) faNil)) (gsCons (gO 1) (gsCons (gO 2) gsNil)))
def m_told_points_s4 : FS := (fForS (iSeq (fSh (fN (faCons true m_told_points_c1 faNil) φSorted))) m_told_points_g1 m_told_points_b1)
def m_told_points_s5 : FS := (fRet (fN (faCons true (fN (faCons true (fVar 1) faNil) φTuple) (faCons true (fN (faCons true (fN (faCons true (fVar 2) faNil) φSorted) faNil) φTuple) faNil)) φTup))
def m_told_points : FS :=
  (fSeq m_told_points_s3
  (fSeq m_told_points_s4
  (fFrz 1 (fFrz 2 m_told_points_s5))))
def F_told_points : FF := runFn [] 7 m_told_points

def m_fewest_numbers_s1 : FS := (fExpr (fN (faCons true (fVar 0) faNil) (φCall F_look_at_spans)))
def m_fewest_numbers_s2 : FS := (fRet (fN (faCons true (fVar 0) faNil) (φCall F_told_points)))
def m_fewest_numbers : FS :=
  (fSeq m_fewest_numbers_s1
  m_fewest_numbers_s2)
def F_fewest_numbers : FF := runFn [] 1 m_fewest_numbers

def m_look_at_bounds_s1 : FS := (fIf (fOr (fNot (fT (fN (faCons true (fVar 2) (faCons true (fSh (fU (fC (.int 1000000000000)) (fI pNeg))) (faCons true (fC (.int 1000000000000)) faNil))) (φCall F_are_ints)))) (fT (f2 true (fN (faCons true (fVar 2) faNil) (fI pLen)) (fC (.int 3)) (fI pNe)))) fBad fNop)
def m_look_at_bounds_s2 : FS := (fIf (fNot (fT (fN (faCons true (fSh (fSl (fVar 2) foN (foS (fC (.int 2))))) (faCons true (fSh (fC (.int 0))) (faCons true (fSh (f2 true (fVar 0) (fC (.int 1)) (fI (ii gSub)))) faNil))) (φCall F_are_ints)))) fBad fNop)
def m_look_at_bounds_b1 : FS := (fSeq m_look_at_bounds_s1
  m_look_at_bounds_s2)
def m_look_at_bounds_g1 : FG := (gS 2)
def m_look_at_bounds_s3 : FS := (fIf (fNot (fT (fN (faCons true (fVar 0) (faCons true (fSh (fC (.int 1))) (faCons true (fC (.int 30)) faNil))) (φCall F_is_int)))) fBad fNop)
def m_look_at_bounds_s4 : FS := (fIf (fOr (fNot (fT (fIsi "tuple" (fVar 1)))) (fT (f2 true (fN (faCons true (fVar 1) faNil) (fI pLen)) (fC (.int 200)) (fI (ii gGt))))) fBad fNop)
def m_look_at_bounds_s5 : FS := (fForS (iSeq (fSh (fVar 1))) m_look_at_bounds_g1 m_look_at_bounds_b1)
def m_look_at_bounds : FS :=
  (fSeq m_look_at_bounds_s3
  (fSeq m_look_at_bounds_s4
  m_look_at_bounds_s5))
def F_look_at_bounds : FF := runFn [] 3 m_look_at_bounds

def m_told_clocks_b1 : FS := (fIf (fT (f2 true (f2 true (f2 true (fVar 2) (fVar 7) fIx) (fVar 9) φAdd) (f2 true (fVar 2) (fVar 8) fIx) (fI pLt))) (fAsgs (faCons true (f2 true (f2 true (fVar 2) (fVar 7) fIx) (fVar 9) φAdd) (faCons true (fVar 6) (faCons true (fVar 8) faNil))) (gsCons (gSt 2 (fVar 8)) (gsCons (gSt 3 (fVar 8)) (gsCons (gS 4) gsNil)))) fNop)
def m_told_clocks_g1 : FG := (gT 2 (gsCons (gS 6) (gsCons (gT 3 (gsCons (gS 7) (gsCons (gS 8) (gsCons (gS 9) gsNil)))) gsNil)))
def m_told_clocks_s1 : FS := (fAsg (fC .none) (gS 4))
def m_told_clocks_s2 : FS := (fForS (iA (faCons true (fSh (fVar 1)) faNil) κEnumT) m_told_clocks_g1 m_told_clocks_b1)
def m_told_clocks_b2 : FS := (fSeq m_told_clocks_s1
  m_told_clocks_s2)
def m_told_clocks_g2 : FG := (gS 5)
def m_told_clocks_b3 : FS := (fAsg (f2 true (f2 true (fVar 1) (f2 true (fVar 3) (fVar 4) fIx) fIx) (fC (.int 0)) fIx) (gS 4))
def m_told_clocks_g3 : FG := (gS 5)
def m_told_clocks_s3 : FS := (fExpr (fCallX (fxOwn 10 (fxVal (fSh (f2 true (fVar 3) (fVar 11) fIx)) fxNil)) gApp))
def m_told_clocks_s4 : FS := (fAsg (f2 true (f2 true (fVar 1) (f2 true (fVar 3) (fVar 11) fIx) fIx) (fC (.int 0)) fIx) (gS 11))
def m_told_clocks_b4 : FS := (fSeq m_told_clocks_s3
  m_told_clocks_s4)
def m_told_clocks_w1 : FT := (fOr (fT (f2 true (fVar 10) (fN faNil φLst) (fI pEq))) (fT (f2 true (fVar 11) (fVar 4) (fI pNe))))
def m_told_clocks_s5 : FS := (fAsgs (faCons true (f2 true (fN (faCons true (fC (.int 0)) faNil) φLst) (fVar 0) φMul) (faCons true (f2 true (fN (faCons true (fC .none) faNil) φLst) (fVar 0) φMul) faNil)) (gsCons (gO 2) (gsCons (gO 3) gsNil)))
def m_told_clocks_s6 : FS := (fAsg (fC .none) (gS 4))
def m_told_clocks_s7 : FS := (fForS (iA (faCons true (fVar 0) faNil) κR1) m_told_clocks_g2 m_told_clocks_b2)
def m_told_clocks_s8 : FS := (fIf (fT (f2 true (fVar 4) (fC .none) (fI pIs))) (fRet (fN (faCons true (fC (.str ("clocks" : Str))) (faCons true (fN (faCons true (fVar 2) faNil) φTuple) faNil)) φTup)) fNop)
def m_told_clocks_s9 : FS := (fForS (iA (faCons true (fVar 0) faNil) κR1) m_told_clocks_g3 m_told_clocks_b3)
def m_told_clocks_s10 : FS := (fAsgs (faCons true (fN faNil φLst) (faCons true (fVar 4) faNil)) (gsCons (gO 10) (gsCons (gS 11) gsNil)))
def m_told_clocks_s11 : FS := (fWhile m_told_clocks_w1 m_told_clocks_b4 1000)
def m_told_clocks_s12 : FS := (fRet (fN (faCons true (fC (.str ("ring" : Str))) (faCons true (fN (faCons true (fU (fVar 10) φRev) faNil) φTuple) faNil)) φTup))
def m_told_clocks : FS :=
  (fSeq m_told_clocks_s5
  (fSeq m_told_clocks_s6
  (fSeq m_told_clocks_s7
  (fSeq (fFrz 2 (fFrz 3 m_told_clocks_s8))
  (fSeq m_told_clocks_s9
  (fSeq m_told_clocks_s10
  (fSeq m_told_clocks_s11
  (fFrz 10 m_told_clocks_s12))))))))
def F_told_clocks : FF := runFn [] 12 m_told_clocks

def m_clocks_for_s1 : FS := (fExpr (fN (faCons true (fVar 0) (faCons true (fVar 1) faNil)) (φCall F_look_at_bounds)))
def m_clocks_for_s2 : FS := (fRet (fN (faCons true (fVar 0) (faCons true (fVar 1) faNil)) (φCall F_told_clocks)))
def m_clocks_for : FS :=
  (fSeq m_clocks_for_s1
  m_clocks_for_s2)
def F_clocks_for : FF := runFn [] 2 m_clocks_for

def m_shows_clocks_for_e1 : FE := (fSh (f2 true (f2 true (f2 true (f2 true (fVar 2) (fC (.int 1)) fIx) (fVar 5) fIx) (f2 true (f2 true (fVar 2) (fC (.int 1)) fIx) (fVar 4) fIx) (fI (ii gSub))) (fVar 6) (fI (ii gLe))))
def m_shows_clocks_for_c1 : FE := (fComp (iSeq (fSh (fVar 1))) (gT 3 (gsCons (gS 4) (gsCons (gS 5) (gsCons (gS 6) gsNil)))) ftYes m_shows_clocks_for_e1 [4, 5, 6])
def m_shows_clocks_for_s1 : FS := (fIf (fOr (fNot (fT (fN (faCons true (fSh (f2 true (fVar 2) (fC (.int 1)) fIx)) (faCons true (fSh (f2 true (fU (fC (.int 200)) (fI pNeg)) (fC (.int 1000000000000)) φMul)) (faCons true (fSh (f2 true (fC (.int 200)) (fC (.int 1000000000000)) φMul)) faNil))) (φCall F_are_ints)))) (fT (f2 true (fN (faCons true (f2 true (fVar 2) (fC (.int 1)) fIx) faNil) (fI pLen)) (fVar 0) (fI pNe)))) (fRet (fC (.bool false))) fNop)
def m_shows_clocks_for_s2 : FS := (fRet (fN (faCons true m_shows_clocks_for_c1 faNil) (fI pAll)))
def m_shows_clocks_for_e2 : FE := (fSh (f2 true (fVar 1) (fVar 7) fIx))
def m_shows_clocks_for_c2 : FE := (fComp (iSeq (fSh (f2 true (fVar 2) (fC (.int 1)) fIx))) (gS 7) ftYes m_shows_clocks_for_e2 [7])
def m_shows_clocks_for_e3 : FE := (fSh (f2 true (f2 true (fVar 4) (fC (.int 1)) fIx) (f2 true (fVar 5) (fC (.int 0)) fIx) (fI pEq)))
def m_shows_clocks_for_c3 : FE := (fComp (iA (faCons true (fSh (fVar 3)) (faCons true (fSh (fN (faStar (fSh (fSl (fVar 3) (foS (fC (.int 1))) foN)) (faCons true (f2 true (fVar 3) (fC (.int 0)) fIx) faNil)) φLst)) faNil)) κZip) (gT 2 (gsCons (gS 4) (gsCons (gS 5) gsNil))) ftYes m_shows_clocks_for_e3 [4, 5])
def m_shows_clocks_for_e4 : FE := (fSh (f2 true (fVar 8) (fC (.int 2)) fIx))
def m_shows_clocks_for_c4 : FE := (fComp (iSeq (fSh (fVar 3))) (gS 8) ftYes m_shows_clocks_for_e4 [8])
def m_shows_clocks_for_s3 : FS := (fExpr (fN (faCons true (fVar 0) (faCons true (fVar 1) faNil)) (φCall F_look_at_bounds)))
def m_shows_clocks_for_s4 : FS := (fIf (fNot (fT (fN (faCons true (fVar 2) (faCons true (fSh (fN (faCons true (fC (.int 2)) faNil) φTup)) faNil)) (φCall F_is_told)))) (fRet (fC (.bool false))) fNop)
def m_shows_clocks_for_s5 : FS := (fIf (fT (f2 true (f2 true (fVar 2) (fC (.int 0)) fIx) (fC (.str ("clocks" : Str))) (fI pEq))) (fSeq m_shows_clocks_for_s1
  m_shows_clocks_for_s2) fNop)
def m_shows_clocks_for_s6 : FS := (fIf (fOr (fT (f2 true (f2 true (fVar 2) (fC (.int 0)) fIx) (fC (.str ("ring" : Str))) (fI pNe))) (fOr (fNot (fT (fN (faCons true (fSh (f2 true (fVar 2) (fC (.int 1)) fIx)) (faCons true (fSh (fC (.int 0))) (faCons true (fSh (f2 true (fN (faCons true (fVar 1) faNil) (fI pLen)) (fC (.int 1)) (fI (ii gSub)))) faNil))) (φCall F_are_ints)))) (fT (f2 true (f2 true (fVar 2) (fC (.int 1)) fIx) (fN faNil φTup) (fI pEq))))) (fRet (fC (.bool false))) fNop)
def m_shows_clocks_for_s7 : FS := (fAsg m_shows_clocks_for_c2 (gS 3))
def m_shows_clocks_for_s8 : FS := (fIf (fNot (fT (fN (faCons true m_shows_clocks_for_c3 faNil) (fI pAll)))) (fRet (fC (.bool false))) fNop)
def m_shows_clocks_for_s9 : FS := (fRet (f2 true (fN (faCons true m_shows_clocks_for_c4 faNil) (fI pSum)) (fC (.int 0)) (fI pLt)))
def m_shows_clocks_for : FS :=
  (fSeq m_shows_clocks_for_s3
  (fSeq m_shows_clocks_for_s4
  (fSeq m_shows_clocks_for_s5
  (fSeq m_shows_clocks_for_s6
  (fSeq m_shows_clocks_for_s7
  (fSeq m_shows_clocks_for_s8
  m_shows_clocks_for_s9))))))
def F_shows_clocks_for : FF := runFn [] 9 m_shows_clocks_for

def m__law_pot_s1 : FS := (fAsg (fIte (fT (f2 true (fVar 1) (fN (faCons true (fVar 0) faNil) (fI pLen)) (fI pLt))) (f2 true (fVar 0) (fVar 1) fIx) (f2 true (f2 true (f2 true (fN (faCons true (fN (faCons true (fSl (fVar 0) foN (foS (fC (.int 1)))) faNil) (fI pSum)) faNil) (fI pInt)) (fC (.int 1000231)) (fI (ii gMod))) (f2 true (fC (.int 6329)) (fVar 1) φMul) φAdd) (fC (.int 3793)) φAdd)) (gS 2))
def m__law_pot_s2 : FS := (fAsg (f2 true (f2 true (fN (faCons true (fN (faCons true (fVar 2) faNil) (fI pAbs)) faNil) (fI pInt)) (f2 true (f2 true (fC (.int 10)) (fC (.int 60)) (fI (ii gPowW))) (fC (.int 5)) (fI (ii gPowW))) (fI (ii gMod))) (fN (faCons true (f2 true (fN (faCons true (fVar 2) faNil) (fI pAbs)) (f2 true (fC (.int 10)) (fC (.int 18)) (fI (ii gPowW))) (fI (ii gGe))) faNil) (fI pInt)) φMul) (gS 3))
def m__law_pot_s3 : FS := (fAsg (f2 true (fN (faCons true (fVar 2) faNil) (fI pInt)) (fC (.int 2305843009213693951)) (fI (ii gMod))) (gS 4))
def m__law_pot_s4 : FS := (fRet (fN (faCons true (fVar 3) (faCons true (f2 true (fN (faCons true (f2 true (f2 true (f2 true (fVar 4) (fC (.int 91009)) φMul) (f2 true (f2 true (fC (.int 12653)) (fVar 1) φMul) (fVar 1) φMul) φAdd) (fC (.int 3301)) φAdd) faNil) (fI pInt)) (fC (.int 2305843009213693921)) (fI (ii gMod))) (faCons true (fC (.int 0)) faNil))) φLst))
def m__law_pot : FS :=
  (fSeq m__law_pot_s1
  (fSeq m__law_pot_s2
  (fSeq m__law_pot_s3
  m__law_pot_s4)))
def F__law_pot : FF := runFn [] 5 m__law_pot

def m__law_take_s1 : FS := (fAsg (f2 true (fN (faCons true (f2 true (fVar 0) (fC (.int 0)) fIx) faNil) (fI pInt)) (fVar 1) (fI (ii gMod))) (gS 2))
def m__law_take_s2 : FS := (fAsg (f2 true (f2 true (fVar 0) (fC (.int 0)) fIx) (fVar 1) (fI (ii gDiv))) (gSt 0 (fC (.int 0))))
def m__law_take_s3 : FS := (fRet (fVar 2))
def m__law_take_s4 : FS := (fIf (fT (f2 true (f2 true (fVar 0) (fC (.int 0)) fIx) (fC (.int 0)) (fI (ii gGt)))) (fSeq m__law_take_s1
  (fSeq m__law_take_s2
  m__law_take_s3)) fNop)
def m__law_take_s5 : FS := (fAsg (f2 true (f2 true (fVar 0) (fC (.int 2)) fIx) (fC (.int 1)) φAdd) (gSt 0 (fC (.int 2))))
def m__law_take_s6 : FS := (fAsg (f2 true (fN (faCons true (fC (.int 2147483647)) (faCons true (fC (.int 2147483629)) (faCons true (fC (.int 2147483587)) (faCons true (fC (.int 2147483579)) (faCons true (fC (.int 2147483563)) faNil))))) φLst) (f2 true (fN (faCons true (f2 true (fVar 0) (fC (.int 2)) fIx) faNil) (fI pInt)) (fC (.int 5)) (fI (ii gMod))) fIx) (gS 3))
def m__law_take_s7 : FS := (fAsg (f2 true (fN (faCons true (f2 true (fN (faCons true (f2 true (f2 true (f2 true (fVar 0) (fC (.int 1)) fIx) (f2 true (f2 true (fC (.int 101807)) (f2 true (fVar 0) (fC (.int 2)) fIx) φMul) (f2 true (fVar 0) (fC (.int 2)) fIx) φMul) φAdd) (fC (.int 3793)) φAdd) faNil) (fI pInt)) (fC (.int 3)) (fI (ii gPowW))) faNil) (fI pInt)) (fVar 3) (fI (ii gMod))) (gS 4))
def m__law_take_s8 : FS := (fAsg (f2 true (fN (faCons true (f2 true (fVar 4) (f2 true (f2 true (fN (faCons true (fVar 4) faNil) (fI pInt)) (fC (.int 13033)) (fI (ii gMod))) (f2 true (fC (.int 419)) (f2 true (fVar 0) (fC (.int 2)) fIx) φMul) φAdd) φMul) faNil) (fI pInt)) (fC (.int 2305843009213693907)) (fI (ii gMod))) (gS 4))
def m__law_take_s9 : FS := (fRet (f2 true (fN (faCons true (f2 true (fVar 4) (fC (.int 257)) (fI (ii gDiv))) faNil) (fI pInt)) (fVar 1) (fI (ii gMod))))
def m__law_take : FS :=
  (fSeq m__law_take_s4
  (fSeq m__law_take_s5
  (fSeq m__law_take_s6
  (fSeq m__law_take_s7
  (fSeq m__law_take_s8
  m__law_take_s9)))))
def F__law_take : FF := runFn [0] 5 m__law_take


def m__law_of : FS :=
  (fRet (f2 false (fVar 1) (fCallX (fxName 0 (fxVal (fSh (fN (faCons true (fVar 1) faNil) (fI pLen))) fxNil)) F__law_take) fIx))
def F__law_of : FF := runFn [0] 2 m__law_of


def m__law_cells : FS :=
  (fRet (fU (fN (faCons true (fC (.int 1)) (faCons true (fN (faCons true (fVar 1) (faCons true (fN (faCons true (fVar 0) faNil) (fI pLen)) faNil)) (fI (pMM minP))) faNil)) (fI (pMM maxP))) φRg1))
def F__law_cells : FF := runFn [] 2 m__law_cells

def m__law_some_b1 : FS := (fExpr (fCallX (fxOwn 4 (fxVal (fSh (fCallX (fxOwn 3 (fxVal (fSh (fCallX (fxName 0 (fxVal (fSh (fN (faCons true (fVar 3) faNil) (fI pLen))) fxNil)) F__law_take)) fxNil)) gPopAt)) fxNil)) gApp))
def m__law_some_g1 : FG := (gS 5)
def m__law_some_s1 : FS := (fAsgs (faCons true (fN (faCons true (fVar 1) faNil) φList) (faCons true (fN faNil φLst) faNil)) (gsCons (gO 3) (gsCons (gO 4) gsNil)))
def m__law_some_s2 : FS := (fForS (iA (faCons true (fVar 2) faNil) κR1) m__law_some_g1 m__law_some_b1)
def m__law_some_s3 : FS := (fRet (fVar 4))
def m__law_some : FS :=
  (fSeq m__law_some_s1
  (fSeq m__law_some_s2
  (fFrz 4 m__law_some_s3)))
def F__law_some : FF := runFn [0] 6 m__law_some

def m__law_letters_drawn_s1 : FS := (fAsg (fN (faCons true (fCallX (fxName 0 (fxVal (fSh (f2 true (fC (.int 10)) (fC (.int 6)) (fI (ii gPowW)))) fxNil)) F__law_take) faNil) (fI pInt)) (gS 5))
def m__law_letters_drawn_s2 : FS := (fAsg (f2 false (f2 false (f2 true (fVar 5) (fVar 2) φAdd) (fN (faCons true (fCallX (fxName 0 (fxName 1 fxNil)) F__law_take) faNil) (fI pInt)) φAdd) (f2 true (fN (faCons true (fCallX (fxName 0 (fxVal (fSh (fC (.int 4))) fxNil)) F__law_take) faNil) (fI pInt)) (fC (.int 3)) (fI (ii gDiv))) (fI (ii gSub))) (gS 6))
def m__law_letters_drawn_s3 : FS := (fAsg (f2 false (fVar 6) (fN (faCons true (fCallX (fxName 0 (fxVal (fSh (fC (.int 99))) fxNil)) F__law_take) faNil) (fI pInt)) φAdd) (gS 7))
def m__law_letters_drawn_s4 : FS := (fExpr (fCallX (fxOwn 3 (fxVal (fSh (fN (faCons false (fVar 5) (faCons false (fVar 6) (faCons false (fVar 7) (faCons true (f2 false (f2 true (fVar 7) (fVar 2) (fI (ii gSub))) (fN (faCons true (fCallX (fxName 0 (fxName 1 fxNil)) F__law_take) faNil) (fI pInt)) φAdd) faNil)))) φTup)) fxNil)) gApp))
def m__law_letters_drawn_b1 : FS := (fSeq m__law_letters_drawn_s1
  (fSeq m__law_letters_drawn_s2
  (fSeq m__law_letters_drawn_s3
  m__law_letters_drawn_s4)))
def m__law_letters_drawn_g1 : FG := (gS 4)
def m__law_letters_drawn_s5 : FS := (fAsg (fCallX (fxName 0 (fxVal (fSh (fN (faCons true (fC (.int 4)) (faCons true (fC (.int 30)) (faCons true (f2 true (fC (.int 10)) (fC (.int 9)) (fI (ii gPowW))) faNil))) φLst)) fxNil)) F__law_of) (gS 1))
def m__law_letters_drawn_s6 : FS := (fAsgs (faCons true (f2 true (fN (faCons true (fCallX (fxName 0 (fxVal (fSh (f2 true (f2 true (fC (.int 2)) (fVar 1) φMul) (fC (.int 1)) φAdd)) fxNil)) F__law_take) faNil) (fI pInt)) (fVar 1) (fI (ii gSub))) (faCons true (fN faNil φLst) faNil)) (gsCons (gS 2) (gsCons (gO 3) gsNil)))
def m__law_letters_drawn_s7 : FS := (fForS (iA (faCons true (f2 false (fC (.int 1)) (fCallX (fxName 0 (fxVal (fSh (fC (.int 5))) fxNil)) F__law_take) φAdd) faNil) κR1) m__law_letters_drawn_g1 m__law_letters_drawn_b1)
def m__law_letters_drawn_s8 : FS := (fRet (fN (faCons true (fVar 3) faNil) φTuple))
def m__law_letters_drawn : FS :=
  (fSeq m__law_letters_drawn_s5
  (fSeq m__law_letters_drawn_s6
  (fSeq m__law_letters_drawn_s7
  (fFrz 3 m__law_letters_drawn_s8))))
def F__law_letters_drawn : FF := runFn [0] 8 m__law_letters_drawn

def m__law_are_letters_right_b1 : FS := (fAsg (f2 true (fVar 2) (fN (faCons true (fN (faCons true (fC (.int 0)) (faCons true (fC (.int 1)) (faCons true (f2 true (fVar 4) (fVar 3) (fI (ii gSub))) faNil))) φTup) (faCons true (fN (faCons true (fC (.int 1)) (faCons true (fC (.int 0)) (faCons true (f2 true (fVar 6) (fVar 5) (fI (ii gSub))) faNil))) φTup) faNil)) φLst) φAdd) (gS 2))
def m__law_are_letters_right_g1 : FG := (gT 4 (gsCons (gS 3) (gsCons (gS 4) (gsCons (gS 5) (gsCons (gS 6) gsNil)))))
def m__law_are_letters_right_b2 : FS := (fIf (fT (f2 true (fN (faCons true (fSh (fC (.int 2))) (faCons true (fSh (fN (faCons true (fVar 2) faNil) φTuple)) (faCons true (fSh (fN (faCons true (fC (.str ("clocks" : Str))) (faCons true (fN (faCons true (fC (.int 0)) (faCons true (fVar 9) faNil)) φTup) faNil)) φTup)) faNil))) (φCall F_shows_clocks_for)) (fC (.bool true)) (fI pIsNot))) (fRet (fC (.bool false))) fNop)
def m__law_are_letters_right_g2 : FG := (gS 9)
def m__law_are_letters_right_b3 : FS := (fIf (fT (f2 true (fN (faCons true (fSh (fC (.int 2))) (faCons true (fSh (fN (faCons true (fVar 2) faNil) φTuple)) (faCons true (fSh (fN (faCons true (fC (.str ("clocks" : Str))) (faCons true (fN (faCons true (fC (.int 0)) (faCons true (fVar 9) faNil)) φTup) faNil)) φTup)) faNil))) (φCall F_shows_clocks_for)) (fC (.bool false)) (fI pIsNot))) (fRet (fC (.bool false))) fNop)
def m__law_are_letters_right_g3 : FG := (gS 9)
def m__law_are_letters_right_s1 : FS := (fAsg (f2 true (fVar 7) (fC (.int 1)) fIx) (gS 8))
def m__law_are_letters_right_s2 : FS := (fIf (fNot (fT (fChain true (f2 true (fVar 1) (fC (.int 1)) fIx) (f2 true (f2 true (fVar 8) (fC (.int 1)) fIx) (f2 true (fVar 8) (fC (.int 0)) fIx) (fI (ii gSub))) (f2 true (fVar 1) (fC (.int 2)) fIx) (fI (ii gLe)) (fI (ii gLe))))) (fRet (fC (.bool false))) fNop)
def m__law_are_letters_right_s3 : FS := (fForS (iSeq (fSh (fN (faCons true (f2 true (fVar 1) (fC (.int 1)) fIx) (faCons true (f2 true (fVar 1) (fC (.int 2)) fIx) faNil)) φTup))) m__law_are_letters_right_g2 m__law_are_letters_right_b2)
def m__law_are_letters_right_s4 : FS := (fForS (iSeq (fSh (fN (faCons true (f2 true (f2 true (fVar 1) (fC (.int 1)) fIx) (fC (.int 1)) (fI (ii gSub))) (faCons true (f2 true (f2 true (fVar 1) (fC (.int 2)) fIx) (fC (.int 1)) φAdd) faNil)) φTup))) m__law_are_letters_right_g3 m__law_are_letters_right_b3)
def m__law_are_letters_right_e1 : FE := (fSh (f2 true (fN (faCons true (fSh (fN (faCons true (fVar 11) (faCons true (fVar 12) faNil)) φTup)) faNil) (φCall F_clocks_apart)) (fC (.int 0)) fIx))
def m__law_are_letters_right_c1 : FE := (fComp (iSeq (fSh (fVar 0))) (gS 12) ftYes m__law_are_letters_right_e1 [12])
def m__law_are_letters_right_b4 : FS := (fExpr (fCallX (fxOwn 10 (fxVal m__law_are_letters_right_c1 fxNil)) gExt))
def m__law_are_letters_right_g4 : FG := (gS 11)
def m__law_are_letters_right_e2 : FE := (fSh (f2 true (fVar 13) (fC (.str ("apart" : Str))) (fI pEq)))
def m__law_are_letters_right_c2 : FE := (fComp (iSeq (fSh (fVar 10))) (gS 13) ftYes m__law_are_letters_right_e2 [13])
def m__law_are_letters_right_s5 : FS := (fAsgs (faCons true (fN (faCons true (fVar 0) faNil) (φCall F_clocks_apart)) (faCons true (fN faNil φLst) faNil)) (gsCons (gS 1) (gsCons (gS 2) gsNil)))
def m__law_are_letters_right_s6 : FS := (fForS (iSeq (fSh (fVar 0))) m__law_are_letters_right_g1 m__law_are_letters_right_b1)
def m__law_are_letters_right_s7 : FS := (fAsg (fN (faCons true (fSh (fC (.int 2))) (faCons true (fSh (fN (faCons true (fVar 2) faNil) φTuple)) faNil)) (φCall F_clocks_for)) (gS 7))
def m__law_are_letters_right_s8 : FS := (fIf (fT (f2 true (f2 true (f2 true (fVar 1) (fC (.int 0)) fIx) (fC (.str ("apart" : Str))) (fI pEq)) (f2 true (f2 true (fVar 7) (fC (.int 0)) fIx) (fC (.str ("clocks" : Str))) (fI pEq)) (fI pNe))) (fRet (fC (.bool false))) fNop)
def m__law_are_letters_right_s9 : FS := (fIf (fT (f2 true (f2 true (fVar 1) (fC (.int 0)) fIx) (fC (.str ("apart" : Str))) (fI pEq))) (fSeq m__law_are_letters_right_s1
  (fSeq m__law_are_letters_right_s2
  (fSeq m__law_are_letters_right_s3
  m__law_are_letters_right_s4))) fNop)
def m__law_are_letters_right_s10 : FS := (fAsg (fN faNil φLst) (gO 10))
def m__law_are_letters_right_s11 : FS := (fForS (iSeq (fSh (fVar 0))) m__law_are_letters_right_g4 m__law_are_letters_right_b4)
def m__law_are_letters_right_s12 : FS := (fRet (f2 true (fN (faCons true m__law_are_letters_right_c2 faNil) (fI pAll)) (f2 true (f2 true (fVar 1) (fC (.int 0)) fIx) (fC (.str ("apart" : Str))) (fI pEq)) (fI pEq)))
def m__law_are_letters_right : FS :=
  (fSeq m__law_are_letters_right_s5
  (fSeq m__law_are_letters_right_s6
  (fSeq m__law_are_letters_right_s7
  (fSeq m__law_are_letters_right_s8
  (fSeq m__law_are_letters_right_s9
  (fSeq m__law_are_letters_right_s10
  (fSeq m__law_are_letters_right_s11
  (fFrz 10 m__law_are_letters_right_s12))))))))
def F__law_are_letters_right : FF := runFn [] 14 m__law_are_letters_right

def m__law_are_spans_right_s1 : FS := (fAsg (f2 true (fN (faCons true (fCallX (fxName 0 (fxVal (fSh (fC (.int 40))) fxNil)) F__law_take) faNil) (fI pInt)) (fC (.int 20)) (fI (ii gSub))) (gS 3))
def m__law_are_spans_right_s2 : FS := (fExpr (fCallX (fxOwn 1 (fxVal (fSh (fN (faCons false (fVar 3) (faCons true (f2 false (fVar 3) (fN (faCons true (fCallX (fxName 0 (fxVal (fSh (fC (.int 12))) fxNil)) F__law_take) faNil) (fI pInt)) φAdd) faNil)) φTup)) fxNil)) gApp))
def m__law_are_spans_right_b1 : FS := (fSeq m__law_are_spans_right_s1
  m__law_are_spans_right_s2)
def m__law_are_spans_right_g1 : FG := (gS 2)
def m__law_are_spans_right_t1 : FT := (fT (fChain true (f2 true (fVar 11) (fC (.int 0)) fIx) (fVar 10) (f2 true (fVar 11) (fC (.int 1)) fIx) (fI (ii gLe)) (fI (ii gLe))))
def m__law_are_spans_right_e1 : FE := (fSh (fVar 11))
def m__law_are_spans_right_c1 : FE := (fComp (iSeq (fSh (fVar 1))) (gS 11) m__law_are_spans_right_t1 m__law_are_spans_right_e1 [11])
def m__law_are_spans_right_e2 : FE := (fSh (f2 true (fN (faCons true m__law_are_spans_right_c1 faNil) (fI pLen)) (fVar 4) (fI pNe)))
def m__law_are_spans_right_c2 : FE := (fComp (iSeq (fSh (fN (faCons true (fVar 5) (faCons true (fVar 6) faNil)) φTup))) (gS 10) ftYes m__law_are_spans_right_e2 [10])
def m__law_are_spans_right_s3 : FS := (fAsg (fN faNil φLst) (gO 1))
def m__law_are_spans_right_s4 : FS := (fForS (iA (faCons true (f2 false (fC (.int 1)) (fCallX (fxName 0 (fxVal (fSh (fC (.int 9))) fxNil)) F__law_take) φAdd) faNil) κR1) m__law_are_spans_right_g1 m__law_are_spans_right_b1)
def m__law_are_spans_right_s5 : FS := (fAsg (fN (faCons true (fVar 1) faNil) φTuple) (gS 1))
def m__law_are_spans_right_s6 : FS := (fAsg (fN (faCons true (fVar 1) faNil) (φCall F_most_agree)) (gT 3 (gsCons (gS 4) (gsCons (gS 5) (gsCons (gS 6) gsNil)))))
def m__law_are_spans_right_s7 : FS := (fAsg (fN (faCons true (fVar 1) faNil) (φCall F_fewest_numbers)) (gT 2 (gsCons (gS 7) (gsCons (gS 8) gsNil))))
def m__law_are_spans_right_s8 : FS := (fIf (fOr (fT (f2 true (f2 true (fVar 4) (fN (faCons true (fVar 1) faNil) (fI pLen)) (fI pEq)) (f2 true (fN (faCons true (fVar 7) faNil) (fI pLen)) (fC (.int 1)) (fI pEq)) (fI pNe))) (fT (f2 true (f2 true (fN (faCons true (fVar 7) faNil) (fI pLen)) (fVar 4) φMul) (fN (faCons true (fVar 1) faNil) (fI pLen)) (fI pLt)))) (fRet (fC (.bool false))) fNop)
def m__law_are_spans_right_s9 : FS := (fIf (fT (fN (faCons true m__law_are_spans_right_c2 faNil) (fI pAny))) (fRet (fC (.bool false))) fNop)
def m__law_are_spans_right_s10 : FS := (fAsg (fN (faCons true (fSh (f2 true (fVar 1) (fN (faCons true (fN (faCons true (fC (.int 100)) (faCons true (fC (.int 101)) faNil)) φTup) faNil) φTup) φAdd)) faNil) (φCall F_fewest_numbers)) (gS 9))
def m__law_are_spans_right_s11 : FS := (fIf (fT (f2 true (fN (faCons true (f2 true (fVar 9) (fC (.int 0)) fIx) faNil) (fI pLen)) (f2 true (fN (faCons true (fVar 7) faNil) (fI pLen)) (fC (.int 1)) φAdd) (fI pNe))) (fRet (fC (.bool false))) fNop)
def m__law_are_spans_right_s12 : FS := (fRet (f2 true (fN (faCons true (f2 true (fN (faCons true (fSh (f2 true (fVar 1) (fN (faCons true (f2 true (fVar 1) (fC (.int 0)) fIx) faNil) φTup) φAdd)) faNil) (φCall F_fewest_numbers)) (fC (.int 0)) fIx) faNil) (fI pLen)) (fN (faCons true (fVar 7) faNil) (fI pLen)) (fI pEq)))
def m__law_are_spans_right : FS :=
  (fSeq m__law_are_spans_right_s3
  (fSeq m__law_are_spans_right_s4
  (fSeq m__law_are_spans_right_s5
  (fSeq (fFrz 1 m__law_are_spans_right_s6)
  (fSeq m__law_are_spans_right_s7
  (fSeq m__law_are_spans_right_s8
  (fSeq m__law_are_spans_right_s9
  (fSeq m__law_are_spans_right_s10
  (fSeq m__law_are_spans_right_s11
  m__law_are_spans_right_s12)))))))))
def F__law_are_spans_right : FF := runFn [0] 12 m__law_are_spans_right

def m__law_are_bounds_right_e1 : FE := (fSh (fN (faCons true (fCallX (fxName 0 (fxVal (fSh (fC (.int 999))) fxNil)) F__law_take) faNil) (fI pInt)))
def m__law_are_bounds_right_c1 : FE := (fComp (iA (faCons true (fVar 1) faNil) κR1) (gS 18) ftYes m__law_are_bounds_right_e1 [18])
def m__law_are_bounds_right_e2 : FE := (fSh (fN (faCons true (fCallX (fxName 0 (fxName 1 fxNil)) F__law_take) faNil) (fI pInt)))
def m__law_are_bounds_right_c2 : FE := (fComp (iA (faCons true (fC (.int 2)) faNil) κR1) (gS 19) ftYes m__law_are_bounds_right_e2 [19])
def m__law_are_bounds_right_s1 : FS := (fAsg m__law_are_bounds_right_c2 (gU 2 (gsCons (gS 5) (gsCons (gS 6) gsNil))))
def m__law_are_bounds_right_s2 : FS := (fExpr (fCallX (fxOwn 2 (fxVal (fSh (fN (faCons false (fVar 5) (faCons false (fVar 6) (faCons true (f2 false (f2 true (f2 true (fVar 3) (fVar 6) fIx) (f2 true (fVar 3) (fVar 5) fIx) (fI (ii gSub))) (fN (faCons true (fCallX (fxName 0 (fxVal (fSh (fC (.int 5))) fxNil)) F__law_take) faNil) (fI pInt)) φAdd) faNil))) φTup)) fxNil)) gApp))
def m__law_are_bounds_right_b1 : FS := (fSeq m__law_are_bounds_right_s1
  m__law_are_bounds_right_s2)
def m__law_are_bounds_right_g1 : FG := (gS 4)
def m__law_are_bounds_right_e3 : FE := (fSh (f2 true (fVar 5) (fVar 8) φAdd))
def m__law_are_bounds_right_c3 : FE := (fComp (iSeq (fSh (f2 true (fVar 7) (fC (.int 1)) fIx))) (gS 5) ftYes m__law_are_bounds_right_e3 [5])
def m__law_are_bounds_right_e4 : FE := (fSh (fN (faCons true (fVar 6) (faCons true (fVar 5) (faCons true (fVar 20) faNil))) φTup))
def m__law_are_bounds_right_c4 : FE := (fComp (iSeq (fSh (fVar 2))) (gT 3 (gsCons (gS 5) (gsCons (gS 6) (gsCons (gS 20) gsNil)))) ftYes m__law_are_bounds_right_e4 [5, 6, 20])
def m__law_are_bounds_right_e5 : FE := (fSh (fU (fVar 5) (fI pNeg)))
def m__law_are_bounds_right_c5 : FE := (fComp (iSeq (fSh (f2 true (fVar 7) (fC (.int 1)) fIx))) (gS 5) ftYes m__law_are_bounds_right_e5 [5])
def m__law_are_bounds_right_b2 : FS := (fIf (fOr (fT (f2 true (fN (faCons true (fVar 1) (faCons true (fVar 12) (faCons true (fSh (fN (faCons true (fC (.str ("clocks" : Str))) (faCons true (fVar 13) faNil)) φTup)) faNil))) (φCall F_shows_clocks_for)) (fC (.bool true)) (fI pIsNot))) (fT (f2 true (f2 true (fN (faCons true (fVar 1) (faCons true (fVar 12) faNil)) (φCall F_clocks_for)) (fC (.int 0)) fIx) (fC (.str ("clocks" : Str))) (fI pNe)))) (fRet (fC (.bool false))) fNop)
def m__law_are_bounds_right_g2 : FG := (gT 2 (gsCons (gS 12) (gsCons (gS 13) gsNil)))
def m__law_are_bounds_right_e6 : FE := (fSh (fN (faCons true (fVar 18) faNil) (fI pInt)))
def m__law_are_bounds_right_c6 : FE := (fComp (iSeq (fSh (fCallX (fxName 0 (fxVal (fSh (fU (fVar 1) φRg1)) (fxName 1 fxNil))) F__law_some))) (gS 18) ftYes m__law_are_bounds_right_e6 [18])
def m__law_are_bounds_right_b3 : FS := (fExpr (fCallX (fxOwn 15 (fxVal (fSh (fN (faCons true (fVar 5) (faCons true (fVar 6) (faCons true (f2 true (f2 true (fVar 3) (fVar 6) fIx) (f2 true (fVar 3) (fVar 5) fIx) (fI (ii gSub))) faNil))) φTup)) fxNil)) gApp))
def m__law_are_bounds_right_g3 : FG := (gT 2 (gsCons (gS 5) (gsCons (gS 6) gsNil)))
def m__law_are_bounds_right_e7 : FE := (fSh (f2 true (f2 true (fVar 2) (fN (faCons true (fVar 15) faNil) φTuple) φAdd) (fVar 21) fIx))
def m__law_are_bounds_right_c7 : FE := (fComp (iSeq (fSh (fVar 17))) (gS 21) ftYes m__law_are_bounds_right_e7 [21])
def m__law_are_bounds_right_e8 : FE := (fSh (f2 true (fVar 22) (fC (.int 2)) fIx))
def m__law_are_bounds_right_c8 : FE := (fComp (iSeq (fSh (fVar 12))) (gS 22) ftYes m__law_are_bounds_right_e8 [22])
def m__law_are_bounds_right_e9 : FE := (fSh (f2 true (f2 true (fVar 5) (fC (.int 1)) fIx) (f2 true (fVar 6) (fC (.int 0)) fIx) (fI pEq)))
def m__law_are_bounds_right_c9 : FE := (fComp (iA (faCons true (fSh (fVar 12)) (faCons true (fSh (f2 true (fSl (fVar 12) (foS (fC (.int 1))) foN) (fSl (fVar 12) foN (foS (fC (.int 1)))) φAdd)) faNil)) κZip) (gT 2 (gsCons (gS 5) (gsCons (gS 6) gsNil))) ftYes m__law_are_bounds_right_e9 [5, 6])
def m__law_are_bounds_right_s3 : FS := (fAsgs (faCons true (f2 false (fC (.int 2)) (fN (faCons true (fCallX (fxName 0 (fxVal (fSh (fC (.int 8))) fxNil)) F__law_take) faNil) (fI pInt)) φAdd) (faCons true (fN faNil φLst) faNil)) (gsCons (gS 1) (gsCons (gO 2) gsNil)))
def m__law_are_bounds_right_s4 : FS := (fAsg m__law_are_bounds_right_c1 (gS 3))
def m__law_are_bounds_right_s5 : FS := (fForS (iA (faCons true (fCallX (fxName 0 (fxVal (fSh (fC (.int 16))) fxNil)) F__law_take) faNil) κR1) m__law_are_bounds_right_g1 m__law_are_bounds_right_b1)
def m__law_are_bounds_right_s6 : FS := (fAsgs (faCons true (fN (faCons true (fVar 2) faNil) φTuple) (faCons true (fN (faCons true (fVar 1) (faCons true (fSh (fN (faCons true (fVar 2) faNil) φTuple)) faNil)) (φCall F_clocks_for)) faNil)) (gsCons (gS 2) (gsCons (gS 7) gsNil)))
def m__law_are_bounds_right_s7 : FS := (fIf (fT (f2 true (f2 true (fVar 7) (fC (.int 0)) fIx) (fC (.str ("clocks" : Str))) (fI pNe))) (fRet (fC (.bool false))) fNop)
def m__law_are_bounds_right_s8 : FS := (fAsg (fN (faCons true (fCallX (fxName 0 (fxVal (fSh (f2 true (fC (.int 10)) (fC (.int 6)) (fI (ii gPowW)))) fxNil)) F__law_take) faNil) (fI pInt)) (gS 8))
def m__law_are_bounds_right_s9 : FS := (fAsg (fN (faCons true m__law_are_bounds_right_c3 faNil) φTuple) (gS 9))
def m__law_are_bounds_right_s10 : FS := (fAsg (fN (faCons true m__law_are_bounds_right_c4 faNil) φTuple) (gS 10))
def m__law_are_bounds_right_s11 : FS := (fAsg (fN (faCons true m__law_are_bounds_right_c5 faNil) φTuple) (gS 11))
def m__law_are_bounds_right_s12 : FS := (fForS (iSeq (fSh (fN (faCons true (fN (faCons true (fVar 2) (faCons true (fVar 9) faNil)) φTup) (faCons true (fN (faCons true (fVar 10) (faCons true (fVar 11) faNil)) φTup) (faCons true (fN (faCons true (fSl (fVar 2) (foS (fC (.int 1))) foN) (faCons true (f2 true (fVar 7) (fC (.int 1)) fIx) faNil)) φTup) (faCons true (fN (faCons true (fVar 2) (faCons true (fN (faCons true (fVar 3) faNil) φTuple) faNil)) φTup) faNil)))) φTup))) m__law_are_bounds_right_g2 m__law_are_bounds_right_b2)
def m__law_are_bounds_right_s13 : FS := (fAsg m__law_are_bounds_right_c6 (gS 14))
def m__law_are_bounds_right_s14 : FS := (fAsg (fN faNil φLst) (gO 15))
def m__law_are_bounds_right_s15 : FS := (fForS (iA (faCons true (fSh (fVar 14)) (faCons true (fSh (f2 true (fSl (fVar 14) (foS (fC (.int 1))) foN) (fSl (fVar 14) foN (foS (fC (.int 1)))) φAdd)) faNil)) κZip) m__law_are_bounds_right_g3 m__law_are_bounds_right_b3)
def m__law_are_bounds_right_s16 : FS := (fIf (fT (f2 true (f2 true (fN (faCons true (fVar 1) (faCons true (fSh (f2 true (fVar 2) (fN (faCons true (fVar 15) faNil) φTuple) φAdd)) faNil)) (φCall F_clocks_for)) (fC (.int 0)) fIx) (fC (.str ("clocks" : Str))) (fI pNe))) (fRet (fC (.bool false))) fNop)
def m__law_are_bounds_right_s17 : FS := (fAsg (fN (faCons true (f2 true (f2 true (fVar 15) (fC (.int 0)) fIx) (fC (.int 0)) fIx) (faCons true (f2 true (f2 true (fVar 15) (fC (.int 0)) fIx) (fC (.int 1)) fIx) (faCons true (f2 true (f2 true (f2 true (fVar 15) (fC (.int 0)) fIx) (fC (.int 2)) fIx) (fC (.int 1)) (fI (ii gSub))) faNil))) φTup) (gSt 15 (fC (.int 0))))
def m__law_are_bounds_right_s18 : FS := (fAsg (fN (faCons true (fVar 1) (faCons true (fSh (f2 true (fVar 2) (fN (faCons true (fVar 15) faNil) φTuple) φAdd)) faNil)) (φCall F_clocks_for)) (gT 2 (gsCons (gS 16) (gsCons (gS 17) gsNil))))
def m__law_are_bounds_right_s19 : FS := (fAsg (fIte (fT (f2 true (fVar 16) (fC (.str ("ring" : Str))) (fI pEq))) m__law_are_bounds_right_c7 (fN faNil φLst)) (gS 12))
def m__law_are_bounds_right_s20 : FS := (fIf (fOr (fT (f2 true (fVar 12) (fN faNil φLst) (fI pEq))) (fT (f2 true (fN (faCons true m__law_are_bounds_right_c8 faNil) (fI pSum)) (fC (.int 0)) (fI (ii gGe))))) (fRet (fC (.bool false))) fNop)
def m__law_are_bounds_right_s21 : FS := (fRet (fN (faCons true m__law_are_bounds_right_c9 faNil) (fI pAll)))
def m__law_are_bounds_right : FS :=
  (fSeq m__law_are_bounds_right_s3
  (fSeq m__law_are_bounds_right_s4
  (fSeq m__law_are_bounds_right_s5
  (fSeq m__law_are_bounds_right_s6
  (fSeq (fFrz 2 m__law_are_bounds_right_s7)
  (fSeq m__law_are_bounds_right_s8
  (fSeq m__law_are_bounds_right_s9
  (fSeq m__law_are_bounds_right_s10
  (fSeq m__law_are_bounds_right_s11
  (fSeq m__law_are_bounds_right_s12
  (fSeq m__law_are_bounds_right_s13
  (fSeq m__law_are_bounds_right_s14
  (fSeq m__law_are_bounds_right_s15
  (fSeq m__law_are_bounds_right_s16
  (fSeq m__law_are_bounds_right_s17
  (fSeq (fFrz 15 m__law_are_bounds_right_s18)
  (fSeq m__law_are_bounds_right_s19
  (fSeq m__law_are_bounds_right_s20
  m__law_are_bounds_right_s21))))))))))))))))))
def F__law_are_bounds_right : FF := runFn [0] 23 m__law_are_bounds_right

def m__law_right_s1 : FS := (fIf (fOr (fNot (fT (fN (faCons true (fSh (fCallX (fxName 0 fxNil) F__law_letters_drawn)) faNil) (φCall F__law_are_letters_right)))) (fNot (fT (fCallX (fxName 0 fxNil) F__law_are_spans_right)))) (fRet (fC (.bool false))) fNop)
def m__law_right_s2 : FS := (fIf (fNot (fT (fCallX (fxName 0 fxNil) F__law_are_bounds_right))) (fRet (fC (.bool false))) fNop)
def m__law_right_b1 : FS := (fSeq m__law_right_s1
  m__law_right_s2)
def m__law_right_g1 : FG := (gS 1)
def m__law_right_s3 : FS := (fForS (iA (faCons true (fC (.int 8)) faNil) κR1) m__law_right_g1 m__law_right_b1)
def m__law_right_s4 : FS := (fRet (fC (.bool true)))
def m__law_right : FS :=
  (fSeq m__law_right_s3
  m__law_right_s4)
def F__law_right : FF := runFn [0] 2 m__law_right

def m_law_e1 : FE := (fSh (fCallX (fxVal (fN (faCons true (fVar 0) (faCons true (fVar 1) faNil)) (φCall F__law_pot)) fxNil) F__law_right))
def m_law_c1 : FE := (fComp (iSeq (fSh (fN (faCons true (fVar 0) (faCons true (fSh (fC (.int 3))) faNil)) (φCall F__law_cells)))) (gS 1) ftYes m_law_e1 [1])
def m_law : FS :=
  (fRet (fN (faCons true m_law_c1 faNil) (fI pAll)))
def F_law : FF := runFn [] 2 m_law

structure Gs (K : PySem.W.Frag) (mg : Str → Option Value) (fa : Nat → Addr) (fd : Nat → FuncData) : Prop where
  F0 : Fun K "is_int" "is_int" s_is_int (fa 0) (fd 0)
  b0 : Binds K (fd 0) ["value", "low", "high"] []
  g0 : mg "is_int" = some (.ref (fa 0))
  F1 : Fun K "are_ints" "are_ints" s_are_ints (fa 1) (fd 1)
  b1 : Binds K (fd 1) ["value", "low", "high"] []
  g1 : mg "are_ints" = some (.ref (fa 1))
  F2 : Fun K "is_told" "is_told" s_is_told (fa 2) (fd 2)
  b2 : Binds K (fd 2) ["value", "sizes"] []
  g2 : mg "is_told" = some (.ref (fa 2))
  F3 : Fun K "look_at_letters_back" "look_at_letters_back" s_look_at_letters_back (fa 3) (fd 3)
  b3 : Binds K (fd 3) ["exchanges"] []
  g3 : mg "look_at_letters_back" = some (.ref (fa 3))
  F4 : Fun K "told_between" "told_between" s_told_between (fa 4) (fd 4)
  b4 : Binds K (fd 4) ["times"] []
  g4 : mg "told_between" = some (.ref (fa 4))
  F5 : Fun K "told_apart" "told_apart" s_told_apart (fa 5) (fd 5)
  b5 : Binds K (fd 5) ["some"] []
  g5 : mg "told_apart" = some (.ref (fa 5))
  F6 : Fun K "clocks_apart" "clocks_apart" s_clocks_apart (fa 6) (fd 6)
  b6 : Binds K (fd 6) ["exchanges"] []
  g6 : mg "clocks_apart" = some (.ref (fa 6))
  F7 : Fun K "look_at_spans" "look_at_spans" s_look_at_spans (fa 7) (fd 7)
  b7 : Binds K (fd 7) ["spans"] []
  g7 : mg "look_at_spans" = some (.ref (fa 7))
  F8 : Fun K "most_agree" "most_agree" s_most_agree (fa 8) (fd 8)
  b8 : Binds K (fd 8) ["spans"] []
  g8 : mg "most_agree" = some (.ref (fa 8))
  F9 : Fun K "told_points" "told_points" s_told_points (fa 9) (fd 9)
  b9 : Binds K (fd 9) ["spans"] []
  g9 : mg "told_points" = some (.ref (fa 9))
  F10 : Fun K "fewest_numbers" "fewest_numbers" s_fewest_numbers (fa 10) (fd 10)
  b10 : Binds K (fd 10) ["spans"] []
  g10 : mg "fewest_numbers" = some (.ref (fa 10))
  F11 : Fun K "look_at_bounds" "look_at_bounds" s_look_at_bounds (fa 11) (fd 11)
  b11 : Binds K (fd 11) ["many", "bounds"] []
  g11 : mg "look_at_bounds" = some (.ref (fa 11))
  F12 : Fun K "told_clocks" "told_clocks" s_told_clocks (fa 12) (fd 12)
  b12 : Binds K (fd 12) ["many", "bounds"] []
  g12 : mg "told_clocks" = some (.ref (fa 12))
  F13 : Fun K "clocks_for" "clocks_for" s_clocks_for (fa 13) (fd 13)
  b13 : Binds K (fd 13) ["many", "bounds"] []
  g13 : mg "clocks_for" = some (.ref (fa 13))
  F14 : Fun K "shows_clocks_for" "shows_clocks_for" s_shows_clocks_for (fa 14) (fd 14)
  b14 : Binds K (fd 14) ["many", "bounds", "value"] []
  g14 : mg "shows_clocks_for" = some (.ref (fa 14))
  F15 : Fun K "_law_pot" "_law_pot" s__law_pot (fa 15) (fd 15)
  b15 : Binds K (fd 15) ["script", "place"] []
  g15 : mg "_law_pot" = some (.ref (fa 15))
  F16 : Fun K "_law_take" "_law_take" s__law_take (fa 16) (fd 16)
  b16 : Binds K (fd 16) ["pot", "upto"] []
  g16 : mg "_law_take" = some (.ref (fa 16))
  F17 : Fun K "_law_of" "_law_of" s__law_of (fa 17) (fd 17)
  b17 : Binds K (fd 17) ["pot", "some"] []
  g17 : mg "_law_of" = some (.ref (fa 17))
  F18 : Fun K "_law_cells" "_law_cells" s__law_cells (fa 18) (fd 18)
  b18 : Binds K (fd 18) ["script", "most"] []
  g18 : mg "_law_cells" = some (.ref (fa 18))
  F19 : Fun K "_law_some" "_law_some" s__law_some (fa 19) (fd 19)
  b19 : Binds K (fd 19) ["pot", "pool", "many"] []
  g19 : mg "_law_some" = some (.ref (fa 19))
  F20 : Fun K "_law_letters_drawn" "_law_letters_drawn" s__law_letters_drawn (fa 20) (fd 20)
  b20 : Binds K (fd 20) ["pot"] []
  g20 : mg "_law_letters_drawn" = some (.ref (fa 20))
  F21 : Fun K "_law_are_letters_right" "_law_are_letters_right" s__law_are_letters_right (fa 21) (fd 21)
  b21 : Binds K (fd 21) ["letters"] []
  g21 : mg "_law_are_letters_right" = some (.ref (fa 21))
  F22 : Fun K "_law_are_spans_right" "_law_are_spans_right" s__law_are_spans_right (fa 22) (fd 22)
  b22 : Binds K (fd 22) ["pot"] []
  g22 : mg "_law_are_spans_right" = some (.ref (fa 22))
  F23 : Fun K "_law_are_bounds_right" "_law_are_bounds_right" s__law_are_bounds_right (fa 23) (fd 23)
  b23 : Binds K (fd 23) ["pot"] []
  g23 : mg "_law_are_bounds_right" = some (.ref (fa 23))
  F24 : Fun K "_law_right" "_law_right" s__law_right (fa 24) (fd 24)
  b24 : Binds K (fd 24) ["pot"] []
  g24 : mg "_law_right" = some (.ref (fa 24))
  F25 : Fun K "law" "law" s_law (fa 25) (fd 25)
  b25 : Binds K (fd 25) ["script"] []
  g25 : mg "law" = some (.ref (fa 25))
  z_abs : mg "abs" = none
  z_all : mg "all" = none
  z_any : mg "any" = none
  z_bool : mg "bool" = none
  z_enumerate : mg "enumerate" = none
  z_int : mg "int" = none
  z_isinstance : mg "isinstance" = none
  z_len : mg "len" = none
  z_list : mg "list" = none
  z_max : mg "max" = none
  z_min : mg "min" = none
  z_range : mg "range" = none
  z_set : mg "set" = none
  z_sorted : mg "sorted" = none
  z_str : mg "str" = none
  z_sum : mg "sum" = none
  z_tuple : mg "tuple" = none
  z_zip : mg "zip" = none
  c_APART : ∃ u, mg "APART" = some u ∧ RelV (.str "apart") u
  c_CLOCKS : ∃ u, mg "CLOCKS" = some u ∧ RelV (.str "clocks") u
  c_MOST_HOSTS : ∃ u, mg "MOST_HOSTS" = some u ∧ RelV (.int 30) u
  c_MOST_SOME : ∃ u, mg "MOST_SOME" = some u ∧ RelV (.int 200) u
  c_MOST_TIME : ∃ u, mg "MOST_TIME" = some u ∧ RelV (.int 1000000000000) u
  c_NEVER : ∃ u, mg "NEVER" = some u ∧ RelV (.str "never") u
  c_RING : ∃ u, mg "RING" = some u ∧ RelV (.str "ring") u
  c_THREE : ∃ u, mg "THREE" = some u ∧ RelV (.int 3) u
section
variable {P : Program} {w : World} {K : PySem.W.Frag} {mg : Str → Option Value} {base : Heap} {fa : Nat → Addr} {fd : Nat → FuncData}
theorem ok_is_int (G : Gs K mg fa fd) : FnOk P w K mg base CX0 1 (fa 0) (fd 0) ["value", "low", "high"] (spD K 3 F_is_int) :=
  fn_ok [] G.F0 sc_is_int fun cdv A outer s H E hr => show DSs _ _ _ m_is_int from
      (dss_one (ds_ret (de_and (de_isi kt_int (de_var 0) (by rfl) G.z_isinstance (by rfl) G.z_int PyProof.Rows.boot_int) (de_and (de_not (de_isi kt_bool (de_var 0) (by rfl) G.z_isinstance (by rfl) G.z_bool PyProof.Rows.boot_bool)) (de_one (de_chain op_le opn_le op_le opn_le (de_var 1) (de_var 0) (de_var 2)))))))

theorem ok_are_ints (G : Gs K mg fa fd) : FnOk P w K mg base CX0 2 (fa 1) (fd 1) ["value", "low", "high"] (spD K 3 F_are_ints) :=
  fn_ok [] G.F1 sc_are_ints fun cdv A outer s H E hr => show DSs _ _ _ m_are_ints from
      (dss_one (ds_ret (de_and (de_isi kt_tuple (de_var 0) (by rfl) G.z_isinstance (by rfl) G.z_tuple PyProof.Rows.boot_tuple) (de_one (de_callB (cr_all rfl) opn_all (by rfl) G.z_all PyProof.Rows.boot_all (da_cons (de_lc (own := [(("one" : Str), 3)]) rfl sc_are_ints.nd (di_seq (de_sh (de_var 0))) (blkOk_by (by kernel_rfl)) (fun _ _ _ _ _ => (dg_name (i := 3) sc_are_ints.nd rfl (by decide) (by first | exact .inl rfl | exact .inr rfl))) (fun _ _ _ _ _ => dts_nil) (fun _ _ _ _ _ => (de_sh (de_call ((ok_is_int G).mono (by decide)) hr (by rfl) G.g0 G.F0.kp G.b0 (da_cons (de_var 3) (da_cons (de_var 1) (da_cons (de_var 2) da_nil))) (faLen_cons (faLen_cons (faLen_cons faLen_nil))))))) da_nil))))))

theorem ok_is_told (G : Gs K mg fa fd) : FnOk P w K mg base CX0 1 (fa 2) (fd 2) ["value", "sizes"] (spD K 2 F_is_told) :=
  fn_ok [] G.F2 sc_is_told fun cdv A outer s H E hr => show DSs _ _ _ m_is_told from
      (dss_one (ds_ret (de_and (de_isi kt_tuple (de_var 0) (by rfl) G.z_isinstance (by rfl) G.z_tuple PyProof.Rows.boot_tuple) (de_and (de_cmp (op_inU (hu65 hr)) opn_in (de_callB call_len_seq opn_len (by rfl) G.z_len PySem.boot_len (da_cons (de_var 0) da_nil)) (de_var 1) (by with_unfolding_all rfl)) (de_one (de_isi kt_str (de_ix (de_var 0) de_int) (by rfl) G.z_isinstance (by rfl) G.z_str PyProof.Rows.boot_str))))))

theorem ok_look_at_letters_back (G : Gs K mg fa fd) : FnOk P w K mg base CX0 3 (fa 3) (fd 3) ["exchanges"] (spD K 1 F_look_at_letters_back) :=
  fn_ok [] G.F3 sc_look_at_letters_back fun cdv A outer s H E hr => show DSs _ _ _ m_look_at_letters_back from
      (dss_cons (ds_if (dt_w (dw_or (dt_not (dt_val (de_isi kt_tuple (de_var 0) (by rfl) G.z_isinstance (by rfl) G.z_tuple PyProof.Rows.boot_tuple))) (dw_or1 (dt_not (dt_chain op_le opn_le op_le opn_le de_int (de_callB call_len_seq opn_len (by rfl) G.z_len PySem.boot_len (da_cons (de_var 0) da_nil)) (de_globE (by rfl) G.c_MOST_SOME fun _ => .int _)))))) (dss_one ds_bad) dss_nil)
      (dss_one (ds_for PassesOwn.never rfl (di_seq (de_sh (de_var 0))) (dg_name (i := 1) sc_look_at_letters_back.nd rfl (by decide) (by first | exact .inl rfl | exact .inr rfl)) (dss_one (ds_if (dt_w (dw_or (dt_not (dt_val (de_call ((ok_are_ints G).mono (by decide)) hr (by rfl) G.g1 G.F1.kp G.b1 (da_cons (de_var 1) (da_cons (de_sh (de_un un_neg opn_neg (de_globE (by rfl) G.c_MOST_TIME fun _ => .int _))) (da_cons (de_globE (by rfl) G.c_MOST_TIME fun _ => .int _) da_nil))) (faLen_cons (faLen_cons (faLen_cons faLen_nil)))))) (dw_or1 (dt_cmp (op_neU (Room.units hr)) opn_ne (de_callB call_len_seq opn_len (by rfl) G.z_len PySem.boot_len (da_cons (de_var 1) da_nil)) (de_op op_addU opn_add (de_globE (by rfl) G.c_THREE fun _ => .int _) de_int) (nomark _))))) (dss_one ds_bad) dss_nil)))))

theorem ok_told_between (G : Gs K mg fa fd) : FnOk P w K mg base CX0 1 (fa 4) (fd 4) ["times"] (spD K 1 F_told_between) :=
  fn_ok [] G.F4 sc_told_between fun cdv A outer s H E hr => show DSs _ _ _ m_told_between from
      (dss_cons (ds_asg (de_var 0) (dg_tup rfl (dgs_cons (dg_name (i := 1) sc_told_between.nd rfl (by decide) (by first | exact .inl rfl | exact .inr rfl)) (dgs_cons (dg_name (i := 2) sc_told_between.nd rfl (by decide) (by first | exact .inl rfl | exact .inr rfl)) (dgs_cons (dg_name (i := 3) sc_told_between.nd rfl (by decide) (by first | exact .inl rfl | exact .inr rfl)) (dgs_cons (dg_name (i := 4) sc_told_between.nd rfl (by decide) (by first | exact .inl rfl | exact .inr rfl)) dgs_nil))))))
      (dss_one (ds_ret (de_tup (da_cons (de_op op_sub opn_sub (de_var 3) (de_var 4)) (da_cons (de_op op_sub opn_sub (de_var 2) (de_var 1)) da_nil))))))

theorem ok_told_apart (G : Gs K mg fa fd) : FnOk P w K mg base CX0 1 (fa 5) (fd 5) ["some"] (spD K 1 F_told_apart) :=
  fn_ok [] G.F5 sc_told_apart fun cdv A outer s H E hr => show DSs _ _ _ m_told_apart from
      (dss_cons (ds_set (i := 1) sc_told_apart.nd rfl (by decide) (by first | exact .inl rfl | exact .inr rfl) (de_callB (call_maxU rfl (hu65 hr)) opn_max (by rfl) G.z_max PyProof.Rows.boot_max (da_cons (de_lc (own := [(("one" : Str), 3)]) rfl sc_told_apart.nd (di_seq (de_sh (de_var 0))) (blkOk_by (by kernel_rfl)) (fun _ _ _ _ _ => (dg_name (i := 3) sc_told_apart.nd rfl (by decide) (by first | exact .inl rfl | exact .inr rfl))) (fun _ _ _ _ _ => dts_nil) (fun _ _ _ _ _ => (de_sh (de_ix (de_var 3) de_int)))) da_nil)))
      (dss_cons (ds_set (i := 2) sc_told_apart.nd rfl (by decide) (by first | exact .inl rfl | exact .inr rfl) (de_callB (call_minU rfl (hu65 hr)) opn_min (by rfl) G.z_min PyProof.Rows.boot_min (da_cons (de_lc (own := [(("one" : Str), 3)]) rfl sc_told_apart.nd (di_seq (de_sh (de_var 0))) (blkOk_by (by kernel_rfl)) (fun _ _ _ _ _ => (dg_name (i := 3) sc_told_apart.nd rfl (by decide) (by first | exact .inl rfl | exact .inr rfl))) (fun _ _ _ _ _ => dts_nil) (fun _ _ _ _ _ => (de_sh (de_ix (de_var 3) de_int)))) da_nil)))
      (dss_cons (ds_if (dt_cmp op_le opn_le (de_var 1) (de_var 2) (nomark _)) (dss_one (ds_ret (de_tup (da_cons (de_globE (by rfl) G.c_APART fun _ => .str _) (da_cons (de_var 1) (da_cons (de_var 2) da_nil)))))) dss_nil)
      (dss_one (ds_ret (de_tup (da_cons (de_globE (by rfl) G.c_NEVER fun _ => .str _) (da_cons (de_index (hu65 hr) (de_lc (own := [(("one" : Str), 3)]) rfl sc_told_apart.nd (di_seq (de_sh (de_var 0))) (blkOk_by (by kernel_rfl)) (fun _ _ _ _ _ => (dg_name (i := 3) sc_told_apart.nd rfl (by decide) (by first | exact .inl rfl | exact .inr rfl))) (fun _ _ _ _ _ => dts_nil) (fun _ _ _ _ _ => (de_sh (de_ix (de_var 3) de_int)))) (da_cons (de_var 1) da_nil)) (da_cons (de_index (hu65 hr) (de_lc (own := [(("one" : Str), 3)]) rfl sc_told_apart.nd (di_seq (de_sh (de_var 0))) (blkOk_by (by kernel_rfl)) (fun _ _ _ _ _ => (dg_name (i := 3) sc_told_apart.nd rfl (by decide) (by first | exact .inl rfl | exact .inr rfl))) (fun _ _ _ _ _ => dts_nil) (fun _ _ _ _ _ => (de_sh (de_ix (de_var 3) de_int)))) (da_cons (de_var 2) da_nil)) da_nil)))))))))

theorem ok_clocks_apart (G : Gs K mg fa fd) : FnOk P w K mg base CX0 4 (fa 6) (fd 6) ["exchanges"] (spD K 1 F_clocks_apart) :=
  fn_ok [] G.F6 sc_clocks_apart fun cdv A outer s H E hr => show DSs _ _ _ m_clocks_apart from
      (dss_cons (ds_expr (de_call ((ok_look_at_letters_back G).mono (by decide)) hr (by rfl) G.g3 G.F3.kp G.b3 (da_cons (de_var 0) da_nil) (faLen_cons faLen_nil)))
      (dss_one (ds_ret (de_call ((ok_told_apart G).mono (by decide)) hr (by rfl) G.g5 G.F5.kp G.b5 (da_cons (de_sh (de_lc (own := [(("times" : Str), 1)]) rfl sc_clocks_apart.nd (di_seq (de_sh (de_var 0))) (blkOk_by (by kernel_rfl)) (fun _ _ _ _ _ => (dg_name (i := 1) sc_clocks_apart.nd rfl (by decide) (by first | exact .inl rfl | exact .inr rfl))) (fun _ _ _ _ _ => dts_nil) (fun _ _ _ _ _ => (de_sh (de_call ((ok_told_between G).mono (by decide)) hr (by rfl) G.g4 G.F4.kp G.b4 (da_cons (de_var 1) da_nil) (faLen_cons faLen_nil)))))) da_nil) (faLen_cons faLen_nil)))))

theorem ok_look_at_spans (G : Gs K mg fa fd) : FnOk P w K mg base CX0 3 (fa 7) (fd 7) ["spans"] (spD K 1 F_look_at_spans) :=
  fn_ok [] G.F7 sc_look_at_spans fun cdv A outer s H E hr => show DSs _ _ _ m_look_at_spans from
      (dss_cons (ds_if (dt_w (dw_or (dt_not (dt_val (de_isi kt_tuple (de_var 0) (by rfl) G.z_isinstance (by rfl) G.z_tuple PyProof.Rows.boot_tuple))) (dw_or1 (dt_not (dt_chain op_le opn_le op_le opn_le de_int (de_callB call_len_seq opn_len (by rfl) G.z_len PySem.boot_len (da_cons (de_var 0) da_nil)) (de_globE (by rfl) G.c_MOST_SOME fun _ => .int _)))))) (dss_one ds_bad) dss_nil)
      (dss_one (ds_for PassesOwn.never rfl (di_seq (de_sh (de_var 0))) (dg_name (i := 1) sc_look_at_spans.nd rfl (by decide) (by first | exact .inl rfl | exact .inr rfl)) (dss_one (ds_if (dt_w (dw_or (dt_not (dt_val (de_call ((ok_are_ints G).mono (by decide)) hr (by rfl) G.g1 G.F1.kp G.b1 (da_cons (de_var 1) (da_cons (de_sh (de_un un_neg opn_neg (de_globE (by rfl) G.c_MOST_TIME fun _ => .int _))) (da_cons (de_globE (by rfl) G.c_MOST_TIME fun _ => .int _) da_nil))) (faLen_cons (faLen_cons (faLen_cons faLen_nil)))))) (dw_or (dt_cmp (op_neU (Room.units hr)) opn_ne (de_callB call_len_seq opn_len (by rfl) G.z_len PySem.boot_len (da_cons (de_var 1) da_nil)) de_int (nomark _)) (dw_or1 (dt_cmp op_gt opn_gt (de_ix (de_var 1) de_int) (de_ix (de_var 1) de_int) (nomark _)))))) (dss_one ds_bad) dss_nil)))))

theorem ok_most_agree (G : Gs K mg fa fd) : FnOk P w K mg base CX0 4 (fa 8) (fd 8) ["spans"] (spD K 1 F_most_agree) :=
  fn_ok [] G.F8 sc_most_agree fun cdv A outer s H E hr => show DSs _ _ _ m_most_agree from
      (dss_cons (ds_expr (de_call ((ok_look_at_spans G).mono (by decide)) hr (by rfl) G.g7 G.F7.kp G.b7 (da_cons (de_var 0) da_nil) (faLen_cons faLen_nil)))
      (dss_cons (ds_set (i := 1) sc_most_agree.nd rfl (by decide) (by first | exact .inl rfl | exact .inr rfl) (de_tup (da_cons de_int (da_cons de_int (da_cons de_int da_nil)))))
      (dss_cons (ds_for PassesOwn.never rfl (di_seq (de_sh (de_sortedSet rfl (de_lc (own := [(("span" : Str), 4)]) rfl sc_most_agree.nd (di_seq (de_sh (de_var 0))) (blkOk_by (by kernel_rfl)) (fun _ _ _ _ _ => (dg_name (i := 4) sc_most_agree.nd rfl (by decide) (by first | exact .inl rfl | exact .inr rfl))) (fun _ _ _ _ _ => dts_nil) (fun _ _ _ _ _ => (de_sh (de_ix (de_var 4) de_int)))) (by rfl) G.z_sorted (by rfl) G.z_set))) (dg_name (i := 2) sc_most_agree.nd rfl (by decide) (by first | exact .inl rfl | exact .inr rfl)) (dss_cons (ds_setLc (own := [(("span" : Str), 4)]) rfl sc_most_agree.nd (i := 3) (y := "some") rfl rfl (by rfl) (gS_run (i := 3) (by decide)) (di_seq (de_sh (de_var 0))) (blkOk_by (by kernel_rfl)) (fun _ _ _ _ _ => (dg_name (i := 4) sc_most_agree.nd rfl (by decide) (by first | exact .inl rfl | exact .inr rfl))) (fun _ _ _ _ _ => (dts_one (dt_chain op_le opn_le op_le opn_le (de_ix (de_var 4) de_int) (de_var 2) (de_ix (de_var 4) de_int)))) (fun _ _ _ _ _ => (de_sh (de_var 4))))
      (dss_one (ds_if (dt_cmp op_gt opn_gt (de_callB call_len_seq opn_len (by rfl) G.z_len PySem.boot_len (da_cons (de_var 3) da_nil)) (de_ix (de_var 1) de_int) (nomark _)) (dss_one (ds_set (i := 1) sc_most_agree.nd rfl (by decide) (by first | exact .inl rfl | exact .inr rfl) (de_tup (da_cons (de_callB call_len_seq opn_len (by rfl) G.z_len PySem.boot_len (da_cons (de_var 3) da_nil)) (da_cons (de_var 2) (da_cons (de_callB (call_minU rfl (hu65 hr)) opn_min (by rfl) G.z_min PyProof.Rows.boot_min (da_cons (de_lc (own := [(("span" : Str), 4)]) rfl sc_most_agree.nd (di_seq (de_sh (de_var 3))) (blkOk_by (by kernel_rfl)) (fun _ _ _ _ _ => (dg_name (i := 4) sc_most_agree.nd rfl (by decide) (by first | exact .inl rfl | exact .inr rfl))) (fun _ _ _ _ _ => dts_nil) (fun _ _ _ _ _ => (de_sh (de_ix (de_var 4) de_int)))) da_nil)) da_nil)))))) dss_nil))))
      (dss_one (ds_ret (de_var 1))))))

theorem ok_told_points (G : Gs K mg fa fd) : FnOk P w K mg base CX0 1 (fa 9) (fd 9) ["spans"] (spD K 1 F_told_points) :=
  fn_ok [] G.F9 sc_told_points fun cdv A outer s H E hr => show DSs _ _ _ m_told_points from
      (dss_cons (ds_par (i := 1) (j := 2) rfl sc_told_points.nd rfl rfl (by decide) rfl rfl (stor_O (by decide)) (stor_O (by decide)) (da_cons (de_lst da_nil) (da_cons (de_lst da_nil) da_nil)) (by rfl))
      (dss_cons (ds_for PassesOwn.never rfl (di_seq (de_sh (de_callB (cr_sortedD (hu65 hr)) opn_sorted (by rfl) G.z_sorted PyProof.Rows.boot_sorted (da_cons (de_lc (own := [(("at" : Str), 5), (("span" : Str), 6)]) rfl sc_told_points.nd (di_argsF (fun h => pi_enumT (by rfl) G.z_enumerate h) iok_enumT (da_cons (de_sh (de_var 0)) da_nil)) (blkOk_by (by kernel_rfl)) (fun _ _ _ _ _ => (dg_tup rfl (dgs_cons (dg_name (i := 5) sc_told_points.nd rfl (by decide) (by first | exact .inl rfl | exact .inr rfl)) (dgs_cons (dg_name (i := 6) sc_told_points.nd rfl (by decide) (by first | exact .inl rfl | exact .inr rfl)) dgs_nil)))) (fun _ _ _ _ _ => dts_nil) (fun _ _ _ _ _ => (de_sh (de_tup (da_cons (de_ix (de_var 6) de_int) (da_cons (de_ix (de_var 6) de_int) (da_cons (de_var 5) da_nil))))))) da_nil)))) (dg_tup rfl (dgs_cons (dg_name (i := 3) sc_told_points.nd rfl (by decide) (by first | exact .inl rfl | exact .inr rfl)) (dgs_cons (dg_name (i := 4) sc_told_points.nd rfl (by decide) (by first | exact .inl rfl | exact .inr rfl)) (dgs_cons (dg_name (i := 5) sc_told_points.nd rfl (by decide) (by first | exact .inl rfl | exact .inr rfl)) dgs_nil)))) (dss_one (ds_if (dt_w (dw_or (dt_cmp (op_eqU (Room.units hr)) opn_eq (de_var 1) (de_lst da_nil) (nomark _)) (dw_or1 (dt_cmp (op_ltU (Room.units0 hr)) opn_lt (de_ix (de_var 1) (de_un un_neg opn_neg de_int)) (de_var 4) (nomark _))))) (dss_cons (ds_expr (de_mut (i := 1) mut_app PySem.F.slot_list_append PySem.F.type_list_append mt_append (dx_val (de_sh (de_var 3)) dx_nil) (fxLen_val fxLen_nil)))
      (dss_one (ds_expr (de_mut (i := 2) mut_app PySem.F.slot_list_append PySem.F.type_list_append mt_append (dx_val (de_sh (de_var 5)) dx_nil) (fxLen_val fxLen_nil))))) dss_nil)))
      (dss_one (ds_frz 1 (ds_frz 2 (ds_ret (de_tup (da_cons (de_callT call_tuple_of opn_tuple (by rfl) G.z_tuple PyProof.Rows.boot_tuple (da_cons (de_var 1) da_nil)) (da_cons (de_callT call_tuple_of opn_tuple (by rfl) G.z_tuple PyProof.Rows.boot_tuple (da_cons (de_callB (cr_sortedD (hu65 hr)) opn_sorted (by rfl) G.z_sorted PyProof.Rows.boot_sorted (da_cons (de_var 2) da_nil)) da_nil)) da_nil)))))))))

theorem ok_fewest_numbers (G : Gs K mg fa fd) : FnOk P w K mg base CX0 4 (fa 10) (fd 10) ["spans"] (spD K 1 F_fewest_numbers) :=
  fn_ok [] G.F10 sc_fewest_numbers fun cdv A outer s H E hr => show DSs _ _ _ m_fewest_numbers from
      (dss_cons (ds_expr (de_call ((ok_look_at_spans G).mono (by decide)) hr (by rfl) G.g7 G.F7.kp G.b7 (da_cons (de_var 0) da_nil) (faLen_cons faLen_nil)))
      (dss_one (ds_ret (de_call ((ok_told_points G).mono (by decide)) hr (by rfl) G.g9 G.F9.kp G.b9 (da_cons (de_var 0) da_nil) (faLen_cons faLen_nil)))))

theorem ok_look_at_bounds (G : Gs K mg fa fd) : FnOk P w K mg base CX0 3 (fa 11) (fd 11) ["many", "bounds"] (spD K 2 F_look_at_bounds) :=
  fn_ok [] G.F11 sc_look_at_bounds fun cdv A outer s H E hr => show DSs _ _ _ m_look_at_bounds from
      (dss_cons (ds_if (dt_not (dt_val (de_call ((ok_is_int G).mono (by decide)) hr (by rfl) G.g0 G.F0.kp G.b0 (da_cons (de_var 0) (da_cons (de_sh de_int) (da_cons (de_globE (by rfl) G.c_MOST_HOSTS fun _ => .int _) da_nil))) (faLen_cons (faLen_cons (faLen_cons faLen_nil)))))) (dss_one ds_bad) dss_nil)
      (dss_cons (ds_if (dt_w (dw_or (dt_not (dt_val (de_isi kt_tuple (de_var 1) (by rfl) G.z_isinstance (by rfl) G.z_tuple PyProof.Rows.boot_tuple))) (dw_or1 (dt_cmp op_gt opn_gt (de_callB call_len_seq opn_len (by rfl) G.z_len PySem.boot_len (da_cons (de_var 1) da_nil)) (de_globE (by rfl) G.c_MOST_SOME fun _ => .int _) (nomark _))))) (dss_one ds_bad) dss_nil)
      (dss_one (ds_for PassesOwn.never rfl (di_seq (de_sh (de_var 1))) (dg_name (i := 2) sc_look_at_bounds.nd rfl (by decide) (by first | exact .inl rfl | exact .inr rfl)) (dss_cons (ds_if (dt_w (dw_or (dt_not (dt_val (de_call ((ok_are_ints G).mono (by decide)) hr (by rfl) G.g1 G.F1.kp G.b1 (da_cons (de_var 2) (da_cons (de_sh (de_un un_neg opn_neg (de_globE (by rfl) G.c_MOST_TIME fun _ => .int _))) (da_cons (de_globE (by rfl) G.c_MOST_TIME fun _ => .int _) da_nil))) (faLen_cons (faLen_cons (faLen_cons faLen_nil)))))) (dw_or1 (dt_cmp (op_neU (Room.units hr)) opn_ne (de_callB call_len_seq opn_len (by rfl) G.z_len PySem.boot_len (da_cons (de_var 2) da_nil)) (de_globE (by rfl) G.c_THREE fun _ => .int _) (nomark _))))) (dss_one ds_bad) dss_nil)
      (dss_one (ds_if (dt_not (dt_val (de_call ((ok_are_ints G).mono (by decide)) hr (by rfl) G.g1 G.F1.kp G.b1 (da_cons (de_sh (de_slice (de_var 2) do_none (do_some de_int pur_c))) (da_cons (de_sh de_int) (da_cons (de_sh (de_op op_sub opn_sub (de_var 0) de_int)) da_nil))) (faLen_cons (faLen_cons (faLen_cons faLen_nil)))))) (dss_one ds_bad) dss_nil)))))))

theorem ok_told_clocks (G : Gs K mg fa fd) : FnOk P w K mg base CX0 1 (fa 12) (fd 12) ["many", "bounds"] (spD K 2 F_told_clocks) :=
  fn_ok [] G.F12 sc_told_clocks fun cdv A outer s H E hr => show DSs _ _ _ m_told_clocks from
      (dss_cons (ds_par (i := 2) (j := 3) rfl sc_told_clocks.nd rfl rfl (by decide) rfl rfl (stor_O (by decide)) (stor_O (by decide)) (da_cons (de_op op_mulU opn_mul (de_lst (da_cons de_int da_nil)) (de_var 0)) (da_cons (de_op op_mulU opn_mul (de_lst (da_cons de_non da_nil)) (de_var 0)) da_nil)) (by rfl))
      (dss_cons (ds_set (i := 4) sc_told_clocks.nd rfl (by decide) (by first | exact .inl rfl | exact .inr rfl) de_non)
      (dss_cons (ds_for PassesOwn.never rfl (di_argsF (fun h => pi_range1 (by rfl) G.z_range h) iok_r1 (da_cons (de_var 0) da_nil)) (dg_name (i := 5) sc_told_clocks.nd rfl (by decide) (by first | exact .inl rfl | exact .inr rfl)) (dss_cons (ds_set (i := 4) sc_told_clocks.nd rfl (by decide) (by first | exact .inl rfl | exact .inr rfl) de_non)
      (dss_one (ds_for PassesOwn.never rfl (di_argsF (fun h => pi_enumT (by rfl) G.z_enumerate h) iok_enumT (da_cons (de_sh (de_var 1)) da_nil)) (dg_tup rfl (dgs_cons (dg_name (i := 6) sc_told_clocks.nd rfl (by decide) (by first | exact .inl rfl | exact .inr rfl)) (dgs_cons (dg_tup rfl (dgs_cons (dg_name (i := 7) sc_told_clocks.nd rfl (by decide) (by first | exact .inl rfl | exact .inr rfl)) (dgs_cons (dg_name (i := 8) sc_told_clocks.nd rfl (by decide) (by first | exact .inl rfl | exact .inr rfl)) (dgs_cons (dg_name (i := 9) sc_told_clocks.nd rfl (by decide) (by first | exact .inl rfl | exact .inr rfl)) dgs_nil)))) dgs_nil))) (dss_one (ds_if (dt_cmp (op_ltU (Room.units0 hr)) opn_lt (de_op op_addU opn_add (de_ix (de_var 2) (de_var 7)) (de_var 9)) (de_ix (de_var 2) (de_var 8)) (nomark _)) (dss_one (ds_unt rfl (da_cons (de_op op_addU opn_add (de_ix (de_var 2) (de_var 7)) (de_var 9)) (da_cons (de_var 6) (da_cons (de_var 8) da_nil))) (faLen_cons (faLen_cons (faLen_cons faLen_nil))) (dgs_cons (dg_sub (i := 2) (de_var 8)) (dgs_cons (dg_sub (i := 3) (de_var 8)) (dgs_cons (dg_name (i := 4) sc_told_clocks.nd rfl (by decide) (by first | exact .inl rfl | exact .inr rfl)) dgs_nil))))) dss_nil))))))
      (dss_cons (ds_frz 2 (ds_frz 3 (ds_if (dt_cmp op_isU opn_is (de_var 4) de_non (nomark _)) (dss_one (ds_ret (de_tup (da_cons (de_globE (by rfl) G.c_CLOCKS fun _ => .str _) (da_cons (de_callT call_tuple_of opn_tuple (by rfl) G.z_tuple PyProof.Rows.boot_tuple (da_cons (de_var 2) da_nil)) da_nil))))) dss_nil)))
      (dss_cons (ds_for PassesOwn.never rfl (di_argsF (fun h => pi_range1 (by rfl) G.z_range h) iok_r1 (da_cons (de_var 0) da_nil)) (dg_name (i := 5) sc_told_clocks.nd rfl (by decide) (by first | exact .inl rfl | exact .inr rfl)) (dss_one (ds_set (i := 4) sc_told_clocks.nd rfl (by decide) (by first | exact .inl rfl | exact .inr rfl) (de_ix (de_ix (de_var 1) (de_ix (de_var 3) (de_var 4))) de_int))))
      (dss_cons (ds_par (i := 10) (j := 11) rfl sc_told_clocks.nd rfl rfl (by decide) rfl rfl (stor_O (by decide)) (stor_S (by decide)) (da_cons (de_lst da_nil) (da_cons (de_var 4) da_nil)) (by rfl))
      (dss_cons (ds_while 1000 PassesOwn.never (dt_w (dw_or (dt_cmp (op_eqU (Room.units hr)) opn_eq (de_var 10) (de_lst da_nil) (nomark _)) (dw_or1 (dt_cmp (op_neU (Room.units hr)) opn_ne (de_var 11) (de_var 4) (nomark _))))) (dss_cons (ds_expr (de_mut (i := 10) mut_app PySem.F.slot_list_append PySem.F.type_list_append mt_append (dx_val (de_sh (de_ix (de_var 3) (de_var 11))) dx_nil) (fxLen_val fxLen_nil)))
      (dss_one (ds_set (i := 11) sc_told_clocks.nd rfl (by decide) (by first | exact .inl rfl | exact .inr rfl) (de_ix (de_ix (de_var 1) (de_ix (de_var 3) (de_var 11))) de_int)))))
      (dss_one (ds_frz 10 (ds_ret (de_tup (da_cons (de_globE (by rfl) G.c_RING fun _ => .str _) (da_cons (de_callT call_tuple_of opn_tuple (by rfl) G.z_tuple PyProof.Rows.boot_tuple (da_cons (de_rev (de_var 10)) da_nil)) da_nil)))))))))))))

theorem ok_clocks_for (G : Gs K mg fa fd) : FnOk P w K mg base CX0 4 (fa 13) (fd 13) ["many", "bounds"] (spD K 2 F_clocks_for) :=
  fn_ok [] G.F13 sc_clocks_for fun cdv A outer s H E hr => show DSs _ _ _ m_clocks_for from
      (dss_cons (ds_expr (de_call ((ok_look_at_bounds G).mono (by decide)) hr (by rfl) G.g11 G.F11.kp G.b11 (da_cons (de_var 0) (da_cons (de_var 1) da_nil)) (faLen_cons (faLen_cons faLen_nil))))
      (dss_one (ds_ret (de_call ((ok_told_clocks G).mono (by decide)) hr (by rfl) G.g12 G.F12.kp G.b12 (da_cons (de_var 0) (da_cons (de_var 1) da_nil)) (faLen_cons (faLen_cons faLen_nil))))))

theorem ok_shows_clocks_for (G : Gs K mg fa fd) : FnOk P w K mg base CX0 4 (fa 14) (fd 14) ["many", "bounds", "value"] (spD K 3 F_shows_clocks_for) :=
  fn_ok [] G.F14 sc_shows_clocks_for fun cdv A outer s H E hr => show DSs _ _ _ m_shows_clocks_for from
      (dss_cons (ds_expr (de_call ((ok_look_at_bounds G).mono (by decide)) hr (by rfl) G.g11 G.F11.kp G.b11 (da_cons (de_var 0) (da_cons (de_var 1) da_nil)) (faLen_cons (faLen_cons faLen_nil))))
      (dss_cons (ds_if (dt_not (dt_val (de_call ((ok_is_told G).mono (by decide)) hr (by rfl) G.g2 G.F2.kp G.b2 (da_cons (de_var 2) (da_cons (de_sh (de_tup (da_cons de_int da_nil))) da_nil)) (faLen_cons (faLen_cons faLen_nil))))) (dss_one (ds_ret de_bl)) dss_nil)
      (dss_cons (ds_if (dt_cmp (op_eqU (Room.units hr)) opn_eq (de_ix (de_var 2) de_int) (de_globE (by rfl) G.c_CLOCKS fun _ => .str _) (nomark _)) (dss_cons (ds_if (dt_w (dw_or (dt_not (dt_val (de_call ((ok_are_ints G).mono (by decide)) hr (by rfl) G.g1 G.F1.kp G.b1 (da_cons (de_sh (de_ix (de_var 2) de_int)) (da_cons (de_sh (de_op op_mulU opn_mul (de_un un_neg opn_neg (de_globE (by rfl) G.c_MOST_SOME fun _ => .int _)) (de_globE (by rfl) G.c_MOST_TIME fun _ => .int _))) (da_cons (de_sh (de_op op_mulU opn_mul (de_globE (by rfl) G.c_MOST_SOME fun _ => .int _) (de_globE (by rfl) G.c_MOST_TIME fun _ => .int _))) da_nil))) (faLen_cons (faLen_cons (faLen_cons faLen_nil)))))) (dw_or1 (dt_cmp (op_neU (Room.units hr)) opn_ne (de_callB call_len_seq opn_len (by rfl) G.z_len PySem.boot_len (da_cons (de_ix (de_var 2) de_int) da_nil)) (de_var 0) (nomark _))))) (dss_one (ds_ret de_bl)) dss_nil)
      (dss_one (ds_ret (de_callB (cr_all rfl) opn_all (by rfl) G.z_all PyProof.Rows.boot_all (da_cons (de_lc (own := [(("one" : Str), 4), (("other" : Str), 5), (("most" : Str), 6)]) rfl sc_shows_clocks_for.nd (di_seq (de_sh (de_var 1))) (blkOk_by (by kernel_rfl)) (fun _ _ _ _ _ => (dg_tup rfl (dgs_cons (dg_name (i := 4) sc_shows_clocks_for.nd rfl (by decide) (by first | exact .inl rfl | exact .inr rfl)) (dgs_cons (dg_name (i := 5) sc_shows_clocks_for.nd rfl (by decide) (by first | exact .inl rfl | exact .inr rfl)) (dgs_cons (dg_name (i := 6) sc_shows_clocks_for.nd rfl (by decide) (by first | exact .inl rfl | exact .inr rfl)) dgs_nil))))) (fun _ _ _ _ _ => dts_nil) (fun _ _ _ _ _ => (de_sh (de_cmp op_le opn_le (de_op op_sub opn_sub (de_ix (de_ix (de_var 2) de_int) (de_var 5)) (de_ix (de_ix (de_var 2) de_int) (de_var 4))) (de_var 6) (nomark _))))) da_nil))))) dss_nil)
      (dss_cons (ds_if (dt_w (dw_or (dt_cmp (op_neU (Room.units hr)) opn_ne (de_ix (de_var 2) de_int) (de_globE (by rfl) G.c_RING fun _ => .str _) (nomark _)) (dw_or (dt_not (dt_val (de_call ((ok_are_ints G).mono (by decide)) hr (by rfl) G.g1 G.F1.kp G.b1 (da_cons (de_sh (de_ix (de_var 2) de_int)) (da_cons (de_sh de_int) (da_cons (de_sh (de_op op_sub opn_sub (de_callB call_len_seq opn_len (by rfl) G.z_len PySem.boot_len (da_cons (de_var 1) da_nil)) de_int)) da_nil))) (faLen_cons (faLen_cons (faLen_cons faLen_nil)))))) (dw_or1 (dt_cmp (op_eqU (Room.units hr)) opn_eq (de_ix (de_var 2) de_int) (de_tup da_nil) (nomark _)))))) (dss_one (ds_ret de_bl)) dss_nil)
      (dss_cons (ds_setLc (own := [(("at" : Str), 7)]) rfl sc_shows_clocks_for.nd (i := 3) (y := "some") rfl rfl (by rfl) (gS_run (i := 3) (by decide)) (di_seq (de_sh (de_ix (de_var 2) de_int))) (blkOk_by (by kernel_rfl)) (fun _ _ _ _ _ => (dg_name (i := 7) sc_shows_clocks_for.nd rfl (by decide) (by first | exact .inl rfl | exact .inr rfl))) (fun _ _ _ _ _ => dts_nil) (fun _ _ _ _ _ => (de_sh (de_ix (de_var 1) (de_var 7)))))
      (dss_cons (ds_if (dt_not (dt_val (de_callB (cr_all rfl) opn_all (by rfl) G.z_all PyProof.Rows.boot_all (da_cons (de_lc (own := [(("one" : Str), 4), (("other" : Str), 5)]) rfl sc_shows_clocks_for.nd (di_argsF (fun h => RZ.pi_zipA (by rfl) G.z_zip h) iok_zip (da_cons (de_sh (de_var 3)) (da_cons (de_sh (de_lst (da_star (de_sh (de_slice (de_var 3) (do_some de_int pur_c) do_none)) (da_cons (de_ix (de_var 3) de_int) da_nil)))) da_nil))) (blkOk_by (by kernel_rfl)) (fun _ _ _ _ _ => (dg_tup rfl (dgs_cons (dg_name (i := 4) sc_shows_clocks_for.nd rfl (by decide) (by first | exact .inl rfl | exact .inr rfl)) (dgs_cons (dg_name (i := 5) sc_shows_clocks_for.nd rfl (by decide) (by first | exact .inl rfl | exact .inr rfl)) dgs_nil)))) (fun _ _ _ _ _ => dts_nil) (fun _ _ _ _ _ => (de_sh (de_cmp (op_eqU (Room.units hr)) opn_eq (de_ix (de_var 4) de_int) (de_ix (de_var 5) de_int) (nomark _))))) da_nil)))) (dss_one (ds_ret de_bl)) dss_nil)
      (dss_one (ds_ret (de_cmp (op_ltU (Room.units0 hr)) opn_lt (de_callB (cr_sum rfl) opn_sum (by rfl) G.z_sum PyProof.Rows.boot_sum (da_cons (de_lc (own := [(("bound" : Str), 8)]) rfl sc_shows_clocks_for.nd (di_seq (de_sh (de_var 3))) (blkOk_by (by kernel_rfl)) (fun _ _ _ _ _ => (dg_name (i := 8) sc_shows_clocks_for.nd rfl (by decide) (by first | exact .inl rfl | exact .inr rfl))) (fun _ _ _ _ _ => dts_nil) (fun _ _ _ _ _ => (de_sh (de_ix (de_var 8) de_int)))) da_nil)) de_int (nomark _))))))))))

theorem ok__law_pot (G : Gs K mg fa fd) : FnOk P w K mg base CX0 1 (fa 15) (fd 15) ["script", "place"] (spD K 2 F__law_pot) :=
  fn_ok [] G.F15 sc__law_pot fun cdv A outer s H E hr => show DSs _ _ _ m__law_pot from
      (dss_cons (ds_set (i := 2) sc__law_pot.nd rfl (by decide) (by first | exact .inl rfl | exact .inr rfl) (de_ite (dt_cmp (op_ltU (Room.units0 hr)) opn_lt (de_var 1) (de_callB call_len_seq opn_len (by rfl) G.z_len PySem.boot_len (da_cons (de_var 0) da_nil)) (nomark _)) (de_ix (de_var 0) (de_var 1)) (de_op op_addU opn_add (de_op op_addU opn_add (de_op op_modN opn_mod (de_callT call_int1 opn_int (by rfl) G.z_int PyProof.Rows.boot_int (da_cons (de_callB (cr_sum rfl) opn_sum (by rfl) G.z_sum PyProof.Rows.boot_sum (da_cons (de_slice (de_var 0) do_none (do_some de_int pur_c)) da_nil)) da_nil)) de_int) (de_op op_mulU opn_mul de_int (de_var 1))) de_int)))
      (dss_cons (ds_set (i := 3) sc__law_pot.nd rfl (by decide) (by first | exact .inl rfl | exact .inr rfl) (de_op op_mulU opn_mul (de_op op_modN opn_mod (de_callT call_int1 opn_int (by rfl) G.z_int PyProof.Rows.boot_int (da_cons (de_callB call_abs opn_abs (by rfl) G.z_abs PyProof.Rows.boot_abs (da_cons (de_var 2) da_nil)) da_nil)) (de_op op_powW opn_powW (de_op op_powW opn_powW de_int de_int) de_int)) (de_callT call_int1 opn_int (by rfl) G.z_int PyProof.Rows.boot_int (da_cons (de_cmp op_ge opn_ge (de_callB call_abs opn_abs (by rfl) G.z_abs PyProof.Rows.boot_abs (da_cons (de_var 2) da_nil)) (de_op op_powW opn_powW de_int de_int) (nomark _)) da_nil))))
      (dss_cons (ds_set (i := 4) sc__law_pot.nd rfl (by decide) (by first | exact .inl rfl | exact .inr rfl) (de_op op_modN opn_mod (de_callT call_int1 opn_int (by rfl) G.z_int PyProof.Rows.boot_int (da_cons (de_var 2) da_nil)) de_int))
      (dss_one (ds_ret (de_lst (da_cons (de_var 3) (da_cons (de_op op_modN opn_mod (de_callT call_int1 opn_int (by rfl) G.z_int PyProof.Rows.boot_int (da_cons (de_op op_addU opn_add (de_op op_addU opn_add (de_op op_mulU opn_mul (de_var 4) de_int) (de_op op_mulU opn_mul (de_op op_mulU opn_mul de_int (de_var 1)) (de_var 1))) de_int) da_nil)) de_int) (da_cons de_int da_nil)))))))))

theorem ok__law_take (G : Gs K mg fa fd) : FnOk P w K mg base CX0 1 (fa 16) (fd 16) ["pot", "upto"] (spD K 2 F__law_take) :=
  fn_ok [0] G.F16 sc__law_take fun cdv A outer s H E hr => show DSs _ _ _ m__law_take from
      (dss_cons (ds_if (dt_cmp op_gt opn_gt (de_ix (de_var 0) de_int) de_int (nomark _)) (dss_cons (ds_set (i := 2) sc__law_take.nd rfl (by decide) (by first | exact .inl rfl | exact .inr rfl) (de_op op_modN opn_mod (de_callT call_int1 opn_int (by rfl) G.z_int PyProof.Rows.boot_int (da_cons (de_ix (de_var 0) de_int) da_nil)) (de_var 1)))
      (dss_cons (ds_asg (de_op op_fdivW opn_div (de_ix (de_var 0) de_int) (de_var 1)) (dg_sub (i := 0) de_int))
      (dss_one (ds_ret (de_var 2))))) dss_nil)
      (dss_cons (ds_asg (de_op op_addU opn_add (de_ix (de_var 0) de_int) de_int) (dg_sub (i := 0) de_int))
      (dss_cons (ds_set (i := 3) sc__law_take.nd rfl (by decide) (by first | exact .inl rfl | exact .inr rfl) (de_ix (de_lst (da_cons de_int (da_cons de_int (da_cons de_int (da_cons de_int (da_cons de_int da_nil)))))) (de_op op_modN opn_mod (de_callT call_int1 opn_int (by rfl) G.z_int PyProof.Rows.boot_int (da_cons (de_ix (de_var 0) de_int) da_nil)) de_int)))
      (dss_cons (ds_set (i := 4) sc__law_take.nd rfl (by decide) (by first | exact .inl rfl | exact .inr rfl) (de_op op_modN opn_mod (de_callT call_int1 opn_int (by rfl) G.z_int PyProof.Rows.boot_int (da_cons (de_op op_powW opn_powW (de_callT call_int1 opn_int (by rfl) G.z_int PyProof.Rows.boot_int (da_cons (de_op op_addU opn_add (de_op op_addU opn_add (de_ix (de_var 0) de_int) (de_op op_mulU opn_mul (de_op op_mulU opn_mul de_int (de_ix (de_var 0) de_int)) (de_ix (de_var 0) de_int))) de_int) da_nil)) de_int) da_nil)) (de_var 3)))
      (dss_cons (ds_set (i := 4) sc__law_take.nd rfl (by decide) (by first | exact .inl rfl | exact .inr rfl) (de_op op_modN opn_mod (de_callT call_int1 opn_int (by rfl) G.z_int PyProof.Rows.boot_int (da_cons (de_op op_mulU opn_mul (de_var 4) (de_op op_addU opn_add (de_op op_modN opn_mod (de_callT call_int1 opn_int (by rfl) G.z_int PyProof.Rows.boot_int (da_cons (de_var 4) da_nil)) de_int) (de_op op_mulU opn_mul de_int (de_ix (de_var 0) de_int)))) da_nil)) de_int))
      (dss_one (ds_ret (de_op op_modN opn_mod (de_callT call_int1 opn_int (by rfl) G.z_int PyProof.Rows.boot_int (da_cons (de_op op_fdivW opn_div (de_var 4) de_int) da_nil)) (de_var 1)))))))))

theorem ok__law_of (G : Gs K mg fa fd) : FnOk P w K mg base CX0 2 (fa 17) (fd 17) ["pot", "some"] (spD K 2 F__law_of) :=
  fn_ok [0] G.F17 sc__law_of fun cdv A outer s H E hr => show DSs _ _ _ m__law_of from
      (dss_one (ds_ret (de_ix (de_var 1) (de_callX ((ok__law_take G).mono (by decide)) hr (by rfl) G.g16 G.F16.kp G.b16 (dx_name 0 (dx_val (de_sh (de_callB call_len_seq opn_len (by rfl) G.z_len PySem.boot_len (da_cons (de_var 1) da_nil))) dx_nil)) (fxLen_name (fxLen_val fxLen_nil))))))

theorem ok__law_cells (G : Gs K mg fa fd) : FnOk P w K mg base CX0 1 (fa 18) (fd 18) ["script", "most"] (spD K 2 F__law_cells) :=
  fn_ok [] G.F18 sc__law_cells fun cdv A outer s H E hr => show DSs _ _ _ m__law_cells from
      (dss_one (ds_ret (de_listR1 rfl (de_callB (call_maxU rfl (hu65 hr)) opn_max (by rfl) G.z_max PyProof.Rows.boot_max (da_cons de_int (da_cons (de_callB (call_minU rfl (hu65 hr)) opn_min (by rfl) G.z_min PyProof.Rows.boot_min (da_cons (de_var 1) (da_cons (de_callB call_len_seq opn_len (by rfl) G.z_len PySem.boot_len (da_cons (de_var 0) da_nil)) da_nil))) da_nil))) (by rfl) G.z_list (by rfl) G.z_range)))

theorem ok__law_some (G : Gs K mg fa fd) : FnOk P w K mg base CX0 2 (fa 19) (fd 19) ["pot", "pool", "many"] (spD K 3 F__law_some) :=
  fn_ok [0] G.F19 sc__law_some fun cdv A outer s H E hr => show DSs _ _ _ m__law_some from
      (dss_cons (ds_par (i := 3) (j := 4) rfl sc__law_some.nd rfl rfl (by decide) rfl rfl (stor_O (by decide)) (stor_O (by decide)) (da_cons (de_callT call_list_of opn_list (by rfl) G.z_list PyProof.Rows.boot_list (da_cons (de_var 1) da_nil)) (da_cons (de_lst da_nil) da_nil)) (by rfl))
      (dss_cons (ds_for PassesOwn.never rfl (di_argsF (fun h => pi_range1 (by rfl) G.z_range h) iok_r1 (da_cons (de_var 2) da_nil)) (dg_name (i := 5) sc__law_some.nd rfl (by decide) (by first | exact .inl rfl | exact .inr rfl)) (dss_one (ds_expr (de_mut (i := 4) mut_app PySem.F.slot_list_append PySem.F.type_list_append mt_append (dx_val (de_sh (de_mut (i := 3) mut_popAt PySem.F.slot_list_pop PySem.F.type_list_pop mt_popAt (dx_val (de_sh (de_callX ((ok__law_take G).mono (by decide)) hr (by rfl) G.g16 G.F16.kp G.b16 (dx_name 0 (dx_val (de_sh (de_callB call_len_seq opn_len (by rfl) G.z_len PySem.boot_len (da_cons (de_var 3) da_nil))) dx_nil)) (fxLen_name (fxLen_val fxLen_nil)))) dx_nil) (fxLen_val fxLen_nil))) dx_nil) (fxLen_val fxLen_nil)))))
      (dss_one (ds_frz 4 (ds_ret (de_var 4))))))

theorem ok__law_letters_drawn (G : Gs K mg fa fd) : FnOk P w K mg base CX0 3 (fa 20) (fd 20) ["pot"] (spD K 1 F__law_letters_drawn) :=
  fn_ok [0] G.F20 sc__law_letters_drawn fun cdv A outer s H E hr => show DSs _ _ _ m__law_letters_drawn from
      (dss_cons (ds_set (i := 1) sc__law_letters_drawn.nd rfl (by decide) (by first | exact .inl rfl | exact .inr rfl) (de_callX ((ok__law_of G).mono (by decide)) hr (by rfl) G.g17 G.F17.kp G.b17 (dx_name 0 (dx_val (de_sh (de_lst (da_cons de_int (da_cons de_int (da_cons (de_op op_powW opn_powW de_int de_int) da_nil))))) dx_nil)) (fxLen_name (fxLen_val fxLen_nil))))
      (dss_cons (ds_par (i := 2) (j := 3) rfl sc__law_letters_drawn.nd rfl rfl (by decide) rfl rfl (stor_S (by decide)) (stor_O (by decide)) (da_cons (de_op op_sub opn_sub (de_callT call_int1 opn_int (by rfl) G.z_int PyProof.Rows.boot_int (da_cons (de_callX ((ok__law_take G).mono (by decide)) hr (by rfl) G.g16 G.F16.kp G.b16 (dx_name 0 (dx_val (de_sh (de_op op_addU opn_add (de_op op_mulU opn_mul de_int (de_var 1)) de_int)) dx_nil)) (fxLen_name (fxLen_val fxLen_nil))) da_nil)) (de_var 1)) (da_cons (de_lst da_nil) da_nil)) (by rfl))
      (dss_cons (ds_for PassesOwn.never rfl (di_argsF (fun h => pi_range1 (by rfl) G.z_range h) iok_r1 (da_cons (de_op op_addU opn_add de_int (de_callX ((ok__law_take G).mono (by decide)) hr (by rfl) G.g16 G.F16.kp G.b16 (dx_name 0 (dx_val (de_sh de_int) dx_nil)) (fxLen_name (fxLen_val fxLen_nil)))) da_nil)) (dg_name (i := 4) sc__law_letters_drawn.nd rfl (by decide) (by first | exact .inl rfl | exact .inr rfl)) (dss_cons (ds_set (i := 5) sc__law_letters_drawn.nd rfl (by decide) (by first | exact .inl rfl | exact .inr rfl) (de_callT call_int1 opn_int (by rfl) G.z_int PyProof.Rows.boot_int (da_cons (de_callX ((ok__law_take G).mono (by decide)) hr (by rfl) G.g16 G.F16.kp G.b16 (dx_name 0 (dx_val (de_sh (de_op op_powW opn_powW de_int de_int)) dx_nil)) (fxLen_name (fxLen_val fxLen_nil))) da_nil)))
      (dss_cons (ds_set (i := 6) sc__law_letters_drawn.nd rfl (by decide) (by first | exact .inl rfl | exact .inr rfl) (de_op op_sub opn_sub (de_op op_addU opn_add (de_op op_addU opn_add (de_var 5) (de_var 2)) (de_callT call_int1 opn_int (by rfl) G.z_int PyProof.Rows.boot_int (da_cons (de_callX ((ok__law_take G).mono (by decide)) hr (by rfl) G.g16 G.F16.kp G.b16 (dx_name 0 (dx_name 1 dx_nil)) (fxLen_name (fxLen_name fxLen_nil))) da_nil))) (de_op op_fdivW opn_div (de_callT call_int1 opn_int (by rfl) G.z_int PyProof.Rows.boot_int (da_cons (de_callX ((ok__law_take G).mono (by decide)) hr (by rfl) G.g16 G.F16.kp G.b16 (dx_name 0 (dx_val (de_sh de_int) dx_nil)) (fxLen_name (fxLen_val fxLen_nil))) da_nil)) de_int)))
      (dss_cons (ds_set (i := 7) sc__law_letters_drawn.nd rfl (by decide) (by first | exact .inl rfl | exact .inr rfl) (de_op op_addU opn_add (de_var 6) (de_callT call_int1 opn_int (by rfl) G.z_int PyProof.Rows.boot_int (da_cons (de_callX ((ok__law_take G).mono (by decide)) hr (by rfl) G.g16 G.F16.kp G.b16 (dx_name 0 (dx_val (de_sh de_int) dx_nil)) (fxLen_name (fxLen_val fxLen_nil))) da_nil))))
      (dss_one (ds_expr (de_mut (i := 3) mut_app PySem.F.slot_list_append PySem.F.type_list_append mt_append (dx_val (de_sh (de_tup (da_cons (de_var 5) (da_cons (de_var 6) (da_cons (de_var 7) (da_cons (de_op op_addU opn_add (de_op op_sub opn_sub (de_var 7) (de_var 2)) (de_callT call_int1 opn_int (by rfl) G.z_int PyProof.Rows.boot_int (da_cons (de_callX ((ok__law_take G).mono (by decide)) hr (by rfl) G.g16 G.F16.kp G.b16 (dx_name 0 (dx_name 1 dx_nil)) (fxLen_name (fxLen_name fxLen_nil))) da_nil))) da_nil)))))) dx_nil) (fxLen_val fxLen_nil))))))))
      (dss_one (ds_frz 3 (ds_ret (de_callT call_tuple_of opn_tuple (by rfl) G.z_tuple PyProof.Rows.boot_tuple (da_cons (de_var 3) da_nil))))))))

theorem ok__law_are_letters_right (G : Gs K mg fa fd) : FnOk P w K mg base CX0 5 (fa 21) (fd 21) ["letters"] (spD K 1 F__law_are_letters_right) :=
  fn_ok [] G.F21 sc__law_are_letters_right fun cdv A outer s H E hr => show DSs _ _ _ m__law_are_letters_right from
      (dss_cons (ds_par (i := 1) (j := 2) rfl sc__law_are_letters_right.nd rfl rfl (by decide) rfl rfl (stor_S (by decide)) (stor_S (by decide)) (da_cons (de_call ((ok_clocks_apart G).mono (by decide)) hr (by rfl) G.g6 G.F6.kp G.b6 (da_cons (de_var 0) da_nil) (faLen_cons faLen_nil)) (da_cons (de_lst da_nil) da_nil)) (by rfl))
      (dss_cons (ds_for PassesOwn.never rfl (di_seq (de_sh (de_var 0))) (dg_tup rfl (dgs_cons (dg_name (i := 3) sc__law_are_letters_right.nd rfl (by decide) (by first | exact .inl rfl | exact .inr rfl)) (dgs_cons (dg_name (i := 4) sc__law_are_letters_right.nd rfl (by decide) (by first | exact .inl rfl | exact .inr rfl)) (dgs_cons (dg_name (i := 5) sc__law_are_letters_right.nd rfl (by decide) (by first | exact .inl rfl | exact .inr rfl)) (dgs_cons (dg_name (i := 6) sc__law_are_letters_right.nd rfl (by decide) (by first | exact .inl rfl | exact .inr rfl)) dgs_nil))))) (dss_one (ds_set (i := 2) sc__law_are_letters_right.nd rfl (by decide) (by first | exact .inl rfl | exact .inr rfl) (de_op op_addU opn_add (de_var 2) (de_lst (da_cons (de_tup (da_cons de_int (da_cons de_int (da_cons (de_op op_sub opn_sub (de_var 4) (de_var 3)) da_nil)))) (da_cons (de_tup (da_cons de_int (da_cons de_int (da_cons (de_op op_sub opn_sub (de_var 6) (de_var 5)) da_nil)))) da_nil)))))))
      (dss_cons (ds_set (i := 7) sc__law_are_letters_right.nd rfl (by decide) (by first | exact .inl rfl | exact .inr rfl) (de_call ((ok_clocks_for G).mono (by decide)) hr (by rfl) G.g13 G.F13.kp G.b13 (da_cons (de_sh de_int) (da_cons (de_sh (de_callT call_tuple_of opn_tuple (by rfl) G.z_tuple PyProof.Rows.boot_tuple (da_cons (de_var 2) da_nil))) da_nil)) (faLen_cons (faLen_cons faLen_nil))))
      (dss_cons (ds_if (dt_cmp (op_neU (Room.units hr)) opn_ne (de_cmp (op_eqU (Room.units hr)) opn_eq (de_ix (de_var 1) de_int) de_str (nomark _)) (de_cmp (op_eqU (Room.units hr)) opn_eq (de_ix (de_var 7) de_int) de_str (nomark _)) (nomark _)) (dss_one (ds_ret de_bl)) dss_nil)
      (dss_cons (ds_if (dt_cmp (op_eqU (Room.units hr)) opn_eq (de_ix (de_var 1) de_int) de_str (nomark _)) (dss_cons (ds_set (i := 8) sc__law_are_letters_right.nd rfl (by decide) (by first | exact .inl rfl | exact .inr rfl) (de_ix (de_var 7) de_int))
      (dss_cons (ds_if (dt_not (dt_chain op_le opn_le op_le opn_le (de_ix (de_var 1) de_int) (de_op op_sub opn_sub (de_ix (de_var 8) de_int) (de_ix (de_var 8) de_int)) (de_ix (de_var 1) de_int))) (dss_one (ds_ret de_bl)) dss_nil)
      (dss_cons (ds_for PassesOwn.never rfl (di_seq (de_sh (de_tup (da_cons (de_ix (de_var 1) de_int) (da_cons (de_ix (de_var 1) de_int) da_nil))))) (dg_name (i := 9) sc__law_are_letters_right.nd rfl (by decide) (by first | exact .inl rfl | exact .inr rfl)) (dss_one (ds_if (dt_cmp op_isnotU opn_isnot (de_call ((ok_shows_clocks_for G).mono (by decide)) hr (by rfl) G.g14 G.F14.kp G.b14 (da_cons (de_sh de_int) (da_cons (de_sh (de_callT call_tuple_of opn_tuple (by rfl) G.z_tuple PyProof.Rows.boot_tuple (da_cons (de_var 2) da_nil))) (da_cons (de_sh (de_tup (da_cons de_str (da_cons (de_tup (da_cons de_int (da_cons (de_var 9) da_nil))) da_nil)))) da_nil))) (faLen_cons (faLen_cons (faLen_cons faLen_nil)))) de_bl (nomark _)) (dss_one (ds_ret de_bl)) dss_nil)))
      (dss_one (ds_for PassesOwn.never rfl (di_seq (de_sh (de_tup (da_cons (de_op op_sub opn_sub (de_ix (de_var 1) de_int) de_int) (da_cons (de_op op_addU opn_add (de_ix (de_var 1) de_int) de_int) da_nil))))) (dg_name (i := 9) sc__law_are_letters_right.nd rfl (by decide) (by first | exact .inl rfl | exact .inr rfl)) (dss_one (ds_if (dt_cmp op_isnotU opn_isnot (de_call ((ok_shows_clocks_for G).mono (by decide)) hr (by rfl) G.g14 G.F14.kp G.b14 (da_cons (de_sh de_int) (da_cons (de_sh (de_callT call_tuple_of opn_tuple (by rfl) G.z_tuple PyProof.Rows.boot_tuple (da_cons (de_var 2) da_nil))) (da_cons (de_sh (de_tup (da_cons de_str (da_cons (de_tup (da_cons de_int (da_cons (de_var 9) da_nil))) da_nil)))) da_nil))) (faLen_cons (faLen_cons (faLen_cons faLen_nil)))) de_bl (nomark _)) (dss_one (ds_ret de_bl)) dss_nil))))))) dss_nil)
      (dss_cons (ds_setO (i := 10) sc__law_are_letters_right.nd rfl (by decide) (by first | exact .inl rfl | exact .inr rfl) (de_lst da_nil))
      (dss_cons (ds_for PassesOwn.never rfl (di_seq (de_sh (de_var 0))) (dg_name (i := 11) sc__law_are_letters_right.nd rfl (by decide) (by first | exact .inl rfl | exact .inr rfl)) (dss_one (ds_expr (de_mut (i := 10) mut_ext PySem.F.slot_list_extend PySem.F.type_list_extend mt_extend (dx_val (de_lc (own := [(("other" : Str), 12)]) rfl sc__law_are_letters_right.nd (di_seq (de_sh (de_var 0))) (blkOk_by (by kernel_rfl)) (fun _ _ _ _ _ => (dg_name (i := 12) sc__law_are_letters_right.nd rfl (by decide) (by first | exact .inl rfl | exact .inr rfl))) (fun _ _ _ _ _ => dts_nil) (fun _ _ _ _ _ => (de_sh (de_ix (de_call ((ok_clocks_apart G).mono (by decide)) hr (by rfl) G.g6 G.F6.kp G.b6 (da_cons (de_sh (de_tup (da_cons (de_var 11) (da_cons (de_var 12) da_nil)))) da_nil) (faLen_cons faLen_nil)) de_int)))) dx_nil) (fxLen_val fxLen_nil)))))
      (dss_one (ds_frz 10 (ds_ret (de_cmp (op_eqU (Room.units hr)) opn_eq (de_callB (cr_all rfl) opn_all (by rfl) G.z_all PyProof.Rows.boot_all (da_cons (de_lc (own := [(("word" : Str), 13)]) rfl sc__law_are_letters_right.nd (di_seq (de_sh (de_var 10))) (blkOk_by (by kernel_rfl)) (fun _ _ _ _ _ => (dg_name (i := 13) sc__law_are_letters_right.nd rfl (by decide) (by first | exact .inl rfl | exact .inr rfl))) (fun _ _ _ _ _ => dts_nil) (fun _ _ _ _ _ => (de_sh (de_cmp (op_eqU (Room.units hr)) opn_eq (de_var 13) de_str (nomark _))))) da_nil)) (de_cmp (op_eqU (Room.units hr)) opn_eq (de_ix (de_var 1) de_int) de_str (nomark _)) (nomark _))))))))))))

theorem ok__law_are_spans_right (G : Gs K mg fa fd) : FnOk P w K mg base CX0 5 (fa 22) (fd 22) ["pot"] (spD K 1 F__law_are_spans_right) :=
  fn_ok [0] G.F22 sc__law_are_spans_right fun cdv A outer s H E hr => show DSs _ _ _ m__law_are_spans_right from
      (dss_cons (ds_setO (i := 1) sc__law_are_spans_right.nd rfl (by decide) (by first | exact .inl rfl | exact .inr rfl) (de_lst da_nil))
      (dss_cons (ds_for PassesOwn.never rfl (di_argsF (fun h => pi_range1 (by rfl) G.z_range h) iok_r1 (da_cons (de_op op_addU opn_add de_int (de_callX ((ok__law_take G).mono (by decide)) hr (by rfl) G.g16 G.F16.kp G.b16 (dx_name 0 (dx_val (de_sh de_int) dx_nil)) (fxLen_name (fxLen_val fxLen_nil)))) da_nil)) (dg_name (i := 2) sc__law_are_spans_right.nd rfl (by decide) (by first | exact .inl rfl | exact .inr rfl)) (dss_cons (ds_set (i := 3) sc__law_are_spans_right.nd rfl (by decide) (by first | exact .inl rfl | exact .inr rfl) (de_op op_sub opn_sub (de_callT call_int1 opn_int (by rfl) G.z_int PyProof.Rows.boot_int (da_cons (de_callX ((ok__law_take G).mono (by decide)) hr (by rfl) G.g16 G.F16.kp G.b16 (dx_name 0 (dx_val (de_sh de_int) dx_nil)) (fxLen_name (fxLen_val fxLen_nil))) da_nil)) de_int))
      (dss_one (ds_expr (de_mut (i := 1) mut_app PySem.F.slot_list_append PySem.F.type_list_append mt_append (dx_val (de_sh (de_tup (da_cons (de_var 3) (da_cons (de_op op_addU opn_add (de_var 3) (de_callT call_int1 opn_int (by rfl) G.z_int PyProof.Rows.boot_int (da_cons (de_callX ((ok__law_take G).mono (by decide)) hr (by rfl) G.g16 G.F16.kp G.b16 (dx_name 0 (dx_val (de_sh de_int) dx_nil)) (fxLen_name (fxLen_val fxLen_nil))) da_nil))) da_nil)))) dx_nil) (fxLen_val fxLen_nil))))))
      (dss_cons (ds_set (i := 1) sc__law_are_spans_right.nd rfl (by decide) (by first | exact .inl rfl | exact .inr rfl) (de_callT call_tuple_of opn_tuple (by rfl) G.z_tuple PyProof.Rows.boot_tuple (da_cons (de_var 1) da_nil)))
      (dss_cons (ds_frz 1 (ds_asg (de_call ((ok_most_agree G).mono (by decide)) hr (by rfl) G.g8 G.F8.kp G.b8 (da_cons (de_var 1) da_nil) (faLen_cons faLen_nil)) (dg_tup rfl (dgs_cons (dg_name (i := 4) sc__law_are_spans_right.nd rfl (by decide) (by first | exact .inl rfl | exact .inr rfl)) (dgs_cons (dg_name (i := 5) sc__law_are_spans_right.nd rfl (by decide) (by first | exact .inl rfl | exact .inr rfl)) (dgs_cons (dg_name (i := 6) sc__law_are_spans_right.nd rfl (by decide) (by first | exact .inl rfl | exact .inr rfl)) dgs_nil))))))
      (dss_cons (ds_asg (de_call ((ok_fewest_numbers G).mono (by decide)) hr (by rfl) G.g10 G.F10.kp G.b10 (da_cons (de_var 1) da_nil) (faLen_cons faLen_nil)) (dg_tup rfl (dgs_cons (dg_name (i := 7) sc__law_are_spans_right.nd rfl (by decide) (by first | exact .inl rfl | exact .inr rfl)) (dgs_cons (dg_name (i := 8) sc__law_are_spans_right.nd rfl (by decide) (by first | exact .inl rfl | exact .inr rfl)) dgs_nil))))
      (dss_cons (ds_if (dt_w (dw_or (dt_cmp (op_neU (Room.units hr)) opn_ne (de_cmp (op_eqU (Room.units hr)) opn_eq (de_var 4) (de_callB call_len_seq opn_len (by rfl) G.z_len PySem.boot_len (da_cons (de_var 1) da_nil)) (nomark _)) (de_cmp (op_eqU (Room.units hr)) opn_eq (de_callB call_len_seq opn_len (by rfl) G.z_len PySem.boot_len (da_cons (de_var 7) da_nil)) de_int (nomark _)) (nomark _)) (dw_or1 (dt_cmp (op_ltU (Room.units0 hr)) opn_lt (de_op op_mulU opn_mul (de_callB call_len_seq opn_len (by rfl) G.z_len PySem.boot_len (da_cons (de_var 7) da_nil)) (de_var 4)) (de_callB call_len_seq opn_len (by rfl) G.z_len PySem.boot_len (da_cons (de_var 1) da_nil)) (nomark _))))) (dss_one (ds_ret de_bl)) dss_nil)
      (dss_cons (ds_if (dt_val (de_callB (cr_any rfl) opn_any (by rfl) G.z_any PyProof.Rows.boot_any (da_cons (de_lc (own := [(("number" : Str), 10)]) rfl sc__law_are_spans_right.nd (di_seq (de_sh (de_tup (da_cons (de_var 5) (da_cons (de_var 6) da_nil))))) (blkOk_by (by kernel_rfl)) (fun _ _ _ _ _ => (dg_name (i := 10) sc__law_are_spans_right.nd rfl (by decide) (by first | exact .inl rfl | exact .inr rfl))) (fun _ _ _ _ _ => dts_nil) (fun _ _ _ _ _ => (de_sh (de_cmp (op_neU (Room.units hr)) opn_ne (de_callB call_len_seq opn_len (by rfl) G.z_len PySem.boot_len (da_cons (de_lc (own := [(("one" : Str), 11)]) rfl sc__law_are_spans_right.nd (di_seq (de_sh (de_var 1))) (blkOk_by (by kernel_rfl)) (fun _ _ _ _ _ => (dg_name (i := 11) sc__law_are_spans_right.nd rfl (by decide) (by first | exact .inl rfl | exact .inr rfl))) (fun _ _ _ _ _ => (dts_one (dt_chain op_le opn_le op_le opn_le (de_ix (de_var 11) de_int) (de_var 10) (de_ix (de_var 11) de_int)))) (fun _ _ _ _ _ => (de_sh (de_var 11)))) da_nil)) (de_var 4) (nomark _))))) da_nil))) (dss_one (ds_ret de_bl)) dss_nil)
      (dss_cons (ds_set (i := 9) sc__law_are_spans_right.nd rfl (by decide) (by first | exact .inl rfl | exact .inr rfl) (de_call ((ok_fewest_numbers G).mono (by decide)) hr (by rfl) G.g10 G.F10.kp G.b10 (da_cons (de_sh (de_op op_addU opn_add (de_var 1) (de_tup (da_cons (de_tup (da_cons de_int (da_cons de_int da_nil))) da_nil)))) da_nil) (faLen_cons faLen_nil)))
      (dss_cons (ds_if (dt_cmp (op_neU (Room.units hr)) opn_ne (de_callB call_len_seq opn_len (by rfl) G.z_len PySem.boot_len (da_cons (de_ix (de_var 9) de_int) da_nil)) (de_op op_addU opn_add (de_callB call_len_seq opn_len (by rfl) G.z_len PySem.boot_len (da_cons (de_var 7) da_nil)) de_int) (nomark _)) (dss_one (ds_ret de_bl)) dss_nil)
      (dss_one (ds_ret (de_cmp (op_eqU (Room.units hr)) opn_eq (de_callB call_len_seq opn_len (by rfl) G.z_len PySem.boot_len (da_cons (de_ix (de_call ((ok_fewest_numbers G).mono (by decide)) hr (by rfl) G.g10 G.F10.kp G.b10 (da_cons (de_sh (de_op op_addU opn_add (de_var 1) (de_tup (da_cons (de_ix (de_var 1) de_int) da_nil)))) da_nil) (faLen_cons faLen_nil)) de_int) da_nil)) (de_callB call_len_seq opn_len (by rfl) G.z_len PySem.boot_len (da_cons (de_var 7) da_nil)) (nomark _)))))))))))))

theorem ok__law_are_bounds_right (G : Gs K mg fa fd) : FnOk P w K mg base CX0 5 (fa 23) (fd 23) ["pot"] (spD K 1 F__law_are_bounds_right) :=
  fn_ok [0] G.F23 sc__law_are_bounds_right fun cdv A outer s H E hr => show DSs _ _ _ m__law_are_bounds_right from
      (dss_cons (ds_unt rfl (da_cons (de_op op_addU opn_add de_int (de_callT call_int1 opn_int (by rfl) G.z_int PyProof.Rows.boot_int (da_cons (de_callX ((ok__law_take G).mono (by decide)) hr (by rfl) G.g16 G.F16.kp G.b16 (dx_name 0 (dx_val (de_sh de_int) dx_nil)) (fxLen_name (fxLen_val fxLen_nil))) da_nil))) (da_cons (de_lst da_nil) da_nil)) (faLen_cons (faLen_cons faLen_nil)) (dgs_cons (dg_name (i := 1) sc__law_are_bounds_right.nd rfl (by decide) (by first | exact .inl rfl | exact .inr rfl)) (dgs_cons (dg_nameO (i := 2) sc__law_are_bounds_right.nd rfl (by decide) (by first | exact .inl rfl | exact .inr rfl)) dgs_nil)))
      (dss_cons (ds_setLc (own := [(("clock" : Str), 18)]) rfl sc__law_are_bounds_right.nd (i := 3) (y := "shown") rfl rfl (by rfl) (gS_run (i := 3) (by decide)) (di_argsF (fun h => pi_range1 (by rfl) G.z_range h) iok_r1 (da_cons (de_var 1) da_nil)) (blkOk_by (by kernel_rfl)) (fun _ _ _ _ _ => (dg_name (i := 18) sc__law_are_bounds_right.nd rfl (by decide) (by first | exact .inl rfl | exact .inr rfl))) (fun _ _ _ _ _ => dts_nil) (fun _ _ _ _ _ => (de_sh (de_callT call_int1 opn_int (by rfl) G.z_int PyProof.Rows.boot_int (da_cons (de_callX ((ok__law_take G).mono (by decide)) hr (by rfl) G.g16 G.F16.kp G.b16 (dx_name 0 (dx_val (de_sh de_int) dx_nil)) (fxLen_name (fxLen_val fxLen_nil))) da_nil)))))
      (dss_cons (ds_for PassesOwn.never rfl (di_argsF (fun h => pi_range1 (by rfl) G.z_range h) iok_r1 (da_cons (de_callX ((ok__law_take G).mono (by decide)) hr (by rfl) G.g16 G.F16.kp G.b16 (dx_name 0 (dx_val (de_sh de_int) dx_nil)) (fxLen_name (fxLen_val fxLen_nil))) da_nil)) (dg_name (i := 4) sc__law_are_bounds_right.nd rfl (by decide) (by first | exact .inl rfl | exact .inr rfl)) (dss_cons (ds_asg (de_lc (own := [(("end" : Str), 19)]) rfl sc__law_are_bounds_right.nd (di_argsF (fun h => pi_range1 (by rfl) G.z_range h) iok_r1 (da_cons de_int da_nil)) (blkOk_by (by kernel_rfl)) (fun _ _ _ _ _ => (dg_name (i := 19) sc__law_are_bounds_right.nd rfl (by decide) (by first | exact .inl rfl | exact .inr rfl))) (fun _ _ _ _ _ => dts_nil) (fun _ _ _ _ _ => (de_sh (de_callT call_int1 opn_int (by rfl) G.z_int PyProof.Rows.boot_int (da_cons (de_callX ((ok__law_take G).mono (by decide)) hr (by rfl) G.g16 G.F16.kp G.b16 (dx_name 0 (dx_name 1 dx_nil)) (fxLen_name (fxLen_name fxLen_nil))) da_nil))))) (dg_unl rfl (dgs_cons (dg_name (i := 5) sc__law_are_bounds_right.nd rfl (by decide) (by first | exact .inl rfl | exact .inr rfl)) (dgs_cons (dg_name (i := 6) sc__law_are_bounds_right.nd rfl (by decide) (by first | exact .inl rfl | exact .inr rfl)) dgs_nil))))
      (dss_one (ds_expr (de_mut (i := 2) mut_app PySem.F.slot_list_append PySem.F.type_list_append mt_append (dx_val (de_sh (de_tup (da_cons (de_var 5) (da_cons (de_var 6) (da_cons (de_op op_addU opn_add (de_op op_sub opn_sub (de_ix (de_var 3) (de_var 6)) (de_ix (de_var 3) (de_var 5))) (de_callT call_int1 opn_int (by rfl) G.z_int PyProof.Rows.boot_int (da_cons (de_callX ((ok__law_take G).mono (by decide)) hr (by rfl) G.g16 G.F16.kp G.b16 (dx_name 0 (dx_val (de_sh de_int) dx_nil)) (fxLen_name (fxLen_val fxLen_nil))) da_nil))) da_nil))))) dx_nil) (fxLen_val fxLen_nil))))))
      (dss_cons (ds_unt rfl (da_cons (de_callT call_tuple_of opn_tuple (by rfl) G.z_tuple PyProof.Rows.boot_tuple (da_cons (de_var 2) da_nil)) (da_cons (de_call ((ok_clocks_for G).mono (by decide)) hr (by rfl) G.g13 G.F13.kp G.b13 (da_cons (de_var 1) (da_cons (de_sh (de_callT call_tuple_of opn_tuple (by rfl) G.z_tuple PyProof.Rows.boot_tuple (da_cons (de_var 2) da_nil))) da_nil)) (faLen_cons (faLen_cons faLen_nil))) da_nil)) (faLen_cons (faLen_cons faLen_nil)) (dgs_cons (dg_name (i := 2) sc__law_are_bounds_right.nd rfl (by decide) (by first | exact .inl rfl | exact .inr rfl)) (dgs_cons (dg_name (i := 7) sc__law_are_bounds_right.nd rfl (by decide) (by first | exact .inl rfl | exact .inr rfl)) dgs_nil)))
      (dss_cons (ds_frz 2 (ds_if (dt_cmp (op_neU (Room.units hr)) opn_ne (de_ix (de_var 7) de_int) de_str (nomark _)) (dss_one (ds_ret de_bl)) dss_nil))
      (dss_cons (ds_set (i := 8) sc__law_are_bounds_right.nd rfl (by decide) (by first | exact .inl rfl | exact .inr rfl) (de_callT call_int1 opn_int (by rfl) G.z_int PyProof.Rows.boot_int (da_cons (de_callX ((ok__law_take G).mono (by decide)) hr (by rfl) G.g16 G.F16.kp G.b16 (dx_name 0 (dx_val (de_sh (de_op op_powW opn_powW de_int de_int)) dx_nil)) (fxLen_name (fxLen_val fxLen_nil))) da_nil)))
      (dss_cons (ds_set (i := 9) sc__law_are_bounds_right.nd rfl (by decide) (by first | exact .inl rfl | exact .inr rfl) (de_callT call_tuple_of opn_tuple (by rfl) G.z_tuple PyProof.Rows.boot_tuple (da_cons (de_lc (own := [(("one" : Str), 5)]) rfl sc__law_are_bounds_right.nd (di_seq (de_sh (de_ix (de_var 7) de_int))) (blkOk_by (by kernel_rfl)) (fun _ _ _ _ _ => (dg_name (i := 5) sc__law_are_bounds_right.nd rfl (by decide) (by first | exact .inl rfl | exact .inr rfl))) (fun _ _ _ _ _ => dts_nil) (fun _ _ _ _ _ => (de_sh (de_op op_addU opn_add (de_var 5) (de_var 8))))) da_nil)))
      (dss_cons (ds_set (i := 10) sc__law_are_bounds_right.nd rfl (by decide) (by first | exact .inl rfl | exact .inr rfl) (de_callT call_tuple_of opn_tuple (by rfl) G.z_tuple PyProof.Rows.boot_tuple (da_cons (de_lc (own := [(("one" : Str), 5), (("other" : Str), 6), (("most" : Str), 20)]) rfl sc__law_are_bounds_right.nd (di_seq (de_sh (de_var 2))) (blkOk_by (by kernel_rfl)) (fun _ _ _ _ _ => (dg_tup rfl (dgs_cons (dg_name (i := 5) sc__law_are_bounds_right.nd rfl (by decide) (by first | exact .inl rfl | exact .inr rfl)) (dgs_cons (dg_name (i := 6) sc__law_are_bounds_right.nd rfl (by decide) (by first | exact .inl rfl | exact .inr rfl)) (dgs_cons (dg_name (i := 20) sc__law_are_bounds_right.nd rfl (by decide) (by first | exact .inl rfl | exact .inr rfl)) dgs_nil))))) (fun _ _ _ _ _ => dts_nil) (fun _ _ _ _ _ => (de_sh (de_tup (da_cons (de_var 6) (da_cons (de_var 5) (da_cons (de_var 20) da_nil))))))) da_nil)))
      (dss_cons (ds_set (i := 11) sc__law_are_bounds_right.nd rfl (by decide) (by first | exact .inl rfl | exact .inr rfl) (de_callT call_tuple_of opn_tuple (by rfl) G.z_tuple PyProof.Rows.boot_tuple (da_cons (de_lc (own := [(("one" : Str), 5)]) rfl sc__law_are_bounds_right.nd (di_seq (de_sh (de_ix (de_var 7) de_int))) (blkOk_by (by kernel_rfl)) (fun _ _ _ _ _ => (dg_name (i := 5) sc__law_are_bounds_right.nd rfl (by decide) (by first | exact .inl rfl | exact .inr rfl))) (fun _ _ _ _ _ => dts_nil) (fun _ _ _ _ _ => (de_sh (de_un un_neg opn_neg (de_var 5))))) da_nil)))
      (dss_cons (ds_for PassesOwn.never rfl (di_seq (de_sh (de_tup (da_cons (de_tup (da_cons (de_var 2) (da_cons (de_var 9) da_nil))) (da_cons (de_tup (da_cons (de_var 10) (da_cons (de_var 11) da_nil))) (da_cons (de_tup (da_cons (de_slice (de_var 2) (do_some de_int pur_c) do_none) (da_cons (de_ix (de_var 7) de_int) da_nil))) (da_cons (de_tup (da_cons (de_var 2) (da_cons (de_callT call_tuple_of opn_tuple (by rfl) G.z_tuple PyProof.Rows.boot_tuple (da_cons (de_var 3) da_nil)) da_nil))) da_nil))))))) (dg_tup rfl (dgs_cons (dg_name (i := 12) sc__law_are_bounds_right.nd rfl (by decide) (by first | exact .inl rfl | exact .inr rfl)) (dgs_cons (dg_name (i := 13) sc__law_are_bounds_right.nd rfl (by decide) (by first | exact .inl rfl | exact .inr rfl)) dgs_nil))) (dss_one (ds_if (dt_w (dw_or (dt_cmp op_isnotU opn_isnot (de_call ((ok_shows_clocks_for G).mono (by decide)) hr (by rfl) G.g14 G.F14.kp G.b14 (da_cons (de_var 1) (da_cons (de_var 12) (da_cons (de_sh (de_tup (da_cons de_str (da_cons (de_var 13) da_nil)))) da_nil))) (faLen_cons (faLen_cons (faLen_cons faLen_nil)))) de_bl (nomark _)) (dw_or1 (dt_cmp (op_neU (Room.units hr)) opn_ne (de_ix (de_call ((ok_clocks_for G).mono (by decide)) hr (by rfl) G.g13 G.F13.kp G.b13 (da_cons (de_var 1) (da_cons (de_var 12) da_nil)) (faLen_cons (faLen_cons faLen_nil))) de_int) de_str (nomark _))))) (dss_one (ds_ret de_bl)) dss_nil)))
      (dss_cons (ds_setLc (own := [(("clock" : Str), 18)]) rfl sc__law_are_bounds_right.nd (i := 14) (y := "order") rfl rfl (by rfl) (gS_run (i := 14) (by decide)) (di_seq (de_sh (de_callX ((ok__law_some G).mono (by decide)) hr (by rfl) G.g19 G.F19.kp G.b19 (dx_name 0 (dx_val (de_sh (de_listR1 rfl (de_var 1) (by rfl) G.z_list (by rfl) G.z_range)) (dx_name 1 dx_nil))) (fxLen_name (fxLen_val (fxLen_name fxLen_nil)))))) (blkOk_by (by kernel_rfl)) (fun _ _ _ _ _ => (dg_name (i := 18) sc__law_are_bounds_right.nd rfl (by decide) (by first | exact .inl rfl | exact .inr rfl))) (fun _ _ _ _ _ => dts_nil) (fun _ _ _ _ _ => (de_sh (de_callT call_int1 opn_int (by rfl) G.z_int PyProof.Rows.boot_int (da_cons (de_var 18) da_nil)))))
      (dss_cons (ds_setO (i := 15) sc__law_are_bounds_right.nd rfl (by decide) (by first | exact .inl rfl | exact .inr rfl) (de_lst da_nil))
      (dss_cons (ds_for PassesOwn.never rfl (di_argsF (fun h => RZ.pi_zipA (by rfl) G.z_zip h) iok_zip (da_cons (de_sh (de_var 14)) (da_cons (de_sh (de_op op_addU opn_add (de_slice (de_var 14) (do_some de_int pur_c) do_none) (de_slice (de_var 14) do_none (do_some de_int pur_c)))) da_nil))) (dg_tup rfl (dgs_cons (dg_name (i := 5) sc__law_are_bounds_right.nd rfl (by decide) (by first | exact .inl rfl | exact .inr rfl)) (dgs_cons (dg_name (i := 6) sc__law_are_bounds_right.nd rfl (by decide) (by first | exact .inl rfl | exact .inr rfl)) dgs_nil))) (dss_one (ds_expr (de_mut (i := 15) mut_app PySem.F.slot_list_append PySem.F.type_list_append mt_append (dx_val (de_sh (de_tup (da_cons (de_var 5) (da_cons (de_var 6) (da_cons (de_op op_sub opn_sub (de_ix (de_var 3) (de_var 6)) (de_ix (de_var 3) (de_var 5))) da_nil))))) dx_nil) (fxLen_val fxLen_nil)))))
      (dss_cons (ds_if (dt_cmp (op_neU (Room.units hr)) opn_ne (de_ix (de_call ((ok_clocks_for G).mono (by decide)) hr (by rfl) G.g13 G.F13.kp G.b13 (da_cons (de_var 1) (da_cons (de_sh (de_op op_addU opn_add (de_var 2) (de_callT call_tuple_of opn_tuple (by rfl) G.z_tuple PyProof.Rows.boot_tuple (da_cons (de_var 15) da_nil)))) da_nil)) (faLen_cons (faLen_cons faLen_nil))) de_int) de_str (nomark _)) (dss_one (ds_ret de_bl)) dss_nil)
      (dss_cons (ds_asg (de_tup (da_cons (de_ix (de_ix (de_var 15) de_int) de_int) (da_cons (de_ix (de_ix (de_var 15) de_int) de_int) (da_cons (de_op op_sub opn_sub (de_ix (de_ix (de_var 15) de_int) de_int) de_int) da_nil)))) (dg_sub (i := 15) de_int))
      (dss_cons (ds_frz 15 (ds_asg (de_call ((ok_clocks_for G).mono (by decide)) hr (by rfl) G.g13 G.F13.kp G.b13 (da_cons (de_var 1) (da_cons (de_sh (de_op op_addU opn_add (de_var 2) (de_callT call_tuple_of opn_tuple (by rfl) G.z_tuple PyProof.Rows.boot_tuple (da_cons (de_var 15) da_nil)))) da_nil)) (faLen_cons (faLen_cons faLen_nil))) (dg_tup rfl (dgs_cons (dg_name (i := 16) sc__law_are_bounds_right.nd rfl (by decide) (by first | exact .inl rfl | exact .inr rfl)) (dgs_cons (dg_name (i := 17) sc__law_are_bounds_right.nd rfl (by decide) (by first | exact .inl rfl | exact .inr rfl)) dgs_nil)))))
      (dss_cons (ds_set (i := 12) sc__law_are_bounds_right.nd rfl (by decide) (by first | exact .inl rfl | exact .inr rfl) (de_ite (dt_cmp (op_eqU (Room.units hr)) opn_eq (de_var 16) de_str (nomark _)) (de_lc (own := [(("at" : Str), 21)]) rfl sc__law_are_bounds_right.nd (di_seq (de_sh (de_var 17))) (blkOk_by (by kernel_rfl)) (fun _ _ _ _ _ => (dg_name (i := 21) sc__law_are_bounds_right.nd rfl (by decide) (by first | exact .inl rfl | exact .inr rfl))) (fun _ _ _ _ _ => dts_nil) (fun _ _ _ _ _ => (de_sh (de_ix (de_op op_addU opn_add (de_var 2) (de_callT call_tuple_of opn_tuple (by rfl) G.z_tuple PyProof.Rows.boot_tuple (da_cons (de_var 15) da_nil))) (de_var 21))))) (de_lst da_nil)))
      (dss_cons (ds_if (dt_w (dw_or (dt_cmp (op_eqU (Room.units hr)) opn_eq (de_var 12) (de_lst da_nil) (nomark _)) (dw_or1 (dt_cmp op_ge opn_ge (de_callB (cr_sum rfl) opn_sum (by rfl) G.z_sum PyProof.Rows.boot_sum (da_cons (de_lc (own := [(("bound" : Str), 22)]) rfl sc__law_are_bounds_right.nd (di_seq (de_sh (de_var 12))) (blkOk_by (by kernel_rfl)) (fun _ _ _ _ _ => (dg_name (i := 22) sc__law_are_bounds_right.nd rfl (by decide) (by first | exact .inl rfl | exact .inr rfl))) (fun _ _ _ _ _ => dts_nil) (fun _ _ _ _ _ => (de_sh (de_ix (de_var 22) de_int)))) da_nil)) de_int (nomark _))))) (dss_one (ds_ret de_bl)) dss_nil)
      (dss_one (ds_ret (de_callB (cr_all rfl) opn_all (by rfl) G.z_all PyProof.Rows.boot_all (da_cons (de_lc (own := [(("one" : Str), 5), (("other" : Str), 6)]) rfl sc__law_are_bounds_right.nd (di_argsF (fun h => RZ.pi_zipA (by rfl) G.z_zip h) iok_zip (da_cons (de_sh (de_var 12)) (da_cons (de_sh (de_op op_addU opn_add (de_slice (de_var 12) (do_some de_int pur_c) do_none) (de_slice (de_var 12) do_none (do_some de_int pur_c)))) da_nil))) (blkOk_by (by kernel_rfl)) (fun _ _ _ _ _ => (dg_tup rfl (dgs_cons (dg_name (i := 5) sc__law_are_bounds_right.nd rfl (by decide) (by first | exact .inl rfl | exact .inr rfl)) (dgs_cons (dg_name (i := 6) sc__law_are_bounds_right.nd rfl (by decide) (by first | exact .inl rfl | exact .inr rfl)) dgs_nil)))) (fun _ _ _ _ _ => dts_nil) (fun _ _ _ _ _ => (de_sh (de_cmp (op_eqU (Room.units hr)) opn_eq (de_ix (de_var 5) de_int) (de_ix (de_var 6) de_int) (nomark _))))) da_nil))))))))))))))))))))))

theorem ok__law_right (G : Gs K mg fa fd) : FnOk P w K mg base CX0 6 (fa 24) (fd 24) ["pot"] (spD K 1 F__law_right) :=
  fn_ok [0] G.F24 sc__law_right fun cdv A outer s H E hr => show DSs _ _ _ m__law_right from
      (dss_cons (ds_for PassesOwn.never rfl (di_argsF (fun h => pi_range1 (by rfl) G.z_range h) iok_r1 (da_cons de_int da_nil)) (dg_name (i := 1) sc__law_right.nd rfl (by decide) (by first | exact .inl rfl | exact .inr rfl)) (dss_cons (ds_if (dt_w (dw_or (dt_not (dt_val (de_call ((ok__law_are_letters_right G).mono (by decide)) hr (by rfl) G.g21 G.F21.kp G.b21 (da_cons (de_sh (de_callX ((ok__law_letters_drawn G).mono (by decide)) hr (by rfl) G.g20 G.F20.kp G.b20 (dx_name 0 dx_nil) (fxLen_name fxLen_nil))) da_nil) (faLen_cons faLen_nil)))) (dw_or1 (dt_not (dt_val (de_callX ((ok__law_are_spans_right G).mono (by decide)) hr (by rfl) G.g22 G.F22.kp G.b22 (dx_name 0 dx_nil) (fxLen_name fxLen_nil))))))) (dss_one (ds_ret de_bl)) dss_nil)
      (dss_one (ds_if (dt_not (dt_val (de_callX ((ok__law_are_bounds_right G).mono (by decide)) hr (by rfl) G.g23 G.F23.kp G.b23 (dx_name 0 dx_nil) (fxLen_name fxLen_nil)))) (dss_one (ds_ret de_bl)) dss_nil))))
      (dss_one (ds_ret de_bl)))

theorem ok_law (G : Gs K mg fa fd) : FnOk P w K mg base CX0 7 (fa 25) (fd 25) ["script"] (spD K 1 F_law) :=
  fn_ok [] G.F25 sc_law fun cdv A outer s H E hr => show DSs _ _ _ m_law from
      (dss_one (ds_ret (de_callB (cr_all rfl) opn_all (by rfl) G.z_all PyProof.Rows.boot_all (da_cons (de_lc (own := [(("at" : Str), 1)]) rfl sc_law.nd (di_seq (de_sh (de_call ((ok__law_cells G).mono (by decide)) hr (by rfl) G.g18 G.F18.kp G.b18 (da_cons (de_var 0) (da_cons (de_sh de_int) da_nil)) (faLen_cons (faLen_cons faLen_nil))))) (blkOk_by (by kernel_rfl)) (fun _ _ _ _ _ => (dg_name (i := 1) sc_law.nd rfl (by decide) (by first | exact .inl rfl | exact .inr rfl))) (fun _ _ _ _ _ => dts_nil) (fun _ _ _ _ _ => (de_sh (de_callX ((ok__law_right G).mono (by decide)) hr (by rfl) G.g24 G.F24.kp G.b24 (dx_val (de_call ((ok__law_pot G).mono (by decide)) hr (by rfl) G.g15 G.F15.kp G.b15 (da_cons (de_var 0) (da_cons (de_var 1) da_nil)) (faLen_cons (faLen_cons faLen_nil))) dx_nil) (fxLen_val fxLen_nil))))) da_nil))))

end
end K77

end
section
set_option maxHeartbeats 4000000
namespace K77
open PySem PySem.Spec L2 DL
theorem l_is_int {v a b : Int} : F_is_int [.sh (.int v), .sh (.int a), .sh (.int b)] = some (.bool (decide (a ≤ v ∧ v ≤ b)), .S, [.sh (.int v), .sh (.int a), .sh (.int b)]) := by
  by_cases h1 : a ≤ v <;> by_cases h2 : v ≤ b <;>
  simp [F_is_int, m_is_int, runFn, fRet, vAnd, fIsi, fVar, vNot, isiT, tyN, fChain, faCons, faNil, fI, ii, gLe, outs, Md.b, List.replicate, h1, h2]
theorem l_is_int_not {d : PyData} {a b : Int} (h : tyN d ≠ "int" ∧ tyN d ≠ "bool") : F_is_int [.sh d, .sh (.int a), .sh (.int b)] = some (.bool false, .S, [.sh d, .sh (.int a), .sh (.int b)]) := by
  have h3 : isiT (tyN d) "int" = false := by simp [isiT, h.1, h.2]
  simp [F_is_int, m_is_int, runFn, fRet, vAnd, fIsi, fVar, outs, Md.b, List.replicate, h3]
def iL (l : List Int) : List PyData := l.map .int
theorem len_ok {α β : Type} {f : α → β} {l : List α} (h : l.length ≤ 1000) : (l.map f).length ≤ LIM := by rw [List.length_map]; unfold LIM; omega
theorem l_are_ints {l : List Int} {a b : Int} (hl : l.length ≤ 1000) : F_are_ints [.sh (.tuple (iL l)), .sh (.int a), .sh (.int b)] = some (.bool (l.all fun v => decide (a ≤ v ∧ v ≤ b)), .S, [.sh (.tuple (iL l)), .sh (.int a), .sh (.int b)]) := by
  have hc : m_are_ints_c1 [.sh (.tuple (iL l)), .sh (.int a), .sh (.int b), .no] = some (.list (l.map fun v => .bool (decide (a ≤ v ∧ v ≤ b))), .F 1, [.sh (.tuple (iL l)), .sh (.int a), .sh (.int b), .no]) :=
    comp_run (ds := iL l) rfl (len_ok hl) rfl rfl (lc_map PyData.int _ l fun v _ => by
      simp [lcStep, m_are_ints_e1, gS, ftYes, fSh, fN, faCons, faNil, fVar, φCall, l_is_int, Md.b, wipeR])
  simp [F_are_ints, m_are_ints, runFn, fRet, vAnd, fIsi, fVar, isiT, tyN, fN, faCons, faNil, fI, outs, Md.b, List.replicate, hc, pAll_map]
/-! ### letters there and back -/
structure L4 where
  s : Int
  g : Int
  b : Int
  h : Int
def e4 (x : L4) : PyData := .tuple [.int x.s, .int x.g, .int x.b, .int x.h]
def eL (xs : List L4) : PyData := .tuple (xs.map e4)
def ok12 (v : Int) : Prop := -1000000000000 ≤ v ∧ v ≤ 1000000000000
def okL (x : L4) : Prop := ok12 x.s ∧ ok12 x.g ∧ ok12 x.b ∧ ok12 x.h
theorem l_look4 {xs : List L4} (h1 : 1 ≤ xs.length) (h2 : xs.length ≤ 200) (h : ∀ x ∈ xs, okL x) : F_look_at_letters_back [.sh (eL xs)] = some (.none, .S, [.sh (eL xs)]) := by
  obtain ⟨ρ', hf, s1, rfl⟩ := for_stay (g := m_look_at_letters_back_g1) (f := m_look_at_letters_back_b1) (ρ := [.sh (eL xs), .no])
    e4 (fun ρ => ∃ s1, ρ = [.sh (eL xs), s1]) xs ⟨_, rfl⟩ fun x hx ρ hP => by
      obtain ⟨s1, rfl⟩ := hP
      obtain ⟨⟨a1, a2⟩, ⟨b1, b2⟩, ⟨c1, c2⟩, d1, d2⟩ := h x hx
      have ha := l_are_ints (l := [x.s, x.g, x.b, x.h]) (a := -1000000000000) (b := 1000000000000) (by simp)
      simp only [iL, List.map] at ha
      refine ⟨[.sh (eL xs), .sh (e4 x)], ?_, _, rfl⟩
      simp [forStep, m_look_at_letters_back_g1, m_look_at_letters_back_b1, gS, fIf, fOr, fNot, fT, fN, faCons, faNil, fVar, fSh, fU, fC, fI, pNeg, φCall, e4, ha, Md.b, f2, pLen, φAdd, pNe, pEqv, scalD, PyData.eqv, fNop, a1, a2, b1, b2, c1, c2, d1, d2]
  have e1 : (1 : Int) ≤ (xs.length : Int) := by omega
  have e2 : (xs.length : Int) ≤ 200 := by omega
  have s1' : m_look_at_letters_back_s1 [.sh (eL xs), .no] = some (.nx, [.sh (eL xs), .no]) := by
    simp [m_look_at_letters_back_s1, fIf, fOr, fNot, fT, fIsi, fVar, isiT, tyN, fChain, faCons, faNil, fC, fN, fI, pLen, ii, gLe, fNop, eL, Md.b, e1, e2]
  have s2' : m_look_at_letters_back_s2 [.sh (eL xs), .no] = some (.nx, [.sh (eL xs), s1]) := hf
  have e : m_look_at_letters_back [.sh (eL xs), .no] = some (.nx, [.sh (eL xs), s1]) := by
    unfold m_look_at_letters_back
    rw [seq_nx s1', s2']
  have e0 : ([.sh (eL xs)] ++ List.replicate (2 - 1) .no : List Sl) = [.sh (eL xs), .no] := rfl
  simp only [F_look_at_letters_back, runFn, List.length_cons, List.length_nil, Nat.zero_add, e0, e]
  simp [outs]
def lo (x : L4) : Int := x.b - x.h
def hi (x : L4) : Int := x.g - x.s
theorem l_between {x : L4} : F_told_between [.sh (e4 x)] = some (.tuple [.int (lo x), .int (hi x)], .S, [.sh (e4 x)]) := by
  simp [F_told_between, m_told_between, m_told_between_s1, m_told_between_s2, runFn, fSeq, fAsg, fVar, e4, gT, gsCons, gS, gsNil, fRet, fN, faCons, faNil, f2, fI, ii, DL.gSub, φTup, outs, Md.b, List.replicate, LIM, lo, hi]
/-! ### pairs -/
def eP (p : Int × Int) : PyData := .tuple [.int p.1, .int p.2]
theorem l_maxL {l : List Int} (h : l ≠ []) : ∃ m, pMM maxP [.list (iL l)] = some (.int m) ∧ m ∈ l ∧ ∀ y ∈ l, y ≤ m := by
  cases l with
  | nil => exact absurd rfl h
  | cons n ns =>
    have := foldl_max (ns := ns) (n := n)
    refine ⟨ns.foldl max n, ?_, this.1, this.2⟩
    have e := intsD_map (n :: ns)
    simp only [iL]
    simp only [pMM, e, maxP]
theorem l_minL {l : List Int} (h : l ≠ []) : ∃ m, pMM minP [.list (iL l)] = some (.int m) ∧ m ∈ l ∧ ∀ y ∈ l, m ≤ y := by
  cases l with
  | nil => exact absurd rfl h
  | cons n ns =>
    have := foldl_min (ns := ns) (n := n)
    refine ⟨ns.foldl min n, ?_, this.1, this.2⟩
    have e := intsD_map (n :: ns)
    simp only [iL]
    simp only [pMM, e, minP]
theorem lcP {c : Int} {ps : List (Int × Int)} {ρ : Rho} (hρ : 3 < ρ.length) (hw : wipeR [3] ρ = ρ) (sel : Int × Int → Int) (hs : ∀ p : Int × Int, atI [PyData.int p.1, .int p.2] c = some (.int (sel p))) :
    fLc (gS 3) ftYes (fSh (f2 true (fVar 3) (fC (.int c)) fIx)) [3] (ps.map eP) ρ = some (iL (ps.map sel), ρ) := by
  rw [iL, List.map_map]
  refine lc_map eP _ ps fun p _ => ?_
  have h1 : (ρ.set 3 (.sh (eP p)))[3]? = some (.sh (eP p)) := List.getElem?_set_self hρ
  have h2 : wipeR [3] (ρ.set 3 (.sh (eP p))) = ρ := by
    simp only [wipeR] at hw ⊢
    rw [List.set_set]; exact hw
  simp [lcStep, gS, ftYes, fSh, f2, fN, faCons, faNil, fVar, fC, Md.b, hρ, h1]
  simp [eP, fIx, hs]
  exact h2
theorem l_index {l : List Int} {x : Int} (h : x ∈ l) : ∃ j : Nat, pIndex [.list (iL l), .int x] = some (.int j) := by
  have hk : ∀ d : Int, okN 9 (.int d) = true := fun d => rfl
  have h1 : ((iL l).all (okN 9)) = true := by
    simp only [iL, List.all_map, List.all_eq_true]
    exact fun d _ => rfl
  have h2 : ((iL l).findIdx? fun z => PyData.eqv z (.int x)).isSome = true := by
    rw [List.findIdx?_isSome]
    simp only [iL, List.any_map, List.any_eq_true]
    exact ⟨x, h, by simp [PyData.eqv]⟩
  obtain ⟨j, hj⟩ := Option.isSome_iff_exists.mp h2
  exact ⟨j, by simp [pIndex, hk, h1, hj]⟩
theorem l_apart {ps : List (Int × Int)} (h : ps ≠ []) (hl : ps.length ≤ 1000) : ∃ a b : Int, a ∈ ps.map (·.1) ∧ (∀ p ∈ ps, p.1 ≤ a) ∧ b ∈ ps.map (·.2) ∧ (∀ p ∈ ps, b ≤ p.2) ∧
    (a ≤ b → F_told_apart [.sh (.list (ps.map eP))] = some (.tuple [.str "apart", .int a, .int b], .S, [.sh (.list (ps.map eP))])) ∧
    (b < a → ∃ i j : Int, F_told_apart [.sh (.list (ps.map eP))] = some (.tuple [.str "never", .int i, .int j], .S, [.sh (.list (ps.map eP))])) := by
  have n1 : ps.map (·.1) ≠ [] := by simpa using h
  have n2 : ps.map (·.2) ≠ [] := by simpa using h
  obtain ⟨a, ea, ma, ua⟩ := l_maxL n1
  obtain ⟨b, eb, mb, ub⟩ := l_minL n2
  have hp : ∀ s1 s2 : Sl, iSeq (fSh (fVar 0)) [.sh (.list (ps.map eP)), s1, s2, .no] = some (ps.map eP, [.sh (.list (ps.map eP)), s1, s2, .no]) := fun s1 s2 => rfl
  have c1 : ∀ s1 s2 : Sl, m_told_apart_c1 [.sh (.list (ps.map eP)), s1, s2, .no] = some (.list (iL (ps.map (·.1))), .F 1, [.sh (.list (ps.map eP)), s1, s2, .no]) := fun s1 s2 => comp_run (hp s1 s2) (len_ok hl) rfl rfl (lcP (by simp) rfl _ fun p => at0)
  have c4 : ∀ s1 s2 : Sl, m_told_apart_c4 [.sh (.list (ps.map eP)), s1, s2, .no] = some (.list (iL (ps.map (·.1))), .F 1, [.sh (.list (ps.map eP)), s1, s2, .no]) := c1
  have c2 : ∀ s1 s2 : Sl, m_told_apart_c2 [.sh (.list (ps.map eP)), s1, s2, .no] = some (.list (iL (ps.map (·.2))), .F 1, [.sh (.list (ps.map eP)), s1, s2, .no]) := fun s1 s2 => comp_run (hp s1 s2) (len_ok hl) rfl rfl (lcP (by simp) rfl _ fun p => at1)
  have c3 : ∀ s1 s2 : Sl, m_told_apart_c3 [.sh (.list (ps.map eP)), s1, s2, .no] = some (.list (iL (ps.map (·.2))), .F 1, [.sh (.list (ps.map eP)), s1, s2, .no]) := c2
  obtain ⟨i, hi⟩ := l_index ma
  obtain ⟨j, hj⟩ := l_index mb
  refine ⟨a, b, ma, fun p hp => ua _ (List.mem_map_of_mem hp), mb, fun p hp => ub _ (List.mem_map_of_mem hp), fun hab => ?_, fun hab => ⟨i, j, ?_⟩⟩
  · simp [F_told_apart, m_told_apart, m_told_apart_s1, m_told_apart_s2, m_told_apart_s3, runFn, fSeq, fAsg, fN, faCons, faNil, fVar, c1, c2, fI, ea, eb, gS, fIf, fT, f2, ii, gLe, hab, fRet, fC, φTup, outs, Md.b, List.replicate, LIM]
  · have hn : ¬ a ≤ b := by omega
    simp [F_told_apart, m_told_apart, m_told_apart_s1, m_told_apart_s2, m_told_apart_s3, m_told_apart_s4, runFn, fSeq, fAsg, fN, faCons, faNil, fVar, c1, c2, c3, c4, fI, ea, eb, gS, fIf, fT, f2, ii, gLe, hn, fRet, fC, φTup, outs, Md.b, List.replicate, LIM, fNop, hi, hj]
theorem l_clocks_apart {xs : List L4} (h1 : 1 ≤ xs.length) (h2 : xs.length ≤ 200) (h : ∀ x ∈ xs, okL x) : ∃ a b : Int, (∃ x ∈ xs, a = lo x) ∧ (∀ x ∈ xs, lo x ≤ a) ∧ (∃ x ∈ xs, b = hi x) ∧ (∀ x ∈ xs, b ≤ hi x) ∧
    (a ≤ b → F_clocks_apart [.sh (eL xs)] = some (.tuple [.str "apart", .int a, .int b], .S, [.sh (eL xs)])) ∧
    (b < a → ∃ i j : Int, F_clocks_apart [.sh (eL xs)] = some (.tuple [.str "never", .int i, .int j], .S, [.sh (eL xs)])) := by
  have hne : xs.map (fun x => (lo x, hi x)) ≠ [] := by
    intro z
    rw [List.map_eq_nil_iff] at z
    subst z; simp at h1
  obtain ⟨a, b, ma, ua, mb, ub, r1, r2⟩ := l_apart hne (by simpa using (by omega : xs.length ≤ 1000))
  have c0 : m_clocks_apart_c1 [.sh (eL xs), .no] = some (.list ((xs.map fun x => (lo x, hi x)).map eP), .F 1, [.sh (eL xs), .no]) :=
    comp_run (ds := xs.map e4) rfl (len_ok (by omega)) rfl rfl (by
      rw [List.map_map]
      refine lc_map e4 _ xs fun x hx => ?_
      simp [lcStep, m_clocks_apart_e1, gS, ftYes, fSh, fN, faCons, faNil, fVar, φCall, l_between, Md.b, wipeR, eP])
  have hk := l_look4 h1 h2 h
  refine ⟨a, b, ?_, fun x hx => ua (lo x, hi x) (List.mem_map_of_mem (f := fun x => (lo x, hi x)) hx), ?_, fun x hx => ub (lo x, hi x) (List.mem_map_of_mem (f := fun x => (lo x, hi x)) hx), fun hab => ?_, fun hab => ?_⟩
  · obtain ⟨p, hp, rfl⟩ := List.mem_map.mp ma
    obtain ⟨x, hx, rfl⟩ := List.mem_map.mp hp
    exact ⟨x, hx, rfl⟩
  · obtain ⟨p, hp, rfl⟩ := List.mem_map.mp mb
    obtain ⟨x, hx, rfl⟩ := List.mem_map.mp hp
    exact ⟨x, hx, rfl⟩
  · simp [F_clocks_apart, m_clocks_apart, m_clocks_apart_s1, m_clocks_apart_s2, runFn, fSeq, fExpr, fN, faCons, faNil, fSh, fVar, φCall, hk, c0, r1 hab, fRet, outs, Md.b, List.replicate, LIM, -List.map_map]
  · obtain ⟨i, j, e⟩ := r2 hab
    refine ⟨i, j, ?_⟩
    simp [F_clocks_apart, m_clocks_apart, m_clocks_apart_s1, m_clocks_apart_s2, runFn, fSeq, fExpr, fN, faCons, faNil, fSh, fVar, φCall, hk, c0, e, fRet, outs, Md.b, List.replicate, LIM, -List.map_map]
end K77

end
section
namespace BF
/-! ### clocks by bounds: what the laps do, in plain functions -/
abbrev E := Nat × Nat × Int
structure S where
  d : Nat → Int
  p : Nat → Option Nat
  last : Option Nat
def up {α : Type} (f : Nat → α) (v : Nat) (x : α) : Nat → α := fun i => if i = v then x else f i
theorem up_at {α : Type} {f : Nat → α} {v : Nat} {x : α} : up f v x v = x := by simp [up]
theorem up_ne {α : Type} {f : Nat → α} {v i : Nat} {x : α} (h : i ≠ v) : up f v x i = f i := by simp [up, h]
def hot (s : S) (e : E) : Prop := s.d e.1 + e.2.2 < s.d e.2.1
instance (s : S) (e : E) : Decidable (hot s e) := inferInstanceAs (Decidable (_ < _))
def step (s : S) (i : Nat) (e : E) : S := if hot s e then ⟨up s.d e.2.1 (s.d e.1 + e.2.2), up s.p e.2.1 (some i), some e.2.1⟩ else s
def lapF : S → Nat → List E → S
  | s, _, [] => s
  | s, k, e :: es => lapF (step s k e) (k + 1) es
def lap (es : List E) (s : S) : S := lapF ⟨s.d, s.p, none⟩ 0 es
def laps (es : List E) : Nat → S → S
  | 0, s => s
  | n + 1, s => laps es n (lap es s)
def s0 : S := ⟨fun _ => 0, fun _ => none, none⟩
def pr (es : List E) (p : Nat → Option Nat) (v : Nat) : Option Nat := match p v with
  | some i => es[i]?.map (·.1)
  | none => none
def it (es : List E) (p : Nat → Option Nat) : Nat → Nat → Option Nat
  | 0, y => some y
  | m + 1, y => (it es p m y).bind (pr es p)
/-- in lap k, with j bounds of it gone through -/
structure Inv (es : List E) (s : S) (L : Nat → Nat) (k j : Nat) : Prop where
  bound : ∀ v i : Nat, s.p v = some i → ∃ (u : Nat) (w : Int), es[i]? = some (u, v, w) ∧ s.d u + w ≤ s.d v
  cyc : ∀ y m : Nat, 1 ≤ m → it es s.p m y = some y → ∃ (t x i u : Nat) (w : Int), t < m ∧ it es s.p t y = some x ∧ s.p x = some i ∧ es[i]? = some (u, x, w) ∧ s.d u + w < s.d x
  le : ∀ v, L v ≤ k
  non : ∀ v, s.p v = none → L v = 0
  one : ∀ (v i u : Nat) (w : Int), s.p v = some i → es[i]? = some (u, v, w) → L v ≤ L u + 1
  past : ∀ (i u v : Nat) (w : Int), es[i]? = some (u, v, w) → L u + 1 < k → s.d v ≤ s.d u + w
  now : ∀ (i u v : Nat) (w : Int), i < j → es[i]? = some (u, v, w) → L u < k → s.d v ≤ s.d u + w
  hit : ∀ v, s.last = some v → L v = k
theorem it_same {es : List E} {p p' : Nat → Option Nat} {y v : Nat} (hp : ∀ x, x ≠ v → p' x = p x) : ∀ m, (∀ t < m, it es p' t y ≠ some v) → it es p' m y = it es p m y
  | 0, _ => rfl
  | m + 1, h => by
    have ih := it_same hp m fun t ht => h t (by omega)
    have hm := h m (by omega)
    show (it es p' m y).bind (pr es p') = (it es p m y).bind (pr es p)
    rw [← ih]
    cases hx : it es p' m y with
    | none => rfl
    | some x =>
      have : x ≠ v := fun z => hm (by rw [hx, z])
      simp [pr, hp x this]
theorem step_inv {es : List E} {s : S} {L : Nat → Nat} {k j : Nat} {e : E} (I : Inv es s L k j) (he : es[j]? = some e) : ∃ L', Inv es (step s j e) L' k (j + 1) := by
  obtain ⟨u, v, w⟩ := e
  unfold step
  by_cases h : hot s (u, v, w)
  · rw [if_pos h]
    have h : s.d u + w < s.d v := h
    have dle : ∀ x, up s.d v (s.d u + w) x ≤ s.d x := fun x => by
      by_cases hx : x = v
      · subst hx; rw [up_at]; omega
      · rw [up_ne hx]; exact Int.le_refl _
    refine ⟨up L v k, ⟨fun x i hx => ?_, fun y m hm hy => ?_, fun x => ?_, fun x hx => ?_, fun x i a c hx hi => ?_, fun i a b c hi ha => ?_, fun i a b c hi he' ha => ?_, fun x hx => ?_⟩⟩
    · show ∃ (a : Nat) (c : Int), es[i]? = some (a, x, c) ∧ up s.d v (s.d u + w) a + c ≤ up s.d v (s.d u + w) x
      by_cases hxv : x = v
      · subst hxv
        have : i = j := by simpa [up] using hx.symm
        subst this
        refine ⟨u, w, he, ?_⟩
        rw [up_at]
        have := dle u
        omega
      · obtain ⟨a, c, h1, h2⟩ := I.bound x i (by simpa [up, hxv] using hx)
        refine ⟨a, c, h1, ?_⟩
        rw [up_ne hxv]
        have := dle a
        omega
    · show ∃ (t x i a : Nat) (c : Int), t < m ∧ it es (up s.p v (some j)) t y = some x ∧ up s.p v (some j) x = some i ∧ es[i]? = some (a, x, c) ∧ up s.d v (s.d u + w) a + c < up s.d v (s.d u + w) x
      have hy : it es (up s.p v (some j)) m y = some y := hy
      have hp : ∀ x, x ≠ v → up s.p v (some j) x = s.p x := fun x hx => up_ne hx
      by_cases hv : ∃ t, t < m ∧ it es (up s.p v (some j)) t y = some v
      · -- the one whose foregoer is v
        have key : ∃ t x, t < m ∧ it es (up s.p v (some j)) t y = some x ∧ pr es (up s.p v (some j)) x = some v := by
          obtain ⟨t, ht, hv⟩ := hv
          cases t with
          | zero =>
            have hyv : y = v := by simpa [it] using hv
            subst hyv
            obtain ⟨m', rfl⟩ : ∃ m', m = m' + 1 := ⟨m - 1, by omega⟩
            have hy : (it es (up s.p y (some j)) m' y).bind (pr es (up s.p y (some j))) = some y := hy
            cases hx : it es (up s.p y (some j)) m' y with
            | none => rw [hx] at hy; cases hy
            | some x => rw [hx] at hy; exact ⟨m', x, by omega, hx, hy⟩
          | succ t' =>
            have hv : (it es (up s.p v (some j)) t' y).bind (pr es (up s.p v (some j))) = some v := hv
            cases hx : it es (up s.p v (some j)) t' y with
            | none => rw [hx] at hv; cases hv
            | some x => rw [hx] at hv; exact ⟨t', x, by omega, hx, hv⟩
        obtain ⟨t, x, ht, hx, hpr⟩ := key
        unfold pr at hpr
        split at hpr
        · rename_i i hi
          cases hei : es[i]? with
          | none => rw [hei] at hpr; cases hpr
          | some e' =>
            rw [hei] at hpr
            obtain ⟨a, b, c⟩ := e'
            have ha : a = v := by simpa using hpr
            subst ha
            by_cases hxv : x = a
            · subst hxv
              have : i = j := by simpa [up] using hi.symm
              subst this
              rw [he] at hei
              cases hei
              exact ⟨t, _, i, _, _, ht, hx, hi, he, by omega⟩
            · have hi' : s.p x = some i := by simpa [up, hxv] using hi
              obtain ⟨a', c', h1, h2⟩ := I.bound x i hi'
              rw [hei] at h1
              cases h1
              refine ⟨t, x, i, a, c, ht, hx, hi, hei, ?_⟩
              rw [up_at, up_ne hxv]
              omega
        · cases hpr
      · have nv : ∀ t, t < m → it es (up s.p v (some j)) t y ≠ some v := fun t ht z => hv ⟨t, ht, z⟩
        have e1 : ∀ t, t ≤ m → it es (up s.p v (some j)) t y = it es s.p t y := fun t ht => it_same hp t fun t' h' => nv t' (by omega)
        obtain ⟨t, x, i, a, c, ht, hx, hi, hei, hd⟩ := I.cyc y m hm (by rw [← e1 m (Nat.le_refl _)]; exact hy)
        have hx' : it es (up s.p v (some j)) t y = some x := by rw [e1 t (by omega)]; exact hx
        have hxv : x ≠ v := fun z => nv t ht (by rw [hx', z])
        have hav : a ≠ v := fun z => by
          have h1 : it es (up s.p v (some j)) (t + 1) y = some a := by
            rw [e1 (t + 1) (by omega)]
            show (it es s.p t y).bind (pr es s.p) = some a
            rw [hx]
            simp [pr, hi, hei]
          by_cases htm : t + 1 = m
          · rw [htm, hy] at h1
            cases h1
            exact nv 0 (by omega) (by rw [z]; rfl)
          · exact nv (t + 1) (by omega) (by rw [h1, z])
        exact ⟨t, x, i, a, c, ht, hx', by rw [up_ne hxv]; exact hi, hei, by rw [up_ne hav, up_ne hxv]; exact hd⟩
    · by_cases hx : x = v
      · subst hx; rw [up_at]; exact Nat.le_refl _
      · rw [up_ne hx]; exact I.le x
    · by_cases hxv : x = v
      · subst hxv; simp [up] at hx
      · rw [up_ne hxv]; exact I.non x (by simpa [up, hxv] using hx)
    · have La : L a ≤ up L v k a := by
        by_cases ha : a = v
        · subst ha; rw [up_at]; exact I.le a
        · rw [up_ne ha]; exact Nat.le_refl _
      by_cases hxv : x = v
      · subst hxv
        have : i = j := by simpa [up] using hx.symm
        subst this
        rw [he] at hi
        cases hi
        rw [up_at]
        by_cases hk : L u + 1 < k
        · have := I.past _ _ _ _ he hk
          omega
        · omega
      · rw [up_ne hxv]
        have := I.one x i a c (by simpa [up, hxv] using hx) hi
        omega
    · have hav : a ≠ v := fun z => by subst z; rw [up_at] at ha; omega
      rw [up_ne hav] at ha
      show up s.d v (s.d u + w) b ≤ up s.d v (s.d u + w) a + c
      rw [up_ne hav]
      have := dle b
      have := I.past i a b c hi ha
      omega
    · have hav : a ≠ v := fun z => by subst z; rw [up_at] at ha; omega
      rw [up_ne hav] at ha
      show up s.d v (s.d u + w) b ≤ up s.d v (s.d u + w) a + c
      rw [up_ne hav]
      by_cases hij : i = j
      · subst hij
        rw [he] at he'
        cases he'
        rw [up_at]
        exact Int.le_refl _
      · have := dle b
        have := I.now i a b c (by omega) he' ha
        omega
    · have : x = v := by simpa using hx.symm
      subst this
      exact up_at
  · rw [if_neg h]
    have h : ¬ (s.d u + w < s.d v) := h
    refine ⟨L, ⟨I.bound, I.cyc, I.le, I.non, I.one, I.past, fun i a b c hi he' ha => ?_, I.hit⟩⟩
    by_cases hij : i = j
    · subst hij
      rw [he] at he'
      cases he'
      omega
    · exact I.now i a b c (by omega) he' ha
theorem lapF_inv {es : List E} {L : Nat → Nat} {k : Nat} : ∀ {rest : List E} {s : S} {L : Nat → Nat} {j : Nat}, es.drop j = rest → Inv es s L k j → ∃ L', Inv es (lapF s j rest) L' k (j + rest.length)
  | [], s, L, j, _, I => ⟨L, I⟩
  | e :: rest, s, L, j, h, I => by
    have he : es[j]? = some e := by
      have : (es.drop j)[0]? = some e := by rw [h]; rfl
      simpa using this
    obtain ⟨L', I'⟩ := step_inv I he
    have h' : es.drop (j + 1) = rest := by
      have : (es.drop j).drop 1 = rest := by rw [h]; rfl
      rwa [List.drop_drop] at this
    obtain ⟨L2, I2⟩ := lapF_inv (L := L) (k := k) h' I'
    refine ⟨L2, ?_⟩
    rw [List.length_cons]
    have : j + (rest.length + 1) = j + 1 + rest.length := by omega
    rw [this]
    exact I2
theorem lap_inv {es : List E} {s : S} {L : Nat → Nat} {k : Nat} (I : Inv es ⟨s.d, s.p, none⟩ L k 0) : ∃ L', Inv es (lap es s) L' k es.length := by
  obtain ⟨L', I'⟩ := lapF_inv (L := L) (rest := es) (j := 0) rfl I
  rw [Nat.zero_add] at I'
  exact ⟨L', I'⟩
theorem next_inv {es : List E} {s : S} {L : Nat → Nat} {k : Nat} (I : Inv es s L k es.length) : Inv es ⟨s.d, s.p, none⟩ L (k + 1) 0 :=
  ⟨I.bound, I.cyc, fun v => Nat.le_succ_of_le (I.le v), I.non, I.one, fun i u v w hi hu => I.now i u v w (List.getElem?_eq_some_iff.mp hi).1 hi (by omega), fun i u v w hi => by omega, fun v hv => by cases hv⟩
theorem laps_inv {es : List E} : ∀ {n : Nat} {s : S} {L : Nat → Nat} {k : Nat}, Inv es ⟨s.d, s.p, none⟩ L k 0 → ∃ L', Inv es (laps es (n + 1) s) L' (k + n) es.length
  | 0, s, L, k, I => lap_inv I
  | n + 1, s, L, k, I => by
    obtain ⟨L', I'⟩ := lap_inv I
    obtain ⟨L2, I2⟩ := laps_inv (n := n) (s := lap es s) (next_inv I')
    refine ⟨L2, ?_⟩
    have : k + (n + 1) = k + 1 + n := by omega
    rw [this]
    exact I2
theorem s0_inv (es : List E) : Inv es s0 (fun _ => 0) 1 0 := by
  refine ⟨fun v i h => (nomatch h), fun y m hm hy => ?_, fun v => Nat.zero_le _, fun v _ => rfl, fun v i u w h => (nomatch h), fun i u v w _ h => absurd h (by omega), fun i u v w h => absurd h (by omega), fun v h => (nomatch h)⟩
  obtain ⟨m', rfl⟩ : ∃ m', m = m' + 1 := ⟨m - 1, by omega⟩
  have hy : (it es s0.p m' y).bind (pr es s0.p) = some y := hy
  cases hx : it es s0.p m' y with
  | none => rw [hx] at hy; cases hy
  | some x => rw [hx] at hy; cases hy
/-! ### cold at the end -/
theorem step_last {s : S} {i : Nat} {e : E} (h : s.last ≠ none) : (step s i e).last ≠ none := by
  unfold step
  split
  · exact fun z => by cases z
  · exact h
theorem lapF_last : ∀ {rest : List E} {s : S} {j : Nat}, s.last ≠ none → (lapF s j rest).last ≠ none
  | [], s, j, h => h
  | e :: rest, s, j, h => lapF_last (rest := rest) (step_last h)
theorem lapF_cold : ∀ {rest : List E} {s : S} {j : Nat}, (lapF s j rest).last = none → lapF s j rest = s ∧ ∀ e ∈ rest, ¬ hot s e
  | [], s, j, h => ⟨rfl, fun _ z => by cases z⟩
  | e :: rest, s, j, h => by
    by_cases hh : hot s e
    · have : (step s j e).last ≠ none := by
        unfold step
        rw [if_pos hh]
        exact fun z => by cases z
      exact absurd h (lapF_last (rest := rest) (j := j + 1) this)
    · have hs : step s j e = s := by unfold step; rw [if_neg hh]
      have h2 : (lapF s (j + 1) rest).last = none := by
        have : lapF s j (e :: rest) = lapF (step s j e) (j + 1) rest := rfl
        rw [this, hs] at h
        exact h
      obtain ⟨h3, h4⟩ := lapF_cold h2
      refine ⟨?_, fun e' he' => ?_⟩
      · show lapF (step s j e) (j + 1) rest = s
        rw [hs, h3]
      · rcases List.mem_cons.mp he' with rfl | he'
        · exact hh
        · exact h4 e' he'
theorem laps_succ {es : List E} : ∀ {n : Nat} {s : S}, laps es (n + 1) s = lap es (laps es n s)
  | 0, s => rfl
  | n + 1, s => by
    show laps es (n + 1) (lap es s) = _
    rw [laps_succ (n := n)]
    rfl
theorem cold {es : List E} {n : Nat} {s : S} (h : (laps es (n + 1) s).last = none) : ∀ e ∈ es, (laps es (n + 1) s).d e.2.1 ≤ (laps es (n + 1) s).d e.1 + e.2.2 := by
  rw [laps_succ] at h ⊢
  unfold lap at h ⊢
  obtain ⟨h1, h2⟩ := lapF_cold h
  rw [h1]
  intro e he
  have := h2 e he
  unfold hot at this
  exact Int.not_lt.mp this
/-! ### bounds of the numbers -/
def low (s : S) (B : Int) : Prop := ∀ v, -B ≤ s.d v ∧ s.d v ≤ 0
theorem step_low {s : S} {i : Nat} {e : E} {B W : Int} (h : low s B) (hB : 0 ≤ W) (hw : -W ≤ e.2.2) : low (step s i e) (B + W) := by
  unfold step
  split
  · rename_i hh
    have hh : s.d e.1 + e.2.2 < s.d e.2.1 := hh
    intro v
    show -(B + W) ≤ up s.d e.2.1 (s.d e.1 + e.2.2) v ∧ up s.d e.2.1 (s.d e.1 + e.2.2) v ≤ 0
    have h1 := h e.1
    have h2 := h e.2.1
    by_cases hv : v = e.2.1
    · subst hv
      rw [up_at]
      omega
    · rw [up_ne hv]
      have := h v
      omega
  · intro v
    have := h v
    omega
theorem lapF_low {W : Int} (hW : 0 ≤ W) : ∀ {rest : List E} {s : S} {j : Nat} {B : Int}, low s B → (∀ e ∈ rest, -W ≤ e.2.2) → low (lapF s j rest) (B + rest.length * W)
  | [], s, j, B, h, _ => by
    have : B + (([] : List E).length : Int) * W = B := by simp
    rw [this]
    exact h
  | e :: rest, s, j, B, h, hw => by
    have := lapF_low hW (rest := rest) (j := j + 1) (step_low (i := j) h hW (hw e List.mem_cons_self)) fun e' he' => hw e' (List.mem_cons_of_mem _ he')
    have e1 : B + ((e :: rest).length : Int) * W = B + W + rest.length * W := by
      rw [List.length_cons]
      have : (((rest.length + 1 : Nat)) : Int) * W = rest.length * W + W := by
        rw [Int.natCast_add, Int.add_mul]; simp
      omega
    rw [e1]
    exact this
theorem laps_low {es : List E} {W : Int} (hW : 0 ≤ W) (hw : ∀ e ∈ es, -W ≤ e.2.2) : ∀ {n : Nat} {s : S} {B : Int}, low s B → low (laps es n s) (B + n * (es.length * W))
  | 0, s, B, h => by
    have : B + ((0 : Nat) : Int) * (es.length * W) = B := by simp
    rw [this]
    exact h
  | n + 1, s, B, h => by
    have h1 : low (lap es s) (B + es.length * W) := lapF_low hW (rest := es) (s := ⟨s.d, s.p, none⟩) (j := 0) (fun v => h v) hw
    have := laps_low hW hw (n := n) h1
    have e1 : B + ((n + 1 : Nat) : Int) * (es.length * W) = B + es.length * W + n * (es.length * W) := by
      rw [Int.natCast_add, Int.add_mul]
      simp
      omega
    rw [e1]
    exact this
/-! ### hot at the end: a ring below nought -/
theorem pigeon : ∀ (N : Nat) (f : Nat → Nat), (∀ j, j ≤ N → f j < N) → ∃ a b, a < b ∧ b ≤ N ∧ f a = f b
  | 0, f, h => absurd (h 0 (Nat.le_refl _)) (by omega)
  | N + 1, f, h => by
    by_cases hx : ∃ a, a < N + 1 ∧ f a = f (N + 1)
    · obtain ⟨a, ha, e⟩ := hx
      exact ⟨a, N + 1, ha, Nat.le_refl _, e⟩
    · have nx : ∀ a, a < N + 1 → f a ≠ f (N + 1) := fun a ha e => hx ⟨a, ha, e⟩
      obtain ⟨a, b, hab, hb, e⟩ := pigeon N (fun a => if f a = N then f (N + 1) else f a) fun j hj => by
        have h1 := h j (by omega)
        have h2 := h (N + 1) (Nat.le_refl _)
        have h3 := nx j (by omega)
        show (if f j = N then f (N + 1) else f j) < N
        split
        · omega
        · omega
      refine ⟨a, b, hab, by omega, ?_⟩
      have h3 := nx a (by omega)
      have h4 := nx b (by omega)
      have e : (if f a = N then f (N + 1) else f a) = (if f b = N then f (N + 1) else f b) := e
      split at e
      · split at e
        · omega
        · exact absurd e.symm h4
      · split at e
        · exact absurd e h3
        · exact e
theorem it_add {es : List E} {p : Nat → Option Nat} {y : Nat} (a : Nat) : ∀ b, it es p (a + b) y = (it es p a y).bind (it es p b)
  | 0 => by cases it es p a y <;> rfl
  | b + 1 => by
    show (it es p (a + b) y).bind (pr es p) = _
    rw [it_add a b]
    cases it es p a y <;> rfl
theorem it_def {es : List E} {p : Nat → Option Nat} {y : Nat} {a b : Nat} (h : (it es p b y).isSome) (hab : a ≤ b) : (it es p a y).isSome := by
  have : b = a + (b - a) := by omega
  rw [this, it_add] at h
  cases hx : it es p a y with
  | none => rw [hx] at h; cases h
  | some x => rfl
def valid (es : List E) (N : Nat) : Prop := ∀ e ∈ es, e.1 < N ∧ e.2.1 < N
theorem pr_lt {es : List E} {p : Nat → Option Nat} {N x y : Nat} (hv : valid es N) (h : pr es p x = some y) : y < N := by
  unfold pr at h
  split at h
  · rename_i i _
    cases he : es[i]? with
    | none => rw [he] at h; cases h
    | some e =>
      rw [he] at h
      have : e.1 = y := by simpa using h
      rw [← this]
      exact (hv e (List.mem_of_getElem? he)).1
  · cases h
theorem it_lt {es : List E} {p : Nat → Option Nat} {N : Nat} (hv : valid es N) {y : Nat} (hy : y < N) : ∀ {j x}, it es p j y = some x → x < N
  | 0, x, h => by cases h; exact hy
  | j + 1, x, h => by
    have h : (it es p j y).bind (pr es p) = some x := h
    cases hz : it es p j y with
    | none => rw [hz] at h; cases h
    | some z => rw [hz] at h; exact pr_lt hv h
theorem last_lt {es : List E} {N : Nat} (hv : valid es N) : ∀ {rest : List E} {s : S} {j : Nat}, (∀ e ∈ rest, e ∈ es) → (∀ v, s.last = some v → v < N) → ∀ v, (lapF s j rest).last = some v → v < N
  | [], s, j, _, h => h
  | e :: rest, s, j, hr, h => last_lt hv (rest := rest) (s := step s j e) (fun e' he' => hr e' (List.mem_cons_of_mem _ he')) fun v hl => by
    unfold step at hl
    split at hl
    · cases hl
      exact (hv e (hr e List.mem_cons_self)).2
    · exact h v hl
theorem chain {es : List E} {s : S} {L : Nat → Nat} {N v0 : Nat} (I : Inv es s L N es.length) (h : s.last = some v0) : ∀ j, j ≤ N → ∃ x, it es s.p j v0 = some x ∧ N ≤ L x + j
  | 0, _ => ⟨v0, rfl, by rw [I.hit v0 h]; omega⟩
  | j + 1, hj => by
    obtain ⟨x, h1, h2⟩ := chain I h j (by omega)
    cases hp : s.p x with
    | none => have := I.non x hp; omega
    | some i =>
      obtain ⟨u, w, h3, _⟩ := I.bound x i hp
      have h4 := I.one x i u w hp h3
      refine ⟨u, ?_, by omega⟩
      show (it es s.p j v0).bind (pr es s.p) = some u
      rw [h1]
      simp [pr, hp, h3]
theorem sum_lt {f g : Nat → Int} {t0 : Nat} : ∀ m, (∀ t, t < m → f (t + 1) + g t ≤ f t) → ((List.range m).map g).sum ≤ f 0 - f m ∧ ((∃ t, t < m ∧ f (t + 1) + g t < f t) → ((List.range m).map g).sum < f 0 - f m)
  | 0, _ => by simp
  | m + 1, h => by
    obtain ⟨h1, h2⟩ := sum_lt (t0 := t0) m fun t ht => h t (by omega)
    have h3 := h m (by omega)
    rw [List.range_succ, List.map_append, List.sum_append]
    simp only [List.map_cons, List.map_nil, List.sum_cons, List.sum_nil]
    refine ⟨by omega, fun ⟨t, ht, hs⟩ => ?_⟩
    by_cases e : t = m
    · subst e; omega
    · have := h2 ⟨t, by omega, hs⟩
      omega
/-- what is found -/
theorem ring {es : List E} {s : S} {L : Nat → Nat} {N v0 : Nat} (hv : valid es N) (hv0 : v0 < N) (I : Inv es s L N es.length) (h : s.last = some v0) : ∃ (z m : Nat) (Y J : Nat → Nat) (W : Nat → Int), it es s.p N v0 = some z ∧ (∀ j, j ≤ N → (it es s.p j v0).isSome) ∧ 1 ≤ m ∧ m ≤ N ∧ Y 0 = z ∧ Y m = z ∧ (∀ t, 1 ≤ t → t < m → Y t ≠ z) ∧ (∀ t, t < m → Y t < N ∧ s.p (Y t) = some (J t) ∧ es[J t]? = some (Y (t + 1), Y t, W t)) ∧ ((List.range m).map W).sum < 0 := by
  have def_ : ∀ j, j ≤ N → (it es s.p j v0).isSome := fun j hj => by
    obtain ⟨x, hx, _⟩ := chain I h j hj
    rw [hx]; rfl
  obtain ⟨z, hz⟩ := Option.isSome_iff_exists.mp (def_ N (Nat.le_refl _))
  obtain ⟨a, b, hab, hb, e⟩ := pigeon N (fun j => (it es s.p j v0).getD 0) fun j hj => by
    obtain ⟨x, hx⟩ := Option.isSome_iff_exists.mp (def_ j hj)
    show (it es s.p j v0).getD 0 < N
    rw [hx]
    exact it_lt hv hv0 hx
  obtain ⟨xa, hxa⟩ := Option.isSome_iff_exists.mp (def_ a (by omega))
  obtain ⟨xb, hxb⟩ := Option.isSome_iff_exists.mp (def_ b hb)
  have e : (it es s.p a v0).getD 0 = (it es s.p b v0).getD 0 := e
  rw [hxa, hxb] at e
  have e : xa = xb := e
  subst e
  -- z lies on the ring
  have hcyc : it es s.p (b - a) z = some z := by
    have h1 : it es s.p (N - b) xa = some z := by
      have : N = b + (N - b) := by omega
      rw [this, it_add, hxb] at hz
      exact hz
    have h2 : it es s.p (b - a) xa = some xa := by
      have : b = a + (b - a) := by omega
      rw [this, it_add, hxa] at hxb
      exact hxb
    have h3 : it es s.p ((N - b) + (b - a)) xa = it es s.p ((b - a) + (N - b)) xa := by rw [Nat.add_comm]
    rw [it_add, it_add, h1, h2] at h3
    have h3 : it es s.p (b - a) z = it es s.p (N - b) xa := h3
    rw [h3, h1]
  -- the least way around
  have least : ∀ n, (∃ m, 1 ≤ m ∧ m ≤ n ∧ it es s.p m z = some z) → ∃ m, 1 ≤ m ∧ m ≤ n ∧ it es s.p m z = some z ∧ ∀ t, 1 ≤ t → t < m → it es s.p t z ≠ some z := by
    intro n
    induction n with
    | zero => rintro ⟨m, h1, h2, _⟩; omega
    | succ n ih =>
      rintro ⟨m, h1, h2, h3⟩
      by_cases hx : ∃ m, 1 ≤ m ∧ m ≤ n ∧ it es s.p m z = some z
      · obtain ⟨m', g1, g2, g3, g4⟩ := ih hx
        exact ⟨m', g1, by omega, g3, g4⟩
      · exact ⟨m, h1, h2, h3, fun t t1 t2 t3 => hx ⟨t, t1, by omega, t3⟩⟩
  obtain ⟨m, m1, m2, m3, m4⟩ := least N ⟨b - a, by omega, by omega, hcyc⟩
  have dz : ∀ t, t ≤ m → (it es s.p t z).isSome := fun t ht => it_def (by rw [m3]; rfl) ht
  have hY : ∀ t, t ≤ m → it es s.p t z = some ((it es s.p t z).getD 0) := fun t ht => by
    obtain ⟨x, hx⟩ := Option.isSome_iff_exists.mp (dz t ht)
    rw [hx]; rfl
  have hzN : z < N := it_lt hv hv0 hz
  have hstep : ∀ t, t < m → (it es s.p t z).getD 0 < N ∧ s.p ((it es s.p t z).getD 0) = some ((s.p ((it es s.p t z).getD 0)).getD 0) ∧ es[(s.p ((it es s.p t z).getD 0)).getD 0]? = some ((it es s.p (t + 1) z).getD 0, (it es s.p t z).getD 0, ((es[(s.p ((it es s.p t z).getD 0)).getD 0]?).getD (0, 0, 0)).2.2) ∧ s.d ((it es s.p (t + 1) z).getD 0) + ((es[(s.p ((it es s.p t z).getD 0)).getD 0]?).getD (0, 0, 0)).2.2 ≤ s.d ((it es s.p t z).getD 0) := fun t ht => by
    have h1 := hY t (by omega)
    have h2 := hY (t + 1) (by omega)
    generalize (it es s.p t z).getD 0 = y at h1 ⊢
    generalize (it es s.p (t + 1) z).getD 0 = y' at h2 ⊢
    have h3 : (it es s.p t z).bind (pr es s.p) = some y' := h2
    rw [h1] at h3
    have h3 : pr es s.p y = some y' := h3
    refine ⟨it_lt hv hzN h1, ?_⟩
    unfold pr at h3
    split at h3
    · rename_i i hi
      obtain ⟨u, w, g1, g2⟩ := I.bound y i hi
      rw [g1] at h3
      have : u = y' := by simpa using h3
      subst this
      rw [hi]
      exact ⟨rfl, by simp [g1], by simpa [g1] using g2⟩
    · cases h3
  refine ⟨z, m, fun t => (it es s.p t z).getD 0, fun t => (s.p ((it es s.p t z).getD 0)).getD 0, fun t => ((es[(s.p ((it es s.p t z).getD 0)).getD 0]?).getD (0, 0, 0)).2.2, hz, def_, m1, m2, rfl, ?_, fun t t1 t2 e => m4 t t1 t2 ?_, fun t ht => ⟨(hstep t ht).1, (hstep t ht).2.1, (hstep t ht).2.2.1⟩, ?_⟩
  · show (it es s.p m z).getD 0 = z
    rw [m3]; rfl
  · rw [hY t (by omega)]
    exact congrArg some e
  · have := (sum_lt (t0 := 0) (f := fun t => s.d ((it es s.p t z).getD 0)) (g := fun t => ((es[(s.p ((it es s.p t z).getD 0)).getD 0]?).getD (0, 0, 0)).2.2) m fun t ht => (hstep t ht).2.2.2).2 ?_
    · have e0 : (it es s.p 0 z).getD 0 = z := rfl
      have em : (it es s.p m z).getD 0 = z := by rw [m3]; rfl
      simp only [e0, em] at this
      omega
    · obtain ⟨t, x, i, u, w, ht, hx, hp, he, hd⟩ := I.cyc z m m1 m3
      refine ⟨t, ht, ?_⟩
      obtain ⟨g0, g1, g2, g3⟩ := hstep t ht
      have ex : (it es s.p t z).getD 0 = x := by rw [hx]; rfl
      rw [ex] at g1 g2 g3 ⊢
      rw [hp] at g2 ⊢
      have : ((some i).getD 0) = i := rfl
      rw [this] at g2 ⊢
      rw [he] at g2 ⊢
      simp only [Option.some.injEq, Prod.mk.injEq, Option.getD_some] at g2 ⊢
      rw [← g2.1]
      exact hd
end BF

end
section
set_option maxHeartbeats 4000000
namespace K77
open PySem PySem.Spec L2 DL
/-! ### told_clocks goes the laps -/
def eE (e : BF.E) : PyData := .tuple [.int e.1, .int e.2.1, .int e.2.2]
def eB (es : List BF.E) : PyData := .tuple (es.map eE)
def oP : Option Nat → PyData
  | none => .none
  | some i => .int i
theorem oP_none : oP none = .none := rfl
def dR (n : Nat) (d : Nat → Int) : List PyData := (List.range n).map fun v => .int (d v)
def pR (n : Nat) (p : Nat → Option Nat) : List PyData := (List.range n).map fun v => oP (p v)
theorem dR_at {n v : Nat} {d : Nat → Int} (h : v < n) : atI (dR n d) (v : Int) = some (.int (d v)) := at_nat (by simp [dR, h])
theorem pR_at {n v : Nat} {p : Nat → Option Nat} (h : v < n) : atI (pR n p) (v : Int) = some (oP (p v)) := at_nat (by simp [pR, h])
theorem dR_len {n : Nat} {d : Nat → Int} : (dR n d).length = n := by simp [dR]
theorem pR_len {n : Nat} {p : Nat → Option Nat} : (pR n p).length = n := by simp [pR]
theorem dR_set {n v : Nat} {d : Nat → Int} {x : Int} : (dR n d).set v (.int x) = dR n (BF.up d v x) := by
  apply List.ext_getElem (by simp [dR])
  intro i h1 h2
  by_cases hi : v = i
  · subst hi; simp [dR, BF.up]
  · rw [List.getElem_set_ne hi]; simp [dR, BF.up, Ne.symm hi]
theorem pR_set {n v : Nat} {p : Nat → Option Nat} {x : Nat} : (pR n p).set v (.int x) = pR n (BF.up p v (some x)) := by
  apply List.ext_getElem (by simp [pR])
  intro i h1 h2
  by_cases hi : v = i
  · subst hi; simp [pR, BF.up, oP]
  · rw [List.getElem_set_ne hi]; simp [pR, BF.up, Ne.symm hi]
def stR (n : Nat) (es : List BF.E) (s : BF.S) (a b c d e : Sl) : Rho := [.sh (.int n), .sh (eB es), .ow 1 (.list (dR n s.d)), .ow 1 (.list (pR n s.p)), .sh (oP s.last), a, b, c, d, e, .no, .no]
theorem stepR {n k : Nat} {es : List BF.E} {s : BF.S} {a b c d f : Sl} {e : BF.E} (h1 : e.1 < n) (h2 : e.2.1 < n) : ∃ b' c' d' f', forStep m_told_clocks_g1 m_told_clocks_b1 (.tuple [.int (k : Nat), eE e]) (stR n es s a b c d f) = some (.nx, stR n es (BF.step s k e) a b' c' d' f') := by
  obtain ⟨u, v, w⟩ := e
  refine ⟨.sh (.int k), .sh (.int u), .sh (.int v), .sh (.int w), ?_⟩
  have a1 := dR_at (d := s.d) h1
  have a2 := dR_at (d := s.d) h2
  have a3 : ixN n (v : Int) = some v := ixN_nat h2
  simp only at a1 a2
  by_cases h : BF.hot s (u, v, w)
  · have h' : s.d u + w < s.d v := h
    simp [forStep, m_told_clocks_g1, m_told_clocks_b1, gT, gsCons, gS, gsNil, eE, stR, Md.b, fIf, fT, f2, fN, faCons, faNil, fVar, fIx, a1, a2, φAdd, fI, pLt, h', fAsgs, gSt, afterX, dupL, slotsOf, aSls, aSl, gSetI, dR_len, pR_len, a3, gGiv, backs, BF.step, h, dR_set, pR_set, oP]
  · have h' : ¬ s.d u + w < s.d v := h
    simp [forStep, m_told_clocks_g1, m_told_clocks_b1, gT, gsCons, gS, gsNil, eE, stR, Md.b, fIf, fT, f2, fN, faCons, faNil, fVar, fIx, a1, a2, φAdd, fI, pLt, h', fNop, BF.step, h]
theorem lapR {n : Nat} {es : List BF.E} {a : Sl} : ∀ (rest : List BF.E) (k : Nat) (s : BF.S) (b c d f : Sl), (∀ e ∈ rest, e.1 < n ∧ e.2.1 < n) → ∃ b' c' d' f', fFor m_told_clocks_g1 m_told_clocks_b1 (enumD k (rest.map eE)) (stR n es s a b c d f) = some (.nx, stR n es (BF.lapF s k rest) a b' c' d' f')
  | [], k, s, b, c, d, f, _ => ⟨b, c, d, f, rfl⟩
  | e :: rest, k, s, b, c, d, f, h => by
    obtain ⟨h1, h2⟩ := h e List.mem_cons_self
    obtain ⟨b1, c1, d1, f1, e1⟩ := stepR (n := n) (k := k) (es := es) (s := s) (a := a) (b := b) (c := c) (d := d) (f := f) h1 h2
    obtain ⟨b2, c2, d2, f2, e2⟩ := lapR (es := es) (a := a) rest (k + 1) (BF.step s k e) b1 c1 d1 f1 fun e' he' => h e' (List.mem_cons_of_mem _ he')
    refine ⟨b2, c2, d2, f2, ?_⟩
    rw [List.map_cons, enumD, for_cons, e1]
    exact e2
theorem lapsR {n : Nat} {es : List BF.E} (hv : BF.valid es n) : ∀ (m : Nat) (lo : Int) (s : BF.S) (a b c d f : Sl), ∃ a' b' c' d' f', fFor m_told_clocks_g2 m_told_clocks_b2 (rangeD lo m) (stR n es s a b c d f) = some (.nx, stR n es (BF.laps es m s) a' b' c' d' f') := by
  intro m lo s a b c d f
  obtain ⟨ρ', h1, a', b', c', d', f', h2⟩ := for_inv (g := m_told_clocks_g2) (f := m_told_clocks_b2) (fun i ρ => ∃ a b c d f, ρ = stR n es (BF.laps es i s) a b c d f) (rangeD lo m) 0 (stR n es s a b c d f) ⟨a, b, c, d, f, rfl⟩ fun i ρ x hI _ hx => by
    obtain ⟨a, b, c, d, f, rfl⟩ := hI
    obtain ⟨b1, c1, d1, f1, e1⟩ := lapR (n := n) (es := es) (a := .sh x) es 0 ⟨(BF.laps es i s).d, (BF.laps es i s).p, none⟩ b c d f hv
    refine ⟨stR n es (BF.lap es (BF.laps es i s)) (.sh x) b1 c1 d1 f1, ?_, .sh x, b1, c1, d1, f1, ?_⟩
    · simp only [stR, oP_none] at e1
      simp [forStep, m_told_clocks_g2, m_told_clocks_b2, m_told_clocks_s1, m_told_clocks_s2, gS, stR, Md.b, fSeq, fAsg, fC, fForS, iA, faCons, faNil, fSh, fVar, κEnumT, eB, e1, BF.lap]
      simp only [eB] at e1
      simp [e1]
    · rw [BF.laps_succ]
  rw [h1]
  refine ⟨a', b', c', d', f', ?_⟩
  rw [h2]
  simp [rangeD]
theorem repR {n : Nat} {x : PyData} : (List.replicate n [x]).flatten = (List.range n).map fun _ => x := by
  induction n with
  | zero => rfl
  | succ n ih => rw [List.replicate_succ', List.flatten_append, ih, List.range_succ, List.map_append]; rfl
/-- back from last -/
def stW (n : Nat) (es : List BF.E) (s : BF.S) (x : Nat) (a b c d e : Sl) : Rho := [.sh (.int n), .sh (eB es), .sh (.list (dR n s.d)), .sh (.list (pR n s.p)), .sh (.int x), a, b, c, d, e, .no, .no]
theorem pr_inv {es : List BF.E} {p : Nat → Option Nat} {x y : Nat} (h : BF.pr es p x = some y) : ∃ i e, p x = some i ∧ es[i]? = some e ∧ e.1 = y := by
  unfold BF.pr at h
  split at h
  · rename_i i hi
    cases he : es[i]? with
    | none => rw [he] at h; cases h
    | some e => rw [he] at h; exact ⟨i, e, hi, he, by simpa using h⟩
  · cases h
theorem eB_at {es : List BF.E} {i : Nat} {e : BF.E} (h : es[i]? = some e) : atI (es.map eE) (i : Int) = some (eE e) := at_nat (by rw [List.getElem?_map, h]; rfl)
theorem walkR {n v0 : Nat} {es : List BF.E} {s : BF.S} (hv : BF.valid es n) (h0 : v0 < n) (lo : Int) (m : Nat) (hd : ∀ j, j ≤ m → (BF.it es s.p j v0).isSome) (a b c d f : Sl) : ∃ a' z, BF.it es s.p m v0 = some z ∧ fFor m_told_clocks_g3 m_told_clocks_b3 (rangeD lo m) (stW n es s v0 a b c d f) = some (.nx, stW n es s z a' b c d f) := by
  obtain ⟨ρ', h1, h2⟩ := for_inv (g := m_told_clocks_g3) (f := m_told_clocks_b3) (fun i ρ => i ≤ m → ∃ z a, BF.it es s.p i v0 = some z ∧ ρ = stW n es s z a b c d f) (rangeD lo m) 0 (stW n es s v0 a b c d f) (fun _ => ⟨v0, a, rfl, rfl⟩) fun i ρ x hI _ hx => by
    have hi : i < m := by
      have := (List.getElem?_eq_some_iff.mp hx).1
      simp [rangeD] at this
      omega
    obtain ⟨z, a, hz, rfl⟩ := hI (by omega)
    obtain ⟨y, hy⟩ := Option.isSome_iff_exists.mp (hd (i + 1) (by omega))
    have hp : BF.pr es s.p z = some y := by
      have hy : (BF.it es s.p i v0).bind (BF.pr es s.p) = some y := hy
      rw [hz] at hy
      exact hy
    obtain ⟨k, e, hk, he, rfl⟩ := pr_inv hp
    have b1 := pR_at (p := s.p) (BF.it_lt hv h0 hz)
    rw [hk] at b1
    have b2 := eB_at he
    refine ⟨stW n es s e.1 (.sh x) b c d f, ?_, fun _ => ⟨e.1, .sh x, hy, rfl⟩⟩
    simp [forStep, m_told_clocks_g3, m_told_clocks_b3, gS, stW, Md.b, fAsg, f2, fN, faCons, faNil, fVar, fC, fIx, b1, oP, eB, b2, eE, at0]
  have hm : 0 + (rangeD lo m).length = m := by simp [rangeD]
  rw [hm] at h2
  obtain ⟨z, a', h2, h3⟩ := h2 (Nat.le_refl _)
  exact ⟨a', z, h2, by rw [h1, h3]⟩
/-- the ring is gone along -/
def stG (n : Nat) (es : List BF.E) (s : BF.S) (z : Nat) (l : List Nat) (y : Nat) (a b c d e : Sl) : Rho := [.sh (.int n), .sh (eB es), .sh (.list (dR n s.d)), .sh (.list (pR n s.p)), .sh (.int z), a, b, c, d, e, .ow 1 (.list (l.map fun i => .int (i : Nat))), .sh (.int y)]
theorem eqv_nil {ds : List PyData} : PyData.eqv (.list ds) (.list []) = ds.isEmpty := by
  cases ds <;> simp [PyData.eqv, PyData.eqvAll]
theorem pEq_nil {l : List Nat} : pEq [.list (l.map fun i => PyData.int (i : Nat)), .list []] = some (.bool l.isEmpty) := by
  have h1 : okN 9 (.list (l.map fun i => PyData.int (i : Nat))) = true := by simp [okN]
  have h2 : okN 9 (.list []) = true := by simp [okN]
  simp only [pEq, pEqv, h1, h2, Bool.and_true, Bool.or_true, if_true, eqv_nil]
  cases l <;> rfl
theorem pNe_int {a b : Int} : pNe [.int a, .int b] = some (.bool (decide (a ≠ b))) := by
  by_cases h : a = b <;> simp [pNe, pEqv, scalD, PyData.eqv, h]
theorem rC_run {n z y : Nat} {es : List BF.E} {s : BF.S} {l : List Nat} {a b c d f : Sl} : m_told_clocks_w1 (stG n es s z l y a b c d f) = some (decide (l = [] ∨ y ≠ z), stG n es s z l y a b c d f) := by
  have h1 := pEq_nil (l := l)
  have h2 := pNe_int (a := y) (b := z)
  cases l with
  | nil => simp [m_told_clocks_w1, stG, fOr, fT, f2, fN, faCons, faNil, fVar, φLst, Md.b, fI] at h1 ⊢; simp [h1]
  | cons x r =>
    have h3 : (decide ((y : Int) ≠ (z : Int))) = decide (y ≠ z) := by
      have : ((y : Int) ≠ (z : Int)) ↔ y ≠ z := by omega
      exact decide_eq_decide.mpr this
    rw [h3] at h2
    simp [m_told_clocks_w1, stG, fOr, fT, f2, fN, faCons, faNil, fVar, φLst, Md.b, fI] at h1 h2 ⊢
    simp [h1, h2]
theorem ringR {n z m : Nat} {es : List BF.E} {s : BF.S} {Y J : Nat → Nat} {W : Nat → Int} (hm : 1 ≤ m) (hmn : m ≤ 1000) (hY0 : Y 0 = z) (hYm : Y m = z) (hYt : ∀ t, 1 ≤ t → t < m → Y t ≠ z) (h : ∀ t, t < m → Y t < n ∧ s.p (Y t) = some (J t) ∧ es[J t]? = some (Y (t + 1), Y t, W t)) (a b c d f : Sl) :
    ∀ (k t : Nat), t + k = m → ∀ fuel, k < fuel → fWhile m_told_clocks_w1 m_told_clocks_b4 fuel (stG n es s z ((List.range t).map J) (Y t) a b c d f) = some (.nx, stG n es s z ((List.range m).map J) z a b c d f)
  | k, t, hk, 0, hf => by omega
  | k, t, hk, fuel + 1, hf => by
    have hok : (((List.range t).map J).map fun i => PyData.int (i : Nat)).all (okN 9) = true := by
      simp [okN]
    by_cases ht : t < m
    · obtain ⟨h1, h2, h3⟩ := h t ht
      have b1 := pR_at (p := s.p) h1
      rw [h2] at b1
      have b2 := eB_at h3
      have hc : m_told_clocks_w1 (stG n es s z ((List.range t).map J) (Y t) a b c d f) = some (true, stG n es s z ((List.range t).map J) (Y t) a b c d f) := by
        rw [rC_run]
        by_cases h0 : t = 0
        · subst h0; simp
        · have := hYt t (by omega) ht
          simp [this]
      have hb : m_told_clocks_b4 (stG n es s z ((List.range t).map J) (Y t) a b c d f) = some (.nx, stG n es s z ((List.range (t + 1)).map J) (Y (t + 1)) a b c d f) := by
        have hlen : ¬ 10000000 ≤ t := by omega
        simp [m_told_clocks_b4, m_told_clocks_s3, m_told_clocks_s4, stG, fSeq, fExpr, fCallX, fxOwn, fxVal, fSh, f2, fN, faCons, faNil, fVar, fIx, b1, oP, fxNil, afterX, dupL, slotsOf, aSls, aSl, gApp, LIM, hlen, gGiv, backs, Md.b, fAsg, eB, b2, eE, at0, fC, gS, List.range_succ]
      unfold fWhile
      rw [hc]
      simp only [hb, turn]
      exact ringR hm hmn hY0 hYm hYt h a b c d f (k - 1) (t + 1) (by omega) fuel (by omega)
    · have : t = m := by omega
      subst this
      have hc : m_told_clocks_w1 (stG n es s z ((List.range t).map J) (Y t) a b c d f) = some (false, stG n es s z ((List.range t).map J) (Y t) a b c d f) := by
        rw [rC_run]
        have h0 : t ≠ 0 := by omega
        simp [hYm, h0]
      unfold fWhile
      rw [hc, hYm]
/-- what told_clocks tells -/
def isClocks (n : Nat) (es : List BF.E) (B : Int) (r : PyData) : Prop := ∃ d : Nat → Int, r = .tuple [.str "clocks", .tuple (dR n d)] ∧ (∀ e ∈ es, d e.2.1 ≤ d e.1 + e.2.2) ∧ ∀ v, -B ≤ d v ∧ d v ≤ 0
def isRing (n : Nat) (es : List BF.E) (r : PyData) : Prop := ∃ (m : Nat) (Y J : Nat → Nat) (W : Nat → Int), r = .tuple [.str "ring", .tuple (((List.range m).map fun t => PyData.int (J t : Nat)).reverse)] ∧ 1 ≤ m ∧ m ≤ n ∧ Y m = Y 0 ∧ (∀ t, t < m → es[J t]? = some (Y (t + 1), Y t, W t)) ∧ ((List.range m).map W).sum < 0
theorem mulRep {n : Nat} {x : PyData} {m k : Md} (h : n ≤ 100000) (hm : m.fl = true) : φMul [(.list [x], m), (.int (n : Nat), k)] = some (.list ((List.range n).map fun _ => x), .F 1) := by
  have g1 : (n : Int) ≤ 100000 := by omega
  have g2 : (-100000 : Int) ≤ (n : Int) := by omega
  have g3 : n ≤ 10000000 := by omega
  have g4 := repR (n := n) (x := x)
  rw [List.flatten_replicate_singleton] at g4
  simp [φMul, hm, g1, g2, LIM, g3, ← g4]
theorem tc_s5 {n : Nat} {es : List BF.E} (h : n ≤ 100000) : m_told_clocks_s5 [.sh (.int n), .sh (eB es), .no, .no, .no, .no, .no, .no, .no, .no, .no, .no] = some (.nx, [.sh (.int n), .sh (eB es), .ow 1 (.list (dR n fun _ => 0)), .ow 1 (.list (pR n fun _ => none)), .no, .no, .no, .no, .no, .no, .no, .no]) := by
  have m0 : φMul [(.list [.int 0], .F 1), (.int (n : Nat), .S)] = some (.list (dR n fun _ => 0), .F 1) := mulRep h rfl
  have m1 : φMul [(.list [.none], .F 1), (.int (n : Nat), .S)] = some (.list (pR n fun _ => none), .F 1) := mulRep h rfl
  simp [m_told_clocks_s5, fAsgs, fN, faCons, faNil, fC, φLst, fVar, f2, Md.b, LIM, m0, m1, gsCons, gO, gsNil]
theorem tc_s6 {n : Nat} {es : List BF.E} {x y : Sl} : m_told_clocks_s6 [.sh (.int n), .sh (eB es), x, y, .no, .no, .no, .no, .no, .no, .no, .no] = some (.nx, [.sh (.int n), .sh (eB es), x, y, .sh .none, .no, .no, .no, .no, .no, .no, .no]) := by
  simp [m_told_clocks_s6, fAsg, fC, gS, Md.b]
theorem tc_s7 {n : Nat} {es : List BF.E} {ρ ρ' : Rho} (hn : n ≤ LIM) (h0 : ρ[0]? = some (.sh (.int (n : Nat)))) (h : fFor m_told_clocks_g2 m_told_clocks_b2 (rangeD 0 n) ρ = some (.nx, ρ')) : m_told_clocks_s7 ρ = some (.nx, ρ') := by
  simp only [m_told_clocks_s7, fForS, iA_r1 hn h0, h]
theorem tc_s9 {n : Nat} {es : List BF.E} {ρ ρ' : Rho} (hn : n ≤ LIM) (h0 : ρ[0]? = some (.sh (.int (n : Nat)))) (h : fFor m_told_clocks_g3 m_told_clocks_b3 (rangeD 0 n) ρ = some (.nx, ρ')) : m_told_clocks_s9 ρ = some (.nx, ρ') := by
  simp only [m_told_clocks_s9, fForS, iA_r1 hn h0, h]
theorem tc_none {n : Nat} {es : List BF.E} {a b c d f : Sl} {S : BF.S} (h2 : n ≤ 100) (hS : S.last = none)
    (hl : fFor m_told_clocks_g2 m_told_clocks_b2 (rangeD 0 n) (stR n es BF.s0 .no .no .no .no .no) = some (.nx, stR n es S a b c d f)) : F_told_clocks [.sh (.int n), .sh (eB es)] = some (.tuple [.str "clocks", .tuple (dR n S.d)], .S, [.sh (.int n), .sh (eB es)]) := by
  have e7 := tc_s7 (es := es) (lim100 h2) rfl hl
  simp only [stR, BF.s0, hS, oP_none] at e7
  have e8 : (fFrz 2 (fFrz 3 m_told_clocks_s8)) [.sh (.int n), .sh (eB es), .ow 1 (.list (dR n S.d)), .ow 1 (.list (pR n S.p)), .sh .none, a, b, c, d, f, .no, .no] = some (.rt (.tuple [.str "clocks", .tuple (dR n S.d)]) .S, [.sh (.int n), .sh (eB es), .sh (.list (dR n S.d)), .sh (.list (pR n S.p)), .sh .none, a, b, c, d, f, .no, .no]) := by
    simp [m_told_clocks_s8, fFrz, frz, fIf, fT, f2, fN, faCons, faNil, fVar, fC, fI, pIs, Md.b, fRet, φTuple, φTup, Md.fl, LIM]
  have e : m_told_clocks [.sh (.int n), .sh (eB es), .no, .no, .no, .no, .no, .no, .no, .no, .no, .no] = some (.rt (.tuple [.str "clocks", .tuple (dR n S.d)]) .S, [.sh (.int n), .sh (eB es), .sh (.list (dR n S.d)), .sh (.list (pR n S.p)), .sh .none, a, b, c, d, f, .no, .no]) := by
    unfold m_told_clocks
    rw [seq_nx (tc_s5 (by omega)), seq_nx tc_s6, seq_nx e7, seq_rt e8]
  have e0 : ([.sh (.int n), .sh (eB es)] ++ List.replicate (12 - 2) .no : List Sl) = [.sh (.int n), .sh (eB es), .no, .no, .no, .no, .no, .no, .no, .no, .no, .no] := rfl
  simp only [F_told_clocks, runFn, List.length_cons, List.length_nil, Nat.zero_add, Nat.reduceAdd, e0, e]
  simp [outs]
theorem tc_some {n : Nat} {es : List BF.E} {a b c d f a' : Sl} {S : BF.S} {v0 z m : Nat} {J : Nat → Nat} (h2 : n ≤ 100) (hm : m ≤ 100) (hS : S.last = some v0)
    (hl : fFor m_told_clocks_g2 m_told_clocks_b2 (rangeD 0 n) (stR n es BF.s0 .no .no .no .no .no) = some (.nx, stR n es S a b c d f))
    (hw : fFor m_told_clocks_g3 m_told_clocks_b3 (rangeD 0 n) (stW n es S v0 a b c d f) = some (.nx, stW n es S z a' b c d f))
    (hr : fWhile m_told_clocks_w1 m_told_clocks_b4 1000 (stG n es S z [] z a' b c d f) = some (.nx, stG n es S z ((List.range m).map J) z a' b c d f)) : F_told_clocks [.sh (.int n), .sh (eB es)] = some (.tuple [.str "ring", .tuple ((List.range m).map fun t => PyData.int (J t : Nat)).reverse], .S, [.sh (.int n), .sh (eB es)]) := by
  have e7 := tc_s7 (es := es) (lim100 h2) rfl hl
  simp only [stR, BF.s0, hS, oP_none] at e7
  have e8 : (fFrz 2 (fFrz 3 m_told_clocks_s8)) [.sh (.int n), .sh (eB es), .ow 1 (.list (dR n S.d)), .ow 1 (.list (pR n S.p)), .sh (oP (some v0)), a, b, c, d, f, .no, .no] = some (.nx, stW n es S v0 a b c d f) := by
    simp [m_told_clocks_s8, fFrz, frz, fIf, fT, f2, fN, faCons, faNil, fVar, fC, fI, pIs, Md.b, fNop, oP, stW]
  have e9 := tc_s9 (es := es) (lim100 h2) rfl hw
  have e10 : m_told_clocks_s10 (stW n es S z a' b c d f) = some (.nx, stG n es S z [] z a' b c d f) := by
    simp [m_told_clocks_s10, stW, stG, fAsgs, fN, faCons, faNil, φLst, fVar, Md.b, LIM, gsCons, gO, gS, gsNil]
  have e11 : m_told_clocks_s11 (stG n es S z [] z a' b c d f) = some (.nx, stG n es S z ((List.range m).map J) z a' b c d f) := hr
  have hlen : m ≤ 10000000 := by omega
  have e12 : (fFrz 10 m_told_clocks_s12) (stG n es S z ((List.range m).map J) z a' b c d f) = some (.rt (.tuple [.str "ring", .tuple ((List.range m).map fun t => PyData.int (J t : Nat)).reverse]) .S, [.sh (.int n), .sh (eB es), .sh (.list (dR n S.d)), .sh (.list (pR n S.p)), .sh (.int z), a', b, c, d, f, .sh (.list ((List.range m).map fun t => PyData.int (J t : Nat))), .sh (.int z)]) := by
    have : ((List.range m).map J).map (fun i => PyData.int (i : Nat)) = (List.range m).map fun t => PyData.int (J t : Nat) := by rw [List.map_map]; rfl
    simp only [stG, this]
    simp [m_told_clocks_s12, fFrz, frz, fRet, fN, faCons, faNil, fC, fU, fVar, φRev, Md.fl, φTuple, φTup, Md.b, LIM]
  have e : m_told_clocks [.sh (.int n), .sh (eB es), .no, .no, .no, .no, .no, .no, .no, .no, .no, .no] = some (.rt (.tuple [.str "ring", .tuple ((List.range m).map fun t => PyData.int (J t : Nat)).reverse]) .S, [.sh (.int n), .sh (eB es), .sh (.list (dR n S.d)), .sh (.list (pR n S.p)), .sh (.int z), a', b, c, d, f, .sh (.list ((List.range m).map fun t => PyData.int (J t : Nat))), .sh (.int z)]) := by
    unfold m_told_clocks
    rw [seq_nx (tc_s5 (by omega)), seq_nx tc_s6, seq_nx e7, seq_nx e8, seq_nx e9, seq_nx e10, seq_nx e11, e12]
  have e0 : ([.sh (.int n), .sh (eB es)] ++ List.replicate (12 - 2) .no : List Sl) = [.sh (.int n), .sh (eB es), .no, .no, .no, .no, .no, .no, .no, .no, .no, .no] := rfl
  simp only [F_told_clocks, runFn, List.length_cons, List.length_nil, Nat.zero_add, Nat.reduceAdd, e0, e]
  simp [outs]
end K77

end
section
set_option maxHeartbeats 4000000
namespace K77
open PySem PySem.Spec L2 DL
theorem l_told_clocks {n : Nat} {es : List BF.E} {Wm : Int} (h1 : 1 ≤ n) (h2 : n ≤ 100) (hW : 0 ≤ Wm) (hw : ∀ e ∈ es, -Wm ≤ e.2.2) (hv : BF.valid es n) :
    ∃ r, F_told_clocks [.sh (.int n), .sh (eB es)] = some (r, .S, [.sh (.int n), .sh (eB es)]) ∧ (isClocks n es (n * (es.length * Wm)) r ∨ isRing n es r) := by
  obtain ⟨a, b, c, d, f, hl⟩ := lapsR hv n 0 BF.s0 .no .no .no .no .no
  cases hlast : (BF.laps es n BF.s0).last with
  | none =>
    refine ⟨_, tc_none h2 hlast hl, .inl ⟨_, rfl, ?_, ?_⟩⟩
    · obtain ⟨N, rfl⟩ : ∃ N, n = N + 1 := ⟨n - 1, by omega⟩
      exact BF.cold hlast
    · have := BF.laps_low hW hw (n := n) (s := BF.s0) (B := 0) fun v => ⟨Int.le_refl _, Int.le_refl _⟩
      rw [Int.zero_add] at this
      exact this
  | some v0 =>
    obtain ⟨N, rfl⟩ : ∃ N, n = N + 1 := ⟨n - 1, by omega⟩
    obtain ⟨L, I⟩ := BF.laps_inv (n := N) (s := BF.s0) (BF.s0_inv es)
    rw [Nat.add_comm 1 N] at I
    have hv0 : v0 < N + 1 := by
      have := hlast
      rw [BF.laps_succ] at this
      exact BF.last_lt hv (fun _ h => h) (fun v h => by cases h) v0 this
    obtain ⟨z, m, Y, J, W, hz, hdef, m1', m2, y0, ym, yt, ys, hneg⟩ := BF.ring hv hv0 I hlast
    generalize hn : N + 1 = n at *
    obtain ⟨a', z', hz', hwk⟩ := walkR (s := BF.laps es n BF.s0) hv hv0 0 n hdef a b c d f
    have : z' = z := by rw [hz'] at hz; cases hz; rfl
    subst this
    have hrg := ringR (n := n) (s := BF.laps es n BF.s0) m1' (by omega) y0 ym yt ys a' b c d f m 0 (by omega) 1000 (by omega)
    rw [y0] at hrg
    exact ⟨_, tc_some h2 (by omega) hlast hl hwk hrg, .inr ⟨m, Y, J, W, rfl, m1', m2, by rw [ym, y0], fun t ht => (ys t ht).2.2, hneg⟩⟩
/-! ### bounds that may be told -/
def okW (es : List BF.E) : Prop := ∀ e ∈ es, -1000000000000 ≤ e.2.2 ∧ e.2.2 ≤ 1000000000000
theorem l_look_bounds {n : Nat} {es : List BF.E} (h1 : 1 ≤ n) (h2 : n ≤ 30) (hl : es.length ≤ 200) (hw : okW es) (hv : BF.valid es n) : F_look_at_bounds [.sh (.int n), .sh (eB es)] = some (.none, .S, [.sh (.int n), .sh (eB es)]) := by
  have e1 : (1 : Int) ≤ (n : Int) := by omega
  have e2 : (n : Int) ≤ 30 := by omega
  have e3 : ¬ (200 < (es.length : Int)) := by omega
  obtain ⟨ρ', hf, s1, rfl⟩ := for_stay (g := m_look_at_bounds_g1) (f := m_look_at_bounds_b1) (ρ := [.sh (.int n), .sh (eB es), .no]) eE (fun ρ => ∃ s1, ρ = [.sh (.int n), .sh (eB es), s1]) es ⟨_, rfl⟩ fun e he ρ hP => by
    obtain ⟨s1, rfl⟩ := hP
    obtain ⟨w1, w2⟩ := hw e he
    obtain ⟨v1, v2⟩ := hv e he
    have ha := l_are_ints (l := [(e.1 : Int), e.2.1, e.2.2]) (a := -1000000000000) (b := 1000000000000) (by simp)
    have hb := l_are_ints (l := [(e.1 : Int), e.2.1]) (a := 0) (b := (n : Int) - 1) (by simp)
    have c1 : -1000000000000 ≤ (e.1 : Int) ∧ (e.1 : Int) ≤ 1000000000000 := by omega
    have c2 : -1000000000000 ≤ (e.2.1 : Int) ∧ (e.2.1 : Int) ≤ 1000000000000 := by omega
    have c3 : (e.1 : Int) ≤ (n : Int) - 1 := by omega
    have c4 : (e.2.1 : Int) ≤ (n : Int) - 1 := by omega
    simp only [iL, List.map, List.all_cons, List.all_nil, Bool.and_true] at ha hb
    refine ⟨[.sh (.int n), .sh (eB es), .sh (eE e)], ?_, _, rfl⟩
    simp [forStep, m_look_at_bounds_g1, m_look_at_bounds_b1, m_look_at_bounds_s1, m_look_at_bounds_s2, fSeq, gS, fIf, fOr, fNot, fT, fN, faCons, faNil, fVar, fSh, fU, fC, fI, pNeg, φCall, eE, ha, hb, Md.b, f2, pLen, φAdd, pNe, pEqv, scalD, PyData.eqv, fNop, fSl, foN, foS, cutD, HT.sIx, ii, DL.gSub, c1, c2, c3, c4, w1, w2]
  have s3 : m_look_at_bounds_s3 [.sh (.int n), .sh (eB es), .no] = some (.nx, [.sh (.int n), .sh (eB es), .no]) := by
    have hi := l_is_int (v := (n : Int)) (a := 1) (b := 30)
    simp [m_look_at_bounds_s3, fIf, fNot, fT, fN, faCons, faNil, fVar, fSh, fC, φCall, hi, Md.b, fNop, e1, e2]
  have s4 : m_look_at_bounds_s4 [.sh (.int n), .sh (eB es), .no] = some (.nx, [.sh (.int n), .sh (eB es), .no]) := by
    simp [m_look_at_bounds_s4, fIf, fOr, fNot, fT, fIsi, fVar, isiT, tyN, f2, fN, faCons, faNil, fC, fI, pLen, ii, gGt, fNop, eB, Md.b, e3]
  have s5 : m_look_at_bounds_s5 [.sh (.int n), .sh (eB es), .no] = some (.nx, [.sh (.int n), .sh (eB es), s1]) := hf
  have e : m_look_at_bounds [.sh (.int n), .sh (eB es), .no] = some (.nx, [.sh (.int n), .sh (eB es), s1]) := by
    unfold m_look_at_bounds
    rw [seq_nx s3, seq_nx s4, s5]
  have e0 : ([.sh (.int n), .sh (eB es)] ++ List.replicate (3 - 2) .no : List Sl) = [.sh (.int n), .sh (eB es), .no] := rfl
  simp only [F_look_at_bounds, runFn, List.length_cons, List.length_nil, Nat.zero_add, Nat.reduceAdd, e0, e]
  simp [outs]
theorem l_clocks_for {n : Nat} {es : List BF.E} {Wm : Int} (h1 : 1 ≤ n) (h2 : n ≤ 30) (hl : es.length ≤ 200) (hw : okW es) (hv : BF.valid es n) (hW : 0 ≤ Wm) (hw2 : ∀ e ∈ es, -Wm ≤ e.2.2) :
    ∃ r, F_clocks_for [.sh (.int n), .sh (eB es)] = some (r, .S, [.sh (.int n), .sh (eB es)]) ∧ (isClocks n es (n * (es.length * Wm)) r ∨ isRing n es r) := by
  obtain ⟨r, e1, e2⟩ := l_told_clocks h1 (by omega) hW hw2 hv
  refine ⟨r, ?_, e2⟩
  have hk := l_look_bounds h1 h2 hl hw hv
  simp [F_clocks_for, m_clocks_for, m_clocks_for_s1, m_clocks_for_s2, runFn, fSeq, fExpr, fN, faCons, faNil, fVar, φCall, hk, e1, fRet, outs, Md.b, List.replicate]
/-- shows_clocks_for of clocks -/
theorem l_shows {n : Nat} {es : List BF.E} {d : Nat → Int} (h1 : 1 ≤ n) (h2 : n ≤ 30) (hl : es.length ≤ 200) (hw : okW es) (hv : BF.valid es n) (hd : ∀ v, v < n → -200000000000000 ≤ d v ∧ d v ≤ 200000000000000) :
    F_shows_clocks_for [.sh (.int n), .sh (eB es), .sh (.tuple [.str "clocks", .tuple (dR n d)])] = some (.bool (es.all fun e => decide (d e.2.1 - d e.1 ≤ e.2.2)), .S, [.sh (.int n), .sh (eB es), .sh (.tuple [.str "clocks", .tuple (dR n d)])]) := by
  have hk := l_look_bounds h1 h2 hl hw hv
  have hr : dR n d = iL ((List.range n).map d) := by simp [dR, iL]
  have hai := l_are_ints (l := (List.range n).map d) (a := -200000000000000) (b := 200000000000000) (by simp; omega)
  rw [← hr] at hai
  have hall : (((List.range n).map d).all fun v => decide (-200000000000000 ≤ v ∧ v ≤ 200000000000000)) = true := by
    rw [List.all_eq_true]
    intro v hv'
    obtain ⟨i, hi, rfl⟩ := List.mem_map.mp hv'
    exact decide_eq_true (hd i (List.mem_range.mp hi))
  rw [hall] at hai
  have g1 : φMul [(.int (-200), .S), (.int 1000000000000, .S)] = some (.int (-200000000000000), .S) := mulI (a := -200) (b := 1000000000000) (by decide)
  have g2 : φMul [(.int 200, .S), (.int 1000000000000, .S)] = some (.int 200000000000000, .S) := mulI (a := 200) (b := 1000000000000) (by decide)
  generalize hval : PyData.tuple [.str "clocks", .tuple (dR n d)] = val
  have ht : F_is_told [.sh val, .sh (.tuple [.int 2])] = some (.bool true, .S, [.sh val, .sh (.tuple [.int 2])]) := by
    rw [← hval]
    simp [F_is_told, m_is_told, runFn, fRet, vAnd, fIsi, isiT, tyN, fVar, f2, fN, faCons, faNil, pLen, fI, pIn, inD, okN, PyData.eqv, fC, fIx, at0, outs, Md.b, List.replicate]
  have s3 : m_shows_clocks_for_s3 [.sh (.int n), .sh (eB es), .sh val, .no, .no, .no, .no, .no, .no] = some (.nx, [.sh (.int n), .sh (eB es), .sh val, .no, .no, .no, .no, .no, .no]) := by
    simp [m_shows_clocks_for_s3, fExpr, fN, faCons, faNil, fVar, φCall, hk, Md.b]
  have s4 : m_shows_clocks_for_s4 [.sh (.int n), .sh (eB es), .sh val, .no, .no, .no, .no, .no, .no] = some (.nx, [.sh (.int n), .sh (eB es), .sh val, .no, .no, .no, .no, .no, .no]) := by
    simp [m_shows_clocks_for_s4, fIf, fNot, fT, fN, faCons, faNil, fVar, fSh, fC, φTup, φCall, ht, Md.b, fNop, LIM]
  have c1 : m_shows_clocks_for_c1 [.sh (.int n), .sh (eB es), .sh val, .no, .no, .no, .no, .no, .no] = some (.list (es.map fun e => .bool (decide (d e.2.1 - d e.1 ≤ e.2.2))), .F 1, [.sh (.int n), .sh (eB es), .sh val, .no, .no, .no, .no, .no, .no]) :=
    comp_run (ds := es.map eE) rfl (len_ok (by omega)) rfl rfl (lc_map eE _ es fun e he => by
      obtain ⟨v1, v2⟩ := hv e he
      have a1 := dR_at (d := d) v1
      have a2 := dR_at (d := d) v2
      rw [← hval]
      simp [lcStep, m_shows_clocks_for_e1, gT, gsCons, gS, gsNil, eE, ftYes, fSh, f2, fN, faCons, faNil, fVar, fC, fIx, at1, a1, a2, fI, ii, DL.gSub, gLe, Md.b, wipeR])
  have s1 : m_shows_clocks_for_s1 [.sh (.int n), .sh (eB es), .sh val, .no, .no, .no, .no, .no, .no] = some (.nx, [.sh (.int n), .sh (eB es), .sh val, .no, .no, .no, .no, .no, .no]) := by
    have hn : pNe [.int (n : Int), .int (n : Int)] = some (.bool false) := by simp [pNe, pEqv, scalD, PyData.eqv]
    rw [← hval]
    simp [m_shows_clocks_for_s1, fIf, fOr, fNot, fT, fN, faCons, faNil, fVar, fSh, f2, fU, fC, fIx, at1, fI, pNeg, g1, g2, φCall, hai, Md.b, pLen, dR_len, hn, fNop]
  have s5 : m_shows_clocks_for_s5 [.sh (.int n), .sh (eB es), .sh val, .no, .no, .no, .no, .no, .no] = some (.rt (.bool (es.all fun e => decide (d e.2.1 - d e.1 ≤ e.2.2))) .S, [.sh (.int n), .sh (eB es), .sh val, .no, .no, .no, .no, .no, .no]) := by
    have hc : f2 true (f2 true (fVar 2) (fC (.int 0)) fIx) (fC (.str ("clocks" : Str))) (fI pEq) [.sh (.int n), .sh (eB es), .sh val, .no, .no, .no, .no, .no, .no] = some (.bool true, .S, [.sh (.int n), .sh (eB es), .sh val, .no, .no, .no, .no, .no, .no]) := by
      rw [← hval]
      simp [f2, fN, faCons, faNil, fVar, fC, fIx, at0, fI, pEq, pEqv, scalD, PyData.eqv, Md.b]
    simp only [m_shows_clocks_for_s5, fIf, fT, hc, seq_nx s1]
    simp [m_shows_clocks_for_s2, fRet, fN, faCons, faNil, c1, fI, pAll_map, Md.b]
  have e : m_shows_clocks_for [.sh (.int n), .sh (eB es), .sh val, .no, .no, .no, .no, .no, .no] = some (.rt (.bool (es.all fun e => decide (d e.2.1 - d e.1 ≤ e.2.2))) .S, [.sh (.int n), .sh (eB es), .sh val, .no, .no, .no, .no, .no, .no]) := by
    unfold m_shows_clocks_for
    rw [seq_nx s3, seq_nx s4, seq_rt s5]
  have e0 : ([.sh (.int n), .sh (eB es), .sh val] ++ List.replicate (9 - 3) .no : List Sl) = [.sh (.int n), .sh (eB es), .sh val, .no, .no, .no, .no, .no, .no] := rfl
  simp only [F_shows_clocks_for, runFn, List.length_cons, List.length_nil, Nat.zero_add, Nat.reduceAdd, e0, e]
  simp [outs]
end K77

end
section
set_option maxHeartbeats 4000000
namespace K77
open PySem PySem.Spec L2 DL
abbrev pt (a b c : Int) : Sl := .ow 1 (.list [.int a, .int b, .int c])
def PO (k a b c : Int) : Prop := 0 ≤ a ∧ 0 ≤ b ∧ b < 2305843009213693952 ∧ 0 ≤ c ∧ c ≤ k
theorem take_big {a b c u : Int} (ha : 0 < a) (hu : 0 < u) (hl : u.natAbs.log2 < 9000) : F__law_take [pt a b c, .sh (.int u)] = some (.int (a.fmod u), .S, [pt (a / u) b c, .sh (.int u)]) := by
  have hu0 : u ≠ 0 := by omega
  simp [F__law_take, m__law_take, m__law_take_s1, m__law_take_s2, m__law_take_s3, m__law_take_s4, runFn, fSeq, fIf, fT, f2, fN, faCons, faNil, fVar, fC, fI, ii, fIx, fAsg, gS, gSt, afterX, aSls, aSl, backs, dupL, slotsOf, gSetI, ixN, gGiv, fRet, outs, Md.b, gGt, gMod, gDiv, pInt, ha, hu, hl, hu0, atI, List.replicate]
theorem take_small {b c u : Int} (hb : 0 ≤ b) (hb2 : b < 2305843009213693952) (hc : 0 ≤ c) (hc2 : c < 1000000000000000) (hu : 0 < u) (hl : u.natAbs.log2 < 9000) : ∃ r, F__law_take [pt 0 b c, .sh (.int u)] = some (.int r, .S, [pt 0 b (c + 1), .sh (.int u)]) ∧ 0 ≤ r ∧ r < u := by
  have hu0 : u ≠ 0 := by omega
  obtain ⟨p, hp0, hp1, hp⟩ : ∃ p : Int, 0 < p ∧ p < 2 ^ 31 ∧ atI [PyData.int 2147483647, .int 2147483629, .int 2147483587, .int 2147483579, .int 2147483563] ((c + 1).fmod 5) = some (.int p) := by
    have h5 := fm0 (a := c + 1) (b := 5) (by decide)
    generalize (c + 1).fmod 5 = i at h5
    have : i = 0 ∨ i = 1 ∨ i = 2 ∨ i = 3 ∨ i = 4 := by omega
    rcases this with rfl | rfl | rfl | rfl | rfl <;> exact ⟨_, by decide, by decide, rfl⟩
  have hpn : p ≠ 0 := by omega
  have l1 : (c + 1).natAbs.log2 < 60 := lg (by decide) (by omega) (by omega)
  have l0 : (101807 : Int).natAbs.log2 < 17 := by decide
  have l2 : (101807 * (c + 1)).natAbs.log2 < 80 := lg (by decide) (by omega) (by omega)
  have h2 : 0 ≤ 101807 * (c + 1) * (c + 1) ∧ 101807 * (c + 1) * (c + 1) < 2 ^ 140 := by
    constructor
    · exact Int.mul_nonneg (by omega) (by omega)
    · exact Int.lt_of_le_of_lt (Int.mul_le_mul (c := 10 ^ 21) (d := 10 ^ 15) (by omega) (by omega) (by omega) (by decide)) (by decide)
  have l3 : (b + 101807 * (c + 1) * (c + 1) + 3793).natAbs.log2 < 142 := lg (by decide) (by omega) (by omega)
  generalize hB : (b + 101807 * (c + 1) * (c + 1) + 3793) = B at l3
  have m1 := fm0 (a := B ^ 3) hp0
  generalize hM : (B ^ 3).fmod p = M at m1
  have m2 := fm0 (a := M) (b := 13033) (by decide)
  generalize hN : M.fmod 13033 = N at m2
  have l4 : (419 : Int).natAbs.log2 < 17 := by decide
  have l5 : M.natAbs.log2 < 40 := lg (by decide) (by omega) (by omega)
  have l6 : (N + 419 * (c + 1)).natAbs.log2 < 80 := lg (by decide) (by omega) (by omega)
  have l7 : Nat.log2 257 < 9000 := by decide
  refine ⟨((M * (N + 419 * (c + 1))).fmod 2305843009213693907 / 257).fmod u, ?_, fm0 hu⟩
  have g1 : (101807 : Int).natAbs.log2 + (c + 1).natAbs.log2 < 1000000 := by omega
  have g2 : (101807 * (c + 1)).natAbs.log2 + (c + 1).natAbs.log2 < 1000000 := by omega
  have g3 : (B.natAbs.log2 + 1) * 3 ≤ 2 ^ 27 := by omega
  have g4 : (419 : Int).natAbs.log2 + (c + 1).natAbs.log2 < 1000000 := by omega
  have g5 : M.natAbs.log2 + (N + 419 * (c + 1)).natAbs.log2 < 1000000 := by omega
  simp [F__law_take, m__law_take, m__law_take_s1, m__law_take_s2, m__law_take_s3, m__law_take_s4, m__law_take_s5, m__law_take_s6, m__law_take_s7, m__law_take_s8, m__law_take_s9, runFn, fSeq, fIf, fT, f2, fN, faCons, faNil, fVar, fC, fI, ii, fIx, fAsg, gS, gSt, afterX, aSls, aSl, backs, dupL, slotsOf, gSetI, gGiv, fRet, outs, Md.b, gGt, gMod, gDiv, pInt, φAdd, gPowW, φLst, fNop, LIM, at0, at1, at2, hp, ixN0, ixN1, ixN2, mulI g1, mulI g2, mulI g4, mulI g5, g3, l7, hB, hM, hN, hpn, hu0, hu, hl, List.replicate]
/-- one draw -/
theorem l_take {k a b c : Int} (u : Int) (h : PO k a b c) (hk : k < 1000000000000000) (hu : 0 < u) (hl : u < 1000000000000000) : ∃ r a' b' c', F__law_take [pt a b c, .sh (.int u)] = some (.int r, .S, [pt a' b' c', .sh (.int u)]) ∧ 0 ≤ r ∧ r < u ∧ PO (k + 1) a' b' c' := by
  obtain ⟨ha, hb, hb2, hc, hc2⟩ := h
  have l : u.natAbs.log2 < 9000 := Nat.lt_trans (lg (n := 60) (by decide) (by omega) (by omega)) (by decide)
  by_cases h0 : 0 < a
  · have f := fm0 (a := a) hu
    exact ⟨_, _, _, _, take_big h0 hu l, f.1, f.2, Int.ediv_nonneg ha (by omega), hb, hb2, hc, by omega⟩
  · have : a = 0 := by omega
    subst this
    obtain ⟨r, e, r0, r1⟩ := take_small hb hb2 hc (by omega) hu l
    exact ⟨r, _, _, _, e, r0, r1, by decide, hb, hb2, by omega, by omega⟩
theorem l_of {k a b c : Int} {ds : List PyData} (h : PO k a b c) (hk : k < 1000000000000000) (h0 : 0 < ds.length) (h1 : ds.length < 1000000) : ∃ (r : Nat) (x : PyData) (a' b' c' : Int), F__law_of [pt a b c, .sh (.list ds)] = some (x, .S, [pt a' b' c', .sh (.list ds)]) ∧ ds[r]? = some x ∧ PO (k + 1) a' b' c' := by
  obtain ⟨r, a', b', c', e, r0, r1, hp⟩ := l_take (ds.length : Int) h hk (by omega) (by omega)
  have hr : r.toNat < ds.length := by omega
  obtain ⟨x, hx⟩ : ∃ x, ds[r.toNat]? = some x := ⟨_, List.getElem?_eq_getElem hr⟩
  refine ⟨r.toNat, x, a', b', c', ?_, hx, hp⟩
  have ha : atI ds r = some x := by
    have := at_nat hx
    rwa [Int.toNat_of_nonneg r0] at this
  simp [F__law_of, m__law_of, runFn, fRet, f2, fN, faCons, faNil, fVar, fCallX, fxName, fxVal, fSh, fI, pLen, fxNil, afterX, dupL, slotsOf, aSls, aSl, e, backs, fIx, ha, outs, Md.b, List.replicate]
end K77

end
section
set_option maxHeartbeats 4000000
namespace K77
open PySem PySem.Spec L2 DL
theorem pw6 : gPowW 10 6 = some (.int 1000000) := by unfold gPowW; rw [if_pos (by decide)]; rfl
theorem pw9 : gPowW 10 9 = some (.int 1000000000) := by unfold gPowW; rw [if_pos (by decide)]; rfl
def okS (x : L4) : Prop := (-100000000000 ≤ x.s ∧ x.s ≤ 100000000000) ∧ (-100000000000 ≤ x.g ∧ x.g ≤ 100000000000) ∧ (-100000000000 ≤ x.b ∧ x.b ≤ 100000000000) ∧ -100000000000 ≤ x.h ∧ x.h ≤ 100000000000
theorem l_letter {k a b c u ah : Int} {xs : List L4} {v : PyData} {s4 s5 s6 s7 : Sl} (h : PO k a b c) (hk : k < 900000000000000) (hu : 0 < u ∧ u ≤ 1000000000) (hah : -u ≤ ah ∧ ah ≤ u) (hl : xs.length ≤ 1000) : ∃ (x : L4) (a' b' c' : Int) (t4 t5 t6 t7 : Sl), okS x ∧ PO (k + 5) a' b' c' ∧
    forStep m__law_letters_drawn_g1 m__law_letters_drawn_b1 v [pt a b c, .sh (.int u), .sh (.int ah), .ow 1 (.list (xs.map e4)), s4, s5, s6, s7] = some (.nx, [pt a' b' c', .sh (.int u), .sh (.int ah), .ow 1 (.list ((xs ++ [x]).map e4)), t4, t5, t6, t7]) := by
  obtain ⟨r1, a1, b1, c1, e1, p1, q1, h1⟩ := l_take 1000000 h (by omega) (by decide) (by decide)
  obtain ⟨r2, a2, b2, c2, e2, p2, q2, h2⟩ := l_take u h1 (by omega) hu.1 (by omega)
  obtain ⟨r3, a3, b3, c3, e3, p3, q3, h3⟩ := l_take 4 h2 (by omega) (by decide) (by decide)
  obtain ⟨r4, a4, b4, c4, e4', p4, q4, h4⟩ := l_take 99 h3 (by omega) (by decide) (by decide)
  obtain ⟨r5, a5, b5, c5, e5, p5, q5, h5⟩ := l_take u h4 (by omega) hu.1 (by omega)
  have l3 : Nat.log2 3 < 9000 := by decide
  have d3 : 0 ≤ r3 / 3 ∧ r3 / 3 ≤ 1 := by omega
  have hlen : ¬ 10000000 ≤ xs.length := by omega
  refine ⟨⟨r1, r1 + ah + r2 - r3 / 3, r1 + ah + r2 - r3 / 3 + r4, r1 + ah + r2 - r3 / 3 + r4 - ah + r5⟩, a5, b5, c5, .sh v, .sh (.int r1), .sh (.int (r1 + ah + r2 - r3 / 3)), .sh (.int (r1 + ah + r2 - r3 / 3 + r4)), ?_, ?_, ?_⟩
  · refine ⟨⟨?_, ?_⟩, ⟨?_, ?_⟩, ⟨?_, ?_⟩, ?_, ?_⟩ <;> simp only <;> omega
  · have : k + 1 + 1 + 1 + 1 + 1 = k + 5 := by omega
    rw [← this]; exact h5
  · have g0 : m__law_letters_drawn_g1 v .S [pt a b c, .sh (.int u), .sh (.int ah), .ow 1 (.list (xs.map e4)), s4, s5, s6, s7] = some [pt a b c, .sh (.int u), .sh (.int ah), .ow 1 (.list (xs.map e4)), .sh v, s5, s6, s7] := rfl
    have w1 : m__law_letters_drawn_s1 [pt a b c, .sh (.int u), .sh (.int ah), .ow 1 (.list (xs.map e4)), .sh v, s5, s6, s7] = some (.nx, [pt a1 b1 c1, .sh (.int u), .sh (.int ah), .ow 1 (.list (xs.map e4)), .sh v, .sh (.int r1), s6, s7]) := by
      simp [m__law_letters_drawn_s1, fAsg, fN, faCons, faNil, fCallX, fxName, fxVal, fSh, f2, fC, fI, ii, pw6, fxNil, afterX, dupL, slotsOf, aSls, aSl, e1, backs, pInt, gS, Md.b]
    have w2 : m__law_letters_drawn_s2 [pt a1 b1 c1, .sh (.int u), .sh (.int ah), .ow 1 (.list (xs.map e4)), .sh v, .sh (.int r1), s6, s7] = some (.nx, [pt a3 b3 c3, .sh (.int u), .sh (.int ah), .ow 1 (.list (xs.map e4)), .sh v, .sh (.int r1), .sh (.int (r1 + ah + r2 - r3 / 3)), s7]) := by
      simp [m__law_letters_drawn_s2, fAsg, fN, faCons, faNil, fVar, fCallX, fxName, fxVal, fSh, f2, fC, fI, ii, fxNil, afterX, dupL, slotsOf, aSls, aSl, e2, e3, backs, pInt, gS, Md.b, φAdd, gDiv, l3, DL.gSub]
    have w3 : m__law_letters_drawn_s3 [pt a3 b3 c3, .sh (.int u), .sh (.int ah), .ow 1 (.list (xs.map e4)), .sh v, .sh (.int r1), .sh (.int (r1 + ah + r2 - r3 / 3)), s7] = some (.nx, [pt a4 b4 c4, .sh (.int u), .sh (.int ah), .ow 1 (.list (xs.map e4)), .sh v, .sh (.int r1), .sh (.int (r1 + ah + r2 - r3 / 3)), .sh (.int (r1 + ah + r2 - r3 / 3 + r4))]) := by
      simp [m__law_letters_drawn_s3, fAsg, fN, faCons, faNil, fVar, fCallX, fxName, fxVal, fSh, f2, fC, fI, ii, fxNil, afterX, dupL, slotsOf, aSls, aSl, e4', backs, pInt, gS, Md.b, φAdd]
    have w4 : m__law_letters_drawn_s4 [pt a4 b4 c4, .sh (.int u), .sh (.int ah), .ow 1 (.list (xs.map e4)), .sh v, .sh (.int r1), .sh (.int (r1 + ah + r2 - r3 / 3)), .sh (.int (r1 + ah + r2 - r3 / 3 + r4))] = some (.nx, [pt a5 b5 c5, .sh (.int u), .sh (.int ah), .ow 1 (.list ((xs ++ [(⟨r1, r1 + ah + r2 - r3 / 3, r1 + ah + r2 - r3 / 3 + r4, r1 + ah + r2 - r3 / 3 + r4 - ah + r5⟩ : L4)]).map e4)), .sh v, .sh (.int r1), .sh (.int (r1 + ah + r2 - r3 / 3)), .sh (.int (r1 + ah + r2 - r3 / 3 + r4))]) := by
      simp [m__law_letters_drawn_s4, fExpr, fN, faCons, faNil, fVar, fCallX, fxName, fxOwn, fxVal, fSh, f2, fC, fI, ii, fxNil, afterX, dupL, slotsOf, aSls, aSl, e5, backs, pInt, Md.b, φAdd, DL.gSub, φTup, LIM, gApp, hlen, gGiv, e4]
    simp only [forStep, g0]
    unfold m__law_letters_drawn_b1
    rw [seq_nx w1, seq_nx w2, seq_nx w3, w4]
theorem l_letters {k a b c : Int} (h : PO k a b c) (hk : k < 800000000000000) : ∃ (xs : List L4) (a' b' c' : Int), F__law_letters_drawn [pt a b c] = some (eL xs, .S, [pt a' b' c']) ∧ 1 ≤ xs.length ∧ xs.length ≤ 5 ∧ (∀ x ∈ xs, okS x) ∧ PO (k + 100) a' b' c' := by
  obtain ⟨r1, u, a1, b1, c1, e1, x1, h1⟩ := l_of (ds := [.int 4, .int 30, .int 1000000000]) h (by omega) (by simp) (by simp)
  obtain ⟨u, rfl, hu⟩ : ∃ v : Int, u = .int v ∧ (0 < v ∧ v ≤ 1000000000) := by
    match r1, x1 with
    | 0, x1 => cases x1; exact ⟨4, rfl, by decide⟩
    | 1, x1 => cases x1; exact ⟨30, rfl, by decide⟩
    | 2, x1 => cases x1; exact ⟨1000000000, rfl, by decide⟩
    | n + 3, x1 => simp at x1
  obtain ⟨r2, a2, b2, c2, e2, p2, q2, h2⟩ := l_take (2 * u + 1) h1 (by omega) (by omega) (by omega)
  obtain ⟨r3, a3, b3, c3, e3, p3, q3, h3⟩ := l_take 5 h2 (by omega) (by decide) (by decide)
  have lu : (2 : Int).natAbs.log2 + u.natAbs.log2 < 1000000 := by
    have l1 : (2 : Int).natAbs.log2 < 10 := by decide
    have l2 : u.natAbs.log2 < 60 := lg (by decide) (by omega) (by omega)
    omega
  have w5 : m__law_letters_drawn_s5 [pt a b c, .no, .no, .no, .no, .no, .no, .no] = some (.nx, [pt a1 b1 c1, .sh (.int u), .no, .no, .no, .no, .no, .no]) := by
    simp [m__law_letters_drawn_s5, fAsg, fN, faCons, faNil, fCallX, fxName, fxVal, fSh, f2, fC, fI, ii, pw9, φLst, LIM, fxNil, afterX, dupL, slotsOf, aSls, aSl, e1, backs, gS, Md.b]
  have w6 : m__law_letters_drawn_s6 [pt a1 b1 c1, .sh (.int u), .no, .no, .no, .no, .no, .no] = some (.nx, [pt a2 b2 c2, .sh (.int u), .sh (.int (r2 - u)), .ow 1 (.list (([] : List L4).map e4)), .no, .no, .no, .no]) := by
    simp [m__law_letters_drawn_s6, fAsgs, fN, faCons, faNil, fVar, fCallX, fxName, fxVal, fSh, f2, fC, fI, ii, mulI lu, φAdd, φLst, LIM, fxNil, afterX, dupL, slotsOf, aSls, aSl, e2, backs, pInt, DL.gSub, gsCons, gS, gO, gsNil, Md.b]
  obtain ⟨n, hn⟩ : ∃ n : Nat, 1 + r3 = (n : Int) := ⟨(1 + r3).toNat, by omega⟩
  have h3' : PO (k + 3 + 5 * ((0 : Nat) : Int)) a3 b3 c3 := by
    have : k + 3 + 5 * ((0 : Nat) : Int) = k + 1 + 1 + 1 := by omega
    rw [this]; exact h3
  obtain ⟨ρ', hf, hI⟩ := for_inv (g := m__law_letters_drawn_g1) (f := m__law_letters_drawn_b1) (fun i ρ => i ≤ n → ∃ (xs : List L4) (a b c : Int) (t4 t5 t6 t7 : Sl), xs.length = i ∧ (∀ x ∈ xs, okS x) ∧ PO (k + 3 + 5 * i) a b c ∧ ρ = [pt a b c, .sh (.int u), .sh (.int (r2 - u)), .ow 1 (.list (xs.map e4)), t4, t5, t6, t7]) (rangeD 0 n) 0 [pt a3 b3 c3, .sh (.int u), .sh (.int (r2 - u)), .ow 1 (.list (([] : List L4).map e4)), .no, .no, .no, .no]
    (fun _ => ⟨[], a3, b3, c3, _, _, _, _, rfl, fun x hx => (nomatch hx), h3', rfl⟩) fun i ρ v hI _ hv => by
    have hi : i < n := by
      have := (List.getElem?_eq_some_iff.mp hv).1
      simp [rangeD] at this
      omega
    obtain ⟨xs, a, b, c, t4, t5, t6, t7, g1, g2, g3, rfl⟩ := hI (by omega)
    obtain ⟨x, a', b', c', s4, s5, s6, s7, o1, o2, o3⟩ := l_letter (v := v) (s4 := t4) (s5 := t5) (s6 := t6) (s7 := t7) (u := u) (ah := r2 - u) (xs := xs) g3 (by omega) hu (by omega) (by omega)
    refine ⟨_, o3, fun _ => ⟨xs ++ [x], a', b', c', s4, s5, s6, s7, by simp [g1], fun y hy => ?_, ?_, rfl⟩⟩
    · rcases List.mem_append.mp hy with hy | hy
      · exact g2 y hy
      · rw [List.mem_singleton.mp hy]; exact o1
    · have : k + 3 + 5 * ((i + 1 : Nat) : Int) = k + 3 + 5 * (i : Int) + 5 := by omega
      rw [this]; exact o2
  have hz : 0 + (rangeD 0 n).length = n := by simp [rangeD]
  rw [hz] at hI
  obtain ⟨xs, a4, b4, c4, t4, t5, t6, t7, g1, g2, g3, rfl⟩ := hI (Nat.le_refl _)
  refine ⟨xs, a4, b4, c4, ?_, by omega, by omega, g2, ?_⟩
  · have w7 : m__law_letters_drawn_s7 [pt a2 b2 c2, .sh (.int u), .sh (.int (r2 - u)), .ow 1 (.list (([] : List L4).map e4)), .no, .no, .no, .no] = some (.nx, [pt a4 b4 c4, .sh (.int u), .sh (.int (r2 - u)), .ow 1 (.list (xs.map e4)), t4, t5, t6, t7]) := by
      have kr : ∀ m, κR1 [(.int (n : Nat), m)] = some (rangeD 0 n) := fun m => kR1 (by unfold LIM; omega)
      simp only [List.map_nil] at hf ⊢
      simp [m__law_letters_drawn_s7, fForS, iA, fN, faCons, faNil, fCallX, fxName, fxVal, fSh, f2, fC, fxNil, afterX, dupL, slotsOf, aSls, aSl, e3, backs, φAdd, hn, kr, hf, Md.b]
    have w8 : (fFrz 3 m__law_letters_drawn_s8) [pt a4 b4 c4, .sh (.int u), .sh (.int (r2 - u)), .ow 1 (.list (xs.map e4)), t4, t5, t6, t7] = some (.rt (eL xs) .S, [pt a4 b4 c4, .sh (.int u), .sh (.int (r2 - u)), .sh (.list (xs.map e4)), t4, t5, t6, t7]) := by
      simp [m__law_letters_drawn_s8, fFrz, frz, fRet, fN, faCons, faNil, fVar, φTuple, Md.fl, Md.b, eL]
    have e : m__law_letters_drawn [pt a b c, .no, .no, .no, .no, .no, .no, .no] = some (.rt (eL xs) .S, [pt a4 b4 c4, .sh (.int u), .sh (.int (r2 - u)), .sh (.list (xs.map e4)), t4, t5, t6, t7]) := by
      unfold m__law_letters_drawn
      rw [seq_nx w5, seq_nx w6, seq_nx w7, w8]
    have e0 : ([pt a b c] ++ List.replicate (8 - 1) .no : List Sl) = [pt a b c, .no, .no, .no, .no, .no, .no, .no] := rfl
    simp only [F__law_letters_drawn, runFn, List.length_cons, List.length_nil, Nat.zero_add, e0, e]
    simp [outs]
  · obtain ⟨z1, z2, z3, z4, z5⟩ := g3
    exact ⟨z1, z2, z3, z4, by omega⟩
end K77

end
section
set_option maxHeartbeats 4000000
namespace K77
open PySem PySem.Spec L2 DL
theorem noRing {n : Nat} {es : List BF.E} {r : PyData} {d : Nat → Int} (hd : ∀ e ∈ es, d e.2.1 ≤ d e.1 + e.2.2) (h : isRing n es r) : False := by
  obtain ⟨m, Y, J, W, _, m1, m2, hY, hs, hneg⟩ := h
  have := (BF.sum_lt (t0 := 0) (f := fun t => - d (Y t)) (g := fun t => - W t) m fun t ht => by
    have := hd _ (List.mem_of_getElem? (hs t ht))
    simp only at this ⊢
    omega).1
  have e : ((List.range m).map fun t => - W t).sum = - ((List.range m).map W).sum := by
    generalize List.range m = l
    induction l with
    | nil => rfl
    | cons x l ih => simp only [List.map_cons, List.sum_cons, ih]; omega
  rw [e, hY] at this
  omega
def eo (x : L4) : List BF.E := [(0, 1, x.g - x.s), (1, 0, x.h - x.b)]
def esOf (xs : List L4) : List BF.E := xs.flatMap eo
theorem es_valid {xs : List L4} : BF.valid (esOf xs) 2 := fun e he => by
  obtain ⟨x, _, hx⟩ := List.mem_flatMap.mp he
  simp only [eo, List.mem_cons, List.not_mem_nil, or_false] at hx
  rcases hx with rfl | rfl <;> simp
theorem es_feas {xs : List L4} {d : Nat → Int} : (∀ e ∈ esOf xs, d e.2.1 ≤ d e.1 + e.2.2) ↔ ∀ x ∈ xs, lo x ≤ d 1 - d 0 ∧ d 1 - d 0 ≤ hi x := by
  constructor
  · intro h x hx
    have h1 := h (0, 1, x.g - x.s) (List.mem_flatMap.mpr ⟨x, hx, by simp [eo]⟩)
    have h2 := h (1, 0, x.h - x.b) (List.mem_flatMap.mpr ⟨x, hx, by simp [eo]⟩)
    simp only at h1 h2
    unfold lo hi
    omega
  · intro h e he
    obtain ⟨x, hx, h'⟩ := List.mem_flatMap.mp he
    have := h x hx
    unfold lo hi at this
    simp only [eo, List.mem_cons, List.not_mem_nil, or_false] at h'
    rcases h' with rfl | rfl <;> simp only <;> omega
theorem es_len {xs : List L4} : (esOf xs).length = 2 * xs.length := by
  induction xs with
  | nil => rfl
  | cons x xs ih =>
    have : esOf (x :: xs) = eo x ++ esOf xs := rfl
    rw [this, List.length_append, ih]
    simp [eo]
    omega
theorem es_okW {xs : List L4} (h : ∀ x ∈ xs, okS x) : okW (esOf xs) := fun e he => by
  obtain ⟨x, hx, h'⟩ := List.mem_flatMap.mp he
  obtain ⟨⟨s1, s2⟩, ⟨g1, g2⟩, ⟨b1, b2⟩, h1, h2⟩ := h x hx
  simp only [eo, List.mem_cons, List.not_mem_nil, or_false] at h'
  rcases h' with rfl | rfl <;> simp only <;> omega
theorem okS_L {x : L4} (h : okS x) : okL x := by
  obtain ⟨⟨s1, s2⟩, ⟨g1, g2⟩, ⟨b1, b2⟩, h1, h2⟩ := h
  refine ⟨⟨?_, ?_⟩, ⟨?_, ?_⟩, ⟨?_, ?_⟩, ?_, ?_⟩ <;> omega
def ap (x y : L4) : Bool := decide (lo x ≤ hi x ∧ lo x ≤ hi y ∧ lo y ≤ hi x ∧ lo y ≤ hi y)
def wrd (b : Bool) : Str := if b then "apart" else "never"
theorem l_pair {x y : L4} (hx : okS x) (hy : okS y) : ∃ r, F_clocks_apart [.sh (.tuple [e4 x, e4 y])] = some (.tuple (.str (wrd (ap x y)) :: r), .S, [.sh (.tuple [e4 x, e4 y])]) := by
  obtain ⟨a, b, ⟨x1, hx1, ea⟩, ua, ⟨y1, hy1, eb⟩, ub, r1, r2⟩ := l_clocks_apart (xs := [x, y]) (by simp) (by simp) (fun z hz => by
    simp only [List.mem_cons, List.not_mem_nil, or_false] at hz
    rcases hz with rfl | rfl
    · exact okS_L hx
    · exact okS_L hy)
  have u1 := ua x (by simp)
  have u2 := ua y (by simp)
  have u3 := ub x (by simp)
  have u4 := ub y (by simp)
  simp only [List.mem_cons, List.not_mem_nil, or_false] at hx1 hy1
  by_cases hab : a ≤ b
  · have : ap x y = true := decide_eq_true (by omega)
    exact ⟨_, by rw [this]; exact r1 hab⟩
  · have : ap x y = false := decide_eq_false (by
      rcases hx1 with rfl | rfl <;> rcases hy1 with rfl | rfl <;> omega)
    obtain ⟨i, j, e⟩ := r2 (by omega)
    exact ⟨_, by rw [this]; exact e⟩
def words (xs ys : List L4) : List PyData := ys.flatMap fun x => xs.map fun y => .str (wrd (ap x y))
def RL (l t b s3 s4 s5 s6 s7 s8 s9 s10 s11 : Sl) : Rho := [l, t, b, s3, s4, s5, s6, s7, s8, s9, s10, s11, .no, .no]
theorem step_b1 {xs ys : List L4} {x : L4} {l t s3 s4 s5 s6 s7 s8 s9 s10 s11 : Sl} (h : ys.length ≤ 1000) : forStep m__law_are_letters_right_g1 m__law_are_letters_right_b1 (e4 x) (RL l t (.sh (.list ((esOf ys).map eE))) s3 s4 s5 s6 s7 s8 s9 s10 s11) = some (.nx, RL l t (.sh (.list ((esOf (ys ++ [x])).map eE))) (.sh (.int x.s)) (.sh (.int x.g)) (.sh (.int x.b)) (.sh (.int x.h)) s7 s8 s9 s10 s11) := by
  have h1 : (esOf ys).length + 2 ≤ 10000000 := by rw [es_len]; omega
  have h2 : esOf (ys ++ [x]) = esOf ys ++ eo x := by simp [esOf]
  rw [h2, List.map_append]
  simp [forStep, m__law_are_letters_right_g1, m__law_are_letters_right_b1, RL, e4, gT, gsCons, gS, gsNil, Md.b, fAsg, f2, fN, faCons, faNil, fVar, fC, fI, ii, DL.gSub, φTup, φLst, φAdd, LIM, Md.fl, h1, eo, eE]
theorem step_b4 {xs ys : List L4} {x : L4} {t b s3 s4 s5 s6 s7 s8 s9 s11 : Sl} (hx : okS x) (hok : ∀ y ∈ xs, okS y) (hl : xs.length ≤ 100) (h : ys.length ≤ 100) : forStep m__law_are_letters_right_g4 m__law_are_letters_right_b4 (e4 x) (RL (.sh (eL xs)) t b s3 s4 s5 s6 s7 s8 s9 (.ow 1 (.list (words xs ys))) s11) = some (.nx, RL (.sh (eL xs)) t b s3 s4 s5 s6 s7 s8 s9 (.ow 1 (.list (words xs (ys ++ [x])))) (.sh (e4 x))) := by
  have hw : ∀ zs : List L4, (words xs zs).length = zs.length * xs.length := fun zs => by
    induction zs with
    | nil => simp [words]
    | cons z zs ih =>
      have : words xs (z :: zs) = (xs.map fun y => PyData.str (wrd (ap z y))) ++ words xs zs := rfl
      rw [this, List.length_append, ih, List.length_map, List.length_cons, Nat.succ_mul, Nat.add_comm]
  have h1 : (words xs ys).length + xs.length ≤ 10000000 := by
    rw [hw]
    have := Nat.mul_le_mul h hl
    omega
  have h2 : words xs (ys ++ [x]) = words xs ys ++ xs.map fun y => .str (wrd (ap x y)) := by simp [words]
  have hc : m__law_are_letters_right_c1 (RL (.sh (eL xs)) t b s3 s4 s5 s6 s7 s8 s9 (.ow 1 (.list (words xs ys))) (.sh (e4 x))) = some (.list (xs.map fun y => .str (wrd (ap x y))), .F 1, RL (.sh (eL xs)) t b s3 s4 s5 s6 s7 s8 s9 (.ow 1 (.list (words xs ys))) (.sh (e4 x))) :=
    comp_run (ds := xs.map e4) rfl (len_ok (by omega)) rfl rfl (lc_map e4 _ xs fun y hy => by
      obtain ⟨r, e⟩ := l_pair hx (hok y hy)
      simp [lcStep, m__law_are_letters_right_e1, RL, gS, ftYes, fSh, f2, fN, faCons, faNil, fVar, fC, φTup, LIM, φCall, e, fIx, at0, Md.b, wipeR])
  rw [h2]
  have hg : m__law_are_letters_right_g4 (e4 x) .S (RL (.sh (eL xs)) t b s3 s4 s5 s6 s7 s8 s9 (.ow 1 (.list (words xs ys))) s11) = some (RL (.sh (eL xs)) t b s3 s4 s5 s6 s7 s8 s9 (.ow 1 (.list (words xs ys))) (.sh (e4 x))) := rfl
  simp only [forStep, hg]
  simp [m__law_are_letters_right_b4, fExpr, fCallX, fxOwn, fxVal, RL, fxNil, afterX, dupL, slotsOf, aSls, aSl, gExt, LIM, backs, Md.b] at hc ⊢
  simp [hc, h1, backs, afterX, dupL, slotsOf, aSls, aSl, gExt, LIM]
theorem l_bounds_loop {xs : List L4} {l t s7 s8 s9 s10 s11 : Sl} (h : xs.length ≤ 1000) : ∃ s3 s4 s5 s6, fFor m__law_are_letters_right_g1 m__law_are_letters_right_b1 (xs.map e4) (RL l t (.sh (.list [])) .no .no .no .no s7 s8 s9 s10 s11) = some (.nx, RL l t (.sh (.list ((esOf xs).map eE))) s3 s4 s5 s6 s7 s8 s9 s10 s11) := by
  suffices ∀ (rest ys : List L4) (s3 s4 s5 s6 : Sl), ys.length + rest.length ≤ 1000 → ∃ t3 t4 t5 t6, fFor m__law_are_letters_right_g1 m__law_are_letters_right_b1 (rest.map e4) (RL l t (.sh (.list ((esOf ys).map eE))) s3 s4 s5 s6 s7 s8 s9 s10 s11) = some (.nx, RL l t (.sh (.list ((esOf (ys ++ rest)).map eE))) t3 t4 t5 t6 s7 s8 s9 s10 s11) from this xs [] .no .no .no .no (by simpa using h)
  intro rest
  induction rest with
  | nil => intro ys s3 s4 s5 s6 _; exact ⟨s3, s4, s5, s6, by rw [List.append_nil]; rfl⟩
  | cons x rest ih =>
    intro ys s3 s4 s5 s6 hl
    rw [List.length_cons] at hl
    obtain ⟨t3, t4, t5, t6, e⟩ := ih (ys ++ [x]) (.sh (.int x.s)) (.sh (.int x.g)) (.sh (.int x.b)) (.sh (.int x.h)) (by simp; omega)
    refine ⟨t3, t4, t5, t6, ?_⟩
    rw [List.map_cons, for_cons, step_b1 (xs := ys) (by omega)]
    simp only
    rw [e, List.append_assoc]
    rfl
theorem l_words_loop {xs : List L4} {t b s3 s4 s5 s6 s7 s8 s9 : Sl} (hok : ∀ y ∈ xs, okS y) (hl : xs.length ≤ 100) : ∃ s11, fFor m__law_are_letters_right_g4 m__law_are_letters_right_b4 (xs.map e4) (RL (.sh (eL xs)) t b s3 s4 s5 s6 s7 s8 s9 (.ow 1 (.list [])) .no) = some (.nx, RL (.sh (eL xs)) t b s3 s4 s5 s6 s7 s8 s9 (.ow 1 (.list (words xs xs))) s11) := by
  suffices ∀ (rest ys : List L4) (s11 : Sl), ys.length + rest.length ≤ 100 → (∀ y ∈ rest, okS y) → ∃ t11, fFor m__law_are_letters_right_g4 m__law_are_letters_right_b4 (rest.map e4) (RL (.sh (eL xs)) t b s3 s4 s5 s6 s7 s8 s9 (.ow 1 (.list (words xs ys))) s11) = some (.nx, RL (.sh (eL xs)) t b s3 s4 s5 s6 s7 s8 s9 (.ow 1 (.list (words xs (ys ++ rest)))) t11) from this xs [] .no (by simpa using hl) hok
  intro rest
  induction rest with
  | nil => intro ys s11 _ _; exact ⟨s11, by rw [List.append_nil]; rfl⟩
  | cons x rest ih =>
    intro ys s11 hl2 hr
    rw [List.length_cons] at hl2
    obtain ⟨t11, e⟩ := ih (ys ++ [x]) (.sh (e4 x)) (by simp; omega) fun y hy => hr y (List.mem_cons_of_mem _ hy)
    refine ⟨t11, ?_⟩
    rw [List.map_cons, for_cons, step_b4 (hr x List.mem_cons_self) hok hl (by omega)]
    simp only
    rw [e, List.append_assoc]
    rfl
def dd (x : Int) : Nat → Int := fun v => if v = 0 then 0 else x
theorem dd_R {x : Int} : dR 2 (dd x) = [.int 0, .int x] := rfl
theorem l_shows2 {xs : List L4} {x : Int} (hok : ∀ y ∈ xs, okS y) (hl : xs.length ≤ 100) (hx : -200000000000000 ≤ x ∧ x ≤ 200000000000000) : F_shows_clocks_for [.sh (.int 2), .sh (.tuple ((esOf xs).map eE)), .sh (.tuple [.str "clocks", .tuple [.int 0, .int x]])] = some (.bool (xs.all fun y => decide (lo y ≤ x ∧ x ≤ hi y)), .S, [.sh (.int 2), .sh (.tuple ((esOf xs).map eE)), .sh (.tuple [.str "clocks", .tuple [.int 0, .int x]])]) := by
  have := l_shows (n := 2) (es := esOf xs) (d := dd x) (by decide) (by decide) (by rw [es_len]; omega) (es_okW hok) es_valid fun v _ => by
    unfold dd
    split <;> omega
  rw [dd_R] at this
  have e : ((esOf xs).all fun e => decide (dd x e.2.1 - dd x e.1 ≤ e.2.2)) = xs.all fun y => decide (lo y ≤ x ∧ x ≤ hi y) := by
    rw [Bool.eq_iff_iff, List.all_eq_true, List.all_eq_true]
    have h := es_feas (xs := xs) (d := dd x)
    simp only [decide_eq_true_eq]
    constructor
    · intro g y hy
      have := (h.mp fun e he => by have := g e he; omega) y hy
      simpa [dd] using this
    · intro g e he
      have := (h.mpr fun y hy => by have := g y hy; simpa [dd] using this) e he
      omega
  rw [e] at this
  exact this
end K77

end
section
set_option maxHeartbeats 4000000
namespace K77
open PySem PySem.Spec L2 DL
theorem strEq {a b : Str} : pEq [.str a, .str b] = some (.bool (a == b)) := by simp [pEq, pEqv, scalD, PyData.eqv]
theorem boolEq {a b : Bool} : pEq [.bool a, .bool b] = some (.bool (a == b)) := by simp [pEq, pEqv, scalD, PyData.eqv]
theorem boolNe {a b : Bool} : pNe [.bool a, .bool b] = some (.bool (!(a == b))) := by simp [pNe, pEqv, scalD, PyData.eqv]
theorem isN {a b : Bool} : pIsNot [.bool a, .bool b] = some (.bool (!decide (a = b))) := rfl
theorem ne1 : (("never" : Str) == ("apart" : Str)) = false := by decide
theorem ne2 : (("ring" : Str) == ("clocks" : Str)) = false := by decide
theorem wrd_eq {b : Bool} : (wrd b == ("apart" : Str)) = b := by cases b <;> decide
theorem len_pairs (ys : List L4) : ∀ xs : List L4, (xs.flatMap fun x => ys.map fun y => (x, y)).length = xs.length * ys.length
  | [] => by simp
  | x :: xs => by
    have : ((x :: xs).flatMap fun x => ys.map fun y => (x, y)) = (ys.map fun y => (x, y)) ++ xs.flatMap fun x => ys.map fun y => (x, y) := rfl
    rw [this, List.length_append, len_pairs ys xs, List.length_map, List.length_cons, Nat.succ_mul, Nat.add_comm]
theorem l_c2 {xs : List L4} {t b s3 s4 s5 s6 s7 s8 s9 s11 : Sl} {ws : List PyData} (hw : ws = words xs xs) (hl : xs.length ≤ 30) : m__law_are_letters_right_c2 (RL (.sh (eL xs)) t b s3 s4 s5 s6 s7 s8 s9 (.sh (.list ws)) s11) = some (.list ((xs.flatMap fun x => xs.map fun y => (x, y)).map fun p => .bool (ap p.1 p.2)), .F 1, RL (.sh (eL xs)) t b s3 s4 s5 s6 s7 s8 s9 (.sh (.list ws)) s11) := by
  have h1 : ws = (xs.flatMap fun x => xs.map fun y => (x, y)).map fun p => PyData.str (wrd (ap p.1 p.2)) := by
    rw [hw]
    unfold words
    rw [List.map_flatMap]
    congr 1
    funext x
    rw [List.map_map]
    rfl
  have hlen : (xs.flatMap fun x => xs.map fun y => (x, y)).length ≤ 1000 := by
    have : (xs.flatMap fun x => xs.map fun y => (x, y)).length = xs.length * xs.length := len_pairs xs xs
    rw [this]
    have := Nat.mul_le_mul hl hl
    omega
  subst h1
  refine comp_run (ds := (xs.flatMap fun x => xs.map fun y => (x, y)).map fun p => PyData.str (wrd (ap p.1 p.2))) rfl (len_ok hlen) rfl rfl (lc_map _ _ _ fun p _ => ?_)
  simp [lcStep, m__law_are_letters_right_e2, RL, gS, ftYes, fSh, f2, fN, faCons, faNil, fVar, fC, fI, strEq, wrd_eq, Md.b, wipeR]
theorem l_are_letters {xs : List L4} (h1 : 1 ≤ xs.length) (h2 : xs.length ≤ 30) (hok : ∀ y ∈ xs, okS y) : F__law_are_letters_right [.sh (eL xs)] = some (.bool true, .S, [.sh (eL xs)]) := by
  obtain ⟨a, b, ⟨xa, hxa, ea⟩, ua, ⟨xb, hxb, eb⟩, ub, r1, r2⟩ := l_clocks_apart h1 (by omega) fun x hx => okS_L (hok x hx)
  obtain ⟨rb, e2, hr⟩ := l_clocks_for (n := 2) (es := esOf xs) (Wm := 1000000000000) (by decide) (by decide) (by rw [es_len]; omega) (es_okW hok) es_valid (by decide) (fun e he => (es_okW hok e he).1)
  have oa := hok xa hxa
  have ob := hok xb hxb
  have la : -200000000000 ≤ a ∧ a ≤ 200000000000 := by
    obtain ⟨⟨_, _⟩, ⟨_, _⟩, ⟨_, _⟩, _, _⟩ := oa
    unfold lo at ea; omega
  have lb : -200000000000 ≤ b ∧ b ≤ 200000000000 := by
    obtain ⟨⟨_, _⟩, ⟨_, _⟩, ⟨_, _⟩, _, _⟩ := ob
    unfold hi at eb; omega
  have c1 : ∀ z : Sl, True := fun _ => True.intro
  have hcl : eB (esOf xs) = .tuple ((esOf xs).map eE) := rfl
  rw [hcl] at e2
  have e0 : ([.sh (eL xs)] ++ List.replicate (14 - 1) .no : List Sl) = RL (.sh (eL xs)) .no .no .no .no .no .no .no .no .no .no .no := rfl
  have fin : ∀ (t rbx : PyData) (s8 s9 : Sl) (bb : Bool), F_clocks_apart [.sh (eL xs)] = some (t, .S, [.sh (eL xs)]) →
      (∀ s3 s4 s5 s6 s7 : Sl, m__law_are_letters_right_s8 (RL (.sh (eL xs)) (.sh t) (.sh (.list ((esOf xs).map eE))) s3 s4 s5 s6 (.sh rb) .no .no .no .no) = some (.nx, RL (.sh (eL xs)) (.sh t) (.sh (.list ((esOf xs).map eE))) s3 s4 s5 s6 (.sh rb) .no .no .no .no)) →
      (∀ s3 s4 s5 s6 s7 : Sl, m__law_are_letters_right_s9 (RL (.sh (eL xs)) (.sh t) (.sh (.list ((esOf xs).map eE))) s3 s4 s5 s6 (.sh rb) .no .no .no .no) = some (.nx, RL (.sh (eL xs)) (.sh t) (.sh (.list ((esOf xs).map eE))) s3 s4 s5 s6 (.sh rb) s8 s9 .no .no)) →
      (∃ r, t = .tuple (.str (wrd bb) :: r)) → ((xs.flatMap fun x => xs.map fun y => (x, y)).all fun p => ap p.1 p.2) = bb → F__law_are_letters_right [.sh (eL xs)] = some (.bool true, .S, [.sh (eL xs)]) := by
    intro t rbx s8 s9 bb ht w8 w9 ⟨r, hbb⟩ hall
    obtain ⟨s3, s4, s5, s6, hb⟩ := l_bounds_loop (xs := xs) (l := .sh (eL xs)) (t := .sh t) (s7 := .no) (s8 := .no) (s9 := .no) (s10 := .no) (s11 := .no) (by omega)
    obtain ⟨s11, hw⟩ := l_words_loop (xs := xs) (t := .sh t) (b := .sh (.list ((esOf xs).map eE))) (s3 := s3) (s4 := s4) (s5 := s5) (s6 := s6) (s7 := .sh rb) (s8 := s8) (s9 := s9) hok (by omega)
    have w5 : m__law_are_letters_right_s5 (RL (.sh (eL xs)) .no .no .no .no .no .no .no .no .no .no .no) = some (.nx, RL (.sh (eL xs)) (.sh t) (.sh (.list [])) .no .no .no .no .no .no .no .no .no) := by
      simp [m__law_are_letters_right_s5, RL, fAsgs, fN, faCons, faNil, fVar, φCall, ht, φLst, LIM, gsCons, gS, gsNil, Md.b]
    have w6 : m__law_are_letters_right_s6 (RL (.sh (eL xs)) (.sh t) (.sh (.list [])) .no .no .no .no .no .no .no .no .no) = some (.nx, RL (.sh (eL xs)) (.sh t) (.sh (.list ((esOf xs).map eE))) s3 s4 s5 s6 .no .no .no .no .no) := hb
    have w7 : m__law_are_letters_right_s7 (RL (.sh (eL xs)) (.sh t) (.sh (.list ((esOf xs).map eE))) s3 s4 s5 s6 .no .no .no .no .no) = some (.nx, RL (.sh (eL xs)) (.sh t) (.sh (.list ((esOf xs).map eE))) s3 s4 s5 s6 (.sh rb) .no .no .no .no) := by
      have e2' : F_clocks_for [.sh (.int 2), .sh (.tuple ((esOf xs).map eE))] = some (rb, .S, [.sh (.int 2), .sh (.tuple ((esOf xs).map eE))]) := e2
      simp [m__law_are_letters_right_s7, RL, fAsg, fN, faCons, faNil, fVar, fSh, fC, φTuple, Md.fl, φCall, e2', gS, Md.b]
    have w10 : m__law_are_letters_right_s10 (RL (.sh (eL xs)) (.sh t) (.sh (.list ((esOf xs).map eE))) s3 s4 s5 s6 (.sh rb) s8 s9 .no .no) = some (.nx, RL (.sh (eL xs)) (.sh t) (.sh (.list ((esOf xs).map eE))) s3 s4 s5 s6 (.sh rb) s8 s9 (.ow 1 (.list [])) .no) := by
      simp [m__law_are_letters_right_s10, RL, fAsg, fN, faNil, φLst, LIM, gO]
    have w11 : m__law_are_letters_right_s11 (RL (.sh (eL xs)) (.sh t) (.sh (.list ((esOf xs).map eE))) s3 s4 s5 s6 (.sh rb) s8 s9 (.ow 1 (.list [])) .no) = some (.nx, RL (.sh (eL xs)) (.sh t) (.sh (.list ((esOf xs).map eE))) s3 s4 s5 s6 (.sh rb) s8 s9 (.ow 1 (.list (words xs xs))) s11) := hw
    have hc2 := l_c2 (xs := xs) (t := .sh t) (b := .sh (.list ((esOf xs).map eE))) (s3 := s3) (s4 := s4) (s5 := s5) (s6 := s6) (s7 := .sh rb) (s8 := s8) (s9 := s9) (s11 := s11) rfl h2
    have w12 : (fFrz 10 m__law_are_letters_right_s12) (RL (.sh (eL xs)) (.sh t) (.sh (.list ((esOf xs).map eE))) s3 s4 s5 s6 (.sh rb) s8 s9 (.ow 1 (.list (words xs xs))) s11) = some (.rt (.bool true) .S, RL (.sh (eL xs)) (.sh t) (.sh (.list ((esOf xs).map eE))) s3 s4 s5 s6 (.sh rb) s8 s9 (.sh (.list (words xs xs))) s11) := by
      have hf : frz 10 (RL (.sh (eL xs)) (.sh t) (.sh (.list ((esOf xs).map eE))) s3 s4 s5 s6 (.sh rb) s8 s9 (.ow 1 (.list (words xs xs))) s11) = RL (.sh (eL xs)) (.sh t) (.sh (.list ((esOf xs).map eE))) s3 s4 s5 s6 (.sh rb) s8 s9 (.sh (.list (words xs xs))) s11 := rfl
      have hv : (RL (.sh (eL xs)) (.sh t) (.sh (.list ((esOf xs).map eE))) s3 s4 s5 s6 (.sh rb) s8 s9 (.sh (.list (words xs xs))) s11)[1]? = some (.sh (.tuple (.str (wrd bb) :: r))) := by rw [hbb]; rfl
      simp only [fFrz, hf]
      simp [m__law_are_letters_right_s12, fRet, f2, fN, faCons, faNil, hc2, fI, pAll_map, hall, fVar, hv, fC, fIx, at0, strEq, wrd_eq, boolEq, Md.b]
    have e : m__law_are_letters_right (RL (.sh (eL xs)) .no .no .no .no .no .no .no .no .no .no .no) = some (.rt (.bool true) .S, RL (.sh (eL xs)) (.sh t) (.sh (.list ((esOf xs).map eE))) s3 s4 s5 s6 (.sh rb) s8 s9 (.sh (.list (words xs xs))) s11) := by
      unfold m__law_are_letters_right
      rw [seq_nx w5, seq_nx w6, seq_nx w7, seq_nx (w8 s3 s4 s5 s6 .no), seq_nx (w9 s3 s4 s5 s6 .no), seq_nx w10, seq_nx w11, w12]
    simp only [F__law_are_letters_right, runFn, List.length_cons, List.length_nil, Nat.zero_add, e0, e]
    simp [outs, RL]
  by_cases hab : a ≤ b
  · -- one difference lets all letters be
    have hno : ¬ isRing 2 (esOf xs) rb := fun h => noRing (d := dd a) (es_feas.mpr fun x hx => by
      have := ua x hx
      have := ub x hx
      have e : dd a 1 - dd a 0 = a := by simp [dd]
      rw [e]; omega) h
    obtain ⟨d, hd, hfe, hlow⟩ := hr.resolve_right hno
    have hsh := es_feas.mp hfe
    have k1 := hsh xa hxa
    have k2 := hsh xb hxb
    have hfa : ∀ x : Int, a ≤ x ∧ x ≤ b → (xs.all fun y => decide (lo y ≤ x ∧ x ≤ hi y)) = true := fun x hx => by
      rw [List.all_eq_true]
      intro y hy
      have := ua y hy
      have := ub y hy
      exact decide_eq_true (by omega)
    have hfb : ∀ x : Int, x < a ∨ b < x → (xs.all fun y => decide (lo y ≤ x ∧ x ≤ hi y)) = false := fun x hx => by
      rw [List.all_eq_false]
      rcases hx with hx | hx
      · exact ⟨xa, hxa, by simp; omega⟩
      · exact ⟨xb, hxb, by simp; omega⟩
    have d2 : dR 2 d = [.int (d 0), .int (d 1)] := rfl
    refine fin (.tuple [.str "apart", .int a, .int b]) .none (.sh (.tuple [.int (d 0), .int (d 1)])) (.sh (.int (b + 1))) true (r1 hab) (fun s3 s4 s5 s6 s7 => ?_) (fun s3 s4 s5 s6 s7 => ?_) ⟨_, rfl⟩ ?_
    · rw [hd, d2]
      simp [m__law_are_letters_right_s8, fIf, fT, f2, fN, faCons, faNil, RL, fVar, fC, fIx, at0, fI, strEq, boolNe, Md.b, fNop]
    · rw [hd, d2]
      have w1 : m__law_are_letters_right_s1 (RL (.sh (eL xs)) (.sh (.tuple [.str "apart", .int a, .int b])) (.sh (.list ((esOf xs).map eE))) s3 s4 s5 s6 (.sh (.tuple [.str "clocks", .tuple [.int (d 0), .int (d 1)]])) .no .no .no .no) = some (.nx, RL (.sh (eL xs)) (.sh (.tuple [.str "apart", .int a, .int b])) (.sh (.list ((esOf xs).map eE))) s3 s4 s5 s6 (.sh (.tuple [.str "clocks", .tuple [.int (d 0), .int (d 1)]])) (.sh (.tuple [.int (d 0), .int (d 1)])) .no .no .no) := by
        simp [m__law_are_letters_right_s1, RL, fAsg, f2, fN, faCons, faNil, fVar, fC, fIx, at1, gS, Md.b]
      have b1 : a ≤ d 1 - d 0 := by omega
      have b2 : d 1 - d 0 ≤ b := by omega
      have w2 : m__law_are_letters_right_s2 (RL (.sh (eL xs)) (.sh (.tuple [.str "apart", .int a, .int b])) (.sh (.list ((esOf xs).map eE))) s3 s4 s5 s6 (.sh (.tuple [.str "clocks", .tuple [.int (d 0), .int (d 1)]])) (.sh (.tuple [.int (d 0), .int (d 1)])) .no .no .no) = some (.nx, RL (.sh (eL xs)) (.sh (.tuple [.str "apart", .int a, .int b])) (.sh (.list ((esOf xs).map eE))) s3 s4 s5 s6 (.sh (.tuple [.str "clocks", .tuple [.int (d 0), .int (d 1)]])) (.sh (.tuple [.int (d 0), .int (d 1)])) .no .no .no) := by
        simp [m__law_are_letters_right_s2, RL, fIf, fNot, fT, fChain, f2, fN, faCons, faNil, fVar, fC, fIx, at0, at1, at2, fI, ii, DL.gSub, gLe, b1, b2, Md.b, fNop]
      have sA := l_shows2 (x := a) hok (by omega) (by omega)
      have sB := l_shows2 (x := b) hok (by omega) (by omega)
      have sC := l_shows2 (x := a - 1) hok (by omega) (by omega)
      have sD := l_shows2 (x := b + 1) hok (by omega) (by omega)
      rw [hfa a ⟨Int.le_refl _, hab⟩] at sA
      rw [hfa b ⟨hab, Int.le_refl _⟩] at sB
      rw [hfb (a - 1) (by omega)] at sC
      rw [hfb (b + 1) (by omega)] at sD
      have w3 : m__law_are_letters_right_s3 (RL (.sh (eL xs)) (.sh (.tuple [.str "apart", .int a, .int b])) (.sh (.list ((esOf xs).map eE))) s3 s4 s5 s6 (.sh (.tuple [.str "clocks", .tuple [.int (d 0), .int (d 1)]])) (.sh (.tuple [.int (d 0), .int (d 1)])) .no .no .no) = some (.nx, RL (.sh (eL xs)) (.sh (.tuple [.str "apart", .int a, .int b])) (.sh (.list ((esOf xs).map eE))) s3 s4 s5 s6 (.sh (.tuple [.str "clocks", .tuple [.int (d 0), .int (d 1)]])) (.sh (.tuple [.int (d 0), .int (d 1)])) (.sh (.int b)) .no .no) := by
        simp [m__law_are_letters_right_s3, m__law_are_letters_right_b2, m__law_are_letters_right_g2, fForS, iSeq, fSh, RL, f2, fN, faCons, faNil, fVar, fC, fIx, at1, at2, φTup, LIM, Md.b, fFor, gS, fIf, fT, φTuple, Md.fl, φCall, sA, sB, fI, isN, turn, fNop]
      have w4 : m__law_are_letters_right_s4 (RL (.sh (eL xs)) (.sh (.tuple [.str "apart", .int a, .int b])) (.sh (.list ((esOf xs).map eE))) s3 s4 s5 s6 (.sh (.tuple [.str "clocks", .tuple [.int (d 0), .int (d 1)]])) (.sh (.tuple [.int (d 0), .int (d 1)])) (.sh (.int b)) .no .no) = some (.nx, RL (.sh (eL xs)) (.sh (.tuple [.str "apart", .int a, .int b])) (.sh (.list ((esOf xs).map eE))) s3 s4 s5 s6 (.sh (.tuple [.str "clocks", .tuple [.int (d 0), .int (d 1)]])) (.sh (.tuple [.int (d 0), .int (d 1)])) (.sh (.int (b + 1))) .no .no) := by
        simp [m__law_are_letters_right_s4, m__law_are_letters_right_b3, m__law_are_letters_right_g3, fForS, iSeq, fSh, RL, f2, fN, faCons, faNil, fVar, fC, fIx, at1, at2, φTup, φAdd, ii, DL.gSub, LIM, Md.b, fFor, gS, fIf, fT, φTuple, Md.fl, φCall, sC, sD, fI, isN, turn, fNop]
      have hc : fT (f2 true (f2 true (fVar 1) (fC (.int 0)) fIx) (fC (.str ("apart" : Str))) (fI pEq)) (RL (.sh (eL xs)) (.sh (.tuple [.str "apart", .int a, .int b])) (.sh (.list ((esOf xs).map eE))) s3 s4 s5 s6 (.sh (.tuple [.str "clocks", .tuple [.int (d 0), .int (d 1)]])) .no .no .no .no) = some (true, RL (.sh (eL xs)) (.sh (.tuple [.str "apart", .int a, .int b])) (.sh (.list ((esOf xs).map eE))) s3 s4 s5 s6 (.sh (.tuple [.str "clocks", .tuple [.int (d 0), .int (d 1)]])) .no .no .no .no) := by
        simp [fT, f2, fN, faCons, faNil, RL, fVar, fC, fIx, at0, fI, strEq, Md.b]
      simp only [m__law_are_letters_right_s9, fIf, hc]
      rw [seq_nx w1, seq_nx w2, seq_nx w3, w4]
    · rw [List.all_eq_true]
      intro p hp
      obtain ⟨x, hx, hp⟩ := List.mem_flatMap.mp hp
      obtain ⟨y, hy, rfl⟩ := List.mem_map.mp hp
      have := ua x hx
      have := ub x hx
      have := ua y hy
      have := ub y hy
      exact decide_eq_true (by simp only; omega)
  · have hno : ¬ isClocks 2 (esOf xs) (((2 : Nat) : Int) * ((esOf xs).length * 1000000000000)) rb := fun ⟨d, _, hfe, _⟩ => by
      have k1 := es_feas.mp hfe xa hxa
      have k2 := es_feas.mp hfe xb hxb
      omega
    obtain ⟨m, Y, J, W, hd, _⟩ := hr.resolve_left hno
    obtain ⟨i, j, e3⟩ := r2 (by omega)
    refine fin (.tuple [.str "never", .int i, .int j]) .none .no .no false e3 (fun s3 s4 s5 s6 s7 => ?_) (fun s3 s4 s5 s6 s7 => ?_) ⟨_, rfl⟩ ?_
    · rw [hd]
      simp [m__law_are_letters_right_s8, fIf, fT, f2, fN, faCons, faNil, RL, fVar, fC, fIx, at0, fI, strEq, boolNe, Md.b, fNop, ne1, ne2, -List.map_reverse]
    · simp [m__law_are_letters_right_s9, fIf, fT, f2, fN, faCons, faNil, RL, fVar, fC, fIx, at0, fI, strEq, Md.b, fNop, ne1]
    · rw [List.all_eq_false]
      refine ⟨(xa, xb), List.mem_flatMap.mpr ⟨xa, hxa, List.mem_map.mpr ⟨xb, hxb, rfl⟩⟩, ?_⟩
      simp [ap]
      omega
end K77

end
section
set_option maxHeartbeats 4000000
namespace K77
open PySem PySem.Spec L2 DL
def eS (ps : List (Int × Int)) : PyData := .tuple (ps.map eP)
def okP (p : Int × Int) : Prop := -1000000000000 ≤ p.1 ∧ p.2 ≤ 1000000000000 ∧ p.1 ≤ p.2
theorem l_look_spans {xs : List (Int × Int)} (h1 : 1 ≤ xs.length) (h2 : xs.length ≤ 200) (h : ∀ x ∈ xs, okP x) : F_look_at_spans [.sh (eS xs)] = some (.none, .S, [.sh (eS xs)]) := by
  obtain ⟨ρ', hf, s1, rfl⟩ := for_stay (g := m_look_at_spans_g1) (f := m_look_at_spans_b1) (ρ := [.sh (eS xs), .no])
    eP (fun ρ => ∃ s1, ρ = [.sh (eS xs), s1]) xs ⟨_, rfl⟩ fun x hx ρ hP => by
      obtain ⟨s1, rfl⟩ := hP
      obtain ⟨a1, a2, a3⟩ := h x hx
      have b1 : x.1 ≤ 1000000000000 := by omega
      have b2 : -1000000000000 ≤ x.2 := by omega
      have b3 : ¬ x.2 < x.1 := by omega
      have ha := l_are_ints (l := [x.1, x.2]) (a := -1000000000000) (b := 1000000000000) (by simp)
      simp only [iL, List.map] at ha
      refine ⟨[.sh (eS xs), .sh (eP x)], ?_, _, rfl⟩
      simp [forStep, m_look_at_spans_g1, m_look_at_spans_b1, gS, fIf, fOr, fNot, fT, fN, faCons, faNil, fVar, fSh, fU, fC, fI, pNeg, φCall, eP, ha, Md.b, f2, pLen, pNe, pEqv, scalD, PyData.eqv, fNop, fIx, at0, at1, ii, gGt, a1, a2, b1, b2, b3]
  have e1 : (1 : Int) ≤ (xs.length : Int) := by omega
  have e2 : (xs.length : Int) ≤ 200 := by omega
  have s1' : m_look_at_spans_s1 [.sh (eS xs), .no] = some (.nx, [.sh (eS xs), .no]) := by
    simp [m_look_at_spans_s1, fIf, fOr, fNot, fT, fIsi, fVar, isiT, tyN, fChain, faCons, faNil, fC, fN, fI, pLen, ii, gLe, fNop, eS, Md.b, e1, e2]
  have s2' : m_look_at_spans_s2 [.sh (eS xs), .no] = some (.nx, [.sh (eS xs), s1]) := hf
  have e : m_look_at_spans [.sh (eS xs), .no] = some (.nx, [.sh (eS xs), s1]) := by
    unfold m_look_at_spans
    rw [seq_nx s1', s2']
  have e0 : ([.sh (eS xs)] ++ List.replicate (2 - 1) .no : List Sl) = [.sh (eS xs), .no] := rfl
  simp only [F_look_at_spans, runFn, List.length_cons, List.length_nil, Nat.zero_add, e0, e]
  simp [outs]
def inn (x : Int) (p : Int × Int) : Bool := decide (p.1 ≤ x) && decide (x ≤ p.2)
def cn (ps : List (Int × Int)) (x : Int) : Nat := (ps.filter (inn x)).length
theorem chain_in {p : Int × Int} {x : Int} {ρ : Rho} {i j : Nat} (h1 : ρ[i]? = some (.sh (eP p))) (h2 : ρ[j]? = some (.sh (.int x))) : fT (fChain true (f2 true (fVar i) (fC (.int 0)) fIx) (fVar j) (f2 true (fVar i) (fC (.int 1)) fIx) (fI (ii gLe)) (fI (ii gLe))) ρ = some (inn x p, ρ) := by
  unfold inn
  by_cases c1 : p.1 ≤ x <;> by_cases c2 : x ≤ p.2 <;>
  simp [fT, fChain, f2, fN, faCons, faNil, fVar, h1, h2, fC, eP, fIx, at0, at1, fI, ii, gLe, Md.b, c1, c2]
theorem l_sortU {l : List Int} (h : l.length < 64) (m : Md) (hm : m.fl = true) : φSortU [(.list (iL l), m)] = some (.list (iL (sortU l)), .F 1) := by
  have h2 : (iL l).length < 64 := by simp [iL]; omega
  have h3 : intsD (iL l) = some l := intsD_map l
  simp [φSortU, hm, h2, h3]
  rfl
theorem step_most {ps : List (Int × Int)} {m f l x : Int} {s2 s3 : Sl} (hl : ps.length ≤ 1000) (hm0 : 0 ≤ m) : ∃ s3', forStep m_most_agree_g1 m_most_agree_b1 (.int x) [.sh (eS ps), .sh (.tuple [.int m, .int f, .int l]), s2, s3, .no] = some (.nx, [.sh (eS ps), .sh (if m < cn ps x then .tuple [.int (cn ps x), .int x, .int (((ps.filter (inn x)).map (·.2)).foldl min (((ps.filter (inn x)).map (·.2)).headD 0))] else .tuple [.int m, .int f, .int l]), .sh (.int x), s3', .no]) := by
  refine ⟨.sh (.list ((ps.filter (inn x)).map eP)), ?_⟩
  have c2 : m_most_agree_c2 [.sh (eS ps), .sh (.tuple [.int m, .int f, .int l]), .sh (.int x), s3, .no] = some (.list ((ps.filter (inn x)).map eP), .F 1, [.sh (eS ps), .sh (.tuple [.int m, .int f, .int l]), .sh (.int x), s3, .no]) :=
    comp_run (ds := ps.map eP) rfl (len_ok hl) rfl rfl (lc_fil eP (inn x) eP ps fun p _ => by
      have ht : m_most_agree_t1 [.sh (eS ps), .sh (.tuple [.int m, .int f, .int l]), .sh (.int x), s3, .sh (eP p)] = some (inn x p, [.sh (eS ps), .sh (.tuple [.int m, .int f, .int l]), .sh (.int x), s3, .sh (eP p)]) := chain_in rfl rfl
      have hg : gS 4 (eP p) .S [.sh (eS ps), .sh (.tuple [.int m, .int f, .int l]), .sh (.int x), s3, .no] = some [.sh (eS ps), .sh (.tuple [.int m, .int f, .int l]), .sh (.int x), s3, .sh (eP p)] := rfl
      simp only [lcStep, hg, ht]
      cases inn x p <;> rfl)
  have w1 : m_most_agree_s1 [.sh (eS ps), .sh (.tuple [.int m, .int f, .int l]), .sh (.int x), s3, .no] = some (.nx, [.sh (eS ps), .sh (.tuple [.int m, .int f, .int l]), .sh (.int x), .sh (.list ((ps.filter (inn x)).map eP)), .no]) := by
    simp [m_most_agree_s1, fAsg, c2, gS, Md.b]
  have c3 : m_most_agree_c3 [.sh (eS ps), .sh (.tuple [.int m, .int f, .int l]), .sh (.int x), .sh (.list ((ps.filter (inn x)).map eP)), .no] = some (.list (iL ((ps.filter (inn x)).map (·.2))), .F 1, [.sh (eS ps), .sh (.tuple [.int m, .int f, .int l]), .sh (.int x), .sh (.list ((ps.filter (inn x)).map eP)), .no]) :=
    comp_run (ds := (ps.filter (inn x)).map eP) rfl (len_ok (Nat.le_trans (List.length_filter_le _ _) hl)) rfl rfl (by
      rw [iL, List.map_map]
      refine lc_map eP _ _ fun p _ => ?_
      simp [lcStep, m_most_agree_e3, gS, ftYes, fSh, f2, fN, faCons, faNil, fVar, fC, eP, fIx, at1, Md.b, wipeR])
  have hg : m_most_agree_g1 (.int x) .S [.sh (eS ps), .sh (.tuple [.int m, .int f, .int l]), s2, s3, .no] = some [.sh (eS ps), .sh (.tuple [.int m, .int f, .int l]), .sh (.int x), s3, .no] := rfl
  simp only [forStep, hg, m_most_agree_b1]
  rw [seq_nx w1]
  by_cases hm : m < cn ps x
  · obtain ⟨q, r, hq⟩ : ∃ q r, (ps.filter (inn x)).map (·.2) = q :: r := by
      cases hc : (ps.filter (inn x)).map (·.2) with
      | nil =>
        have : (ps.filter (inn x)).length = 0 := by
          have := congrArg List.length hc
          simpa using this
        unfold cn at hm
        omega
      | cons q r => exact ⟨q, r, rfl⟩
    have hmin : pMM minP [.list (iL ((ps.filter (inn x)).map (·.2)))] = some (.int (((ps.filter (inn x)).map (·.2)).foldl min (((ps.filter (inn x)).map (·.2)).headD 0))) := by
      have e := intsD_map (q :: r)
      rw [hq]
      simp only [pMM, iL, e, minP]
      simp
    unfold cn at hm ⊢
    simp [m_most_agree_s2, fIf, fT, f2, fN, faCons, faNil, fVar, fC, fIx, at0, fI, pLen, ii, gGt, hm, fAsg, c3, hmin, φTup, LIM, gS, Md.b]
  · unfold cn at hm ⊢
    simp [m_most_agree_s2, fIf, fT, f2, fN, faCons, faNil, fVar, fC, fIx, at0, fI, pLen, ii, gGt, hm, fNop, Md.b]
def hm (ps : List (Int × Int)) (x : Int) : Int := ((ps.filter (inn x)).map (·.2)).foldl min (((ps.filter (inn x)).map (·.2)).headD 0)
theorem cn_mono {ps : List (Int × Int)} {x y : Int} (h : ∀ p ∈ ps, inn x p = true → inn y p = true) : cn ps x ≤ cn ps y := by
  unfold cn
  rw [← List.countP_eq_length_filter, ← List.countP_eq_length_filter]
  exact List.countP_mono_left h
theorem inn_iff {p : Int × Int} {x : Int} : inn x p = true ↔ p.1 ≤ x ∧ x ≤ p.2 := by simp [inn]
theorem cn_hm {ps : List (Int × Int)} {x : Int} (h : 0 < cn ps x) : cn ps x ≤ cn ps (hm ps x) := by
  obtain ⟨q, r, hq⟩ : ∃ q r, (ps.filter (inn x)).map (·.2) = q :: r := by
    cases hc : (ps.filter (inn x)).map (·.2) with
    | nil =>
      have : (ps.filter (inn x)).length = 0 := by
        have := congrArg List.length hc
        simpa using this
      unfold cn at h
      omega
    | cons q r => exact ⟨q, r, rfl⟩
  have e : hm ps x = r.foldl min q := by
    unfold hm
    rw [hq]
    simp
  obtain ⟨h1, h2⟩ := foldl_min (ns := r) (n := q)
  rw [← hq, ← e] at h1 h2
  obtain ⟨p0, hp0, e0⟩ := List.mem_map.mp h1
  have g0 := (inn_iff.mp (List.mem_filter.mp hp0).2).2
  refine cn_mono fun p hp hi => inn_iff.mpr ⟨?_, h2 _ (List.mem_map.mpr ⟨p, List.mem_filter.mpr ⟨hp, hi⟩, rfl⟩)⟩
  have := (inn_iff.mp hi).1
  omega
/-- the most spans that hold one number -/
theorem l_most {ps : List (Int × Int)} (h1 : 1 ≤ ps.length) (h2 : ps.length ≤ 60) (h : ∀ x ∈ ps, okP x) : ∃ f l : Int, ∃ m : Nat, F_most_agree [.sh (eS ps)] = some (.tuple [.int m, .int f, .int l], .S, [.sh (eS ps)]) ∧ (∀ x, cn ps x ≤ m) ∧ cn ps f = m ∧ cn ps l = m ∧ 1 ≤ m := by
  have c1 : m_most_agree_c1 [.sh (eS ps), .sh (.tuple [.int 0, .int 0, .int 0]), .no, .no, .no] = some (.list (iL (ps.map (·.1))), .F 1, [.sh (eS ps), .sh (.tuple [.int 0, .int 0, .int 0]), .no, .no, .no]) :=
    comp_run (ds := ps.map eP) rfl (len_ok (by omega)) rfl rfl (by
      rw [iL, List.map_map]
      refine lc_map eP _ _ fun p _ => ?_
      simp [lcStep, m_most_agree_e1, gS, ftYes, fSh, f2, fN, faCons, faNil, fVar, fC, eP, fIx, at0, Md.b, wipeR])
  have hsu := l_sortU (l := ps.map (·.1)) (by simp; omega) (.F 1) rfl
  obtain ⟨ρ', hf, hI⟩ := for_inv (g := m_most_agree_g1) (f := m_most_agree_b1) (fun i ρ => ∃ (m : Nat) (f l : Int) (s2 s3 : Sl), ρ = [.sh (eS ps), .sh (.tuple [.int m, .int f, .int l]), s2, s3, .no] ∧ (∀ j x, j < i → (sortU (ps.map (·.1)))[j]? = some x → cn ps x ≤ m) ∧ (m = 0 ∨ (cn ps f = m ∧ m ≤ cn ps l))) (iL (sortU (ps.map (·.1)))) 0 [.sh (eS ps), .sh (.tuple [.int (0 : Nat), .int 0, .int 0]), .no, .no, .no]
    ⟨0, 0, 0, _, _, rfl, fun j x hj => by omega, .inl rfl⟩ fun i ρ v hI _ hv => by
    obtain ⟨m, f, l, s2, s3, rfl, g1, g2⟩ := hI
    have hv : (iL (sortU (ps.map (·.1))))[i]? = some v := hv
    obtain ⟨x, hx, rfl⟩ : ∃ x, (sortU (ps.map (·.1)))[i]? = some x ∧ PyData.int x = v := by
      rw [iL, List.getElem?_map] at hv
      cases hc : (sortU (ps.map (·.1)))[i]? with
      | none => rw [hc] at hv; cases hv
      | some x => rw [hc] at hv; cases hv; exact ⟨x, rfl, rfl⟩
    obtain ⟨s3', e⟩ := step_most (ps := ps) (m := m) (f := f) (l := l) (x := x) (s2 := s2) (s3 := s3) (by omega) (by omega)
    by_cases hc : m < cn ps x
    · have hc' : (m : Int) < (cn ps x : Int) := by omega
      rw [if_pos hc'] at e
      refine ⟨_, e, cn ps x, x, hm ps x, _, _, rfl, fun j y hj hy => ?_, .inr ⟨rfl, cn_hm (by omega)⟩⟩
      by_cases hji : j = i
      · subst hji; rw [hx] at hy; cases hy; exact Nat.le_refl _
      · have := g1 j y (by omega) hy
        omega
    · have hc' : ¬ (m : Int) < (cn ps x : Int) := by omega
      rw [if_neg hc'] at e
      refine ⟨_, e, m, f, l, _, _, rfl, fun j y hj hy => ?_, g2⟩
      by_cases hji : j = i
      · subst hji; rw [hx] at hy; cases hy; omega
      · exact g1 j y (by omega) hy
  obtain ⟨m, f, l, s2, s3, rfl, g1, g2⟩ := hI
  -- any number is held by no more than some low is
  have lows : ∀ p ∈ ps, cn ps p.1 ≤ m := fun p hp => by
    have : p.1 ∈ sortU (ps.map (·.1)) := mem_sortU.mpr (List.mem_map_of_mem hp)
    obtain ⟨j, hj⟩ := List.mem_iff_getElem?.mp this
    refine g1 j p.1 ?_ hj
    have := (List.getElem?_eq_some_iff.mp hj).1
    simpa [iL] using this
  have all : ∀ x, cn ps x ≤ m := fun x => by
    by_cases h0 : cn ps x = 0
    · omega
    · obtain ⟨q, r, hq⟩ : ∃ q r, (ps.filter (inn x)).map (·.1) = q :: r := by
        cases hc : (ps.filter (inn x)).map (·.1) with
        | nil =>
          have : (ps.filter (inn x)).length = 0 := by
            have := congrArg List.length hc
            simpa using this
          exact absurd this h0
        | cons q r => exact ⟨q, r, rfl⟩
      obtain ⟨k1, k2⟩ := foldl_max (ns := r) (n := q)
      rw [← hq] at k1 k2
      obtain ⟨p0, hp0, e0⟩ := List.mem_map.mp k1
      obtain ⟨hp1, hp2⟩ := List.mem_filter.mp hp0
      have g0 := (inn_iff.mp hp2).1
      have := lows p0 hp1
      have hle : cn ps x ≤ cn ps p0.1 := cn_mono fun p hp hi => inn_iff.mpr ⟨by
        have := k2 _ (List.mem_map.mpr ⟨p, List.mem_filter.mpr ⟨hp, hi⟩, rfl⟩)
        omega, by have := (inn_iff.mp hi).2; omega⟩
      omega
  have m1 : 1 ≤ m := by
    cases ps with
    | nil => simp at h1
    | cons p r =>
      have hp := h p List.mem_cons_self
      have := lows p List.mem_cons_self
      have : 0 < cn (p :: r) p.1 := by
        unfold cn
        refine List.length_pos_of_mem (a := p) (List.mem_filter.mpr ⟨List.mem_cons_self, inn_iff.mpr ⟨Int.le_refl _, hp.2.2⟩⟩)
      omega
  have g3 := g2.resolve_left (by omega)
  refine ⟨f, l, m, ?_, all, g3.1, Nat.le_antisymm (all l) g3.2, m1⟩
  have hk := l_look_spans h1 (by omega) h
  have w3 : m_most_agree_s3 [.sh (eS ps), .no, .no, .no, .no] = some (.nx, [.sh (eS ps), .no, .no, .no, .no]) := by
    simp [m_most_agree_s3, fExpr, fN, faCons, faNil, fVar, φCall, hk, Md.b]
  have w4 : m_most_agree_s4 [.sh (eS ps), .no, .no, .no, .no] = some (.nx, [.sh (eS ps), .sh (.tuple [.int 0, .int 0, .int 0]), .no, .no, .no]) := by
    simp [m_most_agree_s4, fAsg, fN, faCons, faNil, fC, φTup, LIM, gS, Md.b]
  have w5 : m_most_agree_s5 [.sh (eS ps), .sh (.tuple [.int 0, .int 0, .int 0]), .no, .no, .no] = some (.nx, [.sh (eS ps), .sh (.tuple [.int m, .int f, .int l]), s2, s3, .no]) := by
    simp [m_most_agree_s5, fForS, iSeq, fSh, fU, fN, faCons, faNil, c1, hsu, Md.b]
    exact hf
  have e : m_most_agree [.sh (eS ps), .no, .no, .no, .no] = some (.rt (.tuple [.int m, .int f, .int l]) .S, [.sh (eS ps), .sh (.tuple [.int m, .int f, .int l]), s2, s3, .no]) := by
    unfold m_most_agree
    rw [seq_nx w3, seq_nx w4, seq_nx w5]
    rfl
  have e0 : ([.sh (eS ps)] ++ List.replicate (5 - 1) .no : List Sl) = [.sh (eS ps), .no, .no, .no, .no] := rfl
  simp only [F_most_agree, runFn, List.length_cons, List.length_nil, Nat.zero_add, e0, e]
  simp [outs]
end K77

end
section
set_option maxHeartbeats 4000000
namespace K77
open PySem PySem.Spec L2 DL
theorem sort_pw (ds : List PyData) : (sortD ds).Pairwise fun a b => PySem.W.dataLe false id a b = true := by
  have T := PySem.W.sortLe_total (PyProof.Rows.listOrd PyProof.Rows.itemOrd) false fun b : PyData => PySem.W.keyToks (id b)
  exact List.pairwise_mergeSort (le := PySem.W.dataLe false id) (fun a b c => T.trans a b c) (fun a b => by rw [Bool.or_eq_true]; exact T.total a b) ds
theorem sort_perm (ds : List PyData) : (sortD ds).Perm ds := List.mergeSort_perm _ _
theorem le_head {a b : Int} {r s : List PyData} (h : PySem.W.dataLe false id (.tuple (.int a :: r)) (.tuple (.int b :: s)) = true) : a ≤ b := by
  have h : (!PyProof.Rows.lexLt PyProof.Rows.itemOrd (PySem.W.keyToks (.tuple (.int b :: s))) (PySem.W.keyToks (.tuple (.int a :: r)))) = true := h
  simp only [PySem.W.keyToks, PySem.W.keyToksAll] at h
  by_cases hab : a ≤ b
  · exact hab
  · exfalso
    have : b < a := by omega
    simp [PyProof.Rows.lexLt, PyProof.Rows.itemLt, this] at h
/-! ### told_points -/
def tri (t : Int × Int × Int) : PyData := .tuple [.int t.1, .int t.2.1, .int t.2.2]
def untri : PyData → Int × Int × Int
  | .tuple [.int a, .int b, .int c] => (a, b, c)
  | _ => (0, 0, 0)
theorem untri_tri (t : Int × Int × Int) : untri (tri t) = t := rfl
theorem tri_typed {S : List PyData} {T : List (Int × Int × Int)} (h : S.Perm (T.map tri)) : ∃ T' : List (Int × Int × Int), T'.Perm T ∧ S = T'.map tri := by
  refine ⟨S.map untri, ?_, ?_⟩
  · have := h.map untri
    rw [List.map_map] at this
    have e : (untri ∘ tri) = id := funext untri_tri
    rw [e, List.map_id] at this
    exact this
  · rw [List.map_map]
    have : ∀ x ∈ S, (tri ∘ untri) x = x := fun x hx => by
      obtain ⟨t, _, rfl⟩ := List.mem_map.mp (h.mem_iff.mp hx)
      rfl
    conv => lhs; rw [← List.map_id S]
    exact List.map_congr_left fun x hx => (this x hx).symm
theorem sort_tri {T : List (Int × Int × Int)} : ∃ T' : List (Int × Int × Int), T'.Perm T ∧ sortD (T.map tri) = T'.map tri ∧ T'.Pairwise fun a b => a.1 ≤ b.1 := by
  obtain ⟨T', h1, h2⟩ := tri_typed (sort_perm (T.map tri))
  refine ⟨T', h1, h2, ?_⟩
  have := sort_pw (T.map tri)
  rw [h2, List.pairwise_map] at this
  exact this.imp fun h => le_head h
theorem sortOk_tri {T : List (Int × Int × Int)} : sortOk (T.map tri) = true := by
  simp only [sortOk, Bool.and_eq_true, Bool.or_eq_true, List.all_eq_true, List.mem_map]
  refine ⟨⟨?_, .inl ?_⟩, ?_⟩
  · rintro _ ⟨a, _, rfl⟩ _ ⟨b, _, rfl⟩
    simp [tri, PySem.W.alike, PySem.W.alikeAll]
  · rintro _ ⟨a, _, rfl⟩; rfl
  · rintro _ ⟨a, _, rfl⟩; simp [tri, okN]
theorem sortOk_int {T : List Int} : sortOk (iL T) = true := by
  simp only [sortOk, iL, Bool.and_eq_true, Bool.or_eq_true, List.all_eq_true, List.mem_map]
  refine ⟨⟨?_, .inr ?_⟩, ?_⟩
  · rintro _ ⟨a, _, rfl⟩ _ ⟨b, _, rfl⟩
    simp [PySem.W.alike]
  · rintro _ ⟨a, _, rfl⟩; rfl
  · rintro _ ⟨a, _, rfl⟩; rfl
def lastD (pts : List Int) : Int := pts.getLast?.getD 0
theorem at_last {pts : List Int} (h : pts ≠ []) : atI (iL pts) (-1) = some (.int (lastD pts)) := by
  have h2 : (iL pts).length = pts.length := by simp [iL]
  have h3 : 0 < pts.length := List.length_pos_iff.mpr h
  have h4 : ixN (iL pts).length (-1) = some (pts.length - 1) := by
    unfold ixN
    rw [h2, if_neg (by decide), if_pos (by omega)]
    congr 1
    omega
  unfold atI
  rw [h4]
  simp [iL, lastD, List.getLast?_eq_getElem?, List.getElem?_eq_getElem (show pts.length - 1 < pts.length by omega)]
def app (pts : List Int) (t : Int × Int × Int) : Bool := pts.isEmpty || decide (lastD pts < t.2.1)
theorem step_pts {ps : List (Int × Int)} {pts : List Int} {lone : List Int} {t : Int × Int × Int} {s3 s4 s5 s6 : Sl} (h1 : pts.length ≤ 1000) (h2 : lone.length ≤ 1000) : forStep m_told_points_g1 m_told_points_b1 (tri t) [.sh (eS ps), .ow 1 (.list (iL pts)), .ow 1 (.list (iL lone)), s3, s4, s5, s6] = some (.nx, [.sh (eS ps), .ow 1 (.list (iL (if app pts t then pts ++ [t.1] else pts))), .ow 1 (.list (iL (if app pts t then lone ++ [t.2.2] else lone))), .sh (.int t.1), .sh (.int t.2.1), .sh (.int t.2.2), s6]) := by
  have g0 : m_told_points_g1 (tri t) .S [.sh (eS ps), .ow 1 (.list (iL pts)), .ow 1 (.list (iL lone)), s3, s4, s5, s6] = some [.sh (eS ps), .ow 1 (.list (iL pts)), .ow 1 (.list (iL lone)), .sh (.int t.1), .sh (.int t.2.1), .sh (.int t.2.2), s6] := rfl
  have l1 : ¬ 10000000 ≤ pts.length := by omega
  have l2 : ¬ 10000000 ≤ lone.length := by omega
  have w : fSeq m_told_points_s1 m_told_points_s2 [.sh (eS ps), .ow 1 (.list (iL pts)), .ow 1 (.list (iL lone)), .sh (.int t.1), .sh (.int t.2.1), .sh (.int t.2.2), s6] = some (.nx, [.sh (eS ps), .ow 1 (.list (iL (pts ++ [t.1]))), .ow 1 (.list (iL (lone ++ [t.2.2]))), .sh (.int t.1), .sh (.int t.2.1), .sh (.int t.2.2), s6]) := by
    simp [fSeq, m_told_points_s1, m_told_points_s2, fExpr, fCallX, fxOwn, fxVal, fSh, fVar, fxNil, afterX, dupL, slotsOf, aSls, aSl, gApp, LIM, iL, l1, l2, gGiv, backs, Md.b]
  have hc : fOr (fT (f2 true (fVar 1) (fN faNil φLst) (fI pEq))) (fT (f2 true (f2 true (fVar 1) (fU (fC (.int 1)) (fI pNeg)) fIx) (fVar 4) (fI pLt))) [.sh (eS ps), .ow 1 (.list (iL pts)), .ow 1 (.list (iL lone)), .sh (.int t.1), .sh (.int t.2.1), .sh (.int t.2.2), s6] = some (app pts t, [.sh (eS ps), .ow 1 (.list (iL pts)), .ow 1 (.list (iL lone)), .sh (.int t.1), .sh (.int t.2.1), .sh (.int t.2.2), s6]) := by
    have he : pEq [.list (iL pts), .list []] = some (.bool pts.isEmpty) := by
      have k1 : okN 9 (.list (iL pts)) = true := by simp [okN, iL]
      have k2 : okN 9 (.list []) = true := by simp [okN]
      simp only [pEq, pEqv, k1, k2, Bool.and_true, Bool.or_true, if_true, eqv_nil]
      cases pts <;> rfl
    cases pts with
    | nil =>
      simp [fOr, fT, f2, fN, faCons, faNil, fVar, φLst, Md.b, fI, app] at he ⊢
      simp [he]
    | cons x r =>
      have ha := at_last (pts := x :: r) (by simp)
      generalize x :: r = pts' at *
      have hne : pts'.isEmpty = false := by
        cases pts' with
        | nil => simp [atI, iL, ixN] at ha
        | cons _ _ => rfl
      rw [hne] at he
      simp [fOr, fT, f2, fN, faCons, faNil, fVar, φLst, Md.b, fI, app, fU, fC, pNeg, fIx, ha, pLt, he, hne]
  simp only [forStep, g0, m_told_points_b1, fIf, hc]
  cases app pts t with
  | true => simp only [w]; rfl
  | false => rfl
end K77

end
section
set_option maxHeartbeats 4000000
namespace K77
open PySem PySem.Spec L2 DL
def tr : Nat → List (Int × Int) → List (Int × Int × Int)
  | _, [] => []
  | k, p :: r => (p.2, p.1, (k : Int)) :: tr (k + 1) r
theorem tr_mem : ∀ {k : Nat} {ps : List (Int × Int)} {t : Int × Int × Int}, t ∈ tr k ps → (t.2.1, t.1) ∈ ps
  | _, [], t, h => by cases h
  | k, p :: r, t, h => by
    rcases List.mem_cons.mp h with rfl | h
    · exact List.mem_cons_self
    · exact List.mem_cons_of_mem _ (tr_mem h)
theorem mem_tr : ∀ {k : Nat} {ps : List (Int × Int)} {p : Int × Int}, p ∈ ps → ∃ t ∈ tr k ps, t.1 = p.2 ∧ t.2.1 = p.1
  | _, [], t, h => by cases h
  | k, p :: r, q, h => by
    rcases List.mem_cons.mp h with rfl | h
    · exact ⟨_, List.mem_cons_self, rfl, rfl⟩
    · obtain ⟨t, ht, h1⟩ := mem_tr (k := k + 1) h
      exact ⟨t, List.mem_cons_of_mem _ ht, h1⟩
theorem tr_len : ∀ {k : Nat} {ps : List (Int × Int)}, (tr k ps).length = ps.length
  | _, [] => rfl
  | k, p :: r => by simp [tr, tr_len]
theorem last_app {pts : List Int} {x : Int} : lastD (pts ++ [x]) = x := by simp [lastD]
theorem pts_loop {ps : List (Int × Int)} : ∀ (rest : List (Int × Int × Int)) (pts lone : List Int) (ws : List (Int × Int)) (s3 s4 s5 s6 : Sl), rest.Pairwise (fun a b => a.1 ≤ b.1) → (∀ t ∈ rest, t.2.1 ≤ t.1 ∧ (t.2.1, t.1) ∈ ps) → (∀ x ∈ pts, ∀ t ∈ rest, x ≤ t.1) →
    pts = ws.map (·.2) → ws.Pairwise (fun p q => p.2 < q.1) → (∀ q ∈ ws, q ∈ ps) → (∀ x ∈ pts, x ≤ lastD pts) → (pts ≠ [] → lastD pts ∈ pts) → pts.length + rest.length ≤ 1000 → lone.length + rest.length ≤ 1000 →
    ∃ (pts' lone' : List Int) (ws' : List (Int × Int)) (t3 t4 t5 t6 : Sl), fFor m_told_points_g1 m_told_points_b1 (rest.map tri) [.sh (eS ps), .ow 1 (.list (iL pts)), .ow 1 (.list (iL lone)), s3, s4, s5, s6] = some (.nx, [.sh (eS ps), .ow 1 (.list (iL pts')), .ow 1 (.list (iL lone')), t3, t4, t5, t6]) ∧
      pts' = ws'.map (·.2) ∧ ws'.Pairwise (fun p q => p.2 < q.1) ∧ (∀ q ∈ ws', q ∈ ps) ∧ (∀ x ∈ pts, x ∈ pts') ∧ (∀ t ∈ rest, ∃ x ∈ pts', t.2.1 ≤ x ∧ x ≤ t.1) ∧ pts'.length ≤ 1000 ∧ lone'.length ≤ 1000
  | [], pts, lone, ws, s3, s4, s5, s6, _, _, _, h4, h5, h6, _, _, h9, h10 => ⟨pts, lone, ws, s3, s4, s5, s6, rfl, h4, h5, h6, fun x hx => hx, fun t ht => (nomatch ht), by simpa using h9, by simpa using h10⟩
  | t :: rest, pts, lone, ws, s3, s4, s5, s6, h1, h2, h3, h4, h5, h6, h7, h8, h9, h10 => by
    obtain ⟨k1, k2⟩ := List.pairwise_cons.mp h1
    obtain ⟨t1, t2⟩ := h2 t List.mem_cons_self
    rw [List.length_cons] at h9 h10
    have hs := step_pts (ps := ps) (pts := pts) (lone := lone) (t := t) (s3 := s3) (s4 := s4) (s5 := s5) (s6 := s6) (by omega) (by omega)
    cases ha : app pts t with
    | true =>
      rw [ha] at hs
      simp only [if_true] at hs
      have hlt : ∀ x ∈ pts, x < t.2.1 := fun x hx => by
        unfold app at ha
        rw [Bool.or_eq_true] at ha
        rcases ha with ha | ha
        · cases pts with
          | nil => cases hx
          | cons _ _ => cases ha
        · have := of_decide_eq_true ha
          have := h7 x hx
          omega
      obtain ⟨pts', lone', ws', t3, t4, t5, t6, e, g1, g2, g3, g4, g5, g6, g7⟩ := pts_loop rest (pts ++ [t.1]) (lone ++ [t.2.2]) (ws ++ [(t.2.1, t.1)]) (.sh (.int t.1)) (.sh (.int t.2.1)) (.sh (.int t.2.2)) s6 k2 (fun t' ht' => h2 t' (List.mem_cons_of_mem _ ht')) (fun x hx t' ht' => by
          rcases List.mem_append.mp hx with hx | hx
          · exact h3 x hx t' (List.mem_cons_of_mem _ ht')
          · rw [List.mem_singleton.mp hx]; exact k1 t' ht') (by rw [List.map_append, ← h4]; rfl) (List.pairwise_append.mpr ⟨h5, by simp, fun q hq r hr => by
          rw [List.mem_singleton.mp hr]
          exact hlt q.2 (by rw [h4]; exact List.mem_map_of_mem hq)⟩) (fun q hq => by
          rcases List.mem_append.mp hq with hq | hq
          · exact h6 q hq
          · rw [List.mem_singleton.mp hq]; exact t2) (fun x hx => by
          rw [last_app]
          rcases List.mem_append.mp hx with hx | hx
          · have := hlt x hx; omega
          · rw [List.mem_singleton.mp hx]; exact Int.le_refl _) (fun _ => by rw [last_app]; simp) (by simp; omega) (by simp; omega)
      refine ⟨pts', lone', ws', t3, t4, t5, t6, ?_, g1, g2, g3, fun x hx => g4 x (List.mem_append_left _ hx), fun t' ht' => ?_, g6, g7⟩
      · rw [List.map_cons, for_cons, hs]
        exact e
      · rcases List.mem_cons.mp ht' with rfl | ht'
        · exact ⟨t'.1, g4 _ (by simp), t1, Int.le_refl _⟩
        · exact g5 t' ht'
    | false =>
      rw [ha] at hs
      simp only [Bool.false_eq_true, if_false] at hs
      unfold app at ha
      rw [Bool.or_eq_false_iff] at ha
      have hne : pts ≠ [] := fun z => by rw [z] at ha; cases ha.1
      have hge := of_decide_eq_false ha.2
      obtain ⟨pts', lone', ws', t3, t4, t5, t6, e, g1, g2, g3, g4, g5, g6, g7⟩ := pts_loop rest pts lone ws (.sh (.int t.1)) (.sh (.int t.2.1)) (.sh (.int t.2.2)) s6 k2 (fun t' ht' => h2 t' (List.mem_cons_of_mem _ ht')) (fun x hx t' ht' => h3 x hx t' (List.mem_cons_of_mem _ ht')) h4 h5 h6 h7 h8 (by omega) (by omega)
      refine ⟨pts', lone', ws', t3, t4, t5, t6, ?_, g1, g2, g3, g4, fun t' ht' => ?_, g6, g7⟩
      · rw [List.map_cons, for_cons, hs]
        exact e
      · rcases List.mem_cons.mp ht' with rfl | ht'
        · exact ⟨lastD pts, g4 _ (h8 hne), by omega, h3 _ (h8 hne) t' List.mem_cons_self⟩
        · exact g5 t' ht'
theorem c1_run {ps : List (Int × Int)} {ρ : Rho} (hρ : ρ = [.sh (eS ps), .ow 1 (.list []), .ow 1 (.list []), .no, .no, .no, .no]) : ∀ (qs : List (Int × Int)) (k : Nat), fLc (gT 2 (gsCons (gS 5) (gsCons (gS 6) gsNil))) ftYes m_told_points_e1 [5, 6] (enumD k (qs.map eP)) ρ = some ((tr k qs).map tri, ρ)
  | [], k => rfl
  | p :: qs, k => by
    have hs : lcStep (gT 2 (gsCons (gS 5) (gsCons (gS 6) gsNil))) ftYes m_told_points_e1 [5, 6] (.tuple [.int (k : Nat), eP p]) ρ = some (some (tri (p.2, p.1, (k : Int))), ρ) := by
      subst hρ
      simp [lcStep, m_told_points_e1, gT, gsCons, gS, gsNil, ftYes, fSh, f2, fN, faCons, faNil, fVar, fC, eP, fIx, at0, at1, φTup, LIM, Md.b, wipeR, tri]
    rw [List.map_cons, enumD, lc_cons, hs]
    simp only
    rw [c1_run hρ qs (k + 1)]
    rfl
theorem l_points {ps : List (Int × Int)} (h2 : ps.length ≤ 200) (h : ∀ p ∈ ps, p.1 ≤ p.2) : ∃ (pts : List Int) (X : List PyData) (ws : List (Int × Int)), F_told_points [.sh (eS ps)] = some (.tuple [.tuple (iL pts), .tuple X], .S, [.sh (eS ps)]) ∧ (∀ p ∈ ps, ∃ x ∈ pts, inn x p = true) ∧ ws.length = pts.length ∧ (∀ q ∈ ws, q ∈ ps) ∧ ws.Pairwise fun p q => p.2 < q.1 := by
  obtain ⟨T, T1, T2, T3⟩ := sort_tri (T := tr 0 ps)
  obtain ⟨pts, lone, ws, t3, t4, t5, t6, e, g1, g2, g3, g4, g5, g6, g7⟩ := pts_loop (ps := ps) T [] [] [] .no .no .no .no T3 (fun t ht => by
    have := tr_mem (T1.mem_iff.mp ht)
    exact ⟨h _ this, this⟩) (fun x hx => (nomatch hx)) rfl List.Pairwise.nil (fun q hq => (nomatch hq)) (fun x hx => (nomatch hx)) (fun z => absurd rfl z) (by rw [T1.length_eq, tr_len]; simp; omega) (by rw [T1.length_eq, tr_len]; simp; omega)
  refine ⟨pts, sortD (iL lone), ws, ?_, fun p hp => ?_, by rw [g1, List.length_map], g3, g2⟩
  · have c1 : m_told_points_c1 [.sh (eS ps), .ow 1 (.list []), .ow 1 (.list []), .no, .no, .no, .no] = some (.list ((tr 0 ps).map tri), .F 1, [.sh (eS ps), .ow 1 (.list []), .ow 1 (.list []), .no, .no, .no, .no]) :=
      comp_run (ds := enumD 0 (ps.map eP)) rfl (by rw [enumD_len]; exact len_ok (by omega)) rfl rfl (c1_run rfl ps 0)
    have hsrt : φSorted [(.list ((tr 0 ps).map tri), .F 1)] = some (.list (T.map tri), .F 1) := by
      simp only [φSorted, sortOk_tri, Md.fl, Bool.and_self, if_true, T2]
    have hsr2 : φSorted [(.list (iL lone), .S)] = some (.list (sortD (iL lone)), .F 1) := by
      simp only [φSorted, sortOk_int, Md.fl, Bool.and_self, if_true]
    have w3 : m_told_points_s3 [.sh (eS ps), .no, .no, .no, .no, .no, .no] = some (.nx, [.sh (eS ps), .ow 1 (.list []), .ow 1 (.list []), .no, .no, .no, .no]) := by
      simp [m_told_points_s3, fAsgs, fN, faCons, faNil, φLst, LIM, gsCons, gO, gsNil, Md.b]
    have w4 : m_told_points_s4 [.sh (eS ps), .ow 1 (.list []), .ow 1 (.list []), .no, .no, .no, .no] = some (.nx, [.sh (eS ps), .ow 1 (.list (iL pts)), .ow 1 (.list (iL lone)), t3, t4, t5, t6]) := by
      have e' : fFor m_told_points_g1 m_told_points_b1 (T.map tri) [.sh (eS ps), .ow 1 (.list []), .ow 1 (.list []), .no, .no, .no, .no] = some (.nx, [.sh (eS ps), .ow 1 (.list (iL pts)), .ow 1 (.list (iL lone)), t3, t4, t5, t6]) := e
      simp [m_told_points_s4, fForS, iSeq, fSh, fN, faCons, faNil, c1, hsrt, Md.b, e']
    have w5 : (fFrz 1 (fFrz 2 m_told_points_s5)) [.sh (eS ps), .ow 1 (.list (iL pts)), .ow 1 (.list (iL lone)), t3, t4, t5, t6] = some (.rt (.tuple [.tuple (iL pts), .tuple (sortD (iL lone))]) .S, [.sh (eS ps), .sh (.list (iL pts)), .sh (.list (iL lone)), t3, t4, t5, t6]) := by
      simp [m_told_points_s5, fFrz, frz, fRet, fN, faCons, faNil, fVar, φTuple, Md.fl, hsr2, φTup, LIM, Md.b]
    have e1 : m_told_points [.sh (eS ps), .no, .no, .no, .no, .no, .no] = some (.rt (.tuple [.tuple (iL pts), .tuple (sortD (iL lone))]) .S, [.sh (eS ps), .sh (.list (iL pts)), .sh (.list (iL lone)), t3, t4, t5, t6]) := by
      unfold m_told_points
      rw [seq_nx w3, seq_nx w4, w5]
    have e0 : ([.sh (eS ps)] ++ List.replicate (7 - 1) .no : List Sl) = [.sh (eS ps), .no, .no, .no, .no, .no, .no] := rfl
    simp only [F_told_points, runFn, List.length_cons, List.length_nil, Nat.zero_add, e0, e1]
    simp [outs]
  · obtain ⟨t, ht, e1, e2⟩ := mem_tr (k := 0) hp
    obtain ⟨x, hx, x1, x2⟩ := g5 t (T1.mem_iff.mpr ht)
    exact ⟨x, hx, inn_iff.mpr ⟨by omega, by omega⟩⟩
end K77

end
section
set_option maxHeartbeats 4000000
namespace K77
open PySem PySem.Spec L2 DL
theorem nodup_len : ∀ {xs ys : List Int}, xs.Nodup → (∀ x ∈ xs, x ∈ ys) → xs.length ≤ ys.length
  | [], _, _, _ => Nat.zero_le _
  | x :: r, ys, h, hs => by
    obtain ⟨h1, h2⟩ := List.nodup_cons.mp h
    have hx := hs x List.mem_cons_self
    have := nodup_len (xs := r) (ys := ys.erase x) h2 fun y hy => (List.mem_erase_of_ne (show y ≠ x from fun z => h1 (by rw [← z]; exact hy))).mpr (hs y (List.mem_cons_of_mem _ hy))
    rw [List.length_erase_of_mem hx] at this
    have := List.length_pos_of_mem hx
    rw [List.length_cons]
    omega
/-- spans apart need a number each -/
theorem apart_le {pts : List Int} : ∀ {ws : List (Int × Int)}, ws.Pairwise (fun p q => p.2 < q.1) → (∀ w ∈ ws, ∃ x ∈ pts, inn x w = true) → ws.length ≤ pts.length := by
  suffices ∀ {ws : List (Int × Int)}, ws.Pairwise (fun p q => p.2 < q.1) → (∀ w ∈ ws, ∃ x ∈ pts, inn x w = true) → ∃ xs : List Int, xs.length = ws.length ∧ xs.Nodup ∧ (∀ x ∈ xs, x ∈ pts) ∧ ∀ x ∈ xs, ∃ w ∈ ws, w.1 ≤ x from fun {ws} h1 h2 => by
    obtain ⟨xs, e, n, s, _⟩ := this h1 h2
    rw [← e]
    exact nodup_len n s
  intro ws
  induction ws with
  | nil => exact fun _ _ => ⟨[], rfl, List.nodup_nil, fun x hx => (nomatch hx), fun x hx => (nomatch hx)⟩
  | cons w r ih =>
    intro h1 h2
    obtain ⟨k1, k2⟩ := List.pairwise_cons.mp h1
    obtain ⟨xs, e, n, s, g⟩ := ih k2 fun w' hw' => h2 w' (List.mem_cons_of_mem _ hw')
    obtain ⟨x, hx, hi⟩ := h2 w List.mem_cons_self
    have hi := inn_iff.mp hi
    refine ⟨x :: xs, by simp [e], List.nodup_cons.mpr ⟨fun z => ?_, n⟩, fun y hy => ?_, fun y hy => ?_⟩
    · obtain ⟨w', hw', hl⟩ := g x z
      have := k1 w' hw'
      omega
    · rcases List.mem_cons.mp hy with rfl | hy
      · exact hx
      · exact s y hy
    · rcases List.mem_cons.mp hy with rfl | hy
      · exact ⟨w, List.mem_cons_self, hi.1⟩
      · obtain ⟨w', hw', hl⟩ := g y hy
        exact ⟨w', List.mem_cons_of_mem _ hw', hl⟩
theorem len_split (x : Int) : ∀ ps : List (Int × Int), ps.length = (ps.filter (inn x)).length + (ps.filter fun p => !inn x p).length
  | [] => rfl
  | q :: ps => by
    have ih := len_split x ps
    rw [List.filter_cons, List.filter_cons]
    cases inn x q <;> simp <;> omega
theorem stab_len {m : Nat} : ∀ {pts : List Int} {ps : List (Int × Int)}, (∀ p ∈ ps, ∃ x ∈ pts, inn x p = true) → (∀ x, cn ps x ≤ m) → ps.length ≤ pts.length * m
  | [], ps, h, _ => by
    cases ps with
    | nil => simp
    | cons p r => obtain ⟨x, hx, _⟩ := h p List.mem_cons_self; cases hx
  | x :: r, ps, h, hm => by
    have ih := stab_len (pts := r) (ps := ps.filter fun p => !inn x p) (fun p hp => by
      obtain ⟨hp1, hp2⟩ := List.mem_filter.mp hp
      obtain ⟨y, hy, hi⟩ := h p hp1
      rcases List.mem_cons.mp hy with rfl | hy
      · rw [hi] at hp2; cases hp2
      · exact ⟨y, hy, hi⟩) fun y => Nat.le_trans (by
        unfold cn
        rw [← List.countP_eq_length_filter, ← List.countP_eq_length_filter]
        exact List.Sublist.countP_le List.filter_sublist) (hm y)
    have h1 := hm x
    have h2 : ps.length = (ps.filter (inn x)).length + (ps.filter fun p => !inn x p).length := len_split x ps
    unfold cn at h1
    rw [List.length_cons, Nat.succ_mul]
    omega
/-- how many numbers spans need -/
def Need (ps : List (Int × Int)) (n : Nat) : Prop := ∃ (pts : List Int) (X : List PyData) (ws : List (Int × Int)), F_fewest_numbers [.sh (eS ps)] = some (.tuple [.tuple (iL pts), .tuple X], .S, [.sh (eS ps)]) ∧ pts.length = n ∧ (∀ p ∈ ps, ∃ x ∈ pts, inn x p = true) ∧ ws.length = n ∧ (∀ q ∈ ws, q ∈ ps) ∧ ws.Pairwise fun p q => p.2 < q.1
theorem need_ex {ps : List (Int × Int)} (h1 : 1 ≤ ps.length) (h2 : ps.length ≤ 200) (h : ∀ p ∈ ps, okP p) : ∃ n, Need ps n := by
  obtain ⟨pts, X, ws, e, s1, s2, s3, s4⟩ := l_points h2 fun p hp => (h p hp).2.2
  have hk := l_look_spans h1 h2 h
  refine ⟨_, pts, X, ws, ?_, rfl, s1, s2, s3, s4⟩
  simp [F_fewest_numbers, m_fewest_numbers, m_fewest_numbers_s1, m_fewest_numbers_s2, runFn, fSeq, fExpr, fN, faCons, faNil, fVar, φCall, hk, e, fRet, outs, Md.b, List.replicate]
theorem need_le {ps qs : List (Int × Int)} {n k : Nat} (h1 : Need ps n) (h2 : Need qs k) (h : ∀ p ∈ ps, p ∈ qs) : n ≤ k := by
  obtain ⟨_, _, ws, _, _, _, e, s, w⟩ := h1
  obtain ⟨pts, _, _, _, e2, st, _⟩ := h2
  rw [← e, ← e2]
  exact apart_le w fun w hw => st w (h w (s w hw))
theorem need_more {ps : List (Int × Int)} {n k : Nat} (h1 : Need ps n) (h2 : Need (ps ++ [(100, 101)]) k) (hq : ∀ p ∈ ps, p.2 < 100) : k = n + 1 := by
  obtain ⟨pts, _, ws, _, e1, st, e2, s, w⟩ := h1
  obtain ⟨pts', _, ws', _, e1', st', e2', s', w'⟩ := h2
  have l1 : (ws ++ [((100 : Int), (101 : Int))]).length ≤ pts'.length := apart_le (List.pairwise_append.mpr ⟨w, by simp, fun p hp q hq' => by
    rw [List.mem_singleton.mp hq']
    exact hq p (s p hp)⟩) fun q hq' => by
      rcases List.mem_append.mp hq' with hq' | hq'
      · exact st' q (List.mem_append_left _ (s q hq'))
      · exact st' q (List.mem_append_right _ hq')
  have l2 : ws'.length ≤ (pts ++ [(100 : Int)]).length := apart_le w' fun q hq' => by
    rcases List.mem_append.mp (s' q hq') with hm | hm
    · obtain ⟨x, hx, hi⟩ := st q hm
      exact ⟨x, List.mem_append_left _ hx, hi⟩
    · rw [List.mem_singleton.mp hm]
      exact ⟨100, by simp, by decide⟩
  simp at l1 l2
  omega
end K77

end
section
set_option maxHeartbeats 4000000
namespace K77
open PySem PySem.Spec L2 DL
def okQ (p : Int × Int) : Prop := -20 ≤ p.1 ∧ p.1 ≤ p.2 ∧ p.2 ≤ 50
theorem okQ_P {p : Int × Int} (h : okQ p) : okP p := ⟨by have := h.1; omega, by have := h.2.2; omega, h.2.1⟩
def RS (s0 s1 s2 s3 s4 s5 s6 s7 s8 s9 : Sl) : Rho := [s0, s1, s2, s3, s4, s5, s6, s7, s8, s9, .no, .no]
theorem l_span {k a b c : Int} {xs : List (Int × Int)} {v : PyData} {s2 s3 : Sl} (h : PO k a b c) (hk : k < 900000000000000) (hl : xs.length ≤ 1000) : ∃ (x : Int × Int) (a' b' c' : Int) (t2 t3 : Sl), okQ x ∧ PO (k + 2) a' b' c' ∧
    forStep m__law_are_spans_right_g1 m__law_are_spans_right_b1 v (RS (pt a b c) (.ow 1 (.list (xs.map eP))) s2 s3 .no .no .no .no .no .no) = some (.nx, RS (pt a' b' c') (.ow 1 (.list ((xs ++ [x]).map eP))) t2 t3 .no .no .no .no .no .no) := by
  obtain ⟨r1, a1, b1, c1, e1, p1, q1, h1⟩ := l_take 40 h (by omega) (by decide) (by decide)
  obtain ⟨r2, a2, b2, c2, e2, p2, q2, h2⟩ := l_take 12 h1 (by omega) (by decide) (by decide)
  have hlen : ¬ 10000000 ≤ xs.length := by omega
  refine ⟨(r1 - 20, r1 - 20 + r2), a2, b2, c2, .sh v, .sh (.int (r1 - 20)), ⟨?_, ?_, ?_⟩, ?_, ?_⟩
  · simp only; omega
  · simp only; omega
  · simp only; omega
  · have : k + 1 + 1 = k + 2 := by omega
    rw [← this]; exact h2
  · have g0 : m__law_are_spans_right_g1 v .S (RS (pt a b c) (.ow 1 (.list (xs.map eP))) s2 s3 .no .no .no .no .no .no) = some (RS (pt a b c) (.ow 1 (.list (xs.map eP))) (.sh v) s3 .no .no .no .no .no .no) := rfl
    have w1 : m__law_are_spans_right_s1 (RS (pt a b c) (.ow 1 (.list (xs.map eP))) (.sh v) s3 .no .no .no .no .no .no) = some (.nx, RS (pt a1 b1 c1) (.ow 1 (.list (xs.map eP))) (.sh v) (.sh (.int (r1 - 20))) .no .no .no .no .no .no) := by
      simp [m__law_are_spans_right_s1, RS, fAsg, fN, faCons, faNil, fCallX, fxName, fxVal, fSh, f2, fC, fI, ii, fxNil, afterX, dupL, slotsOf, aSls, aSl, e1, backs, pInt, DL.gSub, gS, Md.b]
    have w2 : m__law_are_spans_right_s2 (RS (pt a1 b1 c1) (.ow 1 (.list (xs.map eP))) (.sh v) (.sh (.int (r1 - 20))) .no .no .no .no .no .no) = some (.nx, RS (pt a2 b2 c2) (.ow 1 (.list ((xs ++ [((r1 - 20, r1 - 20 + r2) : Int × Int)]).map eP))) (.sh v) (.sh (.int (r1 - 20))) .no .no .no .no .no .no) := by
      simp [m__law_are_spans_right_s2, RS, fExpr, fN, faCons, faNil, fVar, fCallX, fxName, fxOwn, fxVal, fSh, f2, fC, fI, ii, fxNil, afterX, dupL, slotsOf, aSls, aSl, e2, backs, pInt, Md.b, φAdd, φTup, LIM, gApp, hlen, gGiv, eP]
    simp only [forStep, g0]
    unfold m__law_are_spans_right_b1
    rw [seq_nx w1, w2]
theorem l_cnt {xs : List (Int × Int)} {x : Int} {s0 s2 s3 s4 s5 s6 s7 s8 s9 : Sl} (h : xs.length ≤ 1000) : m__law_are_spans_right_c1 [s0, .sh (eS xs), s2, s3, s4, s5, s6, s7, s8, s9, .sh (.int x), .no] = some (.list ((xs.filter (inn x)).map eP), .F 1, [s0, .sh (eS xs), s2, s3, s4, s5, s6, s7, s8, s9, .sh (.int x), .no]) :=
  comp_run (ds := xs.map eP) rfl (len_ok h) rfl rfl (lc_fil eP (inn x) eP xs fun p _ => by
    have ht : m__law_are_spans_right_t1 [s0, .sh (eS xs), s2, s3, s4, s5, s6, s7, s8, s9, .sh (.int x), .sh (eP p)] = some (inn x p, [s0, .sh (eS xs), s2, s3, s4, s5, s6, s7, s8, s9, .sh (.int x), .sh (eP p)]) := chain_in rfl rfl
    have hg : gS 11 (eP p) .S [s0, .sh (eS xs), s2, s3, s4, s5, s6, s7, s8, s9, .sh (.int x), .no] = some [s0, .sh (eS xs), s2, s3, s4, s5, s6, s7, s8, s9, .sh (.int x), .sh (eP p)] := rfl
    simp only [lcStep, hg, ht]
    cases inn x p <;> rfl)
theorem l_drawn_spans {k a b c : Int} (h : PO k a b c) (hk : k < 800000000000000) : ∃ (xs : List (Int × Int)) (a' b' c' : Int) (t2 t3 : Sl), m__law_are_spans_right_s4 (RS (pt a b c) (.ow 1 (.list [])) .no .no .no .no .no .no .no .no) = some (.nx, RS (pt a' b' c') (.ow 1 (.list (xs.map eP))) t2 t3 .no .no .no .no .no .no) ∧ 1 ≤ xs.length ∧ xs.length ≤ 9 ∧ (∀ x ∈ xs, okQ x) ∧ PO (k + 100) a' b' c' := by
  obtain ⟨r3, a3, b3, c3, e3, p3, q3, h3⟩ := l_take 9 h (by omega) (by decide) (by decide)
  obtain ⟨n, hn⟩ : ∃ n : Nat, 1 + r3 = (n : Int) := ⟨(1 + r3).toNat, by omega⟩
  have h3' : PO (k + 1 + 2 * ((0 : Nat) : Int)) a3 b3 c3 := by
    have : k + 1 + 2 * ((0 : Nat) : Int) = k + 1 := by omega
    rw [this]; exact h3
  obtain ⟨ρ', hf, hI⟩ := for_inv (g := m__law_are_spans_right_g1) (f := m__law_are_spans_right_b1) (fun i ρ => i ≤ n → ∃ (xs : List (Int × Int)) (a b c : Int) (t2 t3 : Sl), xs.length = i ∧ (∀ x ∈ xs, okQ x) ∧ PO (k + 1 + 2 * i) a b c ∧ ρ = RS (pt a b c) (.ow 1 (.list (xs.map eP))) t2 t3 .no .no .no .no .no .no) (rangeD 0 n) 0 (RS (pt a3 b3 c3) (.ow 1 (.list (([] : List (Int × Int)).map eP))) .no .no .no .no .no .no .no .no)
    (fun _ => ⟨[], a3, b3, c3, _, _, rfl, fun x hx => (nomatch hx), h3', rfl⟩) fun i ρ v hI _ hv => by
    have hi : i < n := by
      have := (List.getElem?_eq_some_iff.mp hv).1
      simp [rangeD] at this
      omega
    obtain ⟨xs, a, b, c, t2, t3, g1, g2, g3, rfl⟩ := hI (by omega)
    obtain ⟨x, a', b', c', s2, s3, o1, o2, o3⟩ := l_span (v := v) (s2 := t2) (s3 := t3) (xs := xs) g3 (by omega) (by omega)
    refine ⟨_, o3, fun _ => ⟨xs ++ [x], a', b', c', s2, s3, by simp [g1], fun y hy => ?_, ?_, rfl⟩⟩
    · rcases List.mem_append.mp hy with hy | hy
      · exact g2 y hy
      · rw [List.mem_singleton.mp hy]; exact o1
    · have : k + 1 + 2 * ((i + 1 : Nat) : Int) = k + 1 + 2 * (i : Int) + 2 := by omega
      rw [this]; exact o2
  have hz : 0 + (rangeD 0 n).length = n := by simp [rangeD]
  rw [hz] at hI
  obtain ⟨xs, a4, b4, c4, t2, t3, g1, g2, g3, rfl⟩ := hI (Nat.le_refl _)
  refine ⟨xs, a4, b4, c4, t2, t3, ?_, by omega, by omega, g2, ?_⟩
  · have kr : ∀ m, κR1 [(.int (n : Nat), m)] = some (rangeD 0 n) := fun m => kR1 (by unfold LIM; omega)
    simp only [List.map_nil, RS] at hf ⊢
    simp [m__law_are_spans_right_s4, fForS, iA, fN, faCons, faNil, fCallX, fxName, fxVal, fSh, f2, fC, fxNil, afterX, dupL, slotsOf, aSls, aSl, e3, backs, φAdd, hn, kr, hf, Md.b]
  · obtain ⟨z1, z2, z3, z4, z5⟩ := g3
    exact ⟨z1, z2, z3, z4, by omega⟩
theorem intEq {a b : Int} : pEq [.int a, .int b] = some (.bool (decide (a = b))) := by
  by_cases h : a = b <;> simp [pEq, pEqv, scalD, PyData.eqv, h]
theorem _root_.List.Nodup.subperm_len : ∀ {xs ys : List (Int × Int)}, xs.Nodup → (∀ x ∈ xs, x ∈ ys) → xs.length ≤ ys.length
  | [], _, _, _ => Nat.zero_le _
  | x :: r, ys, h, hs => by
    obtain ⟨h1, h2⟩ := List.nodup_cons.mp h
    have hx := hs x List.mem_cons_self
    have := List.Nodup.subperm_len (xs := r) (ys := ys.erase x) h2 fun y hy => (List.mem_erase_of_ne (show y ≠ x from fun z => h1 (by rw [← z]; exact hy))).mpr (hs y (List.mem_cons_of_mem _ hy))
    rw [List.length_erase_of_mem hx] at this
    have := List.length_pos_of_mem hx
    rw [List.length_cons]
    omega
theorem l_are_spans {k a b c : Int} (h : PO k a b c) (hk : k < 800000000000000) : ∃ a' b' c' : Int, F__law_are_spans_right [pt a b c] = some (.bool true, .S, [pt a' b' c']) ∧ PO (k + 100) a' b' c' := by
  obtain ⟨xs, a', b', c', t2, t3, w4, h1, h2, hq, hp⟩ := l_drawn_spans h hk
  refine ⟨a', b', c', ?_, hp⟩
  obtain ⟨f, l, m, em, m1, m2, m3, m4⟩ := l_most h1 (by omega) fun x hx => okQ_P (hq x hx)
  obtain ⟨n, hN⟩ := need_ex h1 (by omega) fun x hx => okQ_P (hq x hx)
  obtain ⟨n2, hN2⟩ := need_ex (ps := xs ++ [(100, 101)]) (by simp) (by simp; omega) fun x hx => by
    rcases List.mem_append.mp hx with hx | hx
    · exact okQ_P (hq x hx)
    · rw [List.mem_singleton.mp hx]; exact ⟨by decide, by decide, by decide⟩
  obtain ⟨x0, hx0⟩ : ∃ x0, xs[0]? = some x0 := ⟨_, List.getElem?_eq_getElem (by omega)⟩
  have hm0 := List.mem_of_getElem? hx0
  obtain ⟨n3, hN3⟩ := need_ex (ps := xs ++ [x0]) (by simp) (by simp; omega) fun x hx => by
    rcases List.mem_append.mp hx with hx | hx
    · exact okQ_P (hq x hx)
    · rw [List.mem_singleton.mp hx]; exact okQ_P (hq x0 hm0)
  have k2 := need_more hN hN2 fun p hp => by have := (hq p hp).2.2; omega
  have k3 : n3 = n := Nat.le_antisymm (need_le hN3 hN fun p hp => by
    rcases List.mem_append.mp hp with hp | hp
    · exact hp
    · rw [List.mem_singleton.mp hp]; exact hm0) (need_le hN hN3 fun p hp => List.mem_append_left _ hp)
  obtain ⟨pts, X, ws, ep, l1, st, l2, sub, pw⟩ := hN
  obtain ⟨pts2, X2, ws2, ep2, l12, _⟩ := hN2
  obtain ⟨pts3, X3, ws3, ep3, l13, _⟩ := hN3
  -- the sentences
  have c1 : (m = xs.length) ↔ (pts.length = 1) := by
    constructor
    · intro e
      have hall : ∀ p ∈ xs, inn f p = true := by
        have : (xs.filter (inn f)).length = xs.length := by unfold cn at m2; omega
        exact fun p hp => (List.filter_eq_self.mp (List.filter_sublist.eq_of_length this)) p hp
      have : ws.length ≤ [f].length := apart_le pw fun w hw => ⟨f, by simp, hall w (sub w hw)⟩
      have : 0 < pts.length := by
        obtain ⟨x, hx, _⟩ := st x0 hm0
        exact List.length_pos_of_mem hx
      simp at *
      omega
    · intro e
      have := stab_len st m1
      have h3 : m ≤ xs.length := by rw [← m2]; exact List.length_filter_le _ _
      rw [e] at this
      omega
  have c2 : ¬ (pts.length * m < xs.length) := by have := stab_len st m1; omega
  have hpl : ∀ l : List Int, (iL l).length = l.length := fun l => by simp [iL]
  have hsl : (xs.map eP).length = xs.length := List.length_map ..
  have b1 : (decide ((m : Int) = (xs.length : Int)) == decide ((pts.length : Int) = 1)) = true := by
    rw [beq_iff_eq, decide_eq_decide]
    constructor
    · intro e; have := c1.mp (by omega); omega
    · intro e; have := c1.mpr (by omega); omega
  have q1 : pEq [.int (m : Int), .int (xs.length : Int)] = some (.bool (decide ((m : Int) = (xs.length : Int)))) := intEq
  have q2 : pEq [.int (pts.length : Int), .int 1] = some (.bool (decide ((pts.length : Int) = 1))) := intEq
  have b2 : ¬ ((pts.length : Int) * (m : Int) < (xs.length : Int)) := by
    have : ((pts.length * m : Nat) : Int) = (pts.length : Int) * (m : Int) := by simp
    omega
  have lm : (pts.length : Int).natAbs.log2 + (m : Int).natAbs.log2 < 1000000 := by
    have hm9 : m ≤ 9 := by have := List.length_filter_le (inn f) xs; unfold cn at m2; omega
    have hp9 : pts.length ≤ 9 := by
      have : ws.length ≤ xs.length := by
        have hn : ws.Nodup := pw.imp_of_mem fun {p q} hp hq' hpq z => by
          have := (hq p (sub p hp)).2.1
          rw [z] at hpq
          have := (hq q (sub q hq')).2.1
          omega
        exact (hn.subperm_len sub)
      omega
    have l1 : (pts.length : Int).natAbs.log2 < 60 := lg (by decide) (by omega) (by omega)
    have l2 : (m : Int).natAbs.log2 < 60 := lg (by decide) (by omega) (by omega)
    omega
  have w3 : m__law_are_spans_right_s3 (RS (pt a b c) .no .no .no .no .no .no .no .no .no) = some (.nx, RS (pt a b c) (.ow 1 (.list [])) .no .no .no .no .no .no .no .no) := by
    simp [m__law_are_spans_right_s3, RS, fAsg, fN, faNil, φLst, LIM, gO]
  have w5 : m__law_are_spans_right_s5 (RS (pt a' b' c') (.ow 1 (.list (xs.map eP))) t2 t3 .no .no .no .no .no .no) = some (.nx, RS (pt a' b' c') (.sh (eS xs)) t2 t3 .no .no .no .no .no .no) := by
    simp [m__law_are_spans_right_s5, RS, fAsg, fN, faCons, faNil, fVar, φTuple, Md.fl, gS, Md.b, eS]
  have w6 : (fFrz 1 m__law_are_spans_right_s6) (RS (pt a' b' c') (.sh (eS xs)) t2 t3 .no .no .no .no .no .no) = some (.nx, RS (pt a' b' c') (.sh (eS xs)) t2 t3 (.sh (.int m)) (.sh (.int f)) (.sh (.int l)) .no .no .no) := by
    simp [fFrz, frz, m__law_are_spans_right_s6, RS, fAsg, fN, faCons, faNil, fVar, φCall, em, gT, gsCons, gS, gsNil, Md.b]
  have w7 : m__law_are_spans_right_s7 (RS (pt a' b' c') (.sh (eS xs)) t2 t3 (.sh (.int m)) (.sh (.int f)) (.sh (.int l)) .no .no .no) = some (.nx, RS (pt a' b' c') (.sh (eS xs)) t2 t3 (.sh (.int m)) (.sh (.int f)) (.sh (.int l)) (.sh (.tuple (iL pts))) (.sh (.tuple X)) .no) := by
    simp [m__law_are_spans_right_s7, RS, fAsg, fN, faCons, faNil, fVar, φCall, ep, gT, gsCons, gS, gsNil, Md.b]
  have w8 : m__law_are_spans_right_s8 (RS (pt a' b' c') (.sh (eS xs)) t2 t3 (.sh (.int m)) (.sh (.int f)) (.sh (.int l)) (.sh (.tuple (iL pts))) (.sh (.tuple X)) .no) = some (.nx, RS (pt a' b' c') (.sh (eS xs)) t2 t3 (.sh (.int m)) (.sh (.int f)) (.sh (.int l)) (.sh (.tuple (iL pts))) (.sh (.tuple X)) .no) := by
    simp only [m__law_are_spans_right_s8, RS, fIf, fOr, fT, f2, fN, faCons, faNil, fVar, fC, fI, eS]
    simp [pLen, hpl, hsl, q1, q2, boolNe, b1, mulI lm, pLt, b2, Md.b, fNop]
  have wc2 : m__law_are_spans_right_c2 (RS (pt a' b' c') (.sh (eS xs)) t2 t3 (.sh (.int m)) (.sh (.int f)) (.sh (.int l)) (.sh (.tuple (iL pts))) (.sh (.tuple X)) .no) = some (.list ([f, l].map fun x => .bool (decide (cn xs x ≠ m))), .F 1, RS (pt a' b' c') (.sh (eS xs)) t2 t3 (.sh (.int m)) (.sh (.int f)) (.sh (.int l)) (.sh (.tuple (iL pts))) (.sh (.tuple X)) .no) :=
    comp_run (ds := [f, l].map PyData.int) rfl (len_ok (by simp)) rfl rfl (lc_map PyData.int _ [f, l] fun x _ => by
      have hg : gS 10 (.int x) .S (RS (pt a' b' c') (.sh (eS xs)) t2 t3 (.sh (.int m)) (.sh (.int f)) (.sh (.int l)) (.sh (.tuple (iL pts))) (.sh (.tuple X)) .no) = some [pt a' b' c', .sh (eS xs), t2, t3, .sh (.int m), .sh (.int f), .sh (.int l), .sh (.tuple (iL pts)), .sh (.tuple X), .no, .sh (.int x), .no] := rfl
      have hcn := l_cnt (xs := xs) (x := x) (s0 := pt a' b' c') (s2 := t2) (s3 := t3) (s4 := .sh (.int m)) (s5 := .sh (.int f)) (s6 := .sh (.int l)) (s7 := .sh (.tuple (iL pts))) (s8 := .sh (.tuple X)) (s9 := .no) (by omega)
      have hne : pNe [.int ((xs.filter (inn x)).length : Int), .int (m : Int)] = some (.bool (decide (cn xs x ≠ m))) := by
        rw [pNe_int]
        congr 2
        unfold cn
        have : (((xs.filter (inn x)).length : Int) ≠ (m : Int)) ↔ (xs.filter (inn x)).length ≠ m := by omega
        exact decide_eq_decide.mpr this
      simp only [lcStep, hg, ftYes, m__law_are_spans_right_e2, fSh, f2, fN, faCons, faNil, hcn]
      simp [fI, pLen, fVar, hne, Md.b, wipeR, RS])
  have w9 : m__law_are_spans_right_s9 (RS (pt a' b' c') (.sh (eS xs)) t2 t3 (.sh (.int m)) (.sh (.int f)) (.sh (.int l)) (.sh (.tuple (iL pts))) (.sh (.tuple X)) .no) = some (.nx, RS (pt a' b' c') (.sh (eS xs)) t2 t3 (.sh (.int m)) (.sh (.int f)) (.sh (.int l)) (.sh (.tuple (iL pts))) (.sh (.tuple X)) .no) := by
    simp [m__law_are_spans_right_s9, fIf, fT, fN, faCons, faNil, wc2, m2, m3, fI, pAny, boolsD, Md.b, fNop]
  have eA : ∀ qs : List (Int × Int), φAdd [(eS xs, .S), (.tuple (qs.map eP), .S)] = if xs.length + qs.length ≤ LIM then some (eS (xs ++ qs), .S) else none := fun qs => by
    simp [φAdd, eS]
  have hL1 : xs.length + [((100 : Int), (101 : Int))].length ≤ LIM := by unfold LIM; simp; omega
  have hL2 : xs.length + [x0].length ≤ LIM := by unfold LIM; simp; omega
  have eA1 : φAdd [(eS xs, .S), (.tuple [.tuple [.int 100, .int 101]], .S)] = some (eS (xs ++ [(100, 101)]), .S) := by
    have := eA [(100, 101)]
    rw [if_pos hL1] at this
    exact this
  have eA2 : φAdd [(eS xs, .S), (.tuple [eP x0], .S)] = some (eS (xs ++ [x0]), .S) := by
    have := eA [x0]
    rw [if_pos hL2] at this
    exact this
  have w10 : m__law_are_spans_right_s10 (RS (pt a' b' c') (.sh (eS xs)) t2 t3 (.sh (.int m)) (.sh (.int f)) (.sh (.int l)) (.sh (.tuple (iL pts))) (.sh (.tuple X)) .no) = some (.nx, RS (pt a' b' c') (.sh (eS xs)) t2 t3 (.sh (.int m)) (.sh (.int f)) (.sh (.int l)) (.sh (.tuple (iL pts))) (.sh (.tuple X)) (.sh (.tuple [.tuple (iL pts2), .tuple X2]))) := by
    simp [m__law_are_spans_right_s10, RS, fAsg, fN, faCons, faNil, fVar, fSh, f2, fC, φTup, LIM, eA1, φCall, ep2, gS, Md.b]
  have n2e : pNe [.int ((pts2.length : Nat) : Int), .int ((pts.length : Nat) + 1 : Int)] = some (.bool false) := by
    rw [pNe_int]
    have : ((pts2.length : Int) = (pts.length : Int) + 1) := by omega
    simp [this]
  have w11 : m__law_are_spans_right_s11 (RS (pt a' b' c') (.sh (eS xs)) t2 t3 (.sh (.int m)) (.sh (.int f)) (.sh (.int l)) (.sh (.tuple (iL pts))) (.sh (.tuple X)) (.sh (.tuple [.tuple (iL pts2), .tuple X2]))) = some (.nx, RS (pt a' b' c') (.sh (eS xs)) t2 t3 (.sh (.int m)) (.sh (.int f)) (.sh (.int l)) (.sh (.tuple (iL pts))) (.sh (.tuple X)) (.sh (.tuple [.tuple (iL pts2), .tuple X2]))) := by
    simp [m__law_are_spans_right_s11, RS, fIf, fT, f2, fN, faCons, faNil, fVar, fC, fIx, at0, fI, pLen, hpl, φAdd, n2e, Md.b, fNop]
  have hat : atI (xs.map eP) 0 = some (eP x0) := by
    have := at_nat (xs := xs.map eP) (k := 0) (x := eP x0) (by rw [List.getElem?_map, hx0]; rfl)
    exact this
  have n3e : pEq [.int ((pts3.length : Nat) : Int), .int ((pts.length : Nat) : Int)] = some (.bool true) := by
    rw [intEq]
    have : ((pts3.length : Int) = (pts.length : Int)) := by omega
    simp [this]
  have w12 : m__law_are_spans_right_s12 (RS (pt a' b' c') (.sh (eS xs)) t2 t3 (.sh (.int m)) (.sh (.int f)) (.sh (.int l)) (.sh (.tuple (iL pts))) (.sh (.tuple X)) (.sh (.tuple [.tuple (iL pts2), .tuple X2]))) = some (.rt (.bool true) .S, RS (pt a' b' c') (.sh (eS xs)) t2 t3 (.sh (.int m)) (.sh (.int f)) (.sh (.int l)) (.sh (.tuple (iL pts))) (.sh (.tuple X)) (.sh (.tuple [.tuple (iL pts2), .tuple X2]))) := by
    have hix : fIx [(eS xs, .S), (.int 0, .S)] = some (eP x0, .S) := by simp [fIx, eS, hat]
    have hix2 : fIx [(PyData.tuple [.tuple (iL pts3), .tuple X3], .S), (.int 0, .S)] = some (.tuple (iL pts3), .S) := by simp [fIx, at0]
    simp [m__law_are_spans_right_s12, RS, fRet, fSh, f2, fN, faCons, faNil, fVar, fC, hix, φTup, LIM, eA2, φCall, ep3, hix2, fI, pLen, hpl, n3e, Md.b]
  have e : m__law_are_spans_right (RS (pt a b c) .no .no .no .no .no .no .no .no .no) = some (.rt (.bool true) .S, RS (pt a' b' c') (.sh (eS xs)) t2 t3 (.sh (.int m)) (.sh (.int f)) (.sh (.int l)) (.sh (.tuple (iL pts))) (.sh (.tuple X)) (.sh (.tuple [.tuple (iL pts2), .tuple X2]))) := by
    unfold m__law_are_spans_right
    rw [seq_nx w3, seq_nx w4, seq_nx w5, seq_nx w6, seq_nx w7, seq_nx w8, seq_nx w9, seq_nx w10, seq_nx w11, w12]
  have e0 : ([pt a b c] ++ List.replicate (12 - 1) .no : List Sl) = RS (pt a b c) .no .no .no .no .no .no .no .no .no := rfl
  simp only [F__law_are_spans_right, runFn, List.length_cons, List.length_nil, Nat.zero_add, e0, e]
  simp [outs, RS]
end K77

end
section
set_option maxHeartbeats 4000000
namespace K77
open PySem PySem.Spec L2 DL
def nL (l : List Nat) : List PyData := l.map fun i => .int (i : Nat)
theorem erase_nL : ∀ (l : List Nat) (i : Nat), (nL l).eraseIdx i = nL (l.eraseIdx i)
  | [], _ => rfl
  | _ :: _, 0 => rfl
  | x :: l, i + 1 => congrArg (PyData.int (x : Nat) :: ·) (erase_nL l i)
theorem step_some {k a b c : Int} {s1 s2 s5 : Sl} {v : PyData} {rests found : List Nat} {N : Nat} (h : PO k a b c) (hk : k < 900000000000000) (h0 : 0 < rests.length) (h1 : rests.length ≤ 1000) (h2 : found.length ≤ 1000) (hr : ∀ x ∈ rests, x < N) (hf : ∀ x ∈ found, x < N) :
    ∃ (a' b' c' : Int) (rests' : List Nat) (x : Nat), PO (k + 1) a' b' c' ∧ x < N ∧ rests'.length + 1 = rests.length ∧ (∀ y ∈ rests', y < N) ∧ forStep m__law_some_g1 m__law_some_b1 v [pt a b c, s1, s2, .ow 1 (.list (nL rests)), .ow 1 (.list (nL found)), s5] = some (.nx, [pt a' b' c', s1, s2, .ow 1 (.list (nL rests')), .ow 1 (.list (nL (found ++ [x]))), .sh v]) := by
  obtain ⟨r, a', b', c', e, r0, r1, hp⟩ := l_take (rests.length : Int) h (by omega) (by omega) (by omega)
  obtain ⟨i, rfl⟩ : ∃ i : Nat, r = (i : Int) := ⟨r.toNat, by omega⟩
  have hi : i < rests.length := by omega
  have hlen : (nL rests).length = rests.length := by simp [nL]
  have hix : ixN rests.length (i : Int) = some i := ixN_nat hi
  have hat : (nL rests)[i]? = some (.int (rests[i] : Nat)) := by simp [nL, hi]
  have he := erase_nL rests i
  have l1 : ¬ 10000000 ≤ rests.length := by omega
  have l2 : ¬ 10000000 ≤ found.length := by omega
  have hlf : (nL found).length = found.length := by simp [nL]
  refine ⟨a', b', c', rests.eraseIdx i, rests[i], hp, hr _ (List.getElem_mem hi), by rw [List.length_eraseIdx_of_lt hi]; omega, fun y hy => hr y (List.mem_of_mem_eraseIdx hy), ?_⟩
  have hn : nL (found ++ [rests[i]]) = nL found ++ [.int (rests[i] : Nat)] := by simp [nL]
  rw [hn]
  simp [forStep, m__law_some_g1, m__law_some_b1, gS, Md.b, fExpr, fCallX, fxOwn, fxVal, fSh, fxName, fN, faCons, faNil, fVar, fI, pLen, hlen, fxNil, afterX, dupL, slotsOf, aSls, aSl, e, backs, gPopAt, LIM, l1, hix, hat, he, mN, gApp, hlf, l2, gGiv]
theorem l_some {k a b c : Int} {n : Nat} (h : PO k a b c) (hk : k < 800000000000000) (hn : n ≤ 100) : ∃ (l : List Nat) (a' b' c' : Int), l.length = n ∧ (∀ x ∈ l, x < n) ∧ PO (k + n) a' b' c' ∧ F__law_some [pt a b c, .sh (.list (nL (List.range n))), .sh (.int n)] = some (.list (nL l), .S, [pt a' b' c', .sh (.list (nL (List.range n))), .sh (.int n)]) := by
  obtain ⟨ρ', hf, hI⟩ := for_inv (g := m__law_some_g1) (f := m__law_some_b1) (fun i ρ => i ≤ n → ∃ (a b c : Int) (rests found : List Nat) (s5 : Sl), PO (k + i) a b c ∧ rests.length + i = n ∧ found.length = i ∧ (∀ x ∈ rests, x < n) ∧ (∀ x ∈ found, x < n) ∧ ρ = [pt a b c, .sh (.list (nL (List.range n))), .sh (.int n), .ow 1 (.list (nL rests)), .ow 1 (.list (nL found)), s5]) (rangeD 0 n) 0 [pt a b c, .sh (.list (nL (List.range n))), .sh (.int n), .ow 1 (.list (nL (List.range n))), .ow 1 (.list (nL [])), .no]
    (fun _ => ⟨a, b, c, List.range n, [], .no, (by simpa using h), (by simp), rfl, (fun x hx => List.mem_range.mp hx), (fun x hx => (nomatch hx)), rfl⟩) fun i ρ v hI _ hv => by
    have hi : i < n := by
      have := (List.getElem?_eq_some_iff.mp hv).1
      simp [rangeD] at this
      omega
    obtain ⟨a, b, c, rests, found, s5, hp, g1, g2, g3, g4, rfl⟩ := hI (by omega)
    obtain ⟨a', b', c', rests', x, o1, o2, o3, o4, o5⟩ := step_some (s1 := .sh (.list (nL (List.range n)))) (s2 := .sh (.int n)) (s5 := s5) (v := v) hp (by omega) (by omega) (by omega) (by omega) g3 g4
    refine ⟨_, o5, fun _ => ⟨a', b', c', rests', found ++ [x], .sh v, ?_, by omega, by simp [g2], o4, fun y hy => ?_, rfl⟩⟩
    · have : k + ((i + 1 : Nat) : Int) = k + (i : Int) + 1 := by omega
      rw [this]; exact o1
    · rcases List.mem_append.mp hy with hy | hy
      · exact g4 y hy
      · rw [List.mem_singleton.mp hy]; exact o2
  have hz : 0 + (rangeD 0 n).length = n := by simp [rangeD]
  rw [hz] at hI
  obtain ⟨a', b', c', rests, found, s5, hp, g1, g2, g3, g4, rfl⟩ := hI (Nat.le_refl _)
  refine ⟨found, a', b', c', g2, g4, hp, ?_⟩
  have w1 : m__law_some_s1 [pt a b c, .sh (.list (nL (List.range n))), .sh (.int n), .no, .no, .no] = some (.nx, [pt a b c, .sh (.list (nL (List.range n))), .sh (.int n), .ow 1 (.list (nL (List.range n))), .ow 1 (.list (nL [])), .no]) := by
    simp [m__law_some_s1, fAsgs, fN, faCons, faNil, fVar, φList, Md.fl, φLst, LIM, gsCons, gO, gsNil, Md.b, nL]
  have w2 : m__law_some_s2 [pt a b c, .sh (.list (nL (List.range n))), .sh (.int n), .ow 1 (.list (nL (List.range n))), .ow 1 (.list (nL [])), .no] = some (.nx, [pt a' b' c', .sh (.list (nL (List.range n))), .sh (.int n), .ow 1 (.list (nL rests)), .ow 1 (.list (nL found)), s5]) := by
    have hi := iA_r1 (ρ := [pt a b c, .sh (.list (nL (List.range n))), .sh (.int n), .ow 1 (.list (nL (List.range n))), .ow 1 (.list (nL [])), .no]) (n := n) (i := 2) (lim100 hn) rfl
    simp only [m__law_some_s2, fForS, hi, hf]
  have w3 : (fFrz 4 m__law_some_s3) [pt a' b' c', .sh (.list (nL (List.range n))), .sh (.int n), .ow 1 (.list (nL rests)), .ow 1 (.list (nL found)), s5] = some (.rt (.list (nL found)) .S, [pt a' b' c', .sh (.list (nL (List.range n))), .sh (.int n), .ow 1 (.list (nL rests)), .sh (.list (nL found)), s5]) := rfl
  have e : m__law_some [pt a b c, .sh (.list (nL (List.range n))), .sh (.int n), .no, .no, .no] = some (.rt (.list (nL found)) .S, [pt a' b' c', .sh (.list (nL (List.range n))), .sh (.int n), .ow 1 (.list (nL rests)), .sh (.list (nL found)), s5]) := by
    unfold m__law_some
    rw [seq_nx w1, seq_nx w2, w3]
  have e0 : ([pt a b c, .sh (.list (nL (List.range n))), .sh (.int n)] ++ List.replicate (6 - 3) .no : List Sl) = [pt a b c, .sh (.list (nL (List.range n))), .sh (.int n), .no, .no, .no] := rfl
  simp only [F__law_some, runFn, List.length_cons, List.length_nil, Nat.zero_add, Nat.reduceAdd, e0, e]
  simp [outs]
end K77

end
section
set_option maxHeartbeats 4000000
namespace K77
open PySem PySem.Spec L2 DL
/-- the slots of _law_are_bounds_right; those of comps alone are empty -/
def RB (s0 s1 s2 s3 s4 s5 s6 s7 s8 s9 s10 s11 s12 s13 s14 s15 s16 s17 : Sl) : Rho := [s0, s1, s2, s3, s4, s5, s6, s7, s8, s9, s10, s11, s12, s13, s14, s15, s16, s17, .no, .no, .no, .no, .no]
theorem l_bc1 {k a b c : Int} {n : Nat} {s2 s3 s4 s5 s6 s7 s8 s9 s10 s11 s12 s13 s14 s15 s16 s17 : Sl} (h : PO k a b c) (hk : k < 800000000000000) (hn : n ≤ 100) : ∃ (vals : List Int) (a' b' c' : Int), vals.length = n ∧ (∀ v ∈ vals, 0 ≤ v ∧ v < 999) ∧ PO (k + n) a' b' c' ∧
    m__law_are_bounds_right_c1 (RB (pt a b c) (.sh (.int n)) s2 s3 s4 s5 s6 s7 s8 s9 s10 s11 s12 s13 s14 s15 s16 s17) = some (.list (iL vals), .F 1, RB (pt a' b' c') (.sh (.int n)) s2 s3 s4 s5 s6 s7 s8 s9 s10 s11 s12 s13 s14 s15 s16 s17) := by
  obtain ⟨r, ρ', hf, a', b', c', vals, g1, g2, g3, g4, g5⟩ := lc_inv (g := gS 18) (t := ftYes) (f := m__law_are_bounds_right_e1) (ks := [18]) (fun i ρ acc => ∃ (a b c : Int) (vals : List Int), PO (k + (i : Nat)) a b c ∧ ρ = RB (pt a b c) (.sh (.int n)) s2 s3 s4 s5 s6 s7 s8 s9 s10 s11 s12 s13 s14 s15 s16 s17 ∧ acc = iL vals ∧ vals.length = i ∧ ∀ v ∈ vals, 0 ≤ v ∧ v < 999 ∧ i ≤ n) (rangeD 0 n) 0 (RB (pt a b c) (.sh (.int n)) s2 s3 s4 s5 s6 s7 s8 s9 s10 s11 s12 s13 s14 s15 s16 s17) [] ⟨a, b, c, [], (by simpa using h), rfl, rfl, rfl, fun v hv => (nomatch hv)⟩ fun i ρ acc d hI _ hd => by
    obtain ⟨a, b, c, vals, hp, rfl, rfl, hl, hv⟩ := hI
    have hi : i < n := by
      have := (List.getElem?_eq_some_iff.mp hd).1
      simp [rangeD] at this
      omega
    obtain ⟨v, a', b', c', e, v0, v1, hp'⟩ := l_take 999 hp (by omega) (by decide) (by decide)
    refine ⟨.int v, RB (pt a' b' c') (.sh (.int n)) s2 s3 s4 s5 s6 s7 s8 s9 s10 s11 s12 s13 s14 s15 s16 s17, ?_, a', b', c', vals ++ [v], ?_, rfl, (by simp [iL]), (by simp [hl]), fun x hx => ?_⟩
    · simp [lcStep, m__law_are_bounds_right_e1, RB, gS, ftYes, fSh, fN, faCons, faNil, fCallX, fxName, fxVal, fC, fxNil, afterX, dupL, slotsOf, aSls, aSl, e, backs, fI, pInt, Md.b, wipeR]
    · have : k + ((i + 1 : Nat) : Int) = k + (i : Int) + 1 := by omega
      rw [this]; exact hp'
    · rcases List.mem_append.mp hx with hx | hx
      · obtain ⟨x1, x2, _⟩ := hv x hx
        exact ⟨x1, x2, by omega⟩
      · rw [List.mem_singleton.mp hx]; exact ⟨v0, v1, by omega⟩
  have hz : 0 + (rangeD 0 n).length = n := by simp [rangeD]
  rw [hz] at g1 g4
  subst g2
  simp only [List.nil_append] at g3
  subst g3
  refine ⟨vals, a', b', c', g4, fun v hv => ⟨(g5 v hv).1, (g5 v hv).2.1⟩, g1, ?_⟩
  have hi := iA_r1 (ρ := RB (pt a b c) (.sh (.int n)) s2 s3 s4 s5 s6 s7 s8 s9 s10 s11 s12 s13 s14 s15 s16 s17) (n := n) (i := 1) (lim100 hn) rfl
  have hlen : (rangeD 0 n).length ≤ LIM := by simp [rangeD, LIM]; omega
  have hw : wipeR [18] (RB (pt a b c) (.sh (.int n)) s2 s3 s4 s5 s6 s7 s8 s9 s10 s11 s12 s13 s14 s15 s16 s17) = RB (pt a b c) (.sh (.int n)) s2 s3 s4 s5 s6 s7 s8 s9 s10 s11 s12 s13 s14 s15 s16 s17 := rfl
  have hw2 : wipeR [18] (RB (pt a' b' c') (.sh (.int n)) s2 s3 s4 s5 s6 s7 s8 s9 s10 s11 s12 s13 s14 s15 s16 s17) = RB (pt a' b' c') (.sh (.int n)) s2 s3 s4 s5 s6 s7 s8 s9 s10 s11 s12 s13 s14 s15 s16 s17 := rfl
  simp only [m__law_are_bounds_right_c1, fComp, hi, hlen, if_true, hw, hf, hw2]
end K77

end
section
set_option maxHeartbeats 4000000
namespace K77
open PySem PySem.Spec L2 DL
theorem step_bound {k a b c : Int} {n : Nat} {sh : List Int} {es : List BF.E} {v : PyData} {s4 s5 s6 : Sl} (h : PO k a b c) (hk : k < 800000000000000) (hn0 : 0 < n) (hn : n ≤ 100) (hsl : sh.length = n) (hsv : ∀ v ∈ sh, 0 ≤ v ∧ v < 999) (hl : es.length ≤ 1000) :
    ∃ (a' b' c' : Int) (e : BF.E) (t4 t5 t6 : Sl), PO (k + 3) a' b' c' ∧ e.1 < n ∧ e.2.1 < n ∧ (∃ x y : Int, sh[e.1]? = some x ∧ sh[e.2.1]? = some y ∧ y - x ≤ e.2.2 ∧ e.2.2 ≤ y - x + 4) ∧
    forStep m__law_are_bounds_right_g1 m__law_are_bounds_right_b1 v (RB (pt a b c) (.sh (.int n)) (.ow 1 (.list (es.map eE))) (.sh (.list (iL sh))) s4 s5 s6 .no .no .no .no .no .no .no .no .no .no .no) = some (.nx, RB (pt a' b' c') (.sh (.int n)) (.ow 1 (.list ((es ++ [e]).map eE))) (.sh (.list (iL sh))) t4 t5 t6 .no .no .no .no .no .no .no .no .no .no .no) := by
  obtain ⟨r1, a1, b1, c1, e1, p1, q1, h1⟩ := l_take (n : Int) h (by omega) (by omega) (by omega)
  obtain ⟨r2, a2, b2, c2, e2, p2, q2, h2⟩ := l_take (n : Int) h1 (by omega) (by omega) (by omega)
  obtain ⟨r3, a3, b3, c3, e3, p3, q3, h3⟩ := l_take 5 h2 (by omega) (by decide) (by decide)
  obtain ⟨u, rfl⟩ : ∃ u : Nat, r1 = (u : Int) := ⟨r1.toNat, by omega⟩
  obtain ⟨w, rfl⟩ : ∃ w : Nat, r2 = (w : Int) := ⟨r2.toNat, by omega⟩
  have hu : u < n := by omega
  have hw : w < n := by omega
  obtain ⟨x, hx⟩ : ∃ x, sh[u]? = some x := ⟨_, List.getElem?_eq_getElem (by omega)⟩
  obtain ⟨y, hy⟩ : ∃ y, sh[w]? = some y := ⟨_, List.getElem?_eq_getElem (by omega)⟩
  have ax : atI (iL sh) (u : Int) = some (.int x) := at_nat (by rw [iL, List.getElem?_map, hx]; rfl)
  have ay : atI (iL sh) (w : Int) = some (.int y) := at_nat (by rw [iL, List.getElem?_map, hy]; rfl)
  have hlen : ¬ 10000000 ≤ es.length := by omega
  refine ⟨a3, b3, c3, (u, w, y - x + r3), .sh v, .sh (.int u), .sh (.int w), ?_, hu, hw, ⟨x, y, hx, hy, by simp only; omega, by simp only; omega⟩, ?_⟩
  · have : k + 1 + 1 + 1 = k + 3 := by omega
    rw [← this]; exact h3
  · have g0 : m__law_are_bounds_right_g1 v .S (RB (pt a b c) (.sh (.int n)) (.ow 1 (.list (es.map eE))) (.sh (.list (iL sh))) s4 s5 s6 .no .no .no .no .no .no .no .no .no .no .no) = some (RB (pt a b c) (.sh (.int n)) (.ow 1 (.list (es.map eE))) (.sh (.list (iL sh))) (.sh v) s5 s6 .no .no .no .no .no .no .no .no .no .no .no) := rfl
    have kr : ∀ m, κR1 [(.int 2, m)] = some [.int 0, .int 1] := fun m => kR1 (n := 2) (by decide)
    have hc : m__law_are_bounds_right_c2 (RB (pt a b c) (.sh (.int n)) (.ow 1 (.list (es.map eE))) (.sh (.list (iL sh))) (.sh v) s5 s6 .no .no .no .no .no .no .no .no .no .no .no) = some (.list [.int u, .int w], .F 1, RB (pt a2 b2 c2) (.sh (.int n)) (.ow 1 (.list (es.map eE))) (.sh (.list (iL sh))) (.sh v) s5 s6 .no .no .no .no .no .no .no .no .no .no .no) := by
      simp [m__law_are_bounds_right_c2, fComp, iA, faCons, faNil, fC, kr, Md.b, LIM, RB, wipeR, fLc, gS, ftYes, m__law_are_bounds_right_e2, fSh, fN, fCallX, fxName, fxNil, afterX, dupL, slotsOf, aSls, aSl, e1, e2, backs, fI, pInt]
    have w1 : m__law_are_bounds_right_s1 (RB (pt a b c) (.sh (.int n)) (.ow 1 (.list (es.map eE))) (.sh (.list (iL sh))) (.sh v) s5 s6 .no .no .no .no .no .no .no .no .no .no .no) = some (.nx, RB (pt a2 b2 c2) (.sh (.int n)) (.ow 1 (.list (es.map eE))) (.sh (.list (iL sh))) (.sh v) (.sh (.int u)) (.sh (.int w)) .no .no .no .no .no .no .no .no .no .no .no) := by
      simp only [m__law_are_bounds_right_s1, fAsg, hc]
      simp [gU, gsCons, gS, gsNil, Md.b, RB]
    have w2 : m__law_are_bounds_right_s2 (RB (pt a2 b2 c2) (.sh (.int n)) (.ow 1 (.list (es.map eE))) (.sh (.list (iL sh))) (.sh v) (.sh (.int u)) (.sh (.int w)) .no .no .no .no .no .no .no .no .no .no .no) = some (.nx, RB (pt a3 b3 c3) (.sh (.int n)) (.ow 1 (.list ((es ++ [((u, w, y - x + r3) : BF.E)]).map eE))) (.sh (.list (iL sh))) (.sh v) (.sh (.int u)) (.sh (.int w)) .no .no .no .no .no .no .no .no .no .no .no) := by
      simp [m__law_are_bounds_right_s2, RB, fExpr, fCallX, fxOwn, fxName, fxVal, fSh, f2, fN, faCons, faNil, fVar, fC, fIx, ax, ay, fI, ii, DL.gSub, pInt, φAdd, φTup, LIM, fxNil, afterX, dupL, slotsOf, aSls, aSl, e3, backs, gApp, hlen, gGiv, eE, Md.b]
    simp only [forStep, g0]
    unfold m__law_are_bounds_right_b1
    rw [seq_nx w1, w2]
end K77

end
section
set_option maxHeartbeats 4000000
namespace K77
open PySem PySem.Spec L2 DL
/-- a bound that the drawn clocks keep -/
def fitsE (n : Nat) (sh : List Int) (e : BF.E) : Prop := e.1 < n ∧ e.2.1 < n ∧ ∃ x y : Int, sh[e.1]? = some x ∧ sh[e.2.1]? = some y ∧ y - x ≤ e.2.2 ∧ e.2.2 ≤ y - x + 4
theorem l_bnds {k a b c : Int} {n : Nat} {sh : List Int} (h : PO k a b c) (hk : k < 700000000000000) (hn0 : 0 < n) (hn : n ≤ 100) (hsl : sh.length = n) (hsv : ∀ v ∈ sh, 0 ≤ v ∧ v < 999) :
    ∃ (a' b' c' : Int) (es : List BF.E) (t4 t5 t6 : Sl), PO (k + 100) a' b' c' ∧ es.length ≤ 15 ∧ (∀ e ∈ es, fitsE n sh e) ∧
    m__law_are_bounds_right_s5 (RB (pt a b c) (.sh (.int n)) (.ow 1 (.list [])) (.sh (.list (iL sh))) .no .no .no .no .no .no .no .no .no .no .no .no .no .no) = some (.nx, RB (pt a' b' c') (.sh (.int n)) (.ow 1 (.list (es.map eE))) (.sh (.list (iL sh))) t4 t5 t6 .no .no .no .no .no .no .no .no .no .no .no) := by
  obtain ⟨r, a1, b1, c1, e1, p1, q1, h1⟩ := l_take 16 h (by omega) (by decide) (by decide)
  obtain ⟨m, rfl⟩ : ∃ m : Nat, r = (m : Int) := ⟨r.toNat, by omega⟩
  have h1' : PO (k + 1 + 3 * ((0 : Nat) : Int)) a1 b1 c1 := by
    have : k + 1 + 3 * ((0 : Nat) : Int) = k + 1 := by omega
    rw [this]; exact h1
  obtain ⟨ρ', hf, hI⟩ := for_inv (g := m__law_are_bounds_right_g1) (f := m__law_are_bounds_right_b1) (fun i ρ => i ≤ m → ∃ (a b c : Int) (es : List BF.E) (t4 t5 t6 : Sl), PO (k + 1 + 3 * i) a b c ∧ es.length = i ∧ (∀ e ∈ es, fitsE n sh e) ∧ ρ = RB (pt a b c) (.sh (.int n)) (.ow 1 (.list (es.map eE))) (.sh (.list (iL sh))) t4 t5 t6 .no .no .no .no .no .no .no .no .no .no .no) (rangeD 0 m) 0 (RB (pt a1 b1 c1) (.sh (.int n)) (.ow 1 (.list (([] : List BF.E).map eE))) (.sh (.list (iL sh))) .no .no .no .no .no .no .no .no .no .no .no .no .no .no)
    (fun _ => ⟨a1, b1, c1, [], _, _, _, h1', rfl, fun x hx => (nomatch hx), rfl⟩) fun i ρ v hI _ hv => by
    have hi : i < m := by
      have := (List.getElem?_eq_some_iff.mp hv).1
      simp [rangeD] at this
      omega
    obtain ⟨a, b, c, es, t4, t5, t6, hp, g1, g2, rfl⟩ := hI (by omega)
    obtain ⟨a', b', c', e, u4, u5, u6, o1, o2, o3, o4, o5⟩ := step_bound (v := v) (s4 := t4) (s5 := t5) (s6 := t6) (es := es) hp (by omega) hn0 hn hsl hsv (by omega)
    refine ⟨_, o5, fun _ => ⟨a', b', c', es ++ [e], u4, u5, u6, ?_, by simp [g1], fun y hy => ?_, rfl⟩⟩
    · have : k + 1 + 3 * ((i + 1 : Nat) : Int) = k + 1 + 3 * (i : Int) + 3 := by omega
      rw [this]; exact o1
    · rcases List.mem_append.mp hy with hy | hy
      · exact g2 y hy
      · rw [List.mem_singleton.mp hy]; exact ⟨o2, o3, o4⟩
  have hz : 0 + (rangeD 0 m).length = m := by simp [rangeD]
  rw [hz] at hI
  obtain ⟨a4, b4, c4, es, t4, t5, t6, hp, g1, g2, rfl⟩ := hI (Nat.le_refl _)
  refine ⟨a4, b4, c4, es, t4, t5, t6, ?_, by omega, g2, ?_⟩
  · obtain ⟨z1, z2, z3, z4, z5⟩ := hp
    exact ⟨z1, z2, z3, z4, by omega⟩
  · have kr : ∀ x, κR1 [(.int (m : Nat), x)] = some (rangeD 0 m) := fun x => kR1 (by unfold LIM; omega)
    simp only [List.map_nil, RB] at hf ⊢
    simp [m__law_are_bounds_right_s5, fForS, iA, faCons, faNil, fCallX, fxName, fxVal, fSh, fC, fxNil, afterX, dupL, slotsOf, aSls, aSl, e1, backs, kr, hf, Md.b]
/-- the drawn clocks as a function -/
def dS (sh : List Int) : Nat → Int := fun v => sh.getD v 0
theorem fits_feas {n : Nat} {sh : List Int} {es : List BF.E} (h : ∀ e ∈ es, fitsE n sh e) : ∀ e ∈ es, dS sh e.2.1 ≤ dS sh e.1 + e.2.2 := fun e he => by
  obtain ⟨_, _, x, y, hx, hy, h1, _⟩ := h e he
  have e1 : dS sh e.1 = x := by simp [dS, List.getD_eq_getElem?_getD, hx]
  have e2 : dS sh e.2.1 = y := by simp [dS, List.getD_eq_getElem?_getD, hy]
  rw [e1, e2]
  omega
theorem fits_valid {n : Nat} {sh : List Int} {es : List BF.E} (h : ∀ e ∈ es, fitsE n sh e) : BF.valid es n := fun e he => ⟨(h e he).1, (h e he).2.1⟩
theorem fits_w {n : Nat} {sh : List Int} {es : List BF.E} (hsv : ∀ v ∈ sh, 0 ≤ v ∧ v < 999) (h : ∀ e ∈ es, fitsE n sh e) : ∀ e ∈ es, -2000 ≤ e.2.2 ∧ e.2.2 ≤ 2000 := fun e he => by
  obtain ⟨_, _, x, y, hx, hy, h1, h2⟩ := h e he
  have := hsv x (List.mem_of_getElem? hx)
  have := hsv y (List.mem_of_getElem? hy)
  omega
theorem dR_dS {n : Nat} {sh : List Int} (h : sh.length = n) : dR n (dS sh) = iL sh := by
  subst h
  apply List.ext_getElem (by simp [dR, iL])
  intro i h1 h2
  simp [dR, iL, dS, List.getD_eq_getElem?_getD]
  have : i < sh.length := by simpa [dR] using h1
  simp [this]
end K77

end
section
set_option maxHeartbeats 4000000
namespace K77
open PySem PySem.Spec L2 DL
theorem clocks_when {n : Nat} {es : List BF.E} {d : Nat → Int} (h1 : 1 ≤ n) (h2 : n ≤ 30) (hl : es.length ≤ 200) (hw : okW es) (hv : BF.valid es n) (hf : ∀ e ∈ es, d e.2.1 ≤ d e.1 + e.2.2) {Wm : Int} (hW : 0 ≤ Wm) (hw2 : ∀ e ∈ es, -Wm ≤ e.2.2) : ∃ d', F_clocks_for [.sh (.int n), .sh (eB es)] = some (.tuple [.str "clocks", .tuple (dR n d')], .S, [.sh (.int n), .sh (eB es)]) ∧ (∀ e ∈ es, d' e.2.1 ≤ d' e.1 + e.2.2) ∧ ∀ v, -((n : Int) * (es.length * Wm)) ≤ d' v ∧ d' v ≤ 0 := by
  obtain ⟨r, e, hr⟩ := l_clocks_for h1 h2 hl hw hv hW hw2
  obtain ⟨d', hd, h3, h4⟩ := hr.resolve_right fun h => noRing hf h
  exact ⟨d', by rw [← hd]; exact e, h3, h4⟩
theorem step_pair {n : Nat} {es : List BF.E} {d : Nat → Int} {s0 s2 s3 s4 s5 s6 s7 s8 s9 s10 s11 s12 s13 s14 s15 s16 s17 : Sl} (h1 : 1 ≤ n) (h2 : n ≤ 30) (hl : es.length ≤ 200) (hw : okW es) (hv : BF.valid es n) (hf : ∀ e ∈ es, d e.2.1 ≤ d e.1 + e.2.2) (hd : ∀ v, v < n → -200000000000000 ≤ d v ∧ d v ≤ 200000000000000) :
    forStep m__law_are_bounds_right_g2 m__law_are_bounds_right_b2 (.tuple [eB es, .tuple (dR n d)]) (RB s0 (.sh (.int n)) s2 s3 s4 s5 s6 s7 s8 s9 s10 s11 s12 s13 s14 s15 s16 s17) = some (.nx, RB s0 (.sh (.int n)) s2 s3 s4 s5 s6 s7 s8 s9 s10 s11 (.sh (eB es)) (.sh (.tuple (dR n d))) s14 s15 s16 s17) := by
  have hs := l_shows h1 h2 hl hw hv hd
  have hall : (es.all fun e => decide (d e.2.1 - d e.1 ≤ e.2.2)) = true := by
    rw [List.all_eq_true]
    intro e he
    have := hf e he
    exact decide_eq_true (by omega)
  rw [hall] at hs
  obtain ⟨d', hc, _⟩ := clocks_when h1 h2 hl hw hv hf (Wm := 1000000000000) (by decide) fun e he => (hw e he).1
  have hn : pNe [.str ("clocks" : Str), .str "clocks"] = some (.bool false) := by simp [pNe, pEqv, scalD, PyData.eqv]
  simp [forStep, m__law_are_bounds_right_g2, m__law_are_bounds_right_b2, RB, gT, gsCons, gS, gsNil, Md.b, fIf, fOr, fT, f2, fN, faCons, faNil, fVar, fSh, fC, φTup, LIM, φCall, hs, hc, fI, isN, fIx, at0, hn, fNop]
end K77

end
section
set_option maxHeartbeats 4000000
namespace K77
open PySem PySem.Spec L2 DL
/-! ### turned, told the other way about -/
theorem l_bc3 {n : Nat} {d : Nat → Int} {on : Int} {w : PyData} {s0 s1 s2 s3 s4 s6 s9 s10 s11 s12 s13 s14 s15 s16 s17 s5 : Sl} (hn : n ≤ 100) : m__law_are_bounds_right_c3 (RB s0 s1 s2 s3 s4 s5 s6 (.sh (.tuple [w, .tuple (dR n d)])) (.sh (.int on)) s9 s10 s11 s12 s13 s14 s15 s16 s17) = some (.list (dR n fun v => d v + on), .F 1, RB s0 s1 s2 s3 s4 .no s6 (.sh (.tuple [w, .tuple (dR n d)])) (.sh (.int on)) s9 s10 s11 s12 s13 s14 s15 s16 s17) := by
  have hit : iSeq (fSh (f2 true (fVar 7) (fC (.int 1)) fIx)) (RB s0 s1 s2 s3 s4 s5 s6 (.sh (.tuple [w, .tuple (dR n d)])) (.sh (.int on)) s9 s10 s11 s12 s13 s14 s15 s16 s17) = some ((List.range n).map fun v => PyData.int (d v), RB s0 s1 s2 s3 s4 s5 s6 (.sh (.tuple [w, .tuple (dR n d)])) (.sh (.int on)) s9 s10 s11 s12 s13 s14 s15 s16 s17) := by
    simp [iSeq, fSh, f2, fN, faCons, faNil, fVar, RB, fC, fIx, at1, Md.b]
    rfl
  exact comp_run hit (len_ok (by simp; omega)) rfl rfl (lc_map (fun v => PyData.int (d v)) _ (List.range n) fun v _ => by
    simp [lcStep, m__law_are_bounds_right_e3, RB, gS, ftYes, fSh, f2, fN, faCons, faNil, fVar, φAdd, Md.b, wipeR])
theorem l_bc5 {n : Nat} {d : Nat → Int} {w : PyData} {s0 s1 s2 s3 s4 s6 s8 s9 s10 s11 s12 s13 s14 s15 s16 s17 s5 : Sl} (hn : n ≤ 100) : m__law_are_bounds_right_c5 (RB s0 s1 s2 s3 s4 s5 s6 (.sh (.tuple [w, .tuple (dR n d)])) s8 s9 s10 s11 s12 s13 s14 s15 s16 s17) = some (.list (dR n fun v => -d v), .F 1, RB s0 s1 s2 s3 s4 .no s6 (.sh (.tuple [w, .tuple (dR n d)])) s8 s9 s10 s11 s12 s13 s14 s15 s16 s17) := by
  have hit : iSeq (fSh (f2 true (fVar 7) (fC (.int 1)) fIx)) (RB s0 s1 s2 s3 s4 s5 s6 (.sh (.tuple [w, .tuple (dR n d)])) s8 s9 s10 s11 s12 s13 s14 s15 s16 s17) = some ((List.range n).map fun v => PyData.int (d v), RB s0 s1 s2 s3 s4 s5 s6 (.sh (.tuple [w, .tuple (dR n d)])) s8 s9 s10 s11 s12 s13 s14 s15 s16 s17) := by
    simp [iSeq, fSh, f2, fN, faCons, faNil, fVar, RB, fC, fIx, at1, Md.b]
    rfl
  exact comp_run hit (len_ok (by simp; omega)) rfl rfl (lc_map (fun v => PyData.int (d v)) _ (List.range n) fun v _ => by
    simp [lcStep, m__law_are_bounds_right_e5, RB, gS, ftYes, fSh, fU, fN, faCons, faNil, fVar, fI, pNeg, Md.b, wipeR])
def rv (e : BF.E) : BF.E := (e.2.1, e.1, e.2.2)
theorem l_bc4 {es : List BF.E} {s0 s1 s3 s4 s5 s6 s7 s8 s9 s10 s11 s12 s13 s14 s15 s16 s17 : Sl} (hn : es.length ≤ 100) : m__law_are_bounds_right_c4 (RB s0 s1 (.sh (eB es)) s3 s4 s5 s6 s7 s8 s9 s10 s11 s12 s13 s14 s15 s16 s17) = some (.list ((es.map rv).map eE), .F 1, RB s0 s1 (.sh (eB es)) s3 s4 .no .no s7 s8 s9 s10 s11 s12 s13 s14 s15 s16 s17) := by
  rw [List.map_map]
  exact comp_run (ds := es.map eE) rfl (len_ok (by omega)) rfl rfl (lc_map eE _ es fun e _ => by
    simp [lcStep, m__law_are_bounds_right_e4, RB, gT, gsCons, gS, gsNil, eE, ftYes, fSh, fN, faCons, faNil, fVar, φTup, LIM, Md.b, wipeR, rv])
end K77

end
section
set_option maxHeartbeats 4000000
namespace K77
open PySem PySem.Spec L2 DL
/-- the first six statements of _law_are_bounds_right -/
theorem l_bstart {k a b c : Int} (h : PO k a b c) (hk : k < 600000000000000) : ∃ (n : Nat) (sh : List Int) (es : List BF.E) (d : Nat → Int) (a' b' c' : Int) (t4 t5 t6 : Sl), PO (k + 300) a' b' c' ∧ 2 ≤ n ∧ n ≤ 9 ∧ sh.length = n ∧ (∀ v ∈ sh, 0 ≤ v ∧ v < 999) ∧ es.length ≤ 15 ∧ (∀ e ∈ es, fitsE n sh e) ∧ (∀ e ∈ es, d e.2.1 ≤ d e.1 + e.2.2) ∧ (∀ v, -1000000 ≤ d v ∧ d v ≤ 0) ∧
    ∀ rest : FS, fSeq m__law_are_bounds_right_s3 (fSeq m__law_are_bounds_right_s4 (fSeq m__law_are_bounds_right_s5 (fSeq m__law_are_bounds_right_s6 (fSeq (fFrz 2 m__law_are_bounds_right_s7) rest)))) (RB (pt a b c) .no .no .no .no .no .no .no .no .no .no .no .no .no .no .no .no .no) = rest (RB (pt a' b' c') (.sh (.int n)) (.sh (eB es)) (.sh (.list (iL sh))) t4 t5 t6 (.sh (.tuple [.str "clocks", .tuple (dR n d)])) .no .no .no .no .no .no .no .no .no .no) := by
  obtain ⟨r, a1, b1, c1, e1, p1, q1, h1⟩ := l_take 8 h (by omega) (by decide) (by decide)
  obtain ⟨n, hn⟩ : ∃ n : Nat, 2 + r = (n : Int) := ⟨(2 + r).toNat, by omega⟩
  obtain ⟨sh, a2, b2, c2, g1, g2, h2, e2⟩ := l_bc1 (s2 := .ow 1 (.list [])) (s3 := .no) (s4 := .no) (s5 := .no) (s6 := .no) (s7 := .no) (s8 := .no) (s9 := .no) (s10 := .no) (s11 := .no) (s12 := .no) (s13 := .no) (s14 := .no) (s15 := .no) (s16 := .no) (s17 := .no) h1 (by omega) (show n ≤ 100 by omega)
  obtain ⟨a3, b3, c3, es, t4, t5, t6, h3, l1, hf, e3⟩ := l_bnds (n := n) (sh := sh) h2 (by omega) (by omega) (by omega) g1 g2
  have hw := fits_w g2 hf
  obtain ⟨d, ec, hfe, hlow⟩ := clocks_when (n := n) (es := es) (d := dS sh) (by omega) (by omega) (by omega) (fun e he => by have := hw e he; omega) (fits_valid hf) (fits_feas hf) (Wm := 2000) (by decide) fun e he => (hw e he).1
  have ec' : F_clocks_for [.sh (.int n), .sh (.tuple (es.map eE))] = some (.tuple [.str "clocks", .tuple (dR n d)], .S, [.sh (.int n), .sh (.tuple (es.map eE))]) := ec
  refine ⟨n, sh, es, d, a3, b3, c3, t4, t5, t6, ?_, by omega, by omega, g1, g2, l1, hf, hfe, fun v => ?_, fun rest => ?_⟩
  · obtain ⟨z1, z2, z3, z4, z5⟩ := h3
    exact ⟨z1, z2, z3, z4, by omega⟩
  · have := hlow v
    have hb : (n : Int) * (es.length * 2000) ≤ 9 * (15 * 2000) := Int.mul_le_mul (by omega) (by omega) (by omega) (by decide)
    omega
  · have w3 : m__law_are_bounds_right_s3 (RB (pt a b c) .no .no .no .no .no .no .no .no .no .no .no .no .no .no .no .no .no) = some (.nx, RB (pt a1 b1 c1) (.sh (.int n)) (.ow 1 (.list [])) .no .no .no .no .no .no .no .no .no .no .no .no .no .no .no) := by
      simp [m__law_are_bounds_right_s3, RB, fAsgs, f2, fN, faCons, faNil, fC, fCallX, fxName, fxVal, fSh, fxNil, afterX, dupL, slotsOf, aSls, aSl, e1, backs, fI, pInt, φAdd, hn, φLst, LIM, gsCons, gS, gO, gsNil, Md.b]
    have w4 : m__law_are_bounds_right_s4 (RB (pt a1 b1 c1) (.sh (.int n)) (.ow 1 (.list [])) .no .no .no .no .no .no .no .no .no .no .no .no .no .no .no) = some (.nx, RB (pt a2 b2 c2) (.sh (.int n)) (.ow 1 (.list [])) (.sh (.list (iL sh))) .no .no .no .no .no .no .no .no .no .no .no .no .no .no) := by
      simp only [m__law_are_bounds_right_s4, fAsg, e2]
      simp [gS, RB, Md.b]
    have w6 : m__law_are_bounds_right_s6 (RB (pt a3 b3 c3) (.sh (.int n)) (.ow 1 (.list (es.map eE))) (.sh (.list (iL sh))) t4 t5 t6 .no .no .no .no .no .no .no .no .no .no .no) = some (.nx, RB (pt a3 b3 c3) (.sh (.int n)) (.sh (eB es)) (.sh (.list (iL sh))) t4 t5 t6 (.sh (.tuple [.str "clocks", .tuple (dR n d)])) .no .no .no .no .no .no .no .no .no .no) := by
      simp [m__law_are_bounds_right_s6, RB, fAsgs, fN, faCons, faNil, fVar, fSh, φTuple, Md.fl, φCall, ec', gsCons, gS, gsNil, Md.b, eB]
    have w7 : (fFrz 2 m__law_are_bounds_right_s7) (RB (pt a3 b3 c3) (.sh (.int n)) (.sh (eB es)) (.sh (.list (iL sh))) t4 t5 t6 (.sh (.tuple [.str "clocks", .tuple (dR n d)])) .no .no .no .no .no .no .no .no .no .no) = some (.nx, RB (pt a3 b3 c3) (.sh (.int n)) (.sh (eB es)) (.sh (.list (iL sh))) t4 t5 t6 (.sh (.tuple [.str "clocks", .tuple (dR n d)])) .no .no .no .no .no .no .no .no .no .no) := by
      have hn : pNe [.str ("clocks" : Str), .str "clocks"] = some (.bool false) := by simp [pNe, pEqv, scalD, PyData.eqv]
      simp [fFrz, frz, m__law_are_bounds_right_s7, RB, fIf, fT, f2, fN, faCons, faNil, fVar, fC, fIx, at0, fI, hn, Md.b, fNop]
    rw [seq_nx w3, seq_nx w4, seq_nx e3, seq_nx w6, seq_nx w7]
end K77

end
section
set_option maxHeartbeats 4000000
namespace K77
open PySem PySem.Spec L2 DL
/-- statements s8 to s12 -/
theorem l_bmid {k a b c : Int} {n : Nat} {sh : List Int} {es : List BF.E} {d : Nat → Int} {t4 t5 t6 : Sl} (h : PO k a b c) (hk : k < 700000000000000) (hn0 : 2 ≤ n) (hn : n ≤ 9) (hsl : sh.length = n) (hsv : ∀ v ∈ sh, 0 ≤ v ∧ v < 999) (hl : es.length ≤ 15) (hf : ∀ e ∈ es, fitsE n sh e) (hfe : ∀ e ∈ es, d e.2.1 ≤ d e.1 + e.2.2) (hlow : ∀ v, -1000000 ≤ d v ∧ d v ≤ 0) :
    ∃ (a' b' c' : Int) (u4 u8 u9 u10 u11 u12 u13 : Sl), PO (k + 1) a' b' c' ∧ ∀ rest : FS, fSeq m__law_are_bounds_right_s8 (fSeq m__law_are_bounds_right_s9 (fSeq m__law_are_bounds_right_s10 (fSeq m__law_are_bounds_right_s11 (fSeq m__law_are_bounds_right_s12 rest)))) (RB (pt a b c) (.sh (.int n)) (.sh (eB es)) (.sh (.list (iL sh))) t4 t5 t6 (.sh (.tuple [.str "clocks", .tuple (dR n d)])) .no .no .no .no .no .no .no .no .no .no) = rest (RB (pt a' b' c') (.sh (.int n)) (.sh (eB es)) (.sh (.list (iL sh))) u4 .no .no (.sh (.tuple [.str "clocks", .tuple (dR n d)])) u8 u9 u10 u11 u12 u13 .no .no .no .no) := by
  obtain ⟨on, a1, b1, c1, e1, p1, q1, h1⟩ := l_take 1000000 h (by omega) (by decide) (by decide)
  have hw := fits_w hsv hf
  have hwk : okW es := fun e he => by have := hw e he; omega
  have hv := fits_valid hf
  have w8 : m__law_are_bounds_right_s8 (RB (pt a b c) (.sh (.int n)) (.sh (eB es)) (.sh (.list (iL sh))) t4 t5 t6 (.sh (.tuple [.str "clocks", .tuple (dR n d)])) .no .no .no .no .no .no .no .no .no .no) = some (.nx, RB (pt a1 b1 c1) (.sh (.int n)) (.sh (eB es)) (.sh (.list (iL sh))) t4 t5 t6 (.sh (.tuple [.str "clocks", .tuple (dR n d)])) (.sh (.int on)) .no .no .no .no .no .no .no .no .no) := by
    simp [m__law_are_bounds_right_s8, RB, fAsg, fN, faCons, faNil, fCallX, fxName, fxVal, fSh, f2, fC, fI, ii, pw6, fxNil, afterX, dupL, slotsOf, aSls, aSl, e1, backs, pInt, gS, Md.b]
  have w9 : m__law_are_bounds_right_s9 (RB (pt a1 b1 c1) (.sh (.int n)) (.sh (eB es)) (.sh (.list (iL sh))) t4 t5 t6 (.sh (.tuple [.str "clocks", .tuple (dR n d)])) (.sh (.int on)) .no .no .no .no .no .no .no .no .no) = some (.nx, RB (pt a1 b1 c1) (.sh (.int n)) (.sh (eB es)) (.sh (.list (iL sh))) t4 .no t6 (.sh (.tuple [.str "clocks", .tuple (dR n d)])) (.sh (.int on)) (.sh (.tuple (dR n fun v => d v + on))) .no .no .no .no .no .no .no .no) := by
    have hc := l_bc3 (n := n) (d := d) (on := on) (w := .str "clocks") (s0 := pt a1 b1 c1) (s1 := .sh (.int n)) (s2 := .sh (eB es)) (s3 := .sh (.list (iL sh))) (s4 := t4) (s5 := t5) (s6 := t6) (s9 := .no) (s10 := .no) (s11 := .no) (s12 := .no) (s13 := .no) (s14 := .no) (s15 := .no) (s16 := .no) (s17 := .no) (by omega)
    simp only [m__law_are_bounds_right_s9, fAsg, fN, faCons, faNil, hc]
    simp [φTuple, Md.fl, Md.b, gS, RB]
  have w10 : m__law_are_bounds_right_s10 (RB (pt a1 b1 c1) (.sh (.int n)) (.sh (eB es)) (.sh (.list (iL sh))) t4 .no t6 (.sh (.tuple [.str "clocks", .tuple (dR n d)])) (.sh (.int on)) (.sh (.tuple (dR n fun v => d v + on))) .no .no .no .no .no .no .no .no) = some (.nx, RB (pt a1 b1 c1) (.sh (.int n)) (.sh (eB es)) (.sh (.list (iL sh))) t4 .no .no (.sh (.tuple [.str "clocks", .tuple (dR n d)])) (.sh (.int on)) (.sh (.tuple (dR n fun v => d v + on))) (.sh (eB (es.map rv))) .no .no .no .no .no .no .no) := by
    have hc := l_bc4 (es := es) (s0 := pt a1 b1 c1) (s1 := .sh (.int n)) (s3 := .sh (.list (iL sh))) (s4 := t4) (s5 := .no) (s6 := t6) (s7 := .sh (.tuple [.str "clocks", .tuple (dR n d)])) (s8 := .sh (.int on)) (s9 := .sh (.tuple (dR n fun v => d v + on))) (s10 := .no) (s11 := .no) (s12 := .no) (s13 := .no) (s14 := .no) (s15 := .no) (s16 := .no) (s17 := .no) (by omega)
    simp only [m__law_are_bounds_right_s10, fAsg, fN, faCons, faNil, hc]
    simp [φTuple, Md.fl, Md.b, gS, RB, eB]
  have w11 : m__law_are_bounds_right_s11 (RB (pt a1 b1 c1) (.sh (.int n)) (.sh (eB es)) (.sh (.list (iL sh))) t4 .no .no (.sh (.tuple [.str "clocks", .tuple (dR n d)])) (.sh (.int on)) (.sh (.tuple (dR n fun v => d v + on))) (.sh (eB (es.map rv))) .no .no .no .no .no .no .no) = some (.nx, RB (pt a1 b1 c1) (.sh (.int n)) (.sh (eB es)) (.sh (.list (iL sh))) t4 .no .no (.sh (.tuple [.str "clocks", .tuple (dR n d)])) (.sh (.int on)) (.sh (.tuple (dR n fun v => d v + on))) (.sh (eB (es.map rv))) (.sh (.tuple (dR n fun v => -d v))) .no .no .no .no .no .no) := by
    have hc := l_bc5 (n := n) (d := d) (w := .str "clocks") (s0 := pt a1 b1 c1) (s1 := .sh (.int n)) (s2 := .sh (eB es)) (s3 := .sh (.list (iL sh))) (s4 := t4) (s5 := .no) (s6 := .no) (s8 := .sh (.int on)) (s9 := .sh (.tuple (dR n fun v => d v + on))) (s10 := .sh (eB (es.map rv))) (s11 := .no) (s12 := .no) (s13 := .no) (s14 := .no) (s15 := .no) (s16 := .no) (s17 := .no) (by omega)
    simp only [m__law_are_bounds_right_s11, fAsg, fN, faCons, faNil, hc]
    simp [φTuple, Md.fl, Md.b, gS, RB]
  have hcut : cutD (es.map eE) (some 1) none = (es.drop 1).map eE := by
    have g1 : HT.sIx (es.map eE).length 0 (some 1) = min 1 es.length := by
      have := HT.sIx_nat (es.map eE).length 0 1
      simpa using this
    have g2 : HT.sIx (es.map eE).length (es.map eE).length none = es.length := by simp [HT.sIx_none]
    simp only [cutD, g1, g2]
    have e1 : (es.map eE).drop (min 1 es.length) = (es.drop 1).map eE := by
      rw [List.map_drop]
      cases es <;> simp
    rw [e1]
    exact List.take_of_length_le (by simp; omega)
  have wit : iSeq (fSh (fN (faCons true (fN (faCons true (fVar 2) (faCons true (fVar 9) faNil)) φTup) (faCons true (fN (faCons true (fVar 10) (faCons true (fVar 11) faNil)) φTup) (faCons true (fN (faCons true (fSl (fVar 2) (foS (fC (.int 1))) foN) (faCons true (f2 true (fVar 7) (fC (.int 1)) fIx) faNil)) φTup) (faCons true (fN (faCons true (fVar 2) (faCons true (fN (faCons true (fVar 3) faNil) φTuple) faNil)) φTup) faNil)))) φTup)) (RB (pt a1 b1 c1) (.sh (.int n)) (.sh (eB es)) (.sh (.list (iL sh))) t4 .no .no (.sh (.tuple [.str "clocks", .tuple (dR n d)])) (.sh (.int on)) (.sh (.tuple (dR n fun v => d v + on))) (.sh (eB (es.map rv))) (.sh (.tuple (dR n fun v => -d v))) .no .no .no .no .no .no) = some ([.tuple [eB es, .tuple (dR n fun v => d v + on)], .tuple [eB (es.map rv), .tuple (dR n fun v => -d v)], .tuple [eB (es.drop 1), .tuple (dR n d)], .tuple [eB es, .tuple (dR n (dS sh))]], RB (pt a1 b1 c1) (.sh (.int n)) (.sh (eB es)) (.sh (.list (iL sh))) t4 .no .no (.sh (.tuple [.str "clocks", .tuple (dR n d)])) (.sh (.int on)) (.sh (.tuple (dR n fun v => d v + on))) (.sh (eB (es.map rv))) (.sh (.tuple (dR n fun v => -d v))) .no .no .no .no .no .no) := by
    rw [dR_dS hsl]
    simp [iSeq, fSh, fN, faCons, faNil, fVar, RB, φTup, LIM, Md.b, fSl, foS, foN, fC, eB, hcut, f2, fIx, at1, φTuple, Md.fl]
  have sA := fun s12 s13 : Sl => step_pair (n := n) (es := es) (d := fun v => d v + on) (s0 := pt a1 b1 c1) (s2 := .sh (eB es)) (s3 := .sh (.list (iL sh))) (s4 := t4) (s5 := .no) (s6 := .no) (s7 := .sh (.tuple [.str "clocks", .tuple (dR n d)])) (s8 := .sh (.int on)) (s9 := .sh (.tuple (dR n fun v => d v + on))) (s10 := .sh (eB (es.map rv))) (s11 := .sh (.tuple (dR n fun v => -d v))) (s12 := s12) (s13 := s13) (s14 := .no) (s15 := .no) (s16 := .no) (s17 := .no) (by omega) (by omega) (by omega) hwk hv (fun e he => by have := hfe e he; first | omega | (simp only; omega)) (fun v _ => by have := hlow v; first | omega | (simp only; omega))
  have sB := fun s12 s13 : Sl => step_pair (n := n) (es := es.map rv) (d := fun v => -d v) (s0 := pt a1 b1 c1) (s2 := .sh (eB es)) (s3 := .sh (.list (iL sh))) (s4 := t4) (s5 := .no) (s6 := .no) (s7 := .sh (.tuple [.str "clocks", .tuple (dR n d)])) (s8 := .sh (.int on)) (s9 := .sh (.tuple (dR n fun v => d v + on))) (s10 := .sh (eB (es.map rv))) (s11 := .sh (.tuple (dR n fun v => -d v))) (s12 := s12) (s13 := s13) (s14 := .no) (s15 := .no) (s16 := .no) (s17 := .no) (by omega) (by omega) (by simp; omega) (fun e he => by
    obtain ⟨e', he', rfl⟩ := List.mem_map.mp he
    exact hwk e' he') (fun e he => by
    obtain ⟨e', he', rfl⟩ := List.mem_map.mp he
    exact ⟨(hv e' he').2, (hv e' he').1⟩) (fun e he => by
    obtain ⟨e', he', rfl⟩ := List.mem_map.mp he
    have := hfe e' he'
    simp only [rv]; omega) (fun v _ => by have := hlow v; first | omega | (simp only; omega))
  have sC := fun s12 s13 : Sl => step_pair (n := n) (es := es.drop 1) (d := d) (s0 := pt a1 b1 c1) (s2 := .sh (eB es)) (s3 := .sh (.list (iL sh))) (s4 := t4) (s5 := .no) (s6 := .no) (s7 := .sh (.tuple [.str "clocks", .tuple (dR n d)])) (s8 := .sh (.int on)) (s9 := .sh (.tuple (dR n fun v => d v + on))) (s10 := .sh (eB (es.map rv))) (s11 := .sh (.tuple (dR n fun v => -d v))) (s12 := s12) (s13 := s13) (s14 := .no) (s15 := .no) (s16 := .no) (s17 := .no) (by omega) (by omega) (by simp; omega) (fun e he => hwk e (List.mem_of_mem_drop he)) (fun e he => hv e (List.mem_of_mem_drop he)) (fun e he => hfe e (List.mem_of_mem_drop he)) (fun v _ => by have := hlow v; omega)
  have sD := fun s12 s13 : Sl => step_pair (n := n) (es := es) (d := dS sh) (s0 := pt a1 b1 c1) (s2 := .sh (eB es)) (s3 := .sh (.list (iL sh))) (s4 := t4) (s5 := .no) (s6 := .no) (s7 := .sh (.tuple [.str "clocks", .tuple (dR n d)])) (s8 := .sh (.int on)) (s9 := .sh (.tuple (dR n fun v => d v + on))) (s10 := .sh (eB (es.map rv))) (s11 := .sh (.tuple (dR n fun v => -d v))) (s12 := s12) (s13 := s13) (s14 := .no) (s15 := .no) (s16 := .no) (s17 := .no) (by omega) (by omega) (by omega) hwk hv (fits_feas hf) (fun v hvn => by
    have h9 : sh[v]? = some sh[v] := List.getElem?_eq_getElem (by omega)
    have := hsv sh[v] (List.getElem_mem _)
    have e9 : dS sh v = sh[v] := by simp [dS, List.getD_eq_getElem?_getD, h9]
    rw [e9]; omega)
  refine ⟨a1, b1, c1, t4, .sh (.int on), .sh (.tuple (dR n fun v => d v + on)), .sh (eB (es.map rv)), .sh (.tuple (dR n fun v => -d v)), .sh (eB es), .sh (.tuple (dR n (dS sh))), h1, fun rest => ?_⟩
  rw [seq_nx w8, seq_nx w9, seq_nx w10, seq_nx w11]
  refine seq_nx ?_
  simp only [m__law_are_bounds_right_s12, fForS, wit, for_cons, sA, sB, sC, sD]
  rfl
end K77

end
section
set_option maxHeartbeats 4000000
namespace K77
open PySem PySem.Spec L2 DL
theorem rg_nL {n : Nat} : rangeD 0 n = nL (List.range n) := by simp [rangeD, nL]
theorem l_s13 {k a b c : Int} {n : Nat} {s2 s3 s4 s5 s6 s7 s8 s9 s10 s11 s12 s13 s14 s15 s16 s17 : Sl} (h : PO k a b c) (hk : k < 700000000000000) (hn : n ≤ 100) : ∃ (l : List Nat) (a' b' c' : Int), l.length = n ∧ (∀ x ∈ l, x < n) ∧ PO (k + n) a' b' c' ∧ m__law_are_bounds_right_s13 (RB (pt a b c) (.sh (.int n)) s2 s3 s4 s5 s6 s7 s8 s9 s10 s11 s12 s13 s14 s15 s16 s17) = some (.nx, RB (pt a' b' c') (.sh (.int n)) s2 s3 s4 s5 s6 s7 s8 s9 s10 s11 s12 s13 (.sh (.list (nL l))) s15 s16 s17) := by
  obtain ⟨l, a', b', c', g1, g2, hp, e⟩ := l_some h (by omega) hn
  refine ⟨l, a', b', c', g1, g2, hp, ?_⟩
  have hr : ∀ m : Md, φRg1 [(.int (n : Int), m)] = some (.list (nL (List.range n)), .F 1) := fun m => by
    have : okR 0 (n : Int) = true := by
      unfold okR inR
      rw [Bool.and_eq_true, Bool.and_eq_true]
      exact ⟨⟨by decide, decide_eq_true (by omega)⟩, decide_eq_true (by omega)⟩
    simp only [φRg1, this, if_true, Int.toNat_natCast, rg_nL]
  have hit : iSeq (fSh (fCallX (fxName 0 (fxVal (fSh (fU (fVar 1) φRg1)) (fxName 1 fxNil))) F__law_some)) (RB (pt a b c) (.sh (.int n)) s2 s3 s4 s5 s6 s7 s8 s9 s10 s11 s12 s13 s14 s15 s16 s17) = some (nL l, RB (pt a' b' c') (.sh (.int n)) s2 s3 s4 s5 s6 s7 s8 s9 s10 s11 s12 s13 s14 s15 s16 s17) := by
    simp [iSeq, fSh, fCallX, fxName, fxVal, fU, fN, faCons, faNil, fVar, RB, hr, fxNil, afterX, dupL, slotsOf, aSls, aSl, e, backs, Md.b]
  have hc : m__law_are_bounds_right_c6 (RB (pt a b c) (.sh (.int n)) s2 s3 s4 s5 s6 s7 s8 s9 s10 s11 s12 s13 s14 s15 s16 s17) = some (.list (nL l), .F 1, RB (pt a' b' c') (.sh (.int n)) s2 s3 s4 s5 s6 s7 s8 s9 s10 s11 s12 s13 s14 s15 s16 s17) :=
    comp_run hit (len_ok (by omega)) rfl rfl (lc_map (fun i : Nat => PyData.int (i : Nat)) _ l fun x _ => by
      simp [lcStep, m__law_are_bounds_right_e6, RB, gS, ftYes, fSh, fN, faCons, faNil, fVar, fI, pInt, Md.b, wipeR])
  simp only [m__law_are_bounds_right_s13, fAsg, hc]
  simp [gS, RB, Md.b]
end K77

end
section
set_option maxHeartbeats 4000000
namespace K77
open PySem PySem.Spec L2 DL
/-- the ring of a row of clocks: each with the next, the last with the first -/
def nxt (l : List Nat) : List Nat := l.drop 1 ++ l.take 1
def ringE (sh : List Int) (l : List Nat) : List BF.E := (l.zip (nxt l)).map fun p => (p.1, p.2, dS sh p.2 - dS sh p.1)
theorem zip_nL : ∀ (l k : List Nat), zipD (nL l) (nL k) = (l.zip k).map fun p => PyData.tuple [.int (p.1 : Nat), .int (p.2 : Nat)]
  | [], _ => rfl
  | _ :: _, [] => rfl
  | x :: l, y :: k => by
    have := zip_nL l k
    simp only [nL, List.map_cons, zipD, List.zip_cons_cons] at this ⊢
    rw [this]
theorem sum_zip (f : Nat → Int) : ∀ (l k : List Nat), l.length = k.length → ((l.zip k).map fun p => f p.2 - f p.1).sum = (k.map f).sum - (l.map f).sum
  | [], [], _ => by simp
  | x :: l, y :: k, h => by
    have := sum_zip f l k (by simpa using h)
    simp only [List.zip_cons_cons, List.map_cons, List.sum_cons, this]
    omega
theorem nxt_sum (f : Nat → Int) (l : List Nat) : ((nxt l).map f).sum = (l.map f).sum := by
  cases l with
  | nil => rfl
  | cons x r =>
    simp [nxt, List.sum_append]
    omega
theorem nxt_len (l : List Nat) : (nxt l).length = l.length := by cases l <;> simp [nxt]
theorem ring_sum (sh : List Int) (l : List Nat) : ((ringE sh l).map fun e => e.2.2).sum = 0 := by
  have := sum_zip (dS sh) l (nxt l) (nxt_len l).symm
  rw [nxt_sum] at this
  simp only [ringE, List.map_map]
  have e : ((fun e : BF.E => e.2.2) ∘ fun p : Nat × Nat => (p.1, p.2, dS sh p.2 - dS sh p.1)) = fun p => dS sh p.2 - dS sh p.1 := rfl
  rw [e, this]
  omega
end K77

end
section
set_option maxHeartbeats 4000000
namespace K77
open PySem PySem.Spec L2 DL
theorem l_ring_loop {n : Nat} {sh : List Int} {s0 s1 s2 s4 s7 s8 s9 s10 s11 s12 s13 s14 : Sl} (hsl : sh.length = n) : ∀ (ps : List (Nat × Nat)) (es : List BF.E) (s5 s6 : Sl), (∀ p ∈ ps, p.1 < n ∧ p.2 < n) → es.length + ps.length ≤ 1000 → ∃ t5 t6 : Sl, fFor m__law_are_bounds_right_g3 m__law_are_bounds_right_b3 (ps.map fun p => PyData.tuple [.int (p.1 : Nat), .int (p.2 : Nat)]) (RB s0 s1 s2 (.sh (.list (iL sh))) s4 s5 s6 s7 s8 s9 s10 s11 s12 s13 s14 (.ow 1 (.list (es.map eE))) .no .no) = some (.nx, RB s0 s1 s2 (.sh (.list (iL sh))) s4 t5 t6 s7 s8 s9 s10 s11 s12 s13 s14 (.ow 1 (.list ((es ++ ps.map fun p => (p.1, p.2, dS sh p.2 - dS sh p.1)).map eE))) .no .no)
  | [], es, s5, s6, _, _ => ⟨s5, s6, by simp [fFor]⟩
  | p :: ps, es, s5, s6, h, hl => by
    obtain ⟨p1, p2⟩ := h p List.mem_cons_self
    rw [List.length_cons] at hl
    obtain ⟨t5, t6, e⟩ := l_ring_loop hsl ps (es ++ [(p.1, p.2, dS sh p.2 - dS sh p.1)]) (.sh (.int p.1)) (.sh (.int p.2)) (fun q hq => h q (List.mem_cons_of_mem _ hq)) (by simp; omega)
    refine ⟨t5, t6, ?_⟩
    have a1 := dR_at (n := n) (d := dS sh) p1
    have a2 := dR_at (n := n) (d := dS sh) p2
    rw [dR_dS hsl] at a1 a2
    have hlen : ¬ 10000000 ≤ es.length := by omega
    have hs : forStep m__law_are_bounds_right_g3 m__law_are_bounds_right_b3 (.tuple [.int (p.1 : Nat), .int (p.2 : Nat)]) (RB s0 s1 s2 (.sh (.list (iL sh))) s4 s5 s6 s7 s8 s9 s10 s11 s12 s13 s14 (.ow 1 (.list (es.map eE))) .no .no) = some (.nx, RB s0 s1 s2 (.sh (.list (iL sh))) s4 (.sh (.int p.1)) (.sh (.int p.2)) s7 s8 s9 s10 s11 s12 s13 s14 (.ow 1 (.list ((es ++ [((p.1, p.2, dS sh p.2 - dS sh p.1) : BF.E)]).map eE))) .no .no) := by
      simp [forStep, m__law_are_bounds_right_g3, m__law_are_bounds_right_b3, RB, gT, gsCons, gS, gsNil, Md.b, fExpr, fCallX, fxOwn, fxVal, fSh, f2, fN, faCons, faNil, fVar, fIx, a1, a2, fI, ii, DL.gSub, φTup, LIM, fxNil, afterX, dupL, slotsOf, aSls, aSl, gApp, hlen, gGiv, backs, eE]
    rw [List.map_cons, for_cons, hs]
    simp only
    rw [e, List.map_cons, List.append_assoc]
    rfl
end K77

end
section
set_option maxHeartbeats 4000000
namespace K77
open PySem PySem.Spec L2 DL
theorem cut_tail {ds : List PyData} : cutD ds (some 1) none = ds.drop 1 := by
  have g1 : HT.sIx ds.length 0 (some 1) = min 1 ds.length := by
    have := HT.sIx_nat ds.length 0 1
    simpa using this
  have g2 : HT.sIx ds.length ds.length none = ds.length := rfl
  have e1 : ds.drop (min 1 ds.length) = ds.drop 1 := by cases ds <;> simp
  simp only [cutD, g1, g2, e1]
  exact List.take_of_length_le (by simp; omega)
theorem cut_head {ds : List PyData} : cutD ds none (some 1) = ds.take 1 := by
  have g1 : HT.sIx ds.length ds.length (some 1) = min 1 ds.length := by
    have := HT.sIx_nat ds.length ds.length 1
    simpa using this
  have g2 : HT.sIx ds.length 0 none = 0 := rfl
  simp only [cutD, g1, g2]
  cases ds <;> simp
end K77
namespace K77
open PySem PySem.Spec L2 DL
theorem l_s15 {n : Nat} {sh : List Int} {l : List Nat} {s0 s1 s2 s4 s5 s6 s7 s8 s9 s10 s11 s12 s13 : Sl} (hsl : sh.length = n) (hl : l.length ≤ 100) (hx : ∀ x ∈ l, x < n) : ∃ t5 t6 : Sl, m__law_are_bounds_right_s15 (RB s0 s1 s2 (.sh (.list (iL sh))) s4 s5 s6 s7 s8 s9 s10 s11 s12 s13 (.sh (.list (nL l))) (.ow 1 (.list [])) .no .no) = some (.nx, RB s0 s1 s2 (.sh (.list (iL sh))) s4 t5 t6 s7 s8 s9 s10 s11 s12 s13 (.sh (.list (nL l))) (.ow 1 (.list ((ringE sh l).map eE))) .no .no) := by
  obtain ⟨t5, t6, e⟩ := l_ring_loop (n := n) (sh := sh) (s0 := s0) (s1 := s1) (s2 := s2) (s4 := s4) (s7 := s7) (s8 := s8) (s9 := s9) (s10 := s10) (s11 := s11) (s12 := s12) (s13 := s13) (s14 := .sh (.list (nL l))) hsl (l.zip (nxt l)) [] s5 s6 (fun p hp => by
    have h1 := List.of_mem_zip (a := p.1) (b := p.2) hp
    refine ⟨hx _ h1.1, hx _ ?_⟩
    rcases List.mem_append.mp h1.2 with h | h
    · exact List.mem_of_mem_drop h
    · exact List.mem_of_mem_take h) (by simp [nxt_len]; omega)
  refine ⟨t5, t6, ?_⟩
  have hadd : φAdd [(.list ((nL l).drop 1), .F 1), (.list ((nL l).take 1), .F 1)] = some (.list (nL (nxt l)), .F 1) := by
    have h1 : ((nL l).drop 1).length + ((nL l).take 1).length ≤ 10000000 := by simp [nL]; omega
    have h2 : (nL l).drop 1 ++ (nL l).take 1 = nL (nxt l) := by simp [nL, nxt, List.map_drop, List.map_take]
    simp only [φAdd, Md.fl, LIM, h2]
    rw [if_pos (by simpa using h1)]
  have hit : iA (faCons true (fSh (fVar 14)) (faCons true (fSh (f2 true (fSl (fVar 14) (foS (fC (.int 1))) foN) (fSl (fVar 14) foN (foS (fC (.int 1)))) φAdd)) faNil)) κZip (RB s0 s1 s2 (.sh (.list (iL sh))) s4 s5 s6 s7 s8 s9 s10 s11 s12 s13 (.sh (.list (nL l))) (.ow 1 (.list [])) .no .no) = some ((l.zip (nxt l)).map fun p => PyData.tuple [.int (p.1 : Nat), .int (p.2 : Nat)], RB s0 s1 s2 (.sh (.list (iL sh))) s4 s5 s6 s7 s8 s9 s10 s11 s12 s13 (.sh (.list (nL l))) (.ow 1 (.list [])) .no .no) := by
    rw [← zip_nL]
    simp [iA, faCons, faNil, fSh, fVar, RB, f2, fN, fSl, foS, foN, fC, Md.fl, cut_tail, cut_head, hadd, κZip, Md.b, -List.drop_one]
  simp only [m__law_are_bounds_right_s15, fForS, hit]
  exact e
end K77

end
section
set_option maxHeartbeats 4000000
namespace K77
open PySem PySem.Spec L2 DL
theorem ring_fits {n : Nat} {sh : List Int} {l : List Nat} (hsl : sh.length = n) (hx : ∀ x ∈ l, x < n) : ∀ e ∈ ringE sh l, fitsE n sh e := fun e he => by
  obtain ⟨p, hp, rfl⟩ := List.mem_map.mp he
  have h1 := List.of_mem_zip (a := p.1) (b := p.2) hp
  have k1 := hx _ h1.1
  have k2 : p.2 < n := hx _ (by
    rcases List.mem_append.mp h1.2 with h | h
    · exact List.mem_of_mem_drop h
    · exact List.mem_of_mem_take h)
  have g1 : sh[p.1]? = some sh[p.1] := List.getElem?_eq_getElem (by omega)
  have g2 : sh[p.2]? = some sh[p.2] := List.getElem?_eq_getElem (by omega)
  have e1 : dS sh p.1 = sh[p.1] := by simp [dS, List.getD_eq_getElem?_getD, g1]
  have e2 : dS sh p.2 = sh[p.2] := by simp [dS, List.getD_eq_getElem?_getD, g2]
  exact ⟨k1, k2, _, _, g1, g2, by simp only [e1, e2]; omega, by simp only [e1, e2]; omega⟩
end K77

end
section
set_option maxHeartbeats 4000000
namespace K77
open PySem PySem.Spec L2 DL
theorem l_s16 {n : Nat} {sh : List Int} {es rs : List BF.E} {s0 s3 s4 s5 s6 s7 s8 s9 s10 s11 s12 s13 s14 : Sl} (hn0 : 2 ≤ n) (hn : n ≤ 9) (hsv : ∀ v ∈ sh, 0 ≤ v ∧ v < 999) (hl : es.length + rs.length ≤ 100) (hf : ∀ e ∈ es ++ rs, fitsE n sh e) : m__law_are_bounds_right_s16 (RB s0 (.sh (.int n)) (.sh (eB es)) s3 s4 s5 s6 s7 s8 s9 s10 s11 s12 s13 s14 (.ow 1 (.list (rs.map eE))) .no .no) = some (.nx, RB s0 (.sh (.int n)) (.sh (eB es)) s3 s4 s5 s6 s7 s8 s9 s10 s11 s12 s13 s14 (.ow 1 (.list (rs.map eE))) .no .no) := by
  have hw := fits_w hsv hf
  obtain ⟨d, ec, _⟩ := clocks_when (n := n) (es := es ++ rs) (d := dS sh) (by omega) (by omega) (by simp; omega) (fun e he => by have := hw e he; omega) (fits_valid hf) (fits_feas hf) (Wm := 2000) (by decide) fun e he => (hw e he).1
  have ha : φAdd [(eB es, .S), (.tuple (rs.map eE), .S)] = some (eB (es ++ rs), .S) := by
    have h1 : es.length + rs.length ≤ 10000000 := by omega
    simp [φAdd, eB, LIM, h1]
  have hne : pNe [.str ("clocks" : Str), .str "clocks"] = some (.bool false) := by simp [pNe, pEqv, scalD, PyData.eqv]
  simp [m__law_are_bounds_right_s16, RB, fIf, fT, f2, fN, faCons, faNil, fVar, fSh, φTuple, Md.fl, ha, φCall, ec, fC, fIx, at0, fI, hne, fNop, Md.b]
end K77

end
section
set_option maxHeartbeats 4000000
namespace K77
open PySem PySem.Spec L2 DL
def lessE (e : BF.E) : BF.E := (e.1, e.2.1, e.2.2 - 1)
theorem l_s17 {r0 : BF.E} {rs : List BF.E} {s0 s1 s2 s3 s4 s5 s6 s7 s8 s9 s10 s11 s12 s13 s14 : Sl} : m__law_are_bounds_right_s17 (RB s0 s1 s2 s3 s4 s5 s6 s7 s8 s9 s10 s11 s12 s13 s14 (.ow 1 (.list ((r0 :: rs).map eE))) .no .no) = some (.nx, RB s0 s1 s2 s3 s4 s5 s6 s7 s8 s9 s10 s11 s12 s13 s14 (.ow 1 (.list ((lessE r0 :: rs).map eE))) .no .no) := by
  simp [m__law_are_bounds_right_s17, RB, fAsg, f2, fN, faCons, faNil, fVar, fC, fIx, at0, at1, at2, eE, fI, ii, DL.gSub, φTup, LIM, gSt, afterX, dupL, slotsOf, aSls, aSl, gSetI, ixN0, gGiv, backs, Md.b, lessE]
end K77

end
section
set_option maxHeartbeats 4000000
namespace K77
open PySem PySem.Spec L2 DL
/-- a ring of drawn bounds, one of them less: no clocks keep all -/
theorem no_clocks {n : Nat} {sh : List Int} {es : List BF.E} {r0 : BF.E} {rs : List BF.E} {l : List Nat} {d : Nat → Int} (hr : ringE sh l = r0 :: rs) (hf : ∀ e ∈ es ++ (lessE r0 :: rs), d e.2.1 ≤ d e.1 + e.2.2) : False := by
  have h0 := ring_sum sh l
  have hsum : (((l.zip (nxt l)).map fun p => d p.2 - d p.1)).sum = 0 := by
    rw [sum_zip d l (nxt l) (nxt_len l).symm, nxt_sum]
    omega
  have key : ∀ (R : List BF.E) (z : List (Nat × Nat)), R.map (fun e => (e.1, e.2.1)) = z → (∀ e ∈ R, d e.2.1 ≤ d e.1 + e.2.2) → (z.map fun p => d p.2 - d p.1).sum ≤ (R.map fun e => e.2.2).sum := fun R => by
    induction R with
    | nil => rintro _ rfl _; simp
    | cons e R ih =>
      rintro _ rfl h
      have := ih _ rfl fun e' he' => h e' (List.mem_cons_of_mem _ he')
      have := h e List.mem_cons_self
      simp only [List.map_cons, List.sum_cons] at *
      omega
  have hz : (lessE r0 :: rs).map (fun e => (e.1, e.2.1)) = l.zip (nxt l) := by
    have : (r0 :: rs).map (fun e : BF.E => (e.1, e.2.1)) = l.zip (nxt l) := by
      rw [← hr, ringE, List.map_map]
      exact List.map_id _
    simpa [lessE] using this
  have := key _ _ hz fun e he => hf e (List.mem_append_right _ he)
  rw [hsum] at this
  rw [hr] at h0
  simp [lessE] at this h0
  omega
end K77

end
section
set_option maxHeartbeats 4000000
namespace K77
open PySem PySem.Spec L2 DL
theorem ring_when {n : Nat} {es : List BF.E} (h1 : 1 ≤ n) (h2 : n ≤ 30) (hl : es.length ≤ 200) (hw : okW es) (hv : BF.valid es n) (hno : ∀ d : Nat → Int, (∀ e ∈ es, d e.2.1 ≤ d e.1 + e.2.2) → False) : ∃ (m : Nat) (Y J : Nat → Nat) (W : Nat → Int), F_clocks_for [.sh (.int n), .sh (eB es)] = some (.tuple [.str "ring", .tuple (((List.range m).map fun t => PyData.int (J t : Nat)).reverse)], .S, [.sh (.int n), .sh (eB es)]) ∧ 1 ≤ m ∧ m ≤ n ∧ Y m = Y 0 ∧ (∀ t, t < m → es[J t]? = some (Y (t + 1), Y t, W t)) ∧ ((List.range m).map W).sum < 0 := by
  obtain ⟨r, e, hr⟩ := l_clocks_for h1 h2 hl hw hv (Wm := 1000000000000) (by decide) fun e he => (hw e he).1
  obtain ⟨m, Y, J, W, rfl, g⟩ := hr.resolve_left fun ⟨d, _, hf, _⟩ => hno d hf
  exact ⟨m, Y, J, W, e, g⟩
end K77

end
section
set_option maxHeartbeats 4000000
namespace K77
open PySem PySem.Spec L2 DL
theorem l_s18 {n : Nat} {es rs : List BF.E} {w : Str} {X : PyData} {s0 s3 s4 s5 s6 s7 s8 s9 s10 s11 s12 s13 s14 : Sl} (hl : es.length + rs.length ≤ 100) (hc : F_clocks_for [.sh (.int n), .sh (eB (es ++ rs))] = some (.tuple [.str w, X], .S, [.sh (.int n), .sh (eB (es ++ rs))])) : (fFrz 15 m__law_are_bounds_right_s18) (RB s0 (.sh (.int n)) (.sh (eB es)) s3 s4 s5 s6 s7 s8 s9 s10 s11 s12 s13 s14 (.ow 1 (.list (rs.map eE))) .no .no) = some (.nx, RB s0 (.sh (.int n)) (.sh (eB es)) s3 s4 s5 s6 s7 s8 s9 s10 s11 s12 s13 s14 (.sh (.list (rs.map eE))) (.sh (.str w)) (.sh X)) := by
  have ha : φAdd [(eB es, .S), (.tuple (rs.map eE), .S)] = some (eB (es ++ rs), .S) := by
    have h1 : es.length + rs.length ≤ 10000000 := by omega
    simp [φAdd, eB, LIM, h1]
  simp [fFrz, frz, m__law_are_bounds_right_s18, RB, fAsg, f2, fN, faCons, faNil, fVar, fSh, φTuple, Md.fl, ha, φCall, hc, gT, gsCons, gS, gsNil, Md.b]
end K77

end
section
set_option maxHeartbeats 4000000
namespace K77
open PySem PySem.Spec L2 DL
/-- the ring's bounds, as they are told -/
def eY (Y : Nat → Nat) (W : Nat → Int) (t : Nat) : PyData := eE (Y (t + 1), Y t, W t)
theorem l_bc7 {m : Nat} {Y J : Nat → Nat} {W : Nat → Int} {es rs : List BF.E} {s0 s1 s3 s4 s5 s6 s7 s8 s9 s10 s11 s12 s13 s14 s16 : Sl} (hm : m ≤ 100) (hl : es.length + rs.length ≤ 100) (hs : ∀ t, t < m → (es ++ rs)[J t]? = some (Y (t + 1), Y t, W t)) : m__law_are_bounds_right_c7 (RB s0 s1 (.sh (eB es)) s3 s4 s5 s6 s7 s8 s9 s10 s11 s12 s13 s14 (.sh (.list (rs.map eE))) s16 (.sh (.tuple (((List.range m).map fun t => PyData.int (J t : Nat)).reverse)))) = some (.list ((List.range m).reverse.map (eY Y W)), .F 1, RB s0 s1 (.sh (eB es)) s3 s4 s5 s6 s7 s8 s9 s10 s11 s12 s13 s14 (.sh (.list (rs.map eE))) s16 (.sh (.tuple (((List.range m).map fun t => PyData.int (J t : Nat)).reverse)))) := by
  have ha : φAdd [(eB es, .S), (.tuple (rs.map eE), .S)] = some (eB (es ++ rs), .S) := by
    have h1 : es.length + rs.length ≤ 10000000 := by omega
    simp [φAdd, eB, LIM, h1]
  have hr : ((List.range m).map fun t => PyData.int (J t : Nat)).reverse = (List.range m).reverse.map fun t => PyData.int (J t : Nat) := by rw [List.map_reverse]
  rw [hr]
  exact comp_run (ds := (List.range m).reverse.map fun t => PyData.int (J t : Nat)) rfl (len_ok (by simp; omega)) rfl rfl (lc_map (fun t => PyData.int (J t : Nat)) _ _ fun t ht => by
    have ht : t < m := by simpa using ht
    have hat := eB_at (hs t ht)
    have hix : fIx [(eB (es ++ rs), .S), (.int (J t : Nat), .S)] = some (eY Y W t, .S) := by simp [fIx, eB, eY] at hat ⊢; simp [hat]
    simp [lcStep, m__law_are_bounds_right_e7, RB, gS, ftYes, fSh, f2, fN, faCons, faNil, fVar, φTuple, Md.fl, ha, hix, Md.b, wipeR])
end K77

end
section
set_option maxHeartbeats 4000000
namespace K77
open PySem PySem.Spec L2 DL
theorem l_bc8 {m : Nat} {Y : Nat → Nat} {W : Nat → Int} {s0 s1 s2 s3 s4 s5 s6 s7 s8 s9 s10 s11 s13 s14 s15 s16 s17 : Sl} (hm : m ≤ 100) : m__law_are_bounds_right_c8 (RB s0 s1 s2 s3 s4 s5 s6 s7 s8 s9 s10 s11 (.sh (.list ((List.range m).reverse.map (eY Y W)))) s13 s14 s15 s16 s17) = some (.list (iL ((List.range m).reverse.map W)), .F 1, RB s0 s1 s2 s3 s4 s5 s6 s7 s8 s9 s10 s11 (.sh (.list ((List.range m).reverse.map (eY Y W)))) s13 s14 s15 s16 s17) := by
  rw [iL, List.map_map]
  exact comp_run (ds := (List.range m).reverse.map (eY Y W)) rfl (len_ok (by simp; omega)) rfl rfl (lc_map (eY Y W) _ _ fun t _ => by
    simp [lcStep, m__law_are_bounds_right_e8, RB, gS, ftYes, fSh, f2, fN, faCons, faNil, fVar, fC, eY, eE, fIx, at2, Md.b, wipeR])
end K77

end
section
set_option maxHeartbeats 4000000
namespace K77
open PySem PySem.Spec L2 DL
theorem l_s14 {s0 s1 s2 s3 s4 s5 s6 s7 s8 s9 s10 s11 s12 s13 s14 s15 s16 s17 : Sl} : m__law_are_bounds_right_s14 (RB s0 s1 s2 s3 s4 s5 s6 s7 s8 s9 s10 s11 s12 s13 s14 s15 s16 s17) = some (.nx, RB s0 s1 s2 s3 s4 s5 s6 s7 s8 s9 s10 s11 s12 s13 s14 (.ow 1 (.list [])) s16 s17) := by
  simp [m__law_are_bounds_right_s14, fAsg, fN, faNil, φLst, LIM, gO, RB]
theorem l_s19 {m : Nat} {Y J : Nat → Nat} {W : Nat → Int} {es rs : List BF.E} {s0 s1 s3 s4 s5 s6 s7 s8 s9 s10 s11 s12 s13 s14 : Sl} (hm : m ≤ 100) (hl : es.length + rs.length ≤ 100) (hs : ∀ t, t < m → (es ++ rs)[J t]? = some (Y (t + 1), Y t, W t)) : m__law_are_bounds_right_s19 (RB s0 s1 (.sh (eB es)) s3 s4 s5 s6 s7 s8 s9 s10 s11 s12 s13 s14 (.sh (.list (rs.map eE))) (.sh (.str "ring")) (.sh (.tuple (((List.range m).map fun t => PyData.int (J t : Nat)).reverse)))) = some (.nx, RB s0 s1 (.sh (eB es)) s3 s4 s5 s6 s7 s8 s9 s10 s11 (.sh (.list ((List.range m).reverse.map (eY Y W)))) s13 s14 (.sh (.list (rs.map eE))) (.sh (.str "ring")) (.sh (.tuple (((List.range m).map fun t => PyData.int (J t : Nat)).reverse)))) := by
  have hc := l_bc7 (s0 := s0) (s1 := s1) (s3 := s3) (s4 := s4) (s5 := s5) (s6 := s6) (s7 := s7) (s8 := s8) (s9 := s9) (s10 := s10) (s11 := s11) (s12 := s12) (s13 := s13) (s14 := s14) (s16 := .sh (.str "ring")) hm hl hs
  have hn : pEq [.str ("ring" : Str), .str "ring"] = some (.bool true) := by simp [pEq, pEqv, scalD, PyData.eqv]
  have ht : fT (f2 true (fVar 16) (fC (.str ("ring" : Str))) (fI pEq)) (RB s0 s1 (.sh (eB es)) s3 s4 s5 s6 s7 s8 s9 s10 s11 s12 s13 s14 (.sh (.list (rs.map eE))) (.sh (.str "ring")) (.sh (.tuple (((List.range m).map fun t => PyData.int (J t : Nat)).reverse)))) = some (true, RB s0 s1 (.sh (eB es)) s3 s4 s5 s6 s7 s8 s9 s10 s11 s12 s13 s14 (.sh (.list (rs.map eE))) (.sh (.str "ring")) (.sh (.tuple (((List.range m).map fun t => PyData.int (J t : Nat)).reverse)))) := by
    simp [fT, f2, fN, faCons, faNil, fVar, RB, fC, fI, hn, Md.b]
  simp only [m__law_are_bounds_right_s19, fAsg, fIte, ht, hc]
  simp [gS, RB, Md.b]
theorem l_s20 {m : Nat} {Y : Nat → Nat} {W : Nat → Int} {s0 s1 s2 s3 s4 s5 s6 s7 s8 s9 s10 s11 s13 s14 s15 s16 s17 : Sl} (hm : m ≤ 100) (h1 : 1 ≤ m) (hs : ((List.range m).map W).sum < 0) : m__law_are_bounds_right_s20 (RB s0 s1 s2 s3 s4 s5 s6 s7 s8 s9 s10 s11 (.sh (.list ((List.range m).reverse.map (eY Y W)))) s13 s14 s15 s16 s17) = some (.nx, RB s0 s1 s2 s3 s4 s5 s6 s7 s8 s9 s10 s11 (.sh (.list ((List.range m).reverse.map (eY Y W)))) s13 s14 s15 s16 s17) := by
  have hc := l_bc8 (Y := Y) (W := W) (s0 := s0) (s1 := s1) (s2 := s2) (s3 := s3) (s4 := s4) (s5 := s5) (s6 := s6) (s7 := s7) (s8 := s8) (s9 := s9) (s10 := s10) (s11 := s11) (s13 := s13) (s14 := s14) (s15 := s15) (s16 := s16) (s17 := s17) hm
  have hn : pEq [.list ((List.range m).reverse.map (eY Y W)), .list []] = some (.bool false) := by
    have ho : okN 9 (.list ((List.range m).reverse.map (eY Y W))) = true := by
      simp [okN, eY, eE]
    have hq : PyData.eqv (.list ((List.range m).reverse.map (eY Y W))) (.list []) = false := by
      obtain ⟨k, rfl⟩ : ∃ k, m = k + 1 := ⟨m - 1, by omega⟩
      simp [List.range_succ, PyData.eqv, PyData.eqvAll]
    have ho2 : okN 9 (.list []) = true := by simp [okN]
    simp only [pEq, pEqv, ho, ho2, hq, Bool.and_self, Bool.or_true, if_true]
  have hsum : ((List.range m).reverse.map W).sum = ((List.range m).map W).sum := by
    rw [List.map_reverse, List.sum_reverse]
  have hp : pSum [.list (iL ((List.range m).reverse.map W))] = some (.int ((List.range m).map W).sum) := by
    have hi : ∀ l : List Int, intsD (iL l) = some l := fun l => by
      have := intsD_of (fun x : Int => x) l
      simpa [iL] using this
    simp only [pSum, hi, hsum]
  have hle : ¬ (0 : Int) ≤ ((List.range m).map W).sum := by omega
  have h1 : fT (f2 true (fVar 12) (fN faNil φLst) (fI pEq)) (RB s0 s1 s2 s3 s4 s5 s6 s7 s8 s9 s10 s11 (.sh (.list ((List.range m).reverse.map (eY Y W)))) s13 s14 s15 s16 s17) = some (false, RB s0 s1 s2 s3 s4 s5 s6 s7 s8 s9 s10 s11 (.sh (.list ((List.range m).reverse.map (eY Y W)))) s13 s14 s15 s16 s17) := by
    simp [fT, f2, fN, faCons, faNil, fVar, φLst, LIM, RB, fI, hn, Md.b, -List.map_reverse]
  have h2 : fT (f2 true (fN (faCons true m__law_are_bounds_right_c8 faNil) (fI pSum)) (fC (.int 0)) (fI (ii gGe))) (RB s0 s1 s2 s3 s4 s5 s6 s7 s8 s9 s10 s11 (.sh (.list ((List.range m).reverse.map (eY Y W)))) s13 s14 s15 s16 s17) = some (false, RB s0 s1 s2 s3 s4 s5 s6 s7 s8 s9 s10 s11 (.sh (.list ((List.range m).reverse.map (eY Y W)))) s13 s14 s15 s16 s17) := by
    simp only [fT, f2, fN, faCons, hc, faNil]
    simp [Md.b, fI, hp, fC, ii, gGe, hle, -List.map_reverse]
  simp only [m__law_are_bounds_right_s20, fIf, fOr, h1, h2, fNop]
end K77

end
section
set_option maxHeartbeats 4000000
namespace K77
open PySem PySem.Spec L2 DL
theorem zip_maps {α β : Type} (f : α → PyData) (g : β → PyData) : ∀ (l : List α) (k : List β), zipD (l.map f) (k.map g) = (l.zip k).map fun p => PyData.tuple [f p.1, g p.2]
  | [], _ => rfl
  | _ :: _, [] => rfl
  | x :: l, y :: k => by
    have := zip_maps f g l k
    simp only [List.map_cons, zipD, List.zip_cons_cons]
    rw [this]
theorem rev_nxt {m : Nat} {Y : Nat → Nat} (hY : Y m = Y 0) : ∀ p ∈ (List.range m).reverse.zip (nxt (List.range m).reverse), Y p.1 = Y (p.2 + 1) := fun p hp => by
  obtain ⟨i, hi, rfl⟩ := List.mem_iff_getElem.mp hp
  have hlen : i < m := by
    have := hi
    simp [nxt_len] at this
    omega
  have e1 : ((List.range m).reverse.zip (nxt (List.range m).reverse))[i].1 = m - 1 - i := by simp
  rw [e1, List.getElem_zip]
  simp only [nxt]
  by_cases h : i + 1 < m
  · rw [List.getElem_append_left (by simp; omega)]
    simp
    congr 1
    omega
  · rw [List.getElem_append_right (by simp; omega)]
    simp
    have : m - 1 - i = 0 := by omega
    rw [this, ← hY]
    congr 1
    omega
theorem l_bc9 {m : Nat} {Y : Nat → Nat} {W : Nat → Int} {s0 s1 s2 s3 s4 s5 s6 s7 s8 s9 s10 s11 s13 s14 s15 s16 s17 : Sl} (hm : m ≤ 100) (hY : Y m = Y 0) : m__law_are_bounds_right_c9 (RB s0 s1 s2 s3 s4 s5 s6 s7 s8 s9 s10 s11 (.sh (.list ((List.range m).reverse.map (eY Y W)))) s13 s14 s15 s16 s17) = some (.list (((List.range m).reverse.zip (nxt (List.range m).reverse)).map fun _ => .bool true), .F 1, RB s0 s1 s2 s3 s4 .no .no s7 s8 s9 s10 s11 (.sh (.list ((List.range m).reverse.map (eY Y W)))) s13 s14 s15 s16 s17) := by
  have hadd : φAdd [(.list (((List.range m).reverse.map (eY Y W)).drop 1), .F 1), (.list (((List.range m).reverse.map (eY Y W)).take 1), .F 1)] = some (.list ((nxt (List.range m).reverse).map (eY Y W)), .F 1) := by
    have h1 : (((List.range m).reverse.map (eY Y W)).drop 1).length + (((List.range m).reverse.map (eY Y W)).take 1).length ≤ 10000000 := by simp; omega
    have h2 : ((List.range m).reverse.map (eY Y W)).drop 1 ++ ((List.range m).reverse.map (eY Y W)).take 1 = (nxt (List.range m).reverse).map (eY Y W) := by rw [nxt, List.map_append, List.map_drop, List.map_take]
    simp only [φAdd, Md.fl, LIM, h2]
    rw [if_pos (by simpa using h1)]
  refine comp_run (ds := ((List.range m).reverse.zip (nxt (List.range m).reverse)).map fun p => PyData.tuple [eY Y W p.1, eY Y W p.2]) (ρ1 := RB s0 s1 s2 s3 s4 s5 s6 s7 s8 s9 s10 s11 (.sh (.list ((List.range m).reverse.map (eY Y W)))) s13 s14 s15 s16 s17) ?_ (len_ok (by simp [nxt_len]; omega)) rfl rfl (lc_map (fun p : Nat × Nat => PyData.tuple [eY Y W p.1, eY Y W p.2]) _ _ fun p hp => ?_)
  · rw [← zip_maps]
    simp [iA, faCons, faNil, fSh, fVar, RB, f2, fN, fSl, foS, foN, fC, Md.fl, cut_tail, cut_head, hadd, κZip, Md.b, -List.drop_one, -List.map_reverse]
  · have hq := rev_nxt hY p hp
    have he : pEq [.int (Y p.1 : Nat), .int (Y (p.2 + 1) : Nat)] = some (.bool true) := by rw [hq]; simp [pEq, pEqv, scalD, PyData.eqv]
    simp [lcStep, m__law_are_bounds_right_e9, RB, gT, gsCons, gS, gsNil, ftYes, fSh, f2, fN, faCons, faNil, fVar, fC, eY, eE, fIx, at0, at1, fI, he, Md.b, wipeR]
theorem l_s21 {m : Nat} {Y : Nat → Nat} {W : Nat → Int} {s0 s1 s2 s3 s4 s5 s6 s7 s8 s9 s10 s11 s13 s14 s15 s16 s17 : Sl} (hm : m ≤ 100) (hY : Y m = Y 0) : m__law_are_bounds_right_s21 (RB s0 s1 s2 s3 s4 s5 s6 s7 s8 s9 s10 s11 (.sh (.list ((List.range m).reverse.map (eY Y W)))) s13 s14 s15 s16 s17) = some (.rt (.bool true) .S, RB s0 s1 s2 s3 s4 .no .no s7 s8 s9 s10 s11 (.sh (.list ((List.range m).reverse.map (eY Y W)))) s13 s14 s15 s16 s17) := by
  have hc := l_bc9 (W := W) (s0 := s0) (s1 := s1) (s2 := s2) (s3 := s3) (s4 := s4) (s5 := s5) (s6 := s6) (s7 := s7) (s8 := s8) (s9 := s9) (s10 := s10) (s11 := s11) (s13 := s13) (s14 := s14) (s15 := s15) (s16 := s16) (s17 := s17) hm hY
  have hp := pAll_map (fun _ : Nat × Nat => true) ((List.range m).reverse.zip (nxt (List.range m).reverse))
  have ha : (((List.range m).reverse.zip (nxt (List.range m).reverse)).all fun _ => true) = true := by simp
  rw [ha] at hp
  simp only [m__law_are_bounds_right_s21, fRet, fN, faCons, faNil, hc]
  simp [fI, hp, Md.b] at hp ⊢
end K77

end
section
set_option maxHeartbeats 4000000
namespace K77
open PySem PySem.Spec L2 DL
theorem pot_s1 {ns : List Int} {at_ : Int} (h0 : 0 ≤ at_) (h2 : at_ ≤ 2) : ∃ cell : Int, m__law_pot_s1 [.sh (.list (iL ns)), .sh (.int at_), .no, .no, .no] = some (.nx, [.sh (.list (iL ns)), .sh (.int at_), .sh (.int cell), .no, .no]) := by
  have hl : (iL ns).length = ns.length := by simp [iL]
  by_cases h : at_ < (ns.length : Int)
  · obtain ⟨k, rfl⟩ : ∃ k : Nat, at_ = (k : Int) := ⟨at_.toNat, by omega⟩
    have hk : k < ns.length := by omega
    have ha : atI (iL ns) (k : Int) = some (.int ns[k]) := at_nat (by simp [iL, hk])
    refine ⟨ns[k], ?_⟩
    have hlt : (k : Int) < (ns.length : Int) := h
    simp [m__law_pot_s1, fAsg, fIte, fT, f2, fN, faCons, faNil, fVar, fI, pLen, hl, pLt, hlt, fIx, ha, gS, Md.b]
  · have hlt : ¬ at_ < (ns.length : Int) := h
    have g : (6329 : Int).natAbs.log2 + at_.natAbs.log2 < 1000000 := by
      have l1 : (6329 : Int).natAbs.log2 < 60 := by decide
      have l2 : at_.natAbs.log2 < 60 := lg (by decide) (by omega) (by omega)
      omega
    refine ⟨(ns.take 1).sum.fmod 1000231 + 6329 * at_ + 3793, ?_⟩
    have hs : pSum [.list (cutD (iL ns) none (some 1))] = some (.int (ns.take 1).sum) := by
      have : cutD (iL ns) none (some 1) = iL (ns.take 1) := by
        cases ns with
        | nil => rfl
        | cons x r =>
          have h1 : HT.sIx (iL (x :: r)).length 0 none = 0 := rfl
          have h2 : HT.sIx (iL (x :: r)).length (iL (x :: r)).length (some 1) = 1 := by
            have := HT.sIx_nat (iL (x :: r)).length (iL (x :: r)).length 1
            simp [iL] at this ⊢
            exact this
          simp only [cutD, h1, h2]
          simp [iL]
      rw [this]
      have e := intsD_map (ns.take 1)
      simp only [pSum, iL, e]
    simp [m__law_pot_s1, fAsg, fIte, fT, f2, fN, faCons, faNil, fVar, fI, pLen, hl, pLt, hlt, fSl, foN, foS, fC, Md.fl, hs, pInt, ii, gMod, mulI g, φAdd, gS, Md.b]
theorem pw60 : gPowW 10 60 = some (.int (10 ^ 60)) := by unfold gPowW; rw [if_pos (by decide)]; rfl
theorem pw18 : gPowW 10 18 = some (.int 1000000000000000000) := by unfold gPowW; rw [if_pos (by decide)]; rfl
theorem pw5 : gPowW (10 ^ 60) 5 = some (.int ((10 ^ 60) ^ 5)) := by
  unfold gPowW
  rw [if_pos ⟨by decide, by
    have : (10 ^ 60 : Int).natAbs.log2 < 300 := lg (by decide) (by decide) (by decide)
    have e : (5 : Int).toNat = 5 := rfl
    rw [e]
    omega⟩]
  rfl
theorem pw5' : ∃ A : Int, 0 < A ∧ A < 2 ^ 1000 ∧ gPowW 1000000000000000000000000000000000000000000000000000000000000 5 = some (.int A) := ⟨(10 ^ 60) ^ 5, by decide, by decide, by
  have e : (1000000000000000000000000000000000000000000000000000000000000 : Int) = 10 ^ 60 := by decide
  rw [e]; exact pw5⟩
theorem pot_s2 {cell : Int} {s0 s1 s4 : Sl} : ∃ own : Int, 0 ≤ own ∧ m__law_pot_s2 [s0, s1, .sh (.int cell), .no, s4] = some (.nx, [s0, s1, .sh (.int cell), .sh (.int own), s4]) := by
  obtain ⟨A, hpos, lt, hA5⟩ := pw5'
  have hne : A ≠ 0 := by omega
  generalize hA : (if cell < 0 then -cell else cell) = ac
  have f := fm0 (a := ac) hpos
  generalize hM : ac.fmod A = M at f
  have habs : pAbs [.int cell] = some (.int ac) := by simp [pAbs, ← hA]
  have g : ∀ z : Int, 0 ≤ z ∧ z ≤ 1 → M.natAbs.log2 + z.natAbs.log2 < 1000000 := fun z hz => by
    have l1 : M.natAbs.log2 < 1000 := lg (by decide) (by omega) (by omega)
    have l2 : z.natAbs.log2 < 60 := lg (by decide) (by omega) (by omega)
    omega
  have i1 : pInt [.bool true] = some (.int 1) := rfl
  have i0 : pInt [.bool false] = some (.int 0) := rfl
  have ii' : ∀ z : Int, pInt [.int z] = some (.int z) := fun _ => rfl
  by_cases hb : (1000000000000000000 : Int) ≤ ac
  · refine ⟨M * 1, by omega, ?_⟩
    have gg : gGe ac 1000000000000000000 = some (.bool true) := by simp [gGe, hb]
    have w0 := mulI (m := .S) (n := .S) (g 1 (by decide))
    simp [m__law_pot_s2, fAsg, f2, fN, faCons, faNil, fVar, fC, fI, habs, ii', i1, ii, pw60, pw18, hA5, gMod, hne, hM, gg, w0, gS, Md.b]
  · refine ⟨M * 0, by omega, ?_⟩
    have gg : gGe ac 1000000000000000000 = some (.bool false) := by simp [gGe, hb]
    have w0 := mulI (m := .S) (n := .S) (g 0 (by decide))
    simp [m__law_pot_s2, fAsg, f2, fN, faCons, faNil, fVar, fC, fI, habs, ii', i0, ii, pw60, pw18, hA5, gMod, hne, hM, gg, w0, gS, Md.b]
theorem l_pot {ns : List Int} {at_ : Int} (h0 : 0 ≤ at_) (h2 : at_ ≤ 2) : ∃ a b : Int, F__law_pot [.sh (.list (iL ns)), .sh (.int at_)] = some (.list [.int a, .int b, .int 0], .F 1, [.sh (.list (iL ns)), .sh (.int at_)]) ∧ PO 0 a b 0 := by
  obtain ⟨cell, w1⟩ := pot_s1 (ns := ns) h0 h2
  obtain ⟨own, o1, w2⟩ := pot_s2 (cell := cell) (s0 := .sh (.list (iL ns))) (s1 := .sh (.int at_)) (s4 := .no)
  have f := fm0 (a := cell) (b := 2305843009213693951) (by decide)
  generalize hs : cell.fmod 2305843009213693951 = sm at f
  have w3 : m__law_pot_s3 [.sh (.list (iL ns)), .sh (.int at_), .sh (.int cell), .sh (.int own), .no] = some (.nx, [.sh (.list (iL ns)), .sh (.int at_), .sh (.int cell), .sh (.int own), .sh (.int sm)]) := by
    simp [m__law_pot_s3, fAsg, f2, fN, faCons, faNil, fVar, fC, fI, pInt, ii, gMod, hs, gS, Md.b]
  have lat : at_.natAbs.log2 < 60 := lg (by decide) (by omega) (by omega)
  have g1 : sm.natAbs.log2 + (91009 : Int).natAbs.log2 < 1000000 := by
    have l1 : sm.natAbs.log2 < 70 := lg (by decide) (by omega) (by omega)
    have l2 : (91009 : Int).natAbs.log2 < 60 := by decide
    omega
  have g2 : (12653 : Int).natAbs.log2 + at_.natAbs.log2 < 1000000 := by
    have l2 : (12653 : Int).natAbs.log2 < 60 := by decide
    omega
  have g3 : (12653 * at_).natAbs.log2 + at_.natAbs.log2 < 1000000 := by
    have l1 : (12653 * at_).natAbs.log2 < 70 := lg (by decide) (by omega) (by omega)
    omega
  have f2' := fm0 (a := sm * 91009 + 12653 * at_ * at_ + 3301) (b := 2305843009213693921) (by decide)
  refine ⟨own, (sm * 91009 + 12653 * at_ * at_ + 3301).fmod 2305843009213693921, ?_, o1, f2'.1, by omega, by decide, by decide⟩
  have w4 : m__law_pot_s4 [.sh (.list (iL ns)), .sh (.int at_), .sh (.int cell), .sh (.int own), .sh (.int sm)] = some (.rt (.list [.int own, .int ((sm * 91009 + 12653 * at_ * at_ + 3301).fmod 2305843009213693921), .int 0]) (.F 1), [.sh (.list (iL ns)), .sh (.int at_), .sh (.int cell), .sh (.int own), .sh (.int sm)]) := by
    simp [m__law_pot_s4, fRet, f2, fN, faCons, faNil, fVar, fC, fI, pInt, ii, mulI g1, mulI g2, mulI g3, φAdd, gMod, φLst, LIM, Md.b]
  have e : m__law_pot [.sh (.list (iL ns)), .sh (.int at_), .no, .no, .no] = some (.rt (.list [.int own, .int ((sm * 91009 + 12653 * at_ * at_ + 3301).fmod 2305843009213693921), .int 0]) (.F 1), [.sh (.list (iL ns)), .sh (.int at_), .sh (.int cell), .sh (.int own), .sh (.int sm)]) := by
    unfold m__law_pot
    rw [seq_nx w1, seq_nx w2, seq_nx w3, w4]
  have e0 : ([.sh (.list (iL ns)), .sh (.int at_)] ++ List.replicate (5 - 2) .no : List Sl) = [.sh (.list (iL ns)), .sh (.int at_), .no, .no, .no] := rfl
  simp only [F__law_pot, runFn, List.length_cons, List.length_nil, Nat.zero_add, Nat.reduceAdd, e0, e]
  simp [outs]
end K77

end
section
set_option maxHeartbeats 4000000
namespace K77
open PySem PySem.Spec L2 DL
def BoundsOk : Prop := ∀ {k a b c : Int}, PO k a b c → k < 500000000000000 → ∃ a' b' c' : Int, F__law_are_bounds_right [pt a b c] = some (.bool true, .S, [pt a' b' c']) ∧ PO (k + 1000) a' b' c'
theorem l_right (HB : BoundsOk) {a b c : Int} (h : PO 0 a b c) : ∃ a' b' c' : Int, F__law_right [pt a b c] = some (.bool true, .S, [pt a' b' c']) := by
  obtain ⟨ρ', hf, hI⟩ := for_inv (g := m__law_right_g1) (f := m__law_right_b1) (fun i ρ => i ≤ 8 → ∃ (a b c : Int) (s1 : Sl), PO (1200 * (i : Int)) a b c ∧ ρ = [pt a b c, s1]) (rangeD 0 8) 0 [pt a b c, .no] (fun _ => ⟨a, b, c, .no, (by simpa using h), rfl⟩) fun i ρ v hI _ hv => by
    have hi : i < 8 := by
      have := (List.getElem?_eq_some_iff.mp hv).1
      simp [rangeD] at this
      omega
    obtain ⟨a, b, c, s1, hp, rfl⟩ := hI (by omega)
    obtain ⟨xs, a1, b1, c1, e1, x1, x2, x3, h1⟩ := l_letters hp (by omega)
    have e2 := l_are_letters (xs := xs) x1 (by omega) x3
    obtain ⟨a2, b2, c2, e3, h2⟩ := l_are_spans h1 (by omega)
    obtain ⟨a3, b3, c3, e4', h3⟩ := HB h2 (by omega)
    refine ⟨[pt a3 b3 c3, .sh v], ?_, fun _ => ⟨a3, b3, c3, .sh v, ?_, rfl⟩⟩
    · have g0 : m__law_right_g1 v .S [pt a b c, s1] = some [pt a b c, .sh v] := rfl
      have w1 : m__law_right_s1 [pt a b c, .sh v] = some (.nx, [pt a2 b2 c2, .sh v]) := by
        simp [m__law_right_s1, fIf, fOr, fNot, fT, fN, faCons, faNil, fSh, fCallX, fxName, fxNil, afterX, dupL, slotsOf, aSls, aSl, e1, backs, φCall, e2, e3, Md.b, fNop]
      have w2 : m__law_right_s2 [pt a2 b2 c2, .sh v] = some (.nx, [pt a3 b3 c3, .sh v]) := by
        simp [m__law_right_s2, fIf, fNot, fT, fCallX, fxName, fxNil, afterX, dupL, slotsOf, aSls, aSl, e4', backs, Md.b, fNop]
      simp only [forStep, g0]
      unfold m__law_right_b1
      rw [seq_nx w1, w2]
    · obtain ⟨z1, z2, z3, z4, z5⟩ := h3
      exact ⟨z1, z2, z3, z4, by omega⟩
  have hz : 0 + (rangeD 0 8).length = 8 := by simp [rangeD]
  rw [hz] at hI
  obtain ⟨a', b', c', s1, hp, rfl⟩ := hI (Nat.le_refl _)
  refine ⟨a', b', c', ?_⟩
  have w3 : m__law_right_s3 [pt a b c, .no] = some (.nx, [pt a' b' c', s1]) := by
    have kr : ∀ m, κR1 [(.int 8, m)] = some (rangeD 0 8) := fun m => kR1 (n := 8) (by decide)
    simp [m__law_right_s3, fForS, iA, faCons, faNil, fC, kr, hf, Md.b]
  have e : m__law_right [pt a b c, .no] = some (.rt (.bool true) .S, [pt a' b' c', s1]) := by
    unfold m__law_right
    rw [seq_nx w3]
    rfl
  have e0 : ([pt a b c] ++ List.replicate (2 - 1) .no : List Sl) = [pt a b c, .no] := rfl
  simp only [F__law_right, runFn, List.length_cons, List.length_nil, Nat.zero_add, e0, e]
  simp [outs]
theorem l_cells {ns : List Int} : ∃ n : Nat, n ≤ 3 ∧ F__law_cells [.sh (.list (iL ns)), .sh (.int 3)] = some (.list (rangeD 0 n), .F 1, [.sh (.list (iL ns)), .sh (.int 3)]) := by
  have hl : (iL ns).length = ns.length := by simp [iL]
  obtain ⟨n, hn⟩ : ∃ n : Nat, max 1 (min 3 (ns.length : Int)) = (n : Int) := ⟨(max 1 (min 3 (ns.length : Int))).toNat, by omega⟩
  refine ⟨n, by omega, ?_⟩
  have m1 : pMM minP [.int 3, .int (ns.length : Int)] = some (.int (min 3 (ns.length : Int))) := by simp [pMM, minP]
  have m2 : pMM maxP [.int 1, .int (min 3 (ns.length : Int))] = some (.int (n : Int)) := by simp [pMM, maxP, ← hn]
  have hr : ∀ m : Md, φRg1 [(.int (n : Int), m)] = some (.list (rangeD 0 n), .F 1) := fun m => by
    have : okR 0 (n : Int) = true := by
      unfold okR inR
      rw [Bool.and_eq_true, Bool.and_eq_true]
      exact ⟨⟨by decide, decide_eq_true (by omega)⟩, decide_eq_true (by omega)⟩
    simp only [φRg1, this, if_true, Int.toNat_natCast]
  simp [F__law_cells, m__law_cells, runFn, fRet, fU, fN, faCons, faNil, fVar, fC, fI, pLen, hl, m1, m2, hr, outs, Md.b, List.replicate]
theorem l_law (HB : BoundsOk) {ns : List Int} : F_law [.sh (.list (iL ns))] = some (.bool true, .S, [.sh (.list (iL ns))]) := by
  obtain ⟨n, hn, ec⟩ := l_cells (ns := ns)
  have c1 : m_law_c1 [.sh (.list (iL ns)), .no] = some (.list ((List.range n).map fun i => .bool ((fun _ : Nat => true) i)), .F 1, [.sh (.list (iL ns)), .no]) :=
    comp_run (ds := rangeD 0 n) (ρ1 := [.sh (.list (iL ns)), .no]) (by
      simp [iSeq, fSh, fN, faCons, faNil, fVar, fC, φCall, ec, Md.b]) (by simp [rangeD, LIM]; omega) rfl rfl (lc_map (fun i : Nat => PyData.int (0 + (i : Nat))) _ (List.range n) fun i hi => by
        have hi := List.mem_range.mp hi
        obtain ⟨a, b, ep, hp⟩ := l_pot (ns := ns) (at_ := 0 + (i : Int)) (by omega) (by omega)
        obtain ⟨a', b', c', er⟩ := l_right HB hp
        simp only [lcStep, gS, ftYes, m_law_e1, fSh, fCallX, fxVal, fN, faCons, faNil, fVar, fxNil]
        simp [φCall, ep, afterX, dupL, slotsOf, aSls, aSl, er, backs, Md.b, wipeR] at ep ⊢
        simp [ep, afterX, dupL, slotsOf, aSls, aSl, er, backs, Md.b, wipeR])
  have ha := pAll_map (fun _ : Nat => true) (List.range n)
  simp only [F_law, m_law, runFn, fRet, fN, faCons, faNil, List.length_cons, List.length_nil, Nat.zero_add]
  have e0 : ([.sh (.list (iL ns))] ++ List.replicate (2 - 1) .no : List Sl) = [.sh (.list (iL ns)), .no] := rfl
  simp only [e0, c1]
  simp [fI, ha, Md.b, outs] at ha ⊢
end K77

end
section
set_option maxHeartbeats 4000000
namespace K77
open PySem PySem.Spec L2 DL
theorem l_bounds : BoundsOk := fun {k a b c} h hk => by
  obtain ⟨n, sh, es, d, a1, b1, c1, t4, t5, t6, h1, hn0, hn9, hsl, hsv, hl, hf, hfe, hlow, e1⟩ := l_bstart h (by omega)
  obtain ⟨a2, b2, c2, u4, u8, u9, u10, u11, u12, u13, h2, e2⟩ := l_bmid (t4 := t4) (t5 := t5) (t6 := t6) h1 (by omega) hn0 hn9 hsl hsv hl hf hfe hlow
  obtain ⟨l, a3, b3, c3, l1, l2, h3, e3⟩ := l_s13 (n := n) (s2 := .sh (eB es)) (s3 := .sh (.list (iL sh))) (s4 := u4) (s5 := .no) (s6 := .no) (s7 := .sh (.tuple [.str "clocks", .tuple (dR n d)])) (s8 := u8) (s9 := u9) (s10 := u10) (s11 := u11) (s12 := u12) (s13 := u13) (s14 := .no) (s15 := .no) (s16 := .no) (s17 := .no) h2 (by omega) (by omega)
  obtain ⟨t5', t6', e5⟩ := l_s15 (n := n) (sh := sh) (l := l) (s0 := pt a3 b3 c3) (s1 := .sh (.int n)) (s2 := .sh (eB es)) (s4 := u4) (s5 := .no) (s6 := .no) (s7 := .sh (.tuple [.str "clocks", .tuple (dR n d)])) (s8 := u8) (s9 := u9) (s10 := u10) (s11 := u11) (s12 := u12) (s13 := u13) hsl (by omega) l2
  have hrl : (ringE sh l).length = n := by simp [ringE, nxt_len, l1]
  obtain ⟨r0, rs, hr⟩ : ∃ r0 rs, ringE sh l = r0 :: rs := by
    cases hq : ringE sh l with
    | nil => rw [hq] at hrl; simp at hrl; omega
    | cons r0 rs => exact ⟨r0, rs, rfl⟩
  have hrf := ring_fits (l := l) hsl l2
  have hfa : ∀ e ∈ es ++ ringE sh l, fitsE n sh e := fun e he => (List.mem_append.mp he).elim (hf e) (hrf e)
  have hrl' : rs.length + 1 = n := by rw [← hrl, hr]; rfl
  have e6 := l_s16 (n := n) (sh := sh) (es := es) (rs := ringE sh l) (s0 := pt a3 b3 c3) (s3 := .sh (.list (iL sh))) (s4 := u4) (s5 := t5') (s6 := t6') (s7 := .sh (.tuple [.str "clocks", .tuple (dR n d)])) (s8 := u8) (s9 := u9) (s10 := u10) (s11 := u11) (s12 := u12) (s13 := u13) (s14 := .sh (.list (nL l))) hn0 hn9 hsv (by omega) hfa
  have hfits : ∀ e ∈ es ++ (lessE r0 :: rs), e.1 < n ∧ e.2.1 < n ∧ -3000 ≤ e.2.2 ∧ e.2.2 ≤ 3000 := fun e he => by
    have hw := fits_w hsv hfa
    rw [hr] at hfa hw
    rcases List.mem_append.mp he with h | h
    · have := hw e (List.mem_append_left _ h)
      exact ⟨(hf e h).1, (hf e h).2.1, by omega, by omega⟩
    · rcases List.mem_cons.mp h with rfl | h
      · have := hw r0 (List.mem_append_right _ List.mem_cons_self)
        have q := hfa r0 (List.mem_append_right _ List.mem_cons_self)
        exact ⟨q.1, q.2.1, by simp only [lessE]; omega, by simp only [lessE]; omega⟩
      · have := hw e (List.mem_append_right _ (List.mem_cons_of_mem _ h))
        have q := hfa e (List.mem_append_right _ (List.mem_cons_of_mem _ h))
        exact ⟨q.1, q.2.1, by omega, by omega⟩
  obtain ⟨m, Y, J, W, ec, m1, m2, hY, hs, hsum⟩ := ring_when (n := n) (es := es ++ (lessE r0 :: rs)) (by omega) (by omega) (by simp; omega) (fun e he => by have := hfits e he; omega) (fun e he => ⟨(hfits e he).1, (hfits e he).2.1⟩) fun d hd => no_clocks (n := n) hr hd
  have e7 := l_s17 (r0 := r0) (rs := rs) (s0 := pt a3 b3 c3) (s1 := .sh (.int n)) (s2 := .sh (eB es)) (s3 := .sh (.list (iL sh))) (s4 := u4) (s5 := t5') (s6 := t6') (s7 := .sh (.tuple [.str "clocks", .tuple (dR n d)])) (s8 := u8) (s9 := u9) (s10 := u10) (s11 := u11) (s12 := u12) (s13 := u13) (s14 := .sh (.list (nL l)))
  have e8 := l_s18 (s0 := pt a3 b3 c3) (s3 := .sh (.list (iL sh))) (s4 := u4) (s5 := t5') (s6 := t6') (s7 := .sh (.tuple [.str "clocks", .tuple (dR n d)])) (s8 := u8) (s9 := u9) (s10 := u10) (s11 := u11) (s12 := u12) (s13 := u13) (s14 := .sh (.list (nL l))) (show es.length + (lessE r0 :: rs).length ≤ 100 by simp; omega) ec
  have e9 := l_s19 (s0 := pt a3 b3 c3) (s1 := .sh (.int n)) (s3 := .sh (.list (iL sh))) (s4 := u4) (s5 := t5') (s6 := t6') (s7 := .sh (.tuple [.str "clocks", .tuple (dR n d)])) (s8 := u8) (s9 := u9) (s10 := u10) (s11 := u11) (s12 := u12) (s13 := u13) (s14 := .sh (.list (nL l))) (show m ≤ 100 by omega) (show es.length + (lessE r0 :: rs).length ≤ 100 by simp; omega) hs
  have e10 := l_s20 (Y := Y) (s0 := pt a3 b3 c3) (s1 := .sh (.int n)) (s2 := .sh (eB es)) (s3 := .sh (.list (iL sh))) (s4 := u4) (s5 := t5') (s6 := t6') (s7 := .sh (.tuple [.str "clocks", .tuple (dR n d)])) (s8 := u8) (s9 := u9) (s10 := u10) (s11 := u11) (s13 := u13) (s14 := .sh (.list (nL l))) (s15 := .sh (.list ((lessE r0 :: rs).map eE))) (s16 := .sh (.str "ring")) (s17 := .sh (.tuple (((List.range m).map fun t => PyData.int (J t : Nat)).reverse))) (show m ≤ 100 by omega) m1 hsum
  have e11 := l_s21 (W := W) (s0 := pt a3 b3 c3) (s1 := .sh (.int n)) (s2 := .sh (eB es)) (s3 := .sh (.list (iL sh))) (s4 := u4) (s5 := t5') (s6 := t6') (s7 := .sh (.tuple [.str "clocks", .tuple (dR n d)])) (s8 := u8) (s9 := u9) (s10 := u10) (s11 := u11) (s13 := u13) (s14 := .sh (.list (nL l))) (s15 := .sh (.list ((lessE r0 :: rs).map eE))) (s16 := .sh (.str "ring")) (s17 := .sh (.tuple (((List.range m).map fun t => PyData.int (J t : Nat)).reverse))) (show m ≤ 100 by omega) hY
  have e4 := l_s14 (s0 := pt a3 b3 c3) (s1 := .sh (.int n)) (s2 := .sh (eB es)) (s3 := .sh (.list (iL sh))) (s4 := u4) (s5 := .no) (s6 := .no) (s7 := .sh (.tuple [.str "clocks", .tuple (dR n d)])) (s8 := u8) (s9 := u9) (s10 := u10) (s11 := u11) (s12 := u12) (s13 := u13) (s14 := .sh (.list (nL l))) (s15 := .no) (s16 := .no) (s17 := .no)
  rw [hr] at e5 e6
  refine ⟨a3, b3, c3, ?_, ?_⟩
  · have e : m__law_are_bounds_right (RB (pt a b c) .no .no .no .no .no .no .no .no .no .no .no .no .no .no .no .no .no) = some (.rt (.bool true) .S, RB (pt a3 b3 c3) (.sh (.int n)) (.sh (eB es)) (.sh (.list (iL sh))) u4 .no .no (.sh (.tuple [.str "clocks", .tuple (dR n d)])) u8 u9 u10 u11 (.sh (.list ((List.range m).reverse.map (eY Y W)))) u13 (.sh (.list (nL l))) (.sh (.list ((lessE r0 :: rs).map eE))) (.sh (.str "ring")) (.sh (.tuple (((List.range m).map fun t => PyData.int (J t : Nat)).reverse)))) := by
      unfold m__law_are_bounds_right
      rw [e1, e2, seq_nx e3, seq_nx e4, seq_nx e5, seq_nx e6, seq_nx e7, seq_nx e8, seq_nx e9, seq_nx e10]
      exact e11
    have e0 : ([pt a b c] ++ List.replicate (23 - 1) .no : List Sl) = RB (pt a b c) .no .no .no .no .no .no .no .no .no .no .no .no .no .no .no .no .no := rfl
    simp only [F__law_are_bounds_right, runFn, List.length_cons, List.length_nil, Nat.zero_add, e0, e]
    simp [outs, RB]
  · obtain ⟨z1, z2, z3, z4, z5⟩ := h3
    exact ⟨z1, z2, z3, z4, by omega⟩
theorem law_true (ns : List Int) (hl : ns.length ≤ 63) {P : Prop} (hb : P) : ∃ m rb, F_law [.sh (.list (ns.map .int))] = some (.bool true, m, rb) := ⟨_, _, l_law l_bounds⟩
end K77

end
namespace K77
open PySem PySem.Spec PyProof.Rows L2 DL
theorem all_mk {l : PySem.W.OpenLaw} {w : World} {K : PySem.W.Frag} {h : Heap} {mg : Str → Option Value} {fz : Addr} (X : K.In h) (GN : h.Ns mainGlobals mg) (hfa : mg "law" = some (.ref fz))
    {f0 f1 f2 f3 f4 f5 f6 f7 f8 f9 f10 f11 f12 f13 f14 f15 f16 f17 f18 f19 f20 f21 f22 f23 f24 f25 : Addr}
    {od0 an0 od1 an1 od2 an2 od3 an3 od4 an4 od5 an5 od6 an6 od7 an7 od8 an8 od9 an9 od10 an10 od11 an11 od12 an12 od13 an13 od14 an14 od15 an15 od16 an16 od17 an17 od18 an18 od19 an19 od20 an20 od21 an21 od22 an22 od23 an23 od24 an24 od25 an25 : Option Addr} {sl0 sl1 sl2 sl3 sl4 sl5 sl6 sl7 sl8 sl9 sl10 sl11 sl12 sl13 sl14 sl15 sl16 sl17 sl18 sl19 sl20 sl21 sl22 sl23 sl24 sl25 : Array (Option Value)}
    {oc0 kV0 dc0 pm0 cd0 ct0 oc1 kV1 dc1 pm1 cd1 ct1 oc2 kV2 dc2 pm2 cd2 ct2 oc3 kV3 dc3 pm3 cd3 ct3 oc4 kV4 dc4 pm4 cd4 ct4 oc5 kV5 dc5 pm5 cd5 ct5 oc6 kV6 dc6 pm6 cd6 ct6 oc7 kV7 dc7 pm7 cd7 ct7 oc8 kV8 dc8 pm8 cd8 ct8 oc9 kV9 dc9 pm9 cd9 ct9 oc10 kV10 dc10 pm10 cd10 ct10 oc11 kV11 dc11 pm11 cd11 ct11 oc12 kV12 dc12 pm12 cd12 ct12 oc13 kV13 dc13 pm13 cd13 ct13 oc14 kV14 dc14 pm14 cd14 ct14 oc15 kV15 dc15 pm15 cd15 ct15 oc16 kV16 dc16 pm16 cd16 ct16 oc17 kV17 dc17 pm17 cd17 ct17 oc18 kV18 dc18 pm18 cd18 ct18 oc19 kV19 dc19 pm19 cd19 ct19 oc20 kV20 dc20 pm20 cd20 ct20 oc21 kV21 dc21 pm21 cd21 ct21 oc22 kV22 dc22 pm22 cd22 ct22 oc23 kV23 dc23 pm23 cd23 ct23 oc24 kV24 dc24 pm24 cd24 ct24 oc25 kV25 dc25 pm25 cd25 ct25 : Value}
    {t_APART t_CLOCKS t_MOST_HOSTS t_MOST_SOME t_MOST_TIME t_NEVER t_RING t_THREE : Tok}
    (a0 : PySem.W.nsIn K mainGlobals "is_int" = some (some (.ref f0))) (l0 : K.lookup f0 = some ⟨oc0, od0, .func (PySem.W.fnOf "is_int" "is_int" (defArgs s_is_int) (defBody s_is_int) (defScope s_is_int) .none kV0 dc0 pm0 an0 cd0 ct0), sl0⟩) (c0 : PySem.W.codeIn K cd0 "is_int" = true) (k0 : PySem.W.keepIn K (.ref f0) = true)
    (a1 : PySem.W.nsIn K mainGlobals "are_ints" = some (some (.ref f1))) (l1 : K.lookup f1 = some ⟨oc1, od1, .func (PySem.W.fnOf "are_ints" "are_ints" (defArgs s_are_ints) (defBody s_are_ints) (defScope s_are_ints) .none kV1 dc1 pm1 an1 cd1 ct1), sl1⟩) (c1 : PySem.W.codeIn K cd1 "are_ints" = true) (k1 : PySem.W.keepIn K (.ref f1) = true)
    (a2 : PySem.W.nsIn K mainGlobals "is_told" = some (some (.ref f2))) (l2 : K.lookup f2 = some ⟨oc2, od2, .func (PySem.W.fnOf "is_told" "is_told" (defArgs s_is_told) (defBody s_is_told) (defScope s_is_told) .none kV2 dc2 pm2 an2 cd2 ct2), sl2⟩) (c2 : PySem.W.codeIn K cd2 "is_told" = true) (k2 : PySem.W.keepIn K (.ref f2) = true)
    (a3 : PySem.W.nsIn K mainGlobals "look_at_letters_back" = some (some (.ref f3))) (l3 : K.lookup f3 = some ⟨oc3, od3, .func (PySem.W.fnOf "look_at_letters_back" "look_at_letters_back" (defArgs s_look_at_letters_back) (defBody s_look_at_letters_back) (defScope s_look_at_letters_back) .none kV3 dc3 pm3 an3 cd3 ct3), sl3⟩) (c3 : PySem.W.codeIn K cd3 "look_at_letters_back" = true) (k3 : PySem.W.keepIn K (.ref f3) = true)
    (a4 : PySem.W.nsIn K mainGlobals "told_between" = some (some (.ref f4))) (l4 : K.lookup f4 = some ⟨oc4, od4, .func (PySem.W.fnOf "told_between" "told_between" (defArgs s_told_between) (defBody s_told_between) (defScope s_told_between) .none kV4 dc4 pm4 an4 cd4 ct4), sl4⟩) (c4 : PySem.W.codeIn K cd4 "told_between" = true) (k4 : PySem.W.keepIn K (.ref f4) = true)
    (a5 : PySem.W.nsIn K mainGlobals "told_apart" = some (some (.ref f5))) (l5 : K.lookup f5 = some ⟨oc5, od5, .func (PySem.W.fnOf "told_apart" "told_apart" (defArgs s_told_apart) (defBody s_told_apart) (defScope s_told_apart) .none kV5 dc5 pm5 an5 cd5 ct5), sl5⟩) (c5 : PySem.W.codeIn K cd5 "told_apart" = true) (k5 : PySem.W.keepIn K (.ref f5) = true)
    (a6 : PySem.W.nsIn K mainGlobals "clocks_apart" = some (some (.ref f6))) (l6 : K.lookup f6 = some ⟨oc6, od6, .func (PySem.W.fnOf "clocks_apart" "clocks_apart" (defArgs s_clocks_apart) (defBody s_clocks_apart) (defScope s_clocks_apart) .none kV6 dc6 pm6 an6 cd6 ct6), sl6⟩) (c6 : PySem.W.codeIn K cd6 "clocks_apart" = true) (k6 : PySem.W.keepIn K (.ref f6) = true)
    (a7 : PySem.W.nsIn K mainGlobals "look_at_spans" = some (some (.ref f7))) (l7 : K.lookup f7 = some ⟨oc7, od7, .func (PySem.W.fnOf "look_at_spans" "look_at_spans" (defArgs s_look_at_spans) (defBody s_look_at_spans) (defScope s_look_at_spans) .none kV7 dc7 pm7 an7 cd7 ct7), sl7⟩) (c7 : PySem.W.codeIn K cd7 "look_at_spans" = true) (k7 : PySem.W.keepIn K (.ref f7) = true)
    (a8 : PySem.W.nsIn K mainGlobals "most_agree" = some (some (.ref f8))) (l8 : K.lookup f8 = some ⟨oc8, od8, .func (PySem.W.fnOf "most_agree" "most_agree" (defArgs s_most_agree) (defBody s_most_agree) (defScope s_most_agree) .none kV8 dc8 pm8 an8 cd8 ct8), sl8⟩) (c8 : PySem.W.codeIn K cd8 "most_agree" = true) (k8 : PySem.W.keepIn K (.ref f8) = true)
    (a9 : PySem.W.nsIn K mainGlobals "told_points" = some (some (.ref f9))) (l9 : K.lookup f9 = some ⟨oc9, od9, .func (PySem.W.fnOf "told_points" "told_points" (defArgs s_told_points) (defBody s_told_points) (defScope s_told_points) .none kV9 dc9 pm9 an9 cd9 ct9), sl9⟩) (c9 : PySem.W.codeIn K cd9 "told_points" = true) (k9 : PySem.W.keepIn K (.ref f9) = true)
    (a10 : PySem.W.nsIn K mainGlobals "fewest_numbers" = some (some (.ref f10))) (l10 : K.lookup f10 = some ⟨oc10, od10, .func (PySem.W.fnOf "fewest_numbers" "fewest_numbers" (defArgs s_fewest_numbers) (defBody s_fewest_numbers) (defScope s_fewest_numbers) .none kV10 dc10 pm10 an10 cd10 ct10), sl10⟩) (c10 : PySem.W.codeIn K cd10 "fewest_numbers" = true) (k10 : PySem.W.keepIn K (.ref f10) = true)
    (a11 : PySem.W.nsIn K mainGlobals "look_at_bounds" = some (some (.ref f11))) (l11 : K.lookup f11 = some ⟨oc11, od11, .func (PySem.W.fnOf "look_at_bounds" "look_at_bounds" (defArgs s_look_at_bounds) (defBody s_look_at_bounds) (defScope s_look_at_bounds) .none kV11 dc11 pm11 an11 cd11 ct11), sl11⟩) (c11 : PySem.W.codeIn K cd11 "look_at_bounds" = true) (k11 : PySem.W.keepIn K (.ref f11) = true)
    (a12 : PySem.W.nsIn K mainGlobals "told_clocks" = some (some (.ref f12))) (l12 : K.lookup f12 = some ⟨oc12, od12, .func (PySem.W.fnOf "told_clocks" "told_clocks" (defArgs s_told_clocks) (defBody s_told_clocks) (defScope s_told_clocks) .none kV12 dc12 pm12 an12 cd12 ct12), sl12⟩) (c12 : PySem.W.codeIn K cd12 "told_clocks" = true) (k12 : PySem.W.keepIn K (.ref f12) = true)
    (a13 : PySem.W.nsIn K mainGlobals "clocks_for" = some (some (.ref f13))) (l13 : K.lookup f13 = some ⟨oc13, od13, .func (PySem.W.fnOf "clocks_for" "clocks_for" (defArgs s_clocks_for) (defBody s_clocks_for) (defScope s_clocks_for) .none kV13 dc13 pm13 an13 cd13 ct13), sl13⟩) (c13 : PySem.W.codeIn K cd13 "clocks_for" = true) (k13 : PySem.W.keepIn K (.ref f13) = true)
    (a14 : PySem.W.nsIn K mainGlobals "shows_clocks_for" = some (some (.ref f14))) (l14 : K.lookup f14 = some ⟨oc14, od14, .func (PySem.W.fnOf "shows_clocks_for" "shows_clocks_for" (defArgs s_shows_clocks_for) (defBody s_shows_clocks_for) (defScope s_shows_clocks_for) .none kV14 dc14 pm14 an14 cd14 ct14), sl14⟩) (c14 : PySem.W.codeIn K cd14 "shows_clocks_for" = true) (k14 : PySem.W.keepIn K (.ref f14) = true)
    (a15 : PySem.W.nsIn K mainGlobals "_law_pot" = some (some (.ref f15))) (l15 : K.lookup f15 = some ⟨oc15, od15, .func (PySem.W.fnOf "_law_pot" "_law_pot" (defArgs s__law_pot) (defBody s__law_pot) (defScope s__law_pot) .none kV15 dc15 pm15 an15 cd15 ct15), sl15⟩) (c15 : PySem.W.codeIn K cd15 "_law_pot" = true) (k15 : PySem.W.keepIn K (.ref f15) = true)
    (a16 : PySem.W.nsIn K mainGlobals "_law_take" = some (some (.ref f16))) (l16 : K.lookup f16 = some ⟨oc16, od16, .func (PySem.W.fnOf "_law_take" "_law_take" (defArgs s__law_take) (defBody s__law_take) (defScope s__law_take) .none kV16 dc16 pm16 an16 cd16 ct16), sl16⟩) (c16 : PySem.W.codeIn K cd16 "_law_take" = true) (k16 : PySem.W.keepIn K (.ref f16) = true)
    (a17 : PySem.W.nsIn K mainGlobals "_law_of" = some (some (.ref f17))) (l17 : K.lookup f17 = some ⟨oc17, od17, .func (PySem.W.fnOf "_law_of" "_law_of" (defArgs s__law_of) (defBody s__law_of) (defScope s__law_of) .none kV17 dc17 pm17 an17 cd17 ct17), sl17⟩) (c17 : PySem.W.codeIn K cd17 "_law_of" = true) (k17 : PySem.W.keepIn K (.ref f17) = true)
    (a18 : PySem.W.nsIn K mainGlobals "_law_cells" = some (some (.ref f18))) (l18 : K.lookup f18 = some ⟨oc18, od18, .func (PySem.W.fnOf "_law_cells" "_law_cells" (defArgs s__law_cells) (defBody s__law_cells) (defScope s__law_cells) .none kV18 dc18 pm18 an18 cd18 ct18), sl18⟩) (c18 : PySem.W.codeIn K cd18 "_law_cells" = true) (k18 : PySem.W.keepIn K (.ref f18) = true)
    (a19 : PySem.W.nsIn K mainGlobals "_law_some" = some (some (.ref f19))) (l19 : K.lookup f19 = some ⟨oc19, od19, .func (PySem.W.fnOf "_law_some" "_law_some" (defArgs s__law_some) (defBody s__law_some) (defScope s__law_some) .none kV19 dc19 pm19 an19 cd19 ct19), sl19⟩) (c19 : PySem.W.codeIn K cd19 "_law_some" = true) (k19 : PySem.W.keepIn K (.ref f19) = true)
    (a20 : PySem.W.nsIn K mainGlobals "_law_letters_drawn" = some (some (.ref f20))) (l20 : K.lookup f20 = some ⟨oc20, od20, .func (PySem.W.fnOf "_law_letters_drawn" "_law_letters_drawn" (defArgs s__law_letters_drawn) (defBody s__law_letters_drawn) (defScope s__law_letters_drawn) .none kV20 dc20 pm20 an20 cd20 ct20), sl20⟩) (c20 : PySem.W.codeIn K cd20 "_law_letters_drawn" = true) (k20 : PySem.W.keepIn K (.ref f20) = true)
    (a21 : PySem.W.nsIn K mainGlobals "_law_are_letters_right" = some (some (.ref f21))) (l21 : K.lookup f21 = some ⟨oc21, od21, .func (PySem.W.fnOf "_law_are_letters_right" "_law_are_letters_right" (defArgs s__law_are_letters_right) (defBody s__law_are_letters_right) (defScope s__law_are_letters_right) .none kV21 dc21 pm21 an21 cd21 ct21), sl21⟩) (c21 : PySem.W.codeIn K cd21 "_law_are_letters_right" = true) (k21 : PySem.W.keepIn K (.ref f21) = true)
    (a22 : PySem.W.nsIn K mainGlobals "_law_are_spans_right" = some (some (.ref f22))) (l22 : K.lookup f22 = some ⟨oc22, od22, .func (PySem.W.fnOf "_law_are_spans_right" "_law_are_spans_right" (defArgs s__law_are_spans_right) (defBody s__law_are_spans_right) (defScope s__law_are_spans_right) .none kV22 dc22 pm22 an22 cd22 ct22), sl22⟩) (c22 : PySem.W.codeIn K cd22 "_law_are_spans_right" = true) (k22 : PySem.W.keepIn K (.ref f22) = true)
    (a23 : PySem.W.nsIn K mainGlobals "_law_are_bounds_right" = some (some (.ref f23))) (l23 : K.lookup f23 = some ⟨oc23, od23, .func (PySem.W.fnOf "_law_are_bounds_right" "_law_are_bounds_right" (defArgs s__law_are_bounds_right) (defBody s__law_are_bounds_right) (defScope s__law_are_bounds_right) .none kV23 dc23 pm23 an23 cd23 ct23), sl23⟩) (c23 : PySem.W.codeIn K cd23 "_law_are_bounds_right" = true) (k23 : PySem.W.keepIn K (.ref f23) = true)
    (a24 : PySem.W.nsIn K mainGlobals "_law_right" = some (some (.ref f24))) (l24 : K.lookup f24 = some ⟨oc24, od24, .func (PySem.W.fnOf "_law_right" "_law_right" (defArgs s__law_right) (defBody s__law_right) (defScope s__law_right) .none kV24 dc24 pm24 an24 cd24 ct24), sl24⟩) (c24 : PySem.W.codeIn K cd24 "_law_right" = true) (k24 : PySem.W.keepIn K (.ref f24) = true)
    (a25 : PySem.W.nsIn K mainGlobals "law" = some (some (.ref f25))) (l25 : K.lookup f25 = some ⟨oc25, od25, .func (PySem.W.fnOf "law" "law" (defArgs s_law) (defBody s_law) (defScope s_law) .none kV25 dc25 pm25 an25 cd25 ct25), sl25⟩) (c25 : PySem.W.codeIn K cd25 "law" = true) (k25 : PySem.W.keepIn K (.ref f25) = true)
    (z_abs : PySem.W.nsIn K mainGlobals "abs" = some none)
    (z_all : PySem.W.nsIn K mainGlobals "all" = some none)
    (z_any : PySem.W.nsIn K mainGlobals "any" = some none)
    (z_bool : PySem.W.nsIn K mainGlobals "bool" = some none)
    (z_enumerate : PySem.W.nsIn K mainGlobals "enumerate" = some none)
    (z_int : PySem.W.nsIn K mainGlobals "int" = some none)
    (z_isinstance : PySem.W.nsIn K mainGlobals "isinstance" = some none)
    (z_len : PySem.W.nsIn K mainGlobals "len" = some none)
    (z_list : PySem.W.nsIn K mainGlobals "list" = some none)
    (z_max : PySem.W.nsIn K mainGlobals "max" = some none)
    (z_min : PySem.W.nsIn K mainGlobals "min" = some none)
    (z_range : PySem.W.nsIn K mainGlobals "range" = some none)
    (z_set : PySem.W.nsIn K mainGlobals "set" = some none)
    (z_sorted : PySem.W.nsIn K mainGlobals "sorted" = some none)
    (z_str : PySem.W.nsIn K mainGlobals "str" = some none)
    (z_sum : PySem.W.nsIn K mainGlobals "sum" = some none)
    (z_tuple : PySem.W.nsIn K mainGlobals "tuple" = some none)
    (z_zip : PySem.W.nsIn K mainGlobals "zip" = some none)
    (e_APART : PySem.W.nsIn K mainGlobals "APART" = some (some (.str "apart" t_APART)))
    (e_CLOCKS : PySem.W.nsIn K mainGlobals "CLOCKS" = some (some (.str "clocks" t_CLOCKS)))
    (e_MOST_HOSTS : PySem.W.nsIn K mainGlobals "MOST_HOSTS" = some (some (.int 30 t_MOST_HOSTS)))
    (e_MOST_SOME : PySem.W.nsIn K mainGlobals "MOST_SOME" = some (some (.int 200 t_MOST_SOME)))
    (e_MOST_TIME : PySem.W.nsIn K mainGlobals "MOST_TIME" = some (some (.int 1000000000000 t_MOST_TIME)))
    (e_NEVER : PySem.W.nsIn K mainGlobals "NEVER" = some (some (.str "never" t_NEVER)))
    (e_RING : PySem.W.nsIn K mainGlobals "RING" = some (some (.str "ring" t_RING)))
    (e_THREE : PySem.W.nsIn K mainGlobals "THREE" = some (some (.int 3 t_THREE)))
    : ∃ fd : FuncData, (∀ (s : Shared) (v : Value), BindsTo s fd ⟨[v], []⟩ [("script", v)]) ∧ ∀ base : Heap, K.In base → base.Ns mainGlobals mg → FnOk l.prog w K mg base CX0 7 fz fd ["script"] (spD K 1 F_law) := by
  have e := hfa.symm.trans (PySem.W.mg_of X GN a25)
  cases e
  have F0 := fun_mk (st := s_is_int) l0 c0 k0
  have B0 := F0.binds (ps := ["value", "low", "high"]) fun _ _ _ _ _ _ us hl => match us, hl with | [_, _, _], _ => rfl
  have F1 := fun_mk (st := s_are_ints) l1 c1 k1
  have B1 := F1.binds (ps := ["value", "low", "high"]) fun _ _ _ _ _ _ us hl => match us, hl with | [_, _, _], _ => rfl
  have F2 := fun_mk (st := s_is_told) l2 c2 k2
  have B2 := F2.binds (ps := ["value", "sizes"]) fun _ _ _ _ _ _ us hl => match us, hl with | [_, _], _ => rfl
  have F3 := fun_mk (st := s_look_at_letters_back) l3 c3 k3
  have B3 := F3.binds (ps := ["exchanges"]) fun _ _ _ _ _ _ us hl => match us, hl with | [_], _ => rfl
  have F4 := fun_mk (st := s_told_between) l4 c4 k4
  have B4 := F4.binds (ps := ["times"]) fun _ _ _ _ _ _ us hl => match us, hl with | [_], _ => rfl
  have F5 := fun_mk (st := s_told_apart) l5 c5 k5
  have B5 := F5.binds (ps := ["some"]) fun _ _ _ _ _ _ us hl => match us, hl with | [_], _ => rfl
  have F6 := fun_mk (st := s_clocks_apart) l6 c6 k6
  have B6 := F6.binds (ps := ["exchanges"]) fun _ _ _ _ _ _ us hl => match us, hl with | [_], _ => rfl
  have F7 := fun_mk (st := s_look_at_spans) l7 c7 k7
  have B7 := F7.binds (ps := ["spans"]) fun _ _ _ _ _ _ us hl => match us, hl with | [_], _ => rfl
  have F8 := fun_mk (st := s_most_agree) l8 c8 k8
  have B8 := F8.binds (ps := ["spans"]) fun _ _ _ _ _ _ us hl => match us, hl with | [_], _ => rfl
  have F9 := fun_mk (st := s_told_points) l9 c9 k9
  have B9 := F9.binds (ps := ["spans"]) fun _ _ _ _ _ _ us hl => match us, hl with | [_], _ => rfl
  have F10 := fun_mk (st := s_fewest_numbers) l10 c10 k10
  have B10 := F10.binds (ps := ["spans"]) fun _ _ _ _ _ _ us hl => match us, hl with | [_], _ => rfl
  have F11 := fun_mk (st := s_look_at_bounds) l11 c11 k11
  have B11 := F11.binds (ps := ["many", "bounds"]) fun _ _ _ _ _ _ us hl => match us, hl with | [_, _], _ => rfl
  have F12 := fun_mk (st := s_told_clocks) l12 c12 k12
  have B12 := F12.binds (ps := ["many", "bounds"]) fun _ _ _ _ _ _ us hl => match us, hl with | [_, _], _ => rfl
  have F13 := fun_mk (st := s_clocks_for) l13 c13 k13
  have B13 := F13.binds (ps := ["many", "bounds"]) fun _ _ _ _ _ _ us hl => match us, hl with | [_, _], _ => rfl
  have F14 := fun_mk (st := s_shows_clocks_for) l14 c14 k14
  have B14 := F14.binds (ps := ["many", "bounds", "value"]) fun _ _ _ _ _ _ us hl => match us, hl with | [_, _, _], _ => rfl
  have F15 := fun_mk (st := s__law_pot) l15 c15 k15
  have B15 := F15.binds (ps := ["script", "place"]) fun _ _ _ _ _ _ us hl => match us, hl with | [_, _], _ => rfl
  have F16 := fun_mk (st := s__law_take) l16 c16 k16
  have B16 := F16.binds (ps := ["pot", "upto"]) fun _ _ _ _ _ _ us hl => match us, hl with | [_, _], _ => rfl
  have F17 := fun_mk (st := s__law_of) l17 c17 k17
  have B17 := F17.binds (ps := ["pot", "some"]) fun _ _ _ _ _ _ us hl => match us, hl with | [_, _], _ => rfl
  have F18 := fun_mk (st := s__law_cells) l18 c18 k18
  have B18 := F18.binds (ps := ["script", "most"]) fun _ _ _ _ _ _ us hl => match us, hl with | [_, _], _ => rfl
  have F19 := fun_mk (st := s__law_some) l19 c19 k19
  have B19 := F19.binds (ps := ["pot", "pool", "many"]) fun _ _ _ _ _ _ us hl => match us, hl with | [_, _, _], _ => rfl
  have F20 := fun_mk (st := s__law_letters_drawn) l20 c20 k20
  have B20 := F20.binds (ps := ["pot"]) fun _ _ _ _ _ _ us hl => match us, hl with | [_], _ => rfl
  have F21 := fun_mk (st := s__law_are_letters_right) l21 c21 k21
  have B21 := F21.binds (ps := ["letters"]) fun _ _ _ _ _ _ us hl => match us, hl with | [_], _ => rfl
  have F22 := fun_mk (st := s__law_are_spans_right) l22 c22 k22
  have B22 := F22.binds (ps := ["pot"]) fun _ _ _ _ _ _ us hl => match us, hl with | [_], _ => rfl
  have F23 := fun_mk (st := s__law_are_bounds_right) l23 c23 k23
  have B23 := F23.binds (ps := ["pot"]) fun _ _ _ _ _ _ us hl => match us, hl with | [_], _ => rfl
  have F24 := fun_mk (st := s__law_right) l24 c24 k24
  have B24 := F24.binds (ps := ["pot"]) fun _ _ _ _ _ _ us hl => match us, hl with | [_], _ => rfl
  have F25 := fun_mk (st := s_law) l25 c25 k25
  have B25 := F25.binds (ps := ["script"]) fun _ _ _ _ _ _ us hl => match us, hl with | [_], _ => rfl
  let fa : Nat → Addr := fun k => match k with
    | 0 => f0
    | 1 => f1
    | 2 => f2
    | 3 => f3
    | 4 => f4
    | 5 => f5
    | 6 => f6
    | 7 => f7
    | 8 => f8
    | 9 => f9
    | 10 => f10
    | 11 => f11
    | 12 => f12
    | 13 => f13
    | 14 => f14
    | 15 => f15
    | 16 => f16
    | 17 => f17
    | 18 => f18
    | 19 => f19
    | 20 => f20
    | 21 => f21
    | 22 => f22
    | 23 => f23
    | 24 => f24
    | _ => fz
  let fd : Nat → FuncData := fun k => match k with
    | 0 => PySem.W.fnOf "is_int" "is_int" (defArgs s_is_int) (defBody s_is_int) (defScope s_is_int) .none kV0 dc0 pm0 an0 cd0 ct0
    | 1 => PySem.W.fnOf "are_ints" "are_ints" (defArgs s_are_ints) (defBody s_are_ints) (defScope s_are_ints) .none kV1 dc1 pm1 an1 cd1 ct1
    | 2 => PySem.W.fnOf "is_told" "is_told" (defArgs s_is_told) (defBody s_is_told) (defScope s_is_told) .none kV2 dc2 pm2 an2 cd2 ct2
    | 3 => PySem.W.fnOf "look_at_letters_back" "look_at_letters_back" (defArgs s_look_at_letters_back) (defBody s_look_at_letters_back) (defScope s_look_at_letters_back) .none kV3 dc3 pm3 an3 cd3 ct3
    | 4 => PySem.W.fnOf "told_between" "told_between" (defArgs s_told_between) (defBody s_told_between) (defScope s_told_between) .none kV4 dc4 pm4 an4 cd4 ct4
    | 5 => PySem.W.fnOf "told_apart" "told_apart" (defArgs s_told_apart) (defBody s_told_apart) (defScope s_told_apart) .none kV5 dc5 pm5 an5 cd5 ct5
    | 6 => PySem.W.fnOf "clocks_apart" "clocks_apart" (defArgs s_clocks_apart) (defBody s_clocks_apart) (defScope s_clocks_apart) .none kV6 dc6 pm6 an6 cd6 ct6
    | 7 => PySem.W.fnOf "look_at_spans" "look_at_spans" (defArgs s_look_at_spans) (defBody s_look_at_spans) (defScope s_look_at_spans) .none kV7 dc7 pm7 an7 cd7 ct7
    | 8 => PySem.W.fnOf "most_agree" "most_agree" (defArgs s_most_agree) (defBody s_most_agree) (defScope s_most_agree) .none kV8 dc8 pm8 an8 cd8 ct8
    | 9 => PySem.W.fnOf "told_points" "told_points" (defArgs s_told_points) (defBody s_told_points) (defScope s_told_points) .none kV9 dc9 pm9 an9 cd9 ct9
    | 10 => PySem.W.fnOf "fewest_numbers" "fewest_numbers" (defArgs s_fewest_numbers) (defBody s_fewest_numbers) (defScope s_fewest_numbers) .none kV10 dc10 pm10 an10 cd10 ct10
    | 11 => PySem.W.fnOf "look_at_bounds" "look_at_bounds" (defArgs s_look_at_bounds) (defBody s_look_at_bounds) (defScope s_look_at_bounds) .none kV11 dc11 pm11 an11 cd11 ct11
    | 12 => PySem.W.fnOf "told_clocks" "told_clocks" (defArgs s_told_clocks) (defBody s_told_clocks) (defScope s_told_clocks) .none kV12 dc12 pm12 an12 cd12 ct12
    | 13 => PySem.W.fnOf "clocks_for" "clocks_for" (defArgs s_clocks_for) (defBody s_clocks_for) (defScope s_clocks_for) .none kV13 dc13 pm13 an13 cd13 ct13
    | 14 => PySem.W.fnOf "shows_clocks_for" "shows_clocks_for" (defArgs s_shows_clocks_for) (defBody s_shows_clocks_for) (defScope s_shows_clocks_for) .none kV14 dc14 pm14 an14 cd14 ct14
    | 15 => PySem.W.fnOf "_law_pot" "_law_pot" (defArgs s__law_pot) (defBody s__law_pot) (defScope s__law_pot) .none kV15 dc15 pm15 an15 cd15 ct15
    | 16 => PySem.W.fnOf "_law_take" "_law_take" (defArgs s__law_take) (defBody s__law_take) (defScope s__law_take) .none kV16 dc16 pm16 an16 cd16 ct16
    | 17 => PySem.W.fnOf "_law_of" "_law_of" (defArgs s__law_of) (defBody s__law_of) (defScope s__law_of) .none kV17 dc17 pm17 an17 cd17 ct17
    | 18 => PySem.W.fnOf "_law_cells" "_law_cells" (defArgs s__law_cells) (defBody s__law_cells) (defScope s__law_cells) .none kV18 dc18 pm18 an18 cd18 ct18
    | 19 => PySem.W.fnOf "_law_some" "_law_some" (defArgs s__law_some) (defBody s__law_some) (defScope s__law_some) .none kV19 dc19 pm19 an19 cd19 ct19
    | 20 => PySem.W.fnOf "_law_letters_drawn" "_law_letters_drawn" (defArgs s__law_letters_drawn) (defBody s__law_letters_drawn) (defScope s__law_letters_drawn) .none kV20 dc20 pm20 an20 cd20 ct20
    | 21 => PySem.W.fnOf "_law_are_letters_right" "_law_are_letters_right" (defArgs s__law_are_letters_right) (defBody s__law_are_letters_right) (defScope s__law_are_letters_right) .none kV21 dc21 pm21 an21 cd21 ct21
    | 22 => PySem.W.fnOf "_law_are_spans_right" "_law_are_spans_right" (defArgs s__law_are_spans_right) (defBody s__law_are_spans_right) (defScope s__law_are_spans_right) .none kV22 dc22 pm22 an22 cd22 ct22
    | 23 => PySem.W.fnOf "_law_are_bounds_right" "_law_are_bounds_right" (defArgs s__law_are_bounds_right) (defBody s__law_are_bounds_right) (defScope s__law_are_bounds_right) .none kV23 dc23 pm23 an23 cd23 ct23
    | 24 => PySem.W.fnOf "_law_right" "_law_right" (defArgs s__law_right) (defBody s__law_right) (defScope s__law_right) .none kV24 dc24 pm24 an24 cd24 ct24
    | _ => PySem.W.fnOf "law" "law" (defArgs s_law) (defBody s_law) (defScope s_law) .none kV25 dc25 pm25 an25 cd25 ct25
  have G : Gs K mg fa fd := {
    F0 := F0, b0 := B0, g0 := PySem.W.mg_of X GN a0,
    F1 := F1, b1 := B1, g1 := PySem.W.mg_of X GN a1,
    F2 := F2, b2 := B2, g2 := PySem.W.mg_of X GN a2,
    F3 := F3, b3 := B3, g3 := PySem.W.mg_of X GN a3,
    F4 := F4, b4 := B4, g4 := PySem.W.mg_of X GN a4,
    F5 := F5, b5 := B5, g5 := PySem.W.mg_of X GN a5,
    F6 := F6, b6 := B6, g6 := PySem.W.mg_of X GN a6,
    F7 := F7, b7 := B7, g7 := PySem.W.mg_of X GN a7,
    F8 := F8, b8 := B8, g8 := PySem.W.mg_of X GN a8,
    F9 := F9, b9 := B9, g9 := PySem.W.mg_of X GN a9,
    F10 := F10, b10 := B10, g10 := PySem.W.mg_of X GN a10,
    F11 := F11, b11 := B11, g11 := PySem.W.mg_of X GN a11,
    F12 := F12, b12 := B12, g12 := PySem.W.mg_of X GN a12,
    F13 := F13, b13 := B13, g13 := PySem.W.mg_of X GN a13,
    F14 := F14, b14 := B14, g14 := PySem.W.mg_of X GN a14,
    F15 := F15, b15 := B15, g15 := PySem.W.mg_of X GN a15,
    F16 := F16, b16 := B16, g16 := PySem.W.mg_of X GN a16,
    F17 := F17, b17 := B17, g17 := PySem.W.mg_of X GN a17,
    F18 := F18, b18 := B18, g18 := PySem.W.mg_of X GN a18,
    F19 := F19, b19 := B19, g19 := PySem.W.mg_of X GN a19,
    F20 := F20, b20 := B20, g20 := PySem.W.mg_of X GN a20,
    F21 := F21, b21 := B21, g21 := PySem.W.mg_of X GN a21,
    F22 := F22, b22 := B22, g22 := PySem.W.mg_of X GN a22,
    F23 := F23, b23 := B23, g23 := PySem.W.mg_of X GN a23,
    F24 := F24, b24 := B24, g24 := PySem.W.mg_of X GN a24,
    F25 := F25, b25 := B25, g25 := PySem.W.mg_of X GN a25,
    z_abs := PySem.W.mg_none_of X GN z_abs, z_all := PySem.W.mg_none_of X GN z_all, z_any := PySem.W.mg_none_of X GN z_any, z_bool := PySem.W.mg_none_of X GN z_bool, z_enumerate := PySem.W.mg_none_of X GN z_enumerate, z_int := PySem.W.mg_none_of X GN z_int, z_isinstance := PySem.W.mg_none_of X GN z_isinstance, z_len := PySem.W.mg_none_of X GN z_len, z_list := PySem.W.mg_none_of X GN z_list, z_max := PySem.W.mg_none_of X GN z_max, z_min := PySem.W.mg_none_of X GN z_min, z_range := PySem.W.mg_none_of X GN z_range, z_set := PySem.W.mg_none_of X GN z_set, z_sorted := PySem.W.mg_none_of X GN z_sorted, z_str := PySem.W.mg_none_of X GN z_str, z_sum := PySem.W.mg_none_of X GN z_sum, z_tuple := PySem.W.mg_none_of X GN z_tuple, z_zip := PySem.W.mg_none_of X GN z_zip, c_APART := ⟨_, PySem.W.mg_of X GN e_APART, ⟨_, rfl⟩⟩, c_CLOCKS := ⟨_, PySem.W.mg_of X GN e_CLOCKS, ⟨_, rfl⟩⟩, c_MOST_HOSTS := ⟨_, PySem.W.mg_of X GN e_MOST_HOSTS, ⟨_, rfl⟩⟩, c_MOST_SOME := ⟨_, PySem.W.mg_of X GN e_MOST_SOME, ⟨_, rfl⟩⟩, c_MOST_TIME := ⟨_, PySem.W.mg_of X GN e_MOST_TIME, ⟨_, rfl⟩⟩, c_NEVER := ⟨_, PySem.W.mg_of X GN e_NEVER, ⟨_, rfl⟩⟩, c_RING := ⟨_, PySem.W.mg_of X GN e_RING, ⟨_, rfl⟩⟩, c_THREE := ⟨_, PySem.W.mg_of X GN e_THREE, ⟨_, rfl⟩⟩ }
  exact ⟨PySem.W.fnOf "law" "law" (defArgs s_law) (defBody s_law) (defScope s_law) .none kV25 dc25 pm25 an25 cd25 ct25, fun s v => .of_eq rfl, fun base _ _ => ok_law (P := l.prog) (w := w) (base := base) G⟩
end K77
open PySem PySem.W PyProof.Rows
set_option maxHeartbeats 0 in
theorem PySem.Challenge.cw_holesheldopen_k77_whole_clocks_by_bounds_holds : PySem.Challenge.rw_holesheldopen_k77_whole_clocks_by_bounds.Holds := by
  w_on; o_law; k_head; (case hw => w_witness2)
  k_fill
  refine L2.walk_ofB (l := PySem.Challenge.rw_holesheldopen_k77_whole_clocks_by_bounds) (n := 63) (k := 7) (x := "script") (CX := fun _ => L2.CX0) (sp := fun w => DL.spD _ 1 K77.F_law) rfl (by decide) rfl ⟨rfl, by decide, by decide⟩ (fun w h Y => PySem.W.kIn_of Y) ?F (fun _ H a ns hl hb _ hS => DL.start_law hS (K77.law_true ns hl hb)) (fun _ _ _ _ _ h => h)
  case F =>
    intro w mg fa h KX G hmg
    refine' K77.all_mk KX G hmg ?a0 ?l0 ?c0 ?k0 ?a1 ?l1 ?c1 ?k1 ?a2 ?l2 ?c2 ?k2 ?a3 ?l3 ?c3 ?k3 ?a4 ?l4 ?c4 ?k4 ?a5 ?l5 ?c5 ?k5 ?a6 ?l6 ?c6 ?k6 ?a7 ?l7 ?c7 ?k7 ?a8 ?l8 ?c8 ?k8 ?a9 ?l9 ?c9 ?k9 ?a10 ?l10 ?c10 ?k10 ?a11 ?l11 ?c11 ?k11 ?a12 ?l12 ?c12 ?k12 ?a13 ?l13 ?c13 ?k13 ?a14 ?l14 ?c14 ?k14 ?a15 ?l15 ?c15 ?k15 ?a16 ?l16 ?c16 ?k16 ?a17 ?l17 ?c17 ?k17 ?a18 ?l18 ?c18 ?k18 ?a19 ?l19 ?c19 ?k19 ?a20 ?l20 ?c20 ?k20 ?a21 ?l21 ?c21 ?k21 ?a22 ?l22 ?c22 ?k22 ?a23 ?l23 ?c23 ?k23 ?a24 ?l24 ?c24 ?k24 ?a25 ?l25 ?c25 ?k25 ?z_abs ?z_all ?z_any ?z_bool ?z_enumerate ?z_int ?z_isinstance ?z_len ?z_list ?z_max ?z_min ?z_range ?z_set ?z_sorted ?z_str ?z_sum ?z_tuple ?z_zip ?e_APART ?e_CLOCKS ?e_MOST_HOSTS ?e_MOST_SOME ?e_MOST_TIME ?e_NEVER ?e_RING ?e_THREE
    (case a0 => k_is); (case l0 => k_is); (case c0 => k_is); (case k0 => k_is); (case a1 => k_is); (case l1 => k_is); (case c1 => k_is); (case k1 => k_is); (case a2 => k_is); (case l2 => k_is); (case c2 => k_is); (case k2 => k_is); (case a3 => k_is); (case l3 => k_is); (case c3 => k_is); (case k3 => k_is); (case a4 => k_is); (case l4 => k_is); (case c4 => k_is); (case k4 => k_is); (case a5 => k_is); (case l5 => k_is); (case c5 => k_is); (case k5 => k_is); (case a6 => k_is); (case l6 => k_is); (case c6 => k_is); (case k6 => k_is); (case a7 => k_is); (case l7 => k_is); (case c7 => k_is); (case k7 => k_is); (case a8 => k_is); (case l8 => k_is); (case c8 => k_is); (case k8 => k_is); (case a9 => k_is); (case l9 => k_is); (case c9 => k_is); (case k9 => k_is); (case a10 => k_is); (case l10 => k_is); (case c10 => k_is); (case k10 => k_is); (case a11 => k_is); (case l11 => k_is); (case c11 => k_is); (case k11 => k_is); (case a12 => k_is); (case l12 => k_is); (case c12 => k_is); (case k12 => k_is); (case a13 => k_is); (case l13 => k_is); (case c13 => k_is); (case k13 => k_is); (case a14 => k_is); (case l14 => k_is); (case c14 => k_is); (case k14 => k_is); (case a15 => k_is); (case l15 => k_is); (case c15 => k_is); (case k15 => k_is); (case a16 => k_is); (case l16 => k_is); (case c16 => k_is); (case k16 => k_is); (case a17 => k_is); (case l17 => k_is); (case c17 => k_is); (case k17 => k_is); (case a18 => k_is); (case l18 => k_is); (case c18 => k_is); (case k18 => k_is); (case a19 => k_is); (case l19 => k_is); (case c19 => k_is); (case k19 => k_is); (case a20 => k_is); (case l20 => k_is); (case c20 => k_is); (case k20 => k_is); (case a21 => k_is); (case l21 => k_is); (case c21 => k_is); (case k21 => k_is); (case a22 => k_is); (case l22 => k_is); (case c22 => k_is); (case k22 => k_is); (case a23 => k_is); (case l23 => k_is); (case c23 => k_is); (case k23 => k_is); (case a24 => k_is); (case l24 => k_is); (case c24 => k_is); (case k24 => k_is); (case a25 => k_is); (case l25 => k_is); (case c25 => k_is); (case k25 => k_is); (case z_abs => k_is); (case z_all => k_is); (case z_any => k_is); (case z_bool => k_is); (case z_enumerate => k_is); (case z_int => k_is); (case z_isinstance => k_is); (case z_len => k_is); (case z_list => k_is); (case z_max => k_is); (case z_min => k_is); (case z_range => k_is); (case z_set => k_is); (case z_sorted => k_is); (case z_str => k_is); (case z_sum => k_is); (case z_tuple => k_is); (case z_zip => k_is); (case e_APART => k_is); (case e_CLOCKS => k_is); (case e_MOST_HOSTS => k_is); (case e_MOST_SOME => k_is); (case e_MOST_TIME => k_is); (case e_NEVER => k_is); (case e_RING => k_is); (case e_THREE => k_is)


