import PyProof.Rows.All
import Wide.All
import OpenK.AllK
import Wide.FinOn
import HandS.ForMost
import HandS.Defaults
import HandS.Zip
import HandS.IsInst
import HandS.TupAny
import HandS.Deep
import HandS.HeadEnd
import HandS.Codes
import KE.KStateDown
import Lean
import HandS.Head0
import HandS.Head1
import HandS.Head2
import HandS.HeadHook1
import HandS.HeadHook2
import PySem.Challenge.RW_hiddenrank_k01_names_and_values
set_option Elab.async false
set_option linter.all false
set_option maxRecDepth 100000
set_option maxHeartbeats 0
namespace MV
open PySem L2

/-! ### data -/
inductive D where
  | none | bool (b : Bool) | int (i : Int) | str (x : Str)
  | tup (ds : List D) | lst (ds : List D) | fl (ds : List D) | dict (es : List (Key × D)) | inst (c : Str) (fs : List (Str × D))

section
variable (K : PySem.W.Frag) (mg : Str → Option Value) (I : Hp)
mutual
def Rp : D → V → Prop
  | .none, v => v = .non
  | .bool b, v => v = .bl b
  | .int i, v => v = .int i
  | .str x, v => v = .str x
  | .lst ds, v => ∃ a xs, v = .ref a ∧ I a = some (.lst xs) ∧ RpL ds xs
  | .fl ds, v => ∃ a xs, v = .ref a ∧ SqL K I a xs ∧ RpL ds xs
  | .tup ds, v => ∃ a xs, v = .ref a ∧ SqT K I a xs ∧ RpL ds xs
  | .dict es, v => ∃ a kvs, v = .ref a ∧ I a = some (.dK kvs) ∧ RpK es kvs
  | .inst c gs, v => ∃ a C dx fs, v = .ref a ∧ mg c = some (.ref C) ∧ I a = some (.ins C dx fs) ∧ RpF gs fs
def RpL : List D → List V → Prop
  | [], xs => xs = []
  | d :: ds, xs => ∃ x r, xs = x :: r ∧ Rp d x ∧ RpL ds r
def RpK : List (Key × D) → List (Key × V) → Prop
  | [], xs => xs = []
  | (k, d) :: ds, xs => ∃ x r, xs = (k, x) :: r ∧ Rp d x ∧ RpK ds r
def RpF : List (Str × D) → List (Str × V) → Prop
  | [], xs => xs = []
  | (k, d) :: ds, xs => ∃ x r, xs = (k, x) :: r ∧ Rp d x ∧ RpF ds r
end
end
/-- a heap goes on -/
def Ex (H H' : Hp) : Prop := ∀ a o, H a = some o → H' a = some o
theorem Ex.refl (H : Hp) : Ex H H := fun _ _ h => h
theorem Ex.trans {H H1 H2 : Hp} (a : Ex H H1) (b : Ex H1 H2) : Ex H H2 := fun x o h => b x o (a x o h)
theorem Ex.new {H : Hp} {p : Addr} {o : HO} (h : H p = none) : Ex H (upd H p o) := fun a u e => by
  rw [upd_ne (ne_of_none e h)]; exact e
section
variable {K : PySem.W.Frag} {mg : Str → Option Value} {I J : Hp}
theorem ex_rd {a : Addr} {u : HO} (e : Ex I J) (h : Rd I a u) : Rd J a u := by
  rcases h with h | ⟨o, h⟩
  · exact Or.inl (e a _ h)
  · exact Or.inr ⟨o, e a _ h⟩
theorem ex_l {a : Addr} {xs : List V} (e : Ex I J) (h : SqL K I a xs) : SqL K J a xs := by
  rcases h with h | h
  · exact Or.inl (ex_rd e h)
  · exact Or.inr h
theorem ex_t {a : Addr} {xs : List V} (e : Ex I J) (h : SqT K I a xs) : SqT K J a xs := by
  rcases h with h | h
  · exact Or.inl (ex_rd e h)
  · exact Or.inr h
mutual
theorem Rp.mono (e : Ex I J) : ∀ (d : D) (v : V), Rp K mg I d v → Rp K mg J d v
  | .none, v, h => by simp only [Rp] at h ⊢; exact h
  | .bool b, v, h => by simp only [Rp] at h ⊢; exact h
  | .int i, v, h => by simp only [Rp] at h ⊢; exact h
  | .str x, v, h => by simp only [Rp] at h ⊢; exact h
  | .lst ds, v, h => by
    simp only [Rp] at h ⊢
    obtain ⟨a, xs, e1, h1, h2⟩ := h
    exact ⟨a, xs, e1, e _ _ h1, RpL.mono e ds xs h2⟩
  | .fl ds, v, h => by
    simp only [Rp] at h ⊢
    obtain ⟨a, xs, e1, h1, h2⟩ := h
    exact ⟨a, xs, e1, ex_l e h1, RpL.mono e ds xs h2⟩
  | .tup ds, v, h => by
    simp only [Rp] at h ⊢
    obtain ⟨a, xs, e1, h1, h2⟩ := h
    exact ⟨a, xs, e1, ex_t e h1, RpL.mono e ds xs h2⟩
  | .dict es, v, h => by
    simp only [Rp] at h ⊢
    obtain ⟨a, xs, e1, h1, h2⟩ := h
    exact ⟨a, xs, e1, e _ _ h1, RpK.mono e es xs h2⟩
  | .inst c gs, v, h => by
    simp only [Rp] at h ⊢
    obtain ⟨a, C, dx, fs, e1, h1, h2, h3⟩ := h
    exact ⟨a, C, dx, fs, e1, h1, e _ _ h2, RpF.mono e gs fs h3⟩
theorem RpL.mono (e : Ex I J) : ∀ (ds : List D) (xs : List V), RpL K mg I ds xs → RpL K mg J ds xs
  | [], xs, h => by simp only [RpL] at h ⊢; exact h
  | d :: ds, xs, h => by
    simp only [RpL] at h ⊢
    obtain ⟨x, r, e1, h1, h2⟩ := h
    exact ⟨x, r, e1, Rp.mono e d x h1, RpL.mono e ds r h2⟩
theorem RpK.mono (e : Ex I J) : ∀ (ds : List (Key × D)) (xs : List (Key × V)), RpK K mg I ds xs → RpK K mg J ds xs
  | [], xs, h => by simp only [RpK] at h ⊢; exact h
  | (k, d) :: ds, xs, h => by
    simp only [RpK] at h ⊢
    obtain ⟨x, r, e1, h1, h2⟩ := h
    exact ⟨x, r, e1, Rp.mono e d x h1, RpK.mono e ds r h2⟩
theorem RpF.mono (e : Ex I J) : ∀ (ds : List (Str × D)) (xs : List (Str × V)), RpF K mg I ds xs → RpF K mg J ds xs
  | [], xs, h => by simp only [RpF] at h ⊢; exact h
  | (k, d) :: ds, xs, h => by
    simp only [RpF] at h ⊢
    obtain ⟨x, r, e1, h1, h2⟩ := h
    exact ⟨x, r, e1, Rp.mono e d x h1, RpF.mono e ds r h2⟩
end
theorem RpL.length : ∀ {ds : List D} {xs : List V}, RpL K mg I ds xs → ds.length = xs.length
  | [], xs, h => by simp only [RpL] at h; rw [h]; rfl
  | d :: ds, xs, h => by
    simp only [RpL] at h
    obtain ⟨x, r, e1, h1, h2⟩ := h
    rw [e1, List.length_cons, List.length_cons, RpL.length h2]
theorem RpL.get : ∀ {ds : List D} {xs : List V} {i : Nat} {d : D}, RpL K mg I ds xs → ds[i]? = some d → ∃ x, xs[i]? = some x ∧ Rp K mg I d x
  | [], xs, i, d, h, e => by simp at e
  | d :: ds, xs, 0, d', h, e => by
    simp only [RpL] at h
    obtain ⟨x, r, e1, h1, h2⟩ := h
    simp at e
    subst e e1
    exact ⟨x, rfl, h1⟩
  | d :: ds, xs, i + 1, d', h, e => by
    simp only [RpL] at h
    obtain ⟨x, r, e1, h1, h2⟩ := h
    simp at e
    subst e1
    obtain ⟨y, e2, h3⟩ := RpL.get h2 e
    exact ⟨y, by simpa using e2, h3⟩
theorem RpL.nil : RpL K mg I [] [] := by simp only [RpL]
theorem RpL.cons {d : D} {ds : List D} {x : V} {xs : List V} (h : Rp K mg I d x) (t : RpL K mg I ds xs) : RpL K mg I (d :: ds) (x :: xs) := by
  simp only [RpL]; exact ⟨x, xs, rfl, h, t⟩
theorem RpL.append : ∀ {ds es : List D} {xs ys : List V}, RpL K mg I ds xs → RpL K mg I es ys → RpL K mg I (ds ++ es) (xs ++ ys)
  | [], es, xs, ys, h, t => by simp only [RpL] at h; subst h; exact t
  | d :: ds, es, xs, ys, h, t => by
    simp only [RpL] at h
    obtain ⟨x, r, e1, h1, h2⟩ := h
    subst e1
    exact RpL.cons h1 (RpL.append h2 t)
end
end MV

namespace MV
open PySem L2

/-! ### owned things -/
inductive W where
  | p (d : D) | ol (ws : List W) | od (es : List (Key × W)) | oi (c : Str) (fs : List (Str × W))
abbrev Env := List (Option W)
abbrev Fp := Nat → List Addr

section
variable (K : PySem.W.Frag) (mg : Str → Option Value) (I H : Hp)
mutual
def Ro : W → V → List Addr → Prop
  | .p d, v, F => Rp K mg I d v ∧ F = []
  | .ol ws, v, F => ∃ a xs G, v = .ref a ∧ H a = some (.lst xs) ∧ F = a :: G ∧ RoL ws xs G
  | .od es, v, F => ∃ a kvs G, v = .ref a ∧ H a = some (.dK kvs) ∧ F = a :: G ∧ RoK es kvs G
  | .oi c gs, v, F => ∃ a C dx fs G, v = .ref a ∧ mg c = some (.ref C) ∧ H a = some (.ins C dx fs) ∧ F = a :: G ∧ RoF gs fs G
def RoL : List W → List V → List Addr → Prop
  | [], xs, F => xs = [] ∧ F = []
  | w :: ws, xs, F => ∃ x r F1 F2, xs = x :: r ∧ F = F1 ++ F2 ∧ Ro w x F1 ∧ RoL ws r F2
def RoK : List (Key × W) → List (Key × V) → List Addr → Prop
  | [], xs, F => xs = [] ∧ F = []
  | (k, w) :: ws, xs, F => ∃ x r F1 F2, xs = (k, x) :: r ∧ F = F1 ++ F2 ∧ Ro w x F1 ∧ RoK ws r F2
def RoF : List (Str × W) → List (Str × V) → List Addr → Prop
  | [], xs, F => xs = [] ∧ F = []
  | (k, w) :: ws, xs, F => ∃ x r F1 F2, xs = (k, x) :: r ∧ F = F1 ++ F2 ∧ Ro w x F1 ∧ RoF ws r F2
end
end
section
variable {K : PySem.W.Frag} {mg : Str → Option Value} {I I' H H' : Hp}
mutual
theorem Ro.frame (e : Ex I I') : ∀ (w : W) (v : V) (F : List Addr), (∀ a ∈ F, ∀ o, H a = some o → H' a = some o) → Ro K mg I H w v F → Ro K mg I' H' w v F
  | .p d, v, F, k, h => by
    simp only [Ro] at h ⊢
    exact ⟨h.1.mono e, h.2⟩
  | .ol ws, v, F, k, h => by
    simp only [Ro] at h ⊢
    obtain ⟨a, xs, G, e1, h1, e2, h2⟩ := h
    subst e2
    exact ⟨a, xs, G, e1, k a (by simp) _ h1, rfl, RoL.frame e ws xs G (fun b hb => k b (by simp [hb])) h2⟩
  | .od ws, v, F, k, h => by
    simp only [Ro] at h ⊢
    obtain ⟨a, xs, G, e1, h1, e2, h2⟩ := h
    subst e2
    exact ⟨a, xs, G, e1, k a (by simp) _ h1, rfl, RoK.frame e ws xs G (fun b hb => k b (by simp [hb])) h2⟩
  | .oi c gs, v, F, k, h => by
    simp only [Ro] at h ⊢
    obtain ⟨a, C, dx, fs, G, e1, e3, h1, e2, h2⟩ := h
    subst e2
    exact ⟨a, C, dx, fs, G, e1, e3, k a (by simp) _ h1, rfl, RoF.frame e gs fs G (fun b hb => k b (by simp [hb])) h2⟩
theorem RoL.frame (e : Ex I I') : ∀ (ws : List W) (xs : List V) (F : List Addr), (∀ a ∈ F, ∀ o, H a = some o → H' a = some o) → RoL K mg I H ws xs F → RoL K mg I' H' ws xs F
  | [], xs, F, k, h => by simp only [RoL] at h ⊢; exact h
  | w :: ws, xs, F, k, h => by
    simp only [RoL] at h ⊢
    obtain ⟨x, r, F1, F2, e1, e2, h1, h2⟩ := h
    subst e2
    exact ⟨x, r, F1, F2, e1, rfl, Ro.frame e w x F1 (fun b hb => k b (by simp [hb])) h1, RoL.frame e ws r F2 (fun b hb => k b (by simp [hb])) h2⟩
theorem RoK.frame (e : Ex I I') : ∀ (ws : List (Key × W)) (xs : List (Key × V)) (F : List Addr), (∀ a ∈ F, ∀ o, H a = some o → H' a = some o) → RoK K mg I H ws xs F → RoK K mg I' H' ws xs F
  | [], xs, F, k, h => by simp only [RoK] at h ⊢; exact h
  | (q, w) :: ws, xs, F, k, h => by
    simp only [RoK] at h ⊢
    obtain ⟨x, r, F1, F2, e1, e2, h1, h2⟩ := h
    subst e2
    exact ⟨x, r, F1, F2, e1, rfl, Ro.frame e w x F1 (fun b hb => k b (by simp [hb])) h1, RoK.frame e ws r F2 (fun b hb => k b (by simp [hb])) h2⟩
theorem RoF.frame (e : Ex I I') : ∀ (ws : List (Str × W)) (xs : List (Str × V)) (F : List Addr), (∀ a ∈ F, ∀ o, H a = some o → H' a = some o) → RoF K mg I H ws xs F → RoF K mg I' H' ws xs F
  | [], xs, F, k, h => by simp only [RoF] at h ⊢; exact h
  | (q, w) :: ws, xs, F, k, h => by
    simp only [RoF] at h ⊢
    obtain ⟨x, r, F1, F2, e1, e2, h1, h2⟩ := h
    subst e2
    exact ⟨x, r, F1, F2, e1, rfl, Ro.frame e w x F1 (fun b hb => k b (by simp [hb])) h1, RoF.frame e ws r F2 (fun b hb => k b (by simp [hb])) h2⟩
end
mutual
theorem Ro.live : ∀ (w : W) (v : V) (F : List Addr), Ro K mg I H w v F → ∀ a ∈ F, ∃ o, H a = some o
  | .p d, v, F, h => by simp only [Ro] at h; rw [h.2]; simp
  | .ol ws, v, F, h => by
    simp only [Ro] at h
    obtain ⟨a, xs, G, e1, h1, e2, h2⟩ := h
    subst e2
    intro b hb
    rcases List.mem_cons.mp hb with rfl | hb
    · exact ⟨_, h1⟩
    · exact RoL.live ws xs G h2 b hb
  | .od ws, v, F, h => by
    simp only [Ro] at h
    obtain ⟨a, xs, G, e1, h1, e2, h2⟩ := h
    subst e2
    intro b hb
    rcases List.mem_cons.mp hb with rfl | hb
    · exact ⟨_, h1⟩
    · exact RoK.live ws xs G h2 b hb
  | .oi c gs, v, F, h => by
    simp only [Ro] at h
    obtain ⟨a, C, dx, fs, G, e1, e3, h1, e2, h2⟩ := h
    subst e2
    intro b hb
    rcases List.mem_cons.mp hb with rfl | hb
    · exact ⟨_, h1⟩
    · exact RoF.live gs fs G h2 b hb
theorem RoL.live : ∀ (ws : List W) (xs : List V) (F : List Addr), RoL K mg I H ws xs F → ∀ a ∈ F, ∃ o, H a = some o
  | [], xs, F, h => by simp only [RoL] at h; rw [h.2]; simp
  | w :: ws, xs, F, h => by
    simp only [RoL] at h
    obtain ⟨x, r, F1, F2, e1, e2, h1, h2⟩ := h
    subst e2
    intro b hb
    rcases List.mem_append.mp hb with hb | hb
    · exact Ro.live w x F1 h1 b hb
    · exact RoL.live ws r F2 h2 b hb
theorem RoK.live : ∀ (ws : List (Key × W)) (xs : List (Key × V)) (F : List Addr), RoK K mg I H ws xs F → ∀ a ∈ F, ∃ o, H a = some o
  | [], xs, F, h => by simp only [RoK] at h; rw [h.2]; simp
  | (q, w) :: ws, xs, F, h => by
    simp only [RoK] at h
    obtain ⟨x, r, F1, F2, e1, e2, h1, h2⟩ := h
    subst e2
    intro b hb
    rcases List.mem_append.mp hb with hb | hb
    · exact Ro.live w x F1 h1 b hb
    · exact RoK.live ws r F2 h2 b hb
theorem RoF.live : ∀ (ws : List (Str × W)) (xs : List (Str × V)) (F : List Addr), RoF K mg I H ws xs F → ∀ a ∈ F, ∃ o, H a = some o
  | [], xs, F, h => by simp only [RoF] at h; rw [h.2]; simp
  | (q, w) :: ws, xs, F, h => by
    simp only [RoF] at h
    obtain ⟨x, r, F1, F2, e1, e2, h1, h2⟩ := h
    subst e2
    intro b hb
    rcases List.mem_append.mp hb with hb | hb
    · exact Ro.live w x F1 h1 b hb
    · exact RoF.live ws r F2 h2 b hb
end
end

/-! ### the state: frozen things in I, owned ones at the footprints -/
structure Rel (K : PySem.W.Frag) (mg : Str → Option Value) (I : Hp) (e : Env) (Fs : Fp) (σ : L2.St) (H : Hp) : Prop where
  sub : Ex I H
  len : e.length = σ.length
  at_ : ∀ i w, e[i]? = some (some w) → ∃ x, σ[i]? = some (some x) ∧ Ro K mg I H w x (Fs i)
  nd : ∀ i, (Fs i).Nodup
  dj : ∀ i j a, a ∈ Fs i → a ∈ Fs j → i = j
  out : ∀ i a, a ∈ Fs i → I a = none
  live : ∀ i a, a ∈ Fs i → H a ≠ none
/-- what a step may do: M may change, the frozen part grows by what is new or of M -/
structure Gx (M : Addr → Prop) (I H I' H' : Hp) : Prop where
  ex : Ex I I'
  fr : ∀ a o, H a = some o → ¬ M a → H' a = some o
  new : ∀ a, I' a ≠ none → I a ≠ none ∨ H a = none ∨ M a
def MF (Fs : Fp) : Addr → Prop := fun a => ∃ i, a ∈ Fs i
structure Ext (Fs : Fp) (I H : Hp) (Fs' : Fp) (I' H' : Hp) : Prop where
  g : Gx (MF Fs) I H I' H'
  fp : ∀ a, MF Fs' a → MF Fs a ∨ H a = none
theorem Gx.refl {M : Addr → Prop} {I H : Hp} : Gx M I H I H := ⟨Ex.refl _, fun _ _ h _ => h, fun _ h => .inl h⟩
theorem Ext.refl {Fs : Fp} {I H : Hp} : Ext Fs I H Fs I H := ⟨Gx.refl, fun _ h => .inl h⟩
theorem Ext.trans {F1 F2 F3 : Fp} {I1 H1 I2 H2 I3 H3 : Hp} (a : Ext F1 I1 H1 F2 I2 H2) (b : Ext F2 I2 H2 F3 I3 H3) : Ext F1 I1 H1 F3 I3 H3 := by
  have back : ∀ x, H2 x = none → H1 x = none ∨ MF F1 x := fun x hx => by
    cases e : H1 x with
    | none => exact .inl rfl
    | some o =>
      by_cases m : MF F1 x
      · exact .inr m
      · rw [a.g.fr x o e m] at hx; cases hx
  refine ⟨⟨a.g.ex.trans b.g.ex, fun x o h m => b.g.fr x o (a.g.fr x o h m) fun m2 => ?_, fun x h => ?_⟩, fun x m => ?_⟩
  · rcases a.fp x m2 with q | q
    · exact m q
    · rw [h] at q; cases q
  · rcases b.g.new x h with q | q | q
    · exact a.g.new x q
    · rcases back x q with z | z
      · exact .inr (.inl z)
      · exact .inr (.inr z)
    · rcases a.fp x q with z | z
      · exact .inr (.inr z)
      · exact .inr (.inl z)
  · rcases b.fp x m with q | q
    · exact a.fp x q
    · rcases back x q with z | z
      · exact .inr z
      · exact .inl z
/-- a new frozen object -/
theorem Rel.laid {K : PySem.W.Frag} {mg : Str → Option Value} {I H : Hp} {e : Env} {Fs : Fp} {σ : L2.St} {p : Addr} {o : HO} (R : Rel K mg I e Fs σ H) (h : H p = none) :
    Rel K mg (upd I p o) e Fs σ (upd H p o) ∧ Ext Fs I H Fs (upd I p o) (upd H p o) := by
  have hI : I p = none := by
    cases q : I p with
    | none => rfl
    | some u => rw [R.sub p u q] at h; cases h
  have np : ∀ i a, a ∈ Fs i → a ≠ p := fun i a ha z => by subst z; exact R.live i a ha h
  refine ⟨⟨fun a u q => ?_, R.len, fun i w q => ?_, R.nd, R.dj, fun i a ha => ?_, fun i a ha => ?_⟩, ⟨⟨Ex.new hI, fun a u q _ => Ex.new h a u q, fun a q => ?_⟩, fun a m => .inl m⟩⟩
  · by_cases z : a = p
    · subst z; rw [upd_same] at q ⊢; exact q
    · rw [upd_ne z] at q ⊢; exact R.sub a u q
  · obtain ⟨x, hx, hr⟩ := R.at_ i w q
    exact ⟨x, hx, hr.frame (Ex.new hI) w x (Fs i) fun a ha u hu => Ex.new h a u hu⟩
  · rw [upd_ne (np i a ha)]; exact R.out i a ha
  · rw [upd_ne (np i a ha)]; exact R.live i a ha
  · by_cases z : a = p
    · subst z; exact .inr (.inl h)
    · rw [upd_ne z] at q; exact .inl q

/-! ### expressions -/
abbrev M (α : Type) := Env → Option (α × Env)
def tE (K : PySem.W.Frag) (mg : Str → Option Value) (m : M D) : TE := fun σ H Q => ∃ I e Fs, Rel K mg I e Fs σ H ∧ ∃ d e', m e = some (d, e') ∧
  ∀ v I' Fs' H', Rel K mg I' e' Fs' σ H' → Ext Fs I H Fs' I' H' → Rp K mg I' d v → Q v H'
def SE (X : Cx) (a : Expr) (m : M D) : Prop := PE X a (tE X.K X.mg m)
theorem PE.imp {X : Cx} {a : Expr} {t t' : TE} (h : PE X a t) (i : ∀ σ H Q, t' σ H Q → t σ H Q) : PE X a t' := ⟨fun pins s σ H Q I hq => h.run pins s σ H Q I (i σ H Q hq)⟩

def mC (d : D) : M D := fun e => some (d, e)
def mVar (i : Nat) : M D := fun e => match e[i]? with
  | some (some (.p d)) => some (d, e)
  | _ => none
def mOp (f : D → D → Option D) (a b : M D) : M D := fun e => (a e).bind fun x => (b x.2).bind fun y => (f x.1 y.1).map fun z => (z, y.2)
def mUn (f : D → Option D) (a : M D) : M D := fun e => (a e).bind fun x => (f x.1).map fun z => (z, x.2)

/-- what a pure operation gives: a value of the frozen part, as it is or by one new object -/
inductive Gr : Hp → Hp → Hp → Hp → Prop where
  | same {I H : Hp} : Gr I H I H
  | new {I H : Hp} (p : Addr) (o : HO) (h : H p = none) : Gr I H (upd I p o) (upd H p o)
  | more {I H J G J' G' : Hp} : Gr I H J G → Gr J G J' G' → Gr I H J' G'
theorem Gr.rel {K : PySem.W.Frag} {mg : Str → Option Value} {e : Env} {Fs : Fp} {σ : L2.St} {I H J G : Hp} (g : Gr I H J G) : Rel K mg I e Fs σ H → Rel K mg J e Fs σ G ∧ Ext Fs I H Fs J G := by
  induction g with
  | same => exact fun R => ⟨R, Ext.refl⟩
  | new p o h => exact fun R => R.laid h
  | more g1 g2 i1 i2 =>
    intro R
    obtain ⟨R1, x1⟩ := i1 R
    obtain ⟨R2, x2⟩ := i2 R1
    exact ⟨R2, x1.trans x2⟩
theorem Gr.ex {I H J G : Hp} (g : Gr I H J G) : Ex I H → Ex I J ∧ Ex J G := by
  induction g with
  | same => exact fun h => ⟨Ex.refl _, h⟩
  | @new I H p o h =>
    intro s
    have hI : I p = none := by
      cases q : I p with
      | none => rfl
      | some u => rw [s p u q] at h; cases h
    refine ⟨Ex.new hI, fun a u q => ?_⟩
    by_cases z : a = p
    · subst z; rw [upd_same] at q ⊢; exact q
    · rw [upd_ne z] at q ⊢; exact s a u q
  | more g1 g2 i1 i2 =>
    intro s
    obtain ⟨a, b⟩ := i1 s
    obtain ⟨c, d⟩ := i2 b
    exact ⟨a.trans c, d⟩
/-- a two-place operation's data -/
def OpD (K : PySem.W.Frag) (mg : Str → Option Value) (r : R2) (f : D → D → Option D) : Prop :=
  ∀ (I H : Hp) (x y z : D) (v u : V) (Q : VK), Ex I H → Rp K mg I x v → Rp K mg I y u → f x y = some z → (∀ v' I' H', Gr I H I' H' → Rp K mg I' z v' → Q v' H') → r v u H Q
def UnD (K : PySem.W.Frag) (mg : Str → Option Value) (r : V → Hp → VK → Prop) (f : D → Option D) : Prop :=
  ∀ (I H : Hp) (x z : D) (v : V) (Q : VK), Ex I H → Rp K mg I x v → f x = some z → (∀ v' I' H', Gr I H I' H' → Rp K mg I' z v' → Q v' H') → r v H Q
section
variable {X : Cx} {a b c : Expr} {ma mb mc : M D} {pos : Pos}
theorem SE.val {t : TE} (h : PE X a t) {d : D} (hd : ∀ σ H Q, (∀ v, Rp X.K X.mg (fun _ => none) d v → Q v H) → t σ H Q) : SE X a (mC d) := by
  refine PE.imp h fun σ H Q ⟨I, e, Fs, R, d', e', hm, k⟩ => hd σ H Q fun v hv => ?_
  have q : d = d' ∧ e = e' := by simpa [mC] using hm
  obtain ⟨rfl, rfl⟩ := q
  exact k v I Fs H R Ext.refl (hv.mono (fun _ _ z => by cases z) _ _)
theorem se_int {i : Int} {j : Nat} : SE X (.Constant (.int i) j pos) (mC (.int i)) := SE.val pe_int fun σ H Q k => k (.int i) (by simp only [Rp])
theorem se_bl {i : Bool} {j : Nat} : SE X (.Constant (.bool i) j pos) (mC (.bool i)) := SE.val pe_bl fun σ H Q k => k (.bl i) (by simp only [Rp])
theorem se_non {j : Nat} : SE X (.Constant .none j pos) (mC .none) := SE.val pe_non fun σ H Q k => k .non (by simp only [Rp])
theorem se_str {x : Str} {j : Nat} : SE X (.Constant (.str x) j pos) (mC (.str x)) := SE.val pe_str fun σ H Q k => k (.str x) (by simp only [Rp])
theorem se_var {i : Nat} {x : Str} (h : PE X (.Name x pos) (tVar i)) : SE X (.Name x pos) (mVar i) := by
  refine PE.imp h fun σ H Q ⟨I, e, Fs, R, d', e', hm, k⟩ => ?_
  unfold mVar at hm
  split at hm
  · rename_i d hd
    cases hm
    obtain ⟨v, hv, hr⟩ := R.at_ i _ hd
    simp only [Ro] at hr
    exact ⟨v, hv, k v I Fs H R Ext.refl hr.1⟩
  · cases hm
theorem se_op {op : Operator} {r : R2} {f : D → D → Option D} (ho : OpR X (binaryOp op) r) (hf : OpD X.K X.mg r f) (ha : SE X a ma) (hb : SE X b mb) : SE X (.BinOp a op b pos) (mOp f ma mb) := by
  refine PE.imp (pe_op ho ha hb) fun σ H Q ⟨I, e, Fs, R, d', e', hm, k⟩ => ?_
  obtain ⟨⟨x, e1⟩, h1, hm⟩ := Option.bind_eq_some_iff.mp hm
  obtain ⟨⟨y, e2⟩, h2, hm⟩ := Option.bind_eq_some_iff.mp hm
  obtain ⟨z, h3, hm⟩ := Option.map_eq_some_iff.mp hm
  cases hm
  refine ⟨I, e, Fs, R, x, e1, h1, fun v I1 F1 H1 R1 x1 r1 => ⟨I1, e1, F1, R1, y, e2, h2, fun u I2 F2 H2 R2 x2 r2 => ?_⟩⟩
  refine hf I2 H2 x y _ v u Q R2.sub (r1.mono x2.g.ex _ _) r2 h3 fun v' I3 H3 g r3 => ?_
  obtain ⟨R3, x3⟩ := g.rel R2
  exact k v' I3 F2 H3 R3 ((x1.trans x2).trans x3) r3
theorem se_cmp {op : CmpOp} {r : R2} {f : D → D → Option D} (ho : OpR X (compareOp op) r) (hf : OpD X.K X.mg r f) (ha : SE X a ma) (hb : SE X b mb) (hm : behindInMarks op b = false) : SE X (.Compare a [op] [b] pos) (mOp f ma mb) := by
  refine PE.imp (pe_cmpR ho ha hb hm) fun σ H Q ⟨I, e, Fs, R, d', e', hm, k⟩ => ?_
  obtain ⟨⟨x, e1⟩, h1, hm⟩ := Option.bind_eq_some_iff.mp hm
  obtain ⟨⟨y, e2⟩, h2, hm⟩ := Option.bind_eq_some_iff.mp hm
  obtain ⟨z, h3, hm⟩ := Option.map_eq_some_iff.mp hm
  cases hm
  refine ⟨I, e, Fs, R, x, e1, h1, fun v I1 F1 H1 R1 x1 r1 => ⟨I1, e1, F1, R1, y, e2, h2, fun u I2 F2 H2 R2 x2 r2 => ?_⟩⟩
  refine hf I2 H2 x y _ v u Q R2.sub (r1.mono x2.g.ex _ _) r2 h3 fun v' I3 H3 g r3 => ?_
  obtain ⟨R3, x3⟩ := g.rel R2
  exact k v' I3 F2 H3 R3 ((x1.trans x2).trans x3) r3
end
end MV

namespace MV
open PySem L2

/-! ### ownership goes from hand to hand -/
structure Own (K : PySem.W.Frag) (mg : Str → Option Value) (I H : Hp) (Fs : Fp) (w : W) (v : V) (F : List Addr) : Prop where
  ro : Ro K mg I H w v F
  nd : F.Nodup
  out : ∀ a, a ∈ F → I a = none
  dj : ∀ a, a ∈ F → ¬ MF Fs a
def putF (Fs : Fp) (i : Nat) (F : List Addr) : Fp := fun j => if j = i then F else Fs j
theorem putF_same {Fs : Fp} {i : Nat} {F : List Addr} : putF Fs i F i = F := by simp [putF]
theorem putF_ne {Fs : Fp} {i j : Nat} {F : List Addr} (h : j ≠ i) : putF Fs i F j = Fs j := by simp [putF, h]
theorem MF.put {Fs : Fp} {i : Nat} {F : List Addr} {a : Addr} (h : MF (putF Fs i F) a) : a ∈ F ∨ MF Fs a := by
  obtain ⟨j, hj⟩ := h
  by_cases z : j = i
  · subst z; rw [putF_same] at hj; exact .inl hj
  · rw [putF_ne z] at hj; exact .inr ⟨j, hj⟩
theorem MF.nil {Fs : Fp} {i : Nat} {a : Addr} (h : MF (putF Fs i []) a) : MF Fs a := by
  rcases h.put with z | z
  · cases z
  · exact z
section
variable {K : PySem.W.Frag} {mg : Str → Option Value} {I H I' H' : Hp} {e : Env} {Fs : Fp} {σ : L2.St}
theorem Own.pure {d : D} {v : V} (h : Rp K mg I d v) : Own K mg I H Fs (.p d) v [] := ⟨by unfold Ro; exact ⟨h, rfl⟩, List.nodup_nil, fun _ z => (by cases z), fun _ z => (by cases z)⟩
theorem Rel.put {w : W} {v : V} {F : List Addr} {i : Nat} (R : Rel K mg I e Fs σ H) (o : Own K mg I H Fs w v F) : Rel K mg I (e.set i (some w)) (putF Fs i F) (σ.set i (some v)) H := by
  refine ⟨R.sub, by simp [R.len], fun j u q => ?_, fun j => ?_, fun j k a h1 h2 => ?_, fun j a h => ?_, fun j a h => ?_⟩
  · by_cases z : j = i
    · subst z
      rw [putF_same]
      have hl : j < e.length := by
        obtain ⟨h1, _⟩ := List.getElem?_eq_some_iff.mp q
        simpa using h1
      rw [List.getElem?_set_self hl] at q
      cases q
      exact ⟨v, by rw [List.getElem?_set_self (by rw [← R.len]; exact hl)], o.ro⟩
    · rw [putF_ne z, List.getElem?_set_ne (Ne.symm z)]
      rw [List.getElem?_set_ne (Ne.symm z)] at q
      exact R.at_ j u q
  · by_cases z : j = i
    · subst z; rw [putF_same]; exact o.nd
    · rw [putF_ne z]; exact R.nd j
  · by_cases z : j = i
    · subst z
      rw [putF_same] at h1
      by_cases y : k = j
      · exact y.symm
      · rw [putF_ne y] at h2; exact absurd ⟨k, h2⟩ (o.dj a h1)
    · rw [putF_ne z] at h1
      by_cases y : k = i
      · subst y; rw [putF_same] at h2; exact absurd ⟨j, h1⟩ (o.dj a h2)
      · rw [putF_ne y] at h2; exact R.dj j k a h1 h2
  · by_cases z : j = i
    · subst z; rw [putF_same] at h; exact o.out a h
    · rw [putF_ne z] at h; exact R.out j a h
  · by_cases z : j = i
    · subst z; rw [putF_same] at h
      obtain ⟨u, hu⟩ := o.ro.live _ _ _ a h
      rw [hu]; exact fun q => by cases q
    · rw [putF_ne z] at h; exact R.live j a h
/-- a slot is given up -/
theorem Rel.drop {i : Nat} (R : Rel K mg I e Fs σ H) : Rel K mg I (e.set i none) (putF Fs i []) σ H := by
  refine ⟨R.sub, by simp [R.len], fun j u q => ?_, fun j => ?_, fun j k a h1 h2 => ?_, fun j a h => ?_, fun j a h => ?_⟩
  · by_cases z : j = i
    · subst z
      have hl : j < e.length := by
        obtain ⟨h1, _⟩ := List.getElem?_eq_some_iff.mp q
        simpa using h1
      rw [List.getElem?_set_self hl] at q
      cases q
    · rw [putF_ne z]
      rw [List.getElem?_set_ne (Ne.symm z)] at q
      exact R.at_ j u q
  · by_cases z : j = i
    · subst z; rw [putF_same]; exact List.nodup_nil
    · rw [putF_ne z]; exact R.nd j
  · by_cases z : j = i
    · subst z; rw [putF_same] at h1; cases h1
    · rw [putF_ne z] at h1
      by_cases y : k = i
      · subst y; rw [putF_same] at h2; cases h2
      · rw [putF_ne y] at h2; exact R.dj j k a h1 h2
  · exact let ⟨k, hk⟩ := MF.nil ⟨j, h⟩; R.out k a hk
  · exact let ⟨k, hk⟩ := MF.nil ⟨j, h⟩; R.live k a hk
theorem Rel.own {i : Nat} {w : W} (R : Rel K mg I e Fs σ H) (h : e[i]? = some (some w)) : ∃ v, σ[i]? = some (some v) ∧ Own K mg I H (putF Fs i []) w v (Fs i) := by
  obtain ⟨v, h1, h2⟩ := R.at_ i w h
  refine ⟨v, h1, h2, R.nd i, R.out i, fun a ha ⟨j, hj⟩ => ?_⟩
  by_cases z : j = i
  · subst z; rw [putF_same] at hj; cases hj
  · rw [putF_ne z] at hj; exact z (R.dj j i a hj ha)
theorem Ext.drop {i : Nat} {F1 : Fp} {I1 H1 : Hp} (x : Ext F1 I1 H1 Fs I H) : Ext F1 I1 H1 (putF Fs i []) I H := ⟨x.g, fun a h => x.fp a h.nil⟩
theorem Ext.put {i : Nat} {F : List Addr} {F1 : Fp} {I1 H1 : Hp} (x : Ext F1 I1 H1 Fs I H) (h : ∀ a ∈ F, MF F1 a ∨ H1 a = none) : Ext F1 I1 H1 (putF Fs i F) I H := ⟨x.g, fun a m => by
  rcases m.put with z | z
  · exact h a z
  · exact x.fp a z⟩
/-- another's step leaves this state as it is -/
theorem Rel.frame (R : Rel K mg I e Fs σ H) {M : Addr → Prop} (x : Gx M I H I' H') (hs : Ex I' H') (hM : ∀ a, MF Fs a → ¬ M a) : Rel K mg I' e Fs σ H' := by
  refine ⟨hs, R.len, fun i w q => ?_, R.nd, R.dj, fun i a h => ?_, fun i a h z => ?_⟩
  · obtain ⟨v, h1, h2⟩ := R.at_ i w q
    exact ⟨v, h1, h2.frame x.ex w v (Fs i) fun a ha o ho => x.fr a o ho (hM a ⟨i, ha⟩)⟩
  · cases q : I' a with
    | none => rfl
    | some o =>
      rcases x.new a (by rw [q]; exact fun z => by cases z) with z | z | z
      · exact absurd (R.out i a h) z
      · exact absurd z (R.live i a h)
      · exact absurd z (hM a ⟨i, h⟩)
  · cases q : H a with
    | none => exact R.live i a h q
    | some o =>
      rw [x.fr a o q (hM a ⟨i, h⟩)] at z; cases z
theorem Own.frame {F2 : Fp} {w : W} {v : V} {F : List Addr} (o : Own K mg I H Fs w v F) {M : Addr → Prop} (x : Gx M I H I' H') (hM : ∀ a, a ∈ F → ¬ M a) (h2 : ∀ a, a ∈ F → ¬ MF F2 a) : Own K mg I' H' F2 w v F := by
  refine ⟨o.ro.frame x.ex w v F fun a ha u hu => x.fr a u hu (hM a ha), o.nd, fun a ha => ?_, h2⟩
  obtain ⟨u, hu⟩ := o.ro.live _ _ _ a ha
  cases q : I' a with
  | none => rfl
  | some o' =>
    rcases x.new a (by rw [q]; exact fun z => by cases z) with z | z | z
    · exact absurd (o.out a ha) z
    · rw [hu] at z; cases z
    · exact absurd z (hM a ha)
end

/-! ### owned results -/
def tO (K : PySem.W.Frag) (mg : Str → Option Value) (m : M W) : TE := fun σ H Q => ∃ I e Fs, Rel K mg I e Fs σ H ∧ ∃ w e', m e = some (w, e') ∧
  ∀ v I' Fs' H' F, Rel K mg I' e' Fs' σ H' → Ext Fs I H Fs' I' H' → Own K mg I' H' Fs' w v F → (∀ a ∈ F, MF Fs a ∨ H a = none) → Q v H'
def SO (X : Cx) (a : Expr) (m : M W) : Prop := PE X a (tO X.K X.mg m)
def mP (m : M D) : M W := fun e => (m e).map fun x => (.p x.1, x.2)
theorem so_p {X : Cx} {a : Expr} {m : M D} (h : SE X a m) : SO X a (mP m) := by
  refine PE.imp h fun σ H Q ⟨I, e, Fs, R, w, e', hm, k⟩ => ?_
  obtain ⟨⟨d, e1⟩, h1, hm⟩ := Option.map_eq_some_iff.mp hm
  cases hm
  exact ⟨I, e, Fs, R, d, e1, h1, fun v I' Fs' H' R' x r => k v I' Fs' H' [] R' x (.pure r) fun _ z => by cases z⟩
def mGetP (m : M W) : M D := fun e => (m e).bind fun x => match x.1 with
  | .p d => some (d, x.2)
  | _ => none
theorem se_o {X : Cx} {a : Expr} {m : M W} (h : SO X a m) : SE X a (mGetP m) := by
  refine PE.imp h fun σ H Q ⟨I, e, Fs, R, d, e', hm, k⟩ => ?_
  obtain ⟨⟨w, e1⟩, h1, hm⟩ := Option.bind_eq_some_iff.mp hm
  cases w with
  | p d' =>
    cases hm
    refine ⟨I, e, Fs, R, .p d, e1, h1, fun v I' Fs' H' F R' x o _ => k v I' Fs' H' R' x ?_⟩
    have q := o.ro
    simp only [Ro] at q
    exact q.1
  | _ => cases hm
def mMove (i : Nat) : M W := fun e => match e[i]? with
  | some (some w) => some (w, e.set i none)
  | _ => none
theorem so_move {X : Cx} {i : Nat} {x : Str} {pos : Pos} (h : PE X (.Name x pos) (tVar i)) : SO X (.Name x pos) (mMove i) := by
  refine PE.imp h fun σ H Q ⟨I, e, Fs, R, w, e', hm, k⟩ => ?_
  unfold mMove at hm
  split at hm
  · rename_i u hu
    cases hm
    obtain ⟨v, h1, o⟩ := R.own hu
    exact ⟨v, h1, k v I _ H (Fs i) R.drop Ext.refl.drop o fun a ha => .inl ⟨i, ha⟩⟩
  · cases hm

/-! ### argument lists -/
inductive Arg where
  | d (d : D) | io (i : Nat)
section
variable (K : PySem.W.Frag) (mg : Str → Option Value) (I : Hp) (σ : L2.St)
def ArgR : List Arg → List V → Prop
  | [], vs => vs = []
  | .d d :: r, vs => ∃ v t, vs = v :: t ∧ Rp K mg I d v ∧ ArgR r t
  | .io i :: r, vs => ∃ v t, vs = v :: t ∧ σ[i]? = some (some v) ∧ ArgR r t
end
theorem ArgR.mono {K : PySem.W.Frag} {mg : Str → Option Value} {I J : Hp} {σ : L2.St} (x : Ex I J) : ∀ {as : List Arg} {vs : List V}, ArgR K mg I σ as vs → ArgR K mg J σ as vs
  | [], vs, h => h
  | .d d :: r, vs, h => by
    obtain ⟨v, t, e, h1, h2⟩ := h
    exact ⟨v, t, e, h1.mono x _ _, ArgR.mono x h2⟩
  | .io i :: r, vs, h => by
    obtain ⟨v, t, e, h1, h2⟩ := h
    exact ⟨v, t, e, h1, ArgR.mono x h2⟩
def tAr (K : PySem.W.Frag) (mg : Str → Option Value) (m : M (List Arg)) : TA := fun σ H Q => ∃ I e Fs, Rel K mg I e Fs σ H ∧ ∃ as e', m e = some (as, e') ∧
  ∀ vs I' Fs' H', Rel K mg I' e' Fs' σ H' → Ext Fs I H Fs' I' H' → ArgR K mg I' σ as vs → Q vs H'
def SA (X : Cx) (es : List Expr) (m : M (List Arg)) : Prop := PA X es (tAr X.K X.mg m)
theorem PA.imp {X : Cx} {a : List Expr} {t t' : TA} (h : PA X a t) (i : ∀ σ H Q, t' σ H Q → t σ H Q) : PA X a t' := ⟨fun pos pins s σ H Q I hq => h.run pos pins s σ H Q I (i σ H Q hq)⟩
def aNil : M (List Arg) := fun e => some ([], e)
def aD (m : M D) (r : M (List Arg)) : M (List Arg) := fun e => (m e).bind fun x => (r x.2).map fun y => (.d x.1 :: y.1, y.2)
def aIO (i : Nat) (r : M (List Arg)) : M (List Arg) := fun e => match e[i]? with
  | some (some _) => (r e).map fun y => (.io i :: y.1, y.2)
  | _ => none
section
variable {X : Cx} {a : Expr} {es : List Expr} {pos : Pos}
theorem sa_nil : SA X [] aNil := PA.imp pa_nil fun σ H Q ⟨I, e, Fs, R, as, e', hm, k⟩ => by
  cases hm
  exact k [] I Fs H R Ext.refl rfl
theorem sa_d {m : M D} {r : M (List Arg)} (h : SE X a m) (hr : SA X es r) (hs : starEach (a :: es) X.env = (false, eval a X.env) :: starEach es X.env := by rfl) : SA X (a :: es) (aD m r) := by
  refine PA.imp (pa_cons h hr hs) fun σ H Q ⟨I, e, Fs, R, as, e', hm, k⟩ => ?_
  obtain ⟨⟨x, e1⟩, h1, hm⟩ := Option.bind_eq_some_iff.mp hm
  obtain ⟨⟨y, e2⟩, h2, hm⟩ := Option.map_eq_some_iff.mp hm
  cases hm
  refine ⟨I, e, Fs, R, x, e1, h1, fun v I1 F1 H1 R1 x1 r1 => ⟨I1, e1, F1, R1, y, e2, h2, fun vs I2 F2 H2 R2 x2 r2 => ?_⟩⟩
  exact k (v :: vs) I2 F2 H2 R2 (x1.trans x2) ⟨v, vs, rfl, r1.mono x2.g.ex _ _, r2⟩
theorem sa_io {i : Nat} {x : Str} {r : M (List Arg)} (h : PE X (.Name x pos) (tVar i)) (hr : SA X es r) (hs : starEach (.Name x pos :: es) X.env = (false, eval (.Name x pos) X.env) :: starEach es X.env := by rfl) : SA X (.Name x pos :: es) (aIO i r) := by
  refine PA.imp (pa_cons h hr hs) fun σ H Q ⟨I, e, Fs, R, as, e', hm, k⟩ => ?_
  unfold aIO at hm
  split at hm
  · rename_i w hw
    obtain ⟨⟨y, e2⟩, h2, hm⟩ := Option.map_eq_some_iff.mp hm
    cases hm
    obtain ⟨v, h1, _⟩ := R.at_ i w hw
    refine ⟨v, h1, I, e, Fs, R, y, e2, h2, fun vs I2 F2 H2 R2 x2 r2 => ?_⟩
    exact k (v :: vs) I2 F2 H2 R2 x2 ⟨v, vs, rfl, h1, r2⟩
  · cases hm
end

/-! ### a def's meaning, its promise -/
abbrev FSem := List W → Option (W × Env)
/-- f: the arguments to the result and what the parameters that are handed back hold then -/
def spF (K : PySem.W.Frag) (mg : Str → Option Value) (n : Nat) (f : FSem) : Sp := fun vs H Q _ => ∃ I ws Fa, ws.length = n ∧ Rel K mg I (ws.map some) Fa (vs.map some) H ∧ ∃ w oe, f ws = some (w, oe) ∧
  ∀ v I' Fo H' F, Rel K mg I' oe Fo (vs.map some) H' → Ext Fa I H Fo I' H' → Own K mg I' H' Fo w v F → (∀ a ∈ F, MF Fa a ∨ H a = none) → Q v H'
theorem spF_len {K : PySem.W.Frag} {mg : Str → Option Value} {n : Nat} {f : FSem} {vs : List V} {H : Hp} {Q : VK} {E : XK} (h : spF K mg n f vs H Q E) : vs.length = n := by
  obtain ⟨I, ws, Fa, hl, R, _⟩ := h
  have := R.len
  simp at this
  omega
def gather : List Arg → Env → Option (List W × Env)
  | [], e => some ([], e)
  | .d d :: r, e => (gather r e).map fun x => (.p d :: x.1, x.2)
  | .io i :: r, e => match e[i]? with
    | some (some w) => (gather r (e.set i none)).map fun x => (w :: x.1, x.2)
    | _ => none
def scatter : List Arg → Env → Env → Env
  | [], _, e => e
  | .d _ :: r, oe, e => scatter r oe.tail e
  | .io i :: r, oe, e => scatter r oe.tail (match oe.head? with
    | some (some w) => e.set i (some w)
    | _ => e)
def consF (F : List Addr) (Fa : Fp) : Fp := fun j => match j with
  | 0 => F
  | k + 1 => Fa k
section
variable {K : PySem.W.Frag} {mg : Str → Option Value} {I H : Hp} {σ : L2.St}
theorem Rel.cons {w : W} {v : V} {F : List Addr} {e : Env} {Fa : Fp} {τ : L2.St} (R : Rel K mg I e Fa τ H) (o : Own K mg I H Fa w v F) : Rel K mg I (some w :: e) (consF F Fa) (some v :: τ) H := by
  refine ⟨R.sub, by simp [R.len], fun i u q => ?_, fun i => ?_, fun i j a h1 h2 => ?_, fun i a h => ?_, fun i a h => ?_⟩
  · cases i with
    | zero => simp at q; subst q; exact ⟨v, rfl, o.ro⟩
    | succ i => exact R.at_ i u (by simpa using q)
  · cases i with
    | zero => exact o.nd
    | succ i => exact R.nd i
  · cases i with
    | zero =>
      cases j with
      | zero => rfl
      | succ j => exact absurd ⟨j, h2⟩ (o.dj a h1)
    | succ i =>
      cases j with
      | zero => exact absurd ⟨i, h1⟩ (o.dj a h2)
      | succ j => rw [R.dj i j a h1 h2]
  · cases i with
    | zero => exact o.out a h
    | succ i => exact R.out i a h
  · cases i with
    | zero =>
      obtain ⟨u, hu⟩ := o.ro.live _ _ _ a h
      rw [hu]; exact fun q => by cases q
    | succ i => exact R.live i a h
theorem Rel.nil (s : Ex I H) : Rel K mg I [] (fun _ => []) [] H := ⟨s, rfl, fun i w q => by simp at q, fun _ => List.nodup_nil, fun _ _ _ h => (by cases h), fun _ _ h => (by cases h), fun _ _ h => (by cases h)⟩
theorem MF.cons {F : List Addr} {Fa : Fp} {a : Addr} (h : MF (consF F Fa) a) : a ∈ F ∨ MF Fa a := by
  obtain ⟨j, hj⟩ := h
  cases j with
  | zero => exact .inl hj
  | succ j => exact .inr ⟨j, hj⟩
theorem gather_ok : ∀ {as : List Arg} {e e2 : Env} {Fs : Fp} {vs : List V} {ws : List W}, Rel K mg I e Fs σ H → ArgR K mg I σ as vs → gather as e = some (ws, e2) →
    ∃ Fa F2, Rel K mg I (ws.map some) Fa (vs.map some) H ∧ Rel K mg I e2 F2 σ H ∧ (∀ a, MF Fa a → MF Fs a) ∧ (∀ a, MF F2 a → MF Fs a) ∧ (∀ a, MF Fa a → ¬ MF F2 a)
  | [], e, e2, Fs, vs, ws, R, h, g => by
    cases g
    simp only [ArgR] at h
    subst h
    exact ⟨fun _ => [], Fs, Rel.nil R.sub, R, fun a ⟨_, z⟩ => (by cases z), fun _ z => z, fun a ⟨_, z⟩ => (by cases z)⟩
  | .d d :: r, e, e2, Fs, vs, ws, R, h, g => by
    obtain ⟨v, t, rfl, h1, h2⟩ := h
    obtain ⟨⟨ws', e'⟩, g1, g2⟩ := Option.map_eq_some_iff.mp (show (gather r e).map (fun x => (W.p d :: x.1, x.2)) = some (ws, e2) from g)
    cases g2
    obtain ⟨Fa, F2, Ra, R2, i1, i2, i3⟩ := gather_ok R h2 g1
    refine ⟨consF [] Fa, F2, Ra.cons (.pure h1), R2, fun a m => ?_, i2, fun a m => ?_⟩
    · rcases m.cons with z | z
      · cases z
      · exact i1 a z
    · rcases m.cons with z | z
      · cases z
      · exact i3 a z
  | .io i :: r, e, e2, Fs, vs, ws, R, h, g => by
    obtain ⟨v, t, rfl, h1, h2⟩ := h
    have g' : (match e[i]? with
      | some (some w) => (gather r (e.set i none)).map fun x => (w :: x.1, x.2)
      | _ => none) = some (ws, e2) := g
    split at g'
    · rename_i w hw
      obtain ⟨⟨ws', e'⟩, g1, g2⟩ := Option.map_eq_some_iff.mp g'
      cases g2
      obtain ⟨v', hv, o⟩ := R.own hw
      rw [h1] at hv; cases hv
      obtain ⟨Fa, F2, Ra, R2, i1, i2, i3⟩ := gather_ok R.drop h2 g1
      have oa : Own K mg I H Fa w v (Fs i) := ⟨o.ro, o.nd, o.out, fun a ha m => o.dj a ha (i1 a m)⟩
      refine ⟨consF (Fs i) Fa, F2, Ra.cons oa, R2, fun a m => ?_, fun a m => (i2 a m).nil, fun a m => ?_⟩
      · rcases m.cons with z | z
        · exact ⟨i, z⟩
        · exact (i1 a z).nil
      · rcases m.cons with z | z
        · exact fun q => o.dj a z (i2 a q)
        · exact i3 a z
    · cases g'
theorem Rel.tail {o : Option W} {v : Option V} {e : Env} {Fa : Fp} {τ : L2.St} (R : Rel K mg I (o :: e) Fa (v :: τ) H) : Rel K mg I e (fun j => Fa (j + 1)) τ H :=
  ⟨R.sub, by simpa using R.len, fun i w q => by simpa using R.at_ (i + 1) w (by simpa using q), fun i => R.nd (i + 1), fun i j a h1 h2 => by have := R.dj _ _ a h1 h2; omega, fun i a h => R.out (i + 1) a h, fun i a h => R.live (i + 1) a h⟩
theorem scatter_ok : ∀ {as : List Arg} {e oe : Env} {Fs Fo : Fp} {vs : List V}, Rel K mg I e Fs σ H → ArgR K mg I σ as vs → Rel K mg I oe Fo (vs.map some) H → (∀ a, MF Fo a → ¬ MF Fs a) →
    ∃ F', Rel K mg I (scatter as oe e) F' σ H ∧ (∀ a, MF F' a → MF Fo a ∨ MF Fs a)
  | [], e, oe, Fs, Fo, vs, R, h, Ro, dj => ⟨Fs, R, fun a m => .inr m⟩
  | .d d :: r, e, oe, Fs, Fo, vs, R, h, Ro, dj => by
    obtain ⟨v, t, rfl, h1, h2⟩ := h
    cases oe with
    | nil => have := Ro.len; simp at this
    | cons o oe =>
      obtain ⟨F', R', m⟩ := scatter_ok R h2 Ro.tail fun a ⟨j, hj⟩ => dj a ⟨j + 1, hj⟩
      refine ⟨F', R', fun a ha => ?_⟩
      rcases m a ha with ⟨j, hj⟩ | z
      · exact .inl ⟨j + 1, hj⟩
      · exact .inr z
  | .io i :: r, e, oe, Fs, Fo, vs, R, h, Ro, dj => by
    obtain ⟨v, t, rfl, h1, h2⟩ := h
    cases oe with
    | nil => have := Ro.len; simp at this
    | cons o oe =>
      cases o with
      | none =>
        obtain ⟨F', R', m⟩ := scatter_ok R h2 Ro.tail fun a ⟨j, hj⟩ => dj a ⟨j + 1, hj⟩
        refine ⟨F', R', fun a ha => ?_⟩
        rcases m a ha with ⟨j, hj⟩ | z
        · exact .inl ⟨j + 1, hj⟩
        · exact .inr z
      | some w =>
        obtain ⟨v', hv, ro⟩ := Ro.at_ 0 w rfl
        have ev : v = v' := by simpa using hv
        subst ev
        have ow : Own K mg I H Fs w v (Fo 0) := ⟨ro, Ro.nd 0, Ro.out 0, fun a ha => dj a ⟨0, ha⟩⟩
        have R1 := R.put (i := i) ow
        have es : σ.set i (some v) = σ := by
          obtain ⟨hl, e⟩ := List.getElem?_eq_some_iff.mp h1
          exact List.ext_getElem? fun j => by
            by_cases z : i = j
            · subst z; rw [List.getElem?_set_self hl, h1]
            · rw [List.getElem?_set_ne z]
        rw [es] at R1
        obtain ⟨F', R', m⟩ := scatter_ok R1 h2 Ro.tail fun a ⟨j, hj⟩ q => by
          rcases q.put with z | z
          · have := Ro.dj _ _ a hj z; omega
          · exact dj a ⟨j + 1, hj⟩ z
        refine ⟨F', R', fun a ha => ?_⟩
        rcases m a ha with ⟨j, hj⟩ | z
        · exact .inl ⟨j + 1, hj⟩
        · rcases z.put with q | q
          · exact .inl ⟨0, q⟩
          · exact .inr q
end
def mCall (f : FSem) (ma : M (List Arg)) : M W := fun e => (ma e).bind fun x => (gather x.1 x.2).bind fun y => (f y.1).map fun z => (z.1, scatter x.1 z.2 y.2)
/-- how an argument list's meaning meets a promise -/
theorem call_step {K : PySem.W.Frag} {mg : Str → Option Value} {n : Nat} {f : FSem} {ma : M (List Arg)} {σ : L2.St} {H : Hp} {Q : VK} {E : XK} (hn : ∀ as e e', ma e = some (as, e') → as.length = n) (h : tO K mg (mCall f ma) σ H Q) : tAr K mg ma σ H fun vs H1 => spF K mg n f vs H1 Q E := by
  obtain ⟨I, e, Fs, R, w, e', hm, k⟩ := h
  obtain ⟨⟨as, e1⟩, h1, hm⟩ := Option.bind_eq_some_iff.mp hm
  obtain ⟨⟨ws, e2⟩, h2, hm⟩ := Option.bind_eq_some_iff.mp hm
  obtain ⟨⟨w', oe⟩, h3, hm⟩ := Option.map_eq_some_iff.mp hm
  cases hm
  refine ⟨I, e, Fs, R, as, e1, h1, fun vs I1 F1 H1 R1 x1 ha => ?_⟩
  obtain ⟨Fa, F2, Ra, R2, i1, i2, i3⟩ := gather_ok R1 ha h2
  have hl : ws.length = n := by
    rw [← hn as e e1 h1]
    have : ∀ {as : List Arg} {e e2 : Env} {ws : List W}, gather as e = some (ws, e2) → ws.length = as.length := by
      intro as
      induction as with
      | nil => intro e e2 ws g; cases g; rfl
      | cons a r ih =>
        intro e e2 ws g
        cases a with
        | d d =>
          obtain ⟨⟨ws', e'⟩, g1, g2⟩ := Option.map_eq_some_iff.mp (show (gather r e).map (fun x => (W.p d :: x.1, x.2)) = some (ws, e2) from g)
          cases g2
          rw [List.length_cons, List.length_cons, ih g1]
        | io i =>
          have g' : (match e[i]? with
            | some (some w) => (gather r (e.set i none)).map fun x => (w :: x.1, x.2)
            | _ => none) = some (ws, e2) := g
          split at g'
          · obtain ⟨⟨ws', e'⟩, g1, g2⟩ := Option.map_eq_some_iff.mp g'
            cases g2
            rw [List.length_cons, List.length_cons, ih g1]
          · cases g'
    exact this h2
  refine ⟨I1, ws, Fa, hl, Ra, w', oe, h3, fun v I' Fo H' F Ro x o hF => ?_⟩
  have dead : ∀ a, MF F2 a → ¬ MF Fa a := fun a m q => i3 a q m
  have R2' := R2.frame x.g Ro.sub dead
  have djo : ∀ a, MF Fo a → ¬ MF F2 a := fun a m q => by
    rcases x.fp a m with z | z
    · exact i3 a z q
    · obtain ⟨j, hj⟩ := q
      exact R2.live j a hj z
  obtain ⟨F', R', m'⟩ := scatter_ok R2' (ha.mono x.g.ex) Ro djo
  have xx : Ext F1 I1 H1 F' I' H' := by
    refine ⟨⟨x.g.ex, fun a u hu m => x.g.fr a u hu fun q => m (i1 a q), fun a q => ?_⟩, fun a q => ?_⟩
    · rcases x.g.new a q with z | z | z
      · exact .inl z
      · exact .inr (.inl z)
      · exact .inr (.inr (i1 a z))
    · rcases m' a q with z | z
      · rcases x.fp a z with y | y
        · exact .inl (i1 a y)
        · exact .inr y
      · exact .inl (i2 a z)
  refine k v I' F' H' F R' (x1.trans xx) ⟨o.ro, o.nd, o.out, fun a ha q => ?_⟩ fun a ha => ?_
  · rcases m' a q with z | z
    · exact o.dj a ha z
    · rcases hF a ha with y | y
      · exact i3 a y z
      · obtain ⟨j, hj⟩ := z
        exact R2.live j a hj y
  · rcases hF a ha with y | y
    · rcases x1.fp a (i1 a y) with z | z
      · exact .inl z
      · exact .inr z
    · cases q : H a with
      | none => exact .inr rfl
      | some u =>
        by_cases m : MF Fs a
        · exact .inl m
        · rw [x1.g.fr a u q m] at y; cases y
end MV

namespace MV
open PySem L2

/-! ### tests -/
def tT (K : PySem.W.Frag) (mg : Str → Option Value) (m : M Bool) : TT := fun σ H Q => ∃ I e Fs, Rel K mg I e Fs σ H ∧ ∃ b e', m e = some (b, e') ∧
  ∀ I' Fs' H', Rel K mg I' e' Fs' σ H' → Ext Fs I H Fs' I' H' → Q b H'
def ST (X : Cx) (a : Expr) (m : M Bool) : Prop := PT X a (tT X.K X.mg m)
theorem PT.imp {X : Cx} {a : Expr} {t t' : TT} (h : PT X a t) (i : ∀ σ H Q, t' σ H Q → t σ H Q) : PT X a t' := ⟨fun pins s σ H Q I hq => h.run pins s σ H Q I (i σ H Q hq)⟩
theorem PW.imp {X : Cx} {a : Expr} {t t' : TT} (h : PW X a t) (i : ∀ σ H Q, t' σ H Q → t σ H Q) : PW X a t' := ⟨fun wh pins s σ H Q I hq => h.run wh pins s σ H Q I (i σ H Q hq)⟩
def SW (X : Cx) (a : Expr) (m : M Bool) : Prop := PW X a (tT X.K X.mg m)
/-- a value's truth -/
def dTru : D → Option Bool
  | .none => some false
  | .bool b => some b
  | .int i => some (i != 0)
  | .str x => if x.length ≤ 1000000 then some ((x.length : Int) != 0) else none
  | .lst ds => some (!ds.isEmpty)
  | .fl ds => some (!ds.isEmpty)
  | .tup ds => some (!ds.isEmpty)
  | .dict ds => some (!ds.isEmpty)
  | _ => none
def mTru (m : M D) : M Bool := fun e => (m e).bind fun x => (dTru x.1).map fun b => (b, x.2)
/-- a value that is a bool -/
def mBool (m : M D) : M Bool := fun e => (m e).bind fun x => match x.1 with
  | .bool b => some (b, x.2)
  | _ => none
def mAnd (a b : M Bool) : M Bool := fun e => (a e).bind fun x => if x.1 = true then b x.2 else some (false, x.2)
def mOr (a b : M Bool) : M Bool := fun e => (a e).bind fun x => if x.1 = true then some (true, x.2) else b x.2
def mNot (a : M Bool) : M Bool := fun e => (a e).map fun x => (!x.1, x.2)
def mB (m : M Bool) : M D := fun e => (m e).map fun x => (.bool x.1, x.2)
def mIf {α : Type} (c : M Bool) (a b : M α) : M α := fun e => (c e).bind fun x => if x.1 = true then a x.2 else b x.2
theorem RpL.isEmpty {K : PySem.W.Frag} {mg : Str → Option Value} {I : Hp} {ds : List D} {xs : List V} (h : RpL K mg I ds xs) : xs.isEmpty = ds.isEmpty := by
  have := h.length
  cases ds <;> cases xs <;> simp_all
theorem RpK.isEmpty {K : PySem.W.Frag} {mg : Str → Option Value} {I : Hp} {ds : List (Key × D)} {xs : List (Key × V)} (h : RpK K mg I ds xs) : xs.isEmpty = ds.isEmpty := by
  cases ds with
  | nil => simp only [RpK] at h; subst h; rfl
  | cons d r =>
    obtain ⟨k, d⟩ := d
    simp only [RpK] at h
    obtain ⟨x, t, rfl, _⟩ := h
    rfl
theorem tru_of {K : PySem.W.Frag} {mg : Str → Option Value} {I H : Hp} {d : D} {v : V} {b : Bool} (s : Ex I H) (h : Rp K mg I d v) (e : dTru d = some b) : TruV K v H b := by
  have hs : sizeLine = 16777216 := sizeLine_eq
  cases d with
  | none => simp only [Rp] at h; subst h; cases e; exact rfl
  | bool c => simp only [Rp] at h; subst h; cases e; exact rfl
  | int i => simp only [Rp] at h; subst h; cases e; exact rfl
  | str x =>
    simp only [Rp] at h; subst h
    simp only [dTru] at e
    split at e
    · cases e; exact ⟨by omega, rfl⟩
    · cases e
  | lst ds =>
    simp only [Rp] at h; obtain ⟨a, xs, rfl, h1, h2⟩ := h
    cases e
    exact .inl ⟨xs, .of (s _ _ h1), by rw [h2.isEmpty]⟩
  | fl ds =>
    simp only [Rp] at h; obtain ⟨a, xs, rfl, h1, h2⟩ := h
    cases e
    exact .inl ⟨xs, ex_l s h1, by rw [h2.isEmpty]⟩
  | tup ds =>
    simp only [Rp] at h; obtain ⟨a, xs, rfl, h1, h2⟩ := h
    cases e
    exact .inr (.inl ⟨xs, ex_t s h1, by rw [h2.isEmpty]⟩)
  | dict ds =>
    simp only [Rp] at h; obtain ⟨a, xs, rfl, h1, h2⟩ := h
    cases e
    exact .inr (.inr ⟨xs, s _ _ h1, by rw [h2.isEmpty]⟩)
  | inst c fs => cases e
section
variable {X : Cx} {a b c : Expr} {rest : List Expr} {ma mb mc : M D} {ta tb : M Bool} {pos : Pos}
theorem st_tru (h : SE X a ma) (he : ∀ whole, isTrue a X.env whole = (do let v ← whole; standAt a.pos; holding [v] (truthy v))) : ST X a (mTru ma) := by
  refine PT.imp (pt_truth h he) fun σ H Q ⟨I, e, Fs, R, b, e', hm, k⟩ => ?_
  obtain ⟨⟨d, e1⟩, h1, hm⟩ := Option.bind_eq_some_iff.mp hm
  obtain ⟨b', h2, hm⟩ := Option.map_eq_some_iff.mp hm
  cases hm
  exact ⟨I, e, Fs, R, d, e1, h1, fun v I' Fs' H' R' x r => ⟨b, tru_of R'.sub r h2, k I' Fs' H' R' x⟩⟩
theorem st_cmp {op : CmpOp} {r : R2} {f : D → D → Option D} (ho : OpR X (compareOp op) r) (hf : OpD X.K X.mg r f) (ha : SE X a ma) (hb : SE X b mb) (hm : behindInMarks op b = false) : ST X (.Compare a [op] [b] pos) (mBool (mOp f ma mb)) := by
  refine PT.imp (pt_cmpR ho ha hb hm) fun σ H Q ⟨I, e, Fs, R, bb, e', hm, k⟩ => ?_
  obtain ⟨⟨d, e3⟩, h0, hm⟩ := Option.bind_eq_some_iff.mp hm
  obtain ⟨⟨x, e1⟩, h1, h0⟩ := Option.bind_eq_some_iff.mp h0
  obtain ⟨⟨y, e2⟩, h2, h0⟩ := Option.bind_eq_some_iff.mp h0
  obtain ⟨z, h3, h0⟩ := Option.map_eq_some_iff.mp h0
  cases h0
  refine ⟨I, e, Fs, R, x, e1, h1, fun v I1 F1 H1 R1 x1 r1 => ⟨I1, e1, F1, R1, y, e2, h2, fun u I2 F2 H2 R2 x2 r2 => ?_⟩⟩
  refine hf I2 H2 x y _ v u _ R2.sub (r1.mono x2.g.ex _ _) r2 h3 fun v' I3 H3 g r3 => ?_
  obtain ⟨R3, x3⟩ := g.rel R2
  cases d with
  | bool b0 =>
    cases hm
    simp only [Rp] at r3
    exact ⟨_, r3, k I3 F2 H3 R3 ((x1.trans x2).trans x3)⟩
  | _ => cases hm
/-- a op1 b op2 c -/
def mChain (f g : D → D → Option D) (a b c : M D) : M D := fun e => (a e).bind fun x => (b x.2).bind fun y => (f x.1 y.1).bind fun z => match z with
  | .bool true => (c y.2).bind fun w => (g y.1 w.1).map fun r => (r, w.2)
  | .bool false => some (.bool false, y.2)
  | _ => none
theorem chain_run {K : PySem.W.Frag} {mg : Str → Option Value} {r r' : R2} {f g : D → D → Option D} (hf : OpD K mg r f) (hg : OpD K mg r' g) {σ : L2.St} {H : Hp} {Q : VK} (h : tE K mg (mChain f g ma mb mc) σ H Q) : tChain r r' (tE K mg ma) (tE K mg mb) (tE K mg mc) σ H Q := by
  obtain ⟨I, e, Fs, R, d, e', hm, k⟩ := h
  obtain ⟨⟨x, e1⟩, h1, hm⟩ := Option.bind_eq_some_iff.mp hm
  obtain ⟨⟨y, e2⟩, h2, hm⟩ := Option.bind_eq_some_iff.mp hm
  obtain ⟨z, h3, hm⟩ := Option.bind_eq_some_iff.mp hm
  refine ⟨I, e, Fs, R, x, e1, h1, fun v I1 F1 H1 R1 x1 r1 => ⟨I1, e1, F1, R1, y, e2, h2, fun u I2 F2 H2 R2 x2 r2 => ?_⟩⟩
  refine hf I2 H2 x y _ v u _ R2.sub (r1.mono x2.g.ex _ _) r2 h3 fun v' I3 H3 g3 r3 => ?_
  obtain ⟨R3, x3⟩ := g3.rel R2
  have g0 := g3.ex R2.sub
  cases z with
  | bool b =>
    simp only [Rp] at r3
    refine ⟨b, r3, ?_⟩
    cases b with
    | true =>
      obtain ⟨⟨w, e4⟩, h4, hm⟩ := Option.bind_eq_some_iff.mp (show ((mc e2).bind fun w => (g y w.1).map fun r => (r, w.2)) = some (d, e') from hm)
      obtain ⟨q, h5, hm⟩ := Option.map_eq_some_iff.mp hm
      cases hm
      rw [if_pos rfl]
      refine ⟨I3, e2, F2, R3, w, e4, h4, fun t I4 F4 H4 R4 x4 r4 => ?_⟩
      refine hg I4 H4 y w _ u t _ R4.sub ((r2.mono g0.1 _ _).mono x4.g.ex _ _) r4 h5 fun v5 I5 H5 g5 r5 => ?_
      obtain ⟨R5, x5⟩ := g5.rel R4
      exact k v5 I5 F4 H5 R5 ((((x1.trans x2).trans x3).trans x4).trans x5) r5
    | false =>
      have hm : some (D.bool false, e2) = some (d, e') := hm
      cases hm
      rw [if_neg Bool.false_ne_true]
      exact k _ I3 F2 H3 R3 ((x1.trans x2).trans x3) (by simp only [Rp])
  | _ => cases hm
theorem se_chain {op op' : CmpOp} {r r' : R2} {f g : D → D → Option D} (ho : OpR X (compareOp op) r) (hf : OpD X.K X.mg r f) (ho' : OpR X (compareOp op') r') (hg : OpD X.K X.mg r' g) (ha : SE X a ma) (hb : SE X b mb) (hc : SE X c mc)
    (hm : lastMarks [op, op'] [b, c] = false := by with_unfolding_all rfl) : SE X (.Compare a [op, op'] [b, c] pos) (mChain f g ma mb mc) := PE.imp (pe_chain ho ho' ha hb hc hm) fun σ H Q h => chain_run hf hg h
theorem st_chain {op op' : CmpOp} {r r' : R2} {f g : D → D → Option D} (ho : OpR X (compareOp op) r) (hf : OpD X.K X.mg r f) (ho' : OpR X (compareOp op') r') (hg : OpD X.K X.mg r' g) (ha : SE X a ma) (hb : SE X b mb) (hc : SE X c mc)
    (hm : lastMarks [op, op'] [b, c] = false := by with_unfolding_all rfl) : ST X (.Compare a [op, op'] [b, c] pos) (mBool (mChain f g ma mb mc)) := by
  refine PT.imp (pt_chain ho ho' ha hb hc hm) fun σ H Q ⟨I, e, Fs, R, bb, e', hm, k⟩ => ?_
  obtain ⟨⟨d, e3⟩, h0, hm⟩ := Option.bind_eq_some_iff.mp hm
  refine chain_run hf hg ⟨I, e, Fs, R, d, e3, h0, fun v I' Fs' H' R' x r => ?_⟩
  cases d with
  | bool b0 =>
    cases hm
    simp only [Rp] at r
    exact ⟨_, r, k I' Fs' H' R' x⟩
  | _ => cases hm
theorem st_not (h : ST X a ta) : ST X (.UnaryOp .Not a pos) (mNot ta) := by
  refine PT.imp (pt_not h) fun σ H Q ⟨I, e, Fs, R, b, e', hm, k⟩ => ?_
  obtain ⟨⟨b', e1⟩, h1, hm⟩ := Option.map_eq_some_iff.mp hm
  cases hm
  exact ⟨I, e, Fs, R, b', e1, h1, k⟩
theorem and_run {K : PySem.W.Frag} {mg : Str → Option Value} {σ : L2.St} {H : Hp} {Q : Bool → Hp → Prop} (h : tT K mg (mAnd ta tb) σ H Q) : tAnd (tT K mg ta) (tT K mg tb) σ H Q := by
  obtain ⟨I, e, Fs, R, b, e', hm, k⟩ := h
  obtain ⟨⟨b1, e1⟩, h1, hm⟩ := Option.bind_eq_some_iff.mp hm
  refine ⟨I, e, Fs, R, b1, e1, h1, fun I1 F1 H1 R1 x1 => ?_⟩
  cases b1 with
  | true =>
    rw [if_pos rfl]
    have hm : tb e1 = some (b, e') := hm
    exact ⟨I1, e1, F1, R1, b, e', hm, fun I2 F2 H2 R2 x2 => k I2 F2 H2 R2 (x1.trans x2)⟩
  | false =>
    rw [if_neg Bool.false_ne_true]
    have hm : some (false, e1) = some (b, e') := hm
    cases hm
    exact k I1 F1 H1 R1 x1
theorem or_run {K : PySem.W.Frag} {mg : Str → Option Value} {σ : L2.St} {H : Hp} {Q : Bool → Hp → Prop} (h : tT K mg (mOr ta tb) σ H Q) : tOr (tT K mg ta) (tT K mg tb) σ H Q := by
  obtain ⟨I, e, Fs, R, b, e', hm, k⟩ := h
  obtain ⟨⟨b1, e1⟩, h1, hm⟩ := Option.bind_eq_some_iff.mp hm
  refine ⟨I, e, Fs, R, b1, e1, h1, fun I1 F1 H1 R1 x1 => ?_⟩
  cases b1 with
  | false =>
    rw [if_neg Bool.false_ne_true]
    have hm : tb e1 = some (b, e') := hm
    exact ⟨I1, e1, F1, R1, b, e', hm, fun I2 F2 H2 R2 x2 => k I2 F2 H2 R2 (x1.trans x2)⟩
  | true =>
    rw [if_pos rfl]
    have hm : some (true, e1) = some (b, e') := hm
    cases hm
    exact k I1 F1 H1 R1 x1
theorem sw_and1 (h : ST X a ta) : SW X (.BoolOp .And [a] pos) ta := pw_and1 h
theorem sw_or1 (h : ST X a ta) : SW X (.BoolOp .Or [a] pos) ta := pw_or1 h
theorem sw_and (h : ST X a ta) (hb : SW X (.BoolOp .And (b :: rest) pos) tb) : SW X (.BoolOp .And (a :: b :: rest) pos) (mAnd ta tb) := PW.imp (pw_and h hb) fun σ H Q z => and_run z
theorem sw_or (h : ST X a ta) (hb : SW X (.BoolOp .Or (b :: rest) pos) tb) : SW X (.BoolOp .Or (a :: b :: rest) pos) (mOr ta tb) := PW.imp (pw_or h hb) fun σ H Q z => or_run z
theorem SW.st (h : SW X a ta) : ST X a ta := PW.pt h
/-- and, or, not as values: bools -/
theorem bool_run {K : PySem.W.Frag} {mg : Str → Option Value} {m : M D} {σ : L2.St} {H : Hp} (P : Bool → Hp → Prop) (h : tT K mg (mBool m) σ H P) : tE K mg m σ H fun x H1 => ∃ c, x = .bl c ∧ P c H1 := by
  obtain ⟨I, e, Fs, R, b, e', hm, k⟩ := h
  obtain ⟨⟨d, e1⟩, h1, hm⟩ := Option.bind_eq_some_iff.mp hm
  refine ⟨I, e, Fs, R, d, e1, h1, fun v I' Fs' H' R' x r => ?_⟩
  cases d with
  | bool b0 =>
    cases hm
    simp only [Rp] at r
    exact ⟨_, r, k I' Fs' H' R' x⟩
  | _ => cases hm
def mAndV (a b : M D) : M D := fun e => (mBool a e).bind fun x => if x.1 = true then b x.2 else some (.bool false, x.2)
def mOrV (a b : M D) : M D := fun e => (mBool a e).bind fun x => if x.1 = true then some (.bool true, x.2) else b x.2
theorem se_one {op : BoolOp} (h : SE X a ma) : SE X (.BoolOp op [a] pos) ma := pe_one h
theorem se_and (ha : SE X a ma) (hb : SE X (.BoolOp .And (b :: rest) pos) mb) : SE X (.BoolOp .And (a :: b :: rest) pos) (mAndV ma mb) := by
  refine PE.imp (pe_and ha hb) fun σ H Q ⟨I, e, Fs, R, d, e', hm, k⟩ => ?_
  obtain ⟨⟨b1, e1⟩, h1, hm⟩ := Option.bind_eq_some_iff.mp hm
  refine bool_run (fun c H1 => if c = true then tE X.K X.mg mb σ H1 Q else Q (.bl false) H1) ⟨I, e, Fs, R, b1, e1, h1, fun I1 F1 H1 R1 x1 => ?_⟩
  cases b1 with
  | true =>
    rw [if_pos rfl]
    have hm : mb e1 = some (d, e') := hm
    exact ⟨I1, e1, F1, R1, d, e', hm, fun v I2 F2 H2 R2 x2 r2 => k v I2 F2 H2 R2 (x1.trans x2) r2⟩
  | false =>
    rw [if_neg Bool.false_ne_true]
    have hm : some (D.bool false, e1) = some (d, e') := hm
    cases hm
    exact k _ I1 F1 H1 R1 x1 (by simp only [Rp])
theorem se_or (ha : SE X a ma) (hb : SE X (.BoolOp .Or (b :: rest) pos) mb) : SE X (.BoolOp .Or (a :: b :: rest) pos) (mOrV ma mb) := by
  refine PE.imp (pe_or ha hb) fun σ H Q ⟨I, e, Fs, R, d, e', hm, k⟩ => ?_
  obtain ⟨⟨b1, e1⟩, h1, hm⟩ := Option.bind_eq_some_iff.mp hm
  refine bool_run (fun c H1 => if c = true then Q (.bl true) H1 else tE X.K X.mg mb σ H1 Q) ⟨I, e, Fs, R, b1, e1, h1, fun I1 F1 H1 R1 x1 => ?_⟩
  cases b1 with
  | false =>
    rw [if_neg Bool.false_ne_true]
    have hm : mb e1 = some (d, e') := hm
    exact ⟨I1, e1, F1, R1, d, e', hm, fun v I2 F2 H2 R2 x2 r2 => k v I2 F2 H2 R2 (x1.trans x2) r2⟩
  | true =>
    rw [if_pos rfl]
    have hm : some (D.bool true, e1) = some (d, e') := hm
    cases hm
    exact k _ I1 F1 H1 R1 x1 (by simp only [Rp])
def mNotV (a : M D) : M D := fun e => (mBool a e).map fun x => (.bool !x.1, x.2)
theorem se_not (ha : SE X a ma) : SE X (.UnaryOp .Not a pos) (mNotV ma) := by
  refine PE.imp (pe_not ha) fun σ H Q ⟨I, e, Fs, R, d, e', hm, k⟩ => ?_
  obtain ⟨⟨b1, e1⟩, h1, hm⟩ := Option.map_eq_some_iff.mp hm
  cases hm
  exact bool_run (fun c H1 => Q (.bl (!c)) H1) ⟨I, e, Fs, R, b1, e1, h1, fun I1 F1 H1 R1 x1 => k _ I1 F1 H1 R1 x1 (by simp only [Rp])⟩
theorem se_if (hc : ST X c ta) (ha : SE X a ma) (hb : SE X b mb) : SE X (.IfExp c a b pos) (mIf ta ma mb) := by
  refine PE.imp (pe_ifExp hc ha hb) fun σ H Q ⟨I, e, Fs, R, d, e', hm, k⟩ => ?_
  obtain ⟨⟨b1, e1⟩, h1, hm⟩ := Option.bind_eq_some_iff.mp hm
  refine ⟨I, e, Fs, R, b1, e1, h1, fun I1 F1 H1 R1 x1 => ?_⟩
  cases b1 with
  | true =>
    rw [if_pos rfl]
    have hm : ma e1 = some (d, e') := hm
    exact ⟨I1, e1, F1, R1, d, e', hm, fun v I2 F2 H2 R2 x2 r2 => k v I2 F2 H2 R2 (x1.trans x2) r2⟩
  | false =>
    rw [if_neg Bool.false_ne_true]
    have hm : mb e1 = some (d, e') := hm
    exact ⟨I1, e1, F1, R1, d, e', hm, fun v I2 F2 H2 R2 x2 r2 => k v I2 F2 H2 R2 (x1.trans x2) r2⟩
end

/-! ### statements -/
inductive SR where
  | nx (e : Env) | rt (w : W) (e : Env) | bk (e : Env) | ct (e : Env)
abbrev S := Env → Option SR
/-- the slots outside A stay -/
def Agr (A : Nat → Bool) (σ σ' : L2.St) : Prop := ∀ i, A i = false → σ'[i]? = σ[i]?
theorem Agr.refl {A : Nat → Bool} {σ : L2.St} : Agr A σ σ := fun _ _ => rfl
theorem Agr.trans {A : Nat → Bool} {σ σ1 σ2 : L2.St} (a : Agr A σ σ1) (b : Agr A σ1 σ2) : Agr A σ σ2 := fun i h => (b i h).trans (a i h)
theorem Agr.set {A : Nat → Bool} {σ σ1 : L2.St} {i : Nat} {v : Option V} (a : Agr A σ σ1) (h : A i = true) : Agr A σ (σ1.set i v) := fun j hj => by
  rw [List.getElem?_set_ne (fun z => by subst z; rw [h] at hj; cases hj)]
  exact a j hj
def endS (K : PySem.W.Frag) (mg : Str → Option Value) (A : Nat → Bool) (σ : L2.St) (Fs : Fp) (I H : Hp) (Dd : Ends) : SR → Prop
  | .nx e' => ∀ σ' I' Fs' H', Rel K mg I' e' Fs' σ' H' → Ext Fs I H Fs' I' H' → Agr A σ σ' → Dd.nx σ' H'
  | .rt w e' => ∀ v σ' I' Fs' H' F, Rel K mg I' e' Fs' σ' H' → Ext Fs I H Fs' I' H' → Agr A σ σ' → Own K mg I' H' Fs' w v F → (∀ a ∈ F, MF Fs a ∨ H a = none) → Dd.rt v H'
  | .bk e' => ∀ σ' I' Fs' H', Rel K mg I' e' Fs' σ' H' → Ext Fs I H Fs' I' H' → Agr A σ σ' → Dd.bk σ' H'
  | .ct e' => ∀ σ' I' Fs' H', Rel K mg I' e' Fs' σ' H' → Ext Fs I H Fs' I' H' → Agr A σ σ' → Dd.ct σ' H'
def tS (K : PySem.W.Frag) (mg : Str → Option Value) (A : Nat → Bool) (m : S) : TS := fun Dd σ H => ∃ I e Fs, Rel K mg I e Fs σ H ∧ ∃ r, m e = some r ∧ endS K mg A σ Fs I H Dd r
def SS (X : Cx) (A : Nat → Bool) (st : Stmt) (m : S) : Prop := PS X st (tS X.K X.mg A m)
def SB (X : Cx) (A : Nat → Bool) (st : List Stmt) (m : S) : Prop := PSs X st (tS X.K X.mg A m)
theorem PS.imp {X : Cx} {a : Stmt} {t t' : TS} (h : PS X a t) (i : ∀ D σ H, t' D σ H → t D σ H) : PS X a t' := ⟨fun pins s σ H D I hq => h.run pins s σ H D I (i D σ H hq)⟩
theorem PSs.imp {X : Cx} {a : List Stmt} {t t' : TS} (h : PSs X a t) (i : ∀ D σ H, t' D σ H → t D σ H) : PSs X a t' := ⟨fun pins s σ H D I hq => h.run pins s σ H D I (i D σ H hq)⟩
/-- from a state behind the start -/
theorem endS.from {K : PySem.W.Frag} {mg : Str → Option Value} {A : Nat → Bool} {σ σ1 : L2.St} {Fs F1 : Fp} {I H I1 H1 : Hp} {Dd : Ends} {r : SR} (x : Ext Fs I H F1 I1 H1) (a : Agr A σ σ1) (h : endS K mg A σ Fs I H Dd r) : endS K mg A σ1 F1 I1 H1 Dd r := by
  cases r with
  | nx e => exact fun σ' I' Fs' H' R' x' a' => h σ' I' Fs' H' R' (x.trans x') (a.trans a')
  | bk e => exact fun σ' I' Fs' H' R' x' a' => h σ' I' Fs' H' R' (x.trans x') (a.trans a')
  | ct e => exact fun σ' I' Fs' H' R' x' a' => h σ' I' Fs' H' R' (x.trans x') (a.trans a')
  | rt w e =>
    refine fun v σ' I' Fs' H' F R' x' a' o hF => h v σ' I' Fs' H' F R' (x.trans x') (a.trans a') o fun b hb => ?_
    rcases hF b hb with y | y
    · exact x.fp b y
    · cases q : H b with
      | none => exact .inr rfl
      | some u =>
        by_cases m : MF Fs b
        · exact .inl m
        · rw [x.g.fr b u q m] at y; cases y
def sNext : S := fun e => some (.nx e)
def sSeq (a b : S) : S := fun e => (a e).bind fun r => match r with
  | .nx e' => b e'
  | r => some r
def sRet (m : M W) : S := fun e => (m e).map fun x => .rt x.1 x.2
def sRetN : S := fun e => some (.rt (.p .none) e)
def sSet (i : Nat) (m : M W) : S := fun e => (m e).map fun x => .nx (x.2.set i (some x.1))
def sIf (c : M Bool) (a b : S) : S := fun e => (c e).bind fun x => if x.1 = true then a x.2 else b x.2
def sBrk : S := fun e => some (.bk e)
def sCont : S := fun e => some (.ct e)
def sNever : S := fun _ => none
def sDrop (m : M W) : S := fun e => (m e).map fun x => .nx x.2
section
variable {X : Cx} {A : Nat → Bool} {st : Stmt} {rest : List Stmt} {a : Expr} {mw : M W} {s1 s2 : S} {pos : Pos}
theorem sb_nil : SB X A [] sNext := PSs.imp pss_nil fun Dd σ H ⟨I, e, Fs, R, r, hm, k⟩ => by
  cases hm
  exact k σ I Fs H R Ext.refl Agr.refl
theorem sb_cons (h1 : SS X A st s1) (h2 : SB X A rest s2) : SB X A (st :: rest) (sSeq s1 s2) := by
  refine PSs.imp (pss_cons h1 h2) fun Dd σ H ⟨I, e, Fs, R, r, hm, k⟩ => ?_
  obtain ⟨r1, h1, hm⟩ := Option.bind_eq_some_iff.mp hm
  refine ⟨I, e, Fs, R, r1, h1, ?_⟩
  cases r1 with
  | nx e1 => exact fun σ' I' Fs' H' R' x a => ⟨I', e1, Fs', R', r, hm, k.from x a⟩
  | rt w e1 => cases hm; exact k
  | bk e1 => cases hm; exact k
  | ct e1 => cases hm; exact k
theorem sb_one (h : SS X A st s1) : SB X A [st] s1 := pss_one h
theorem sb_never : SB X A rest sNever := PSs.imp pss_never fun Dd σ H ⟨I, e, Fs, R, r, hm, k⟩ => by cases hm
theorem ss_never : SS X A st sNever := PS.imp ps_never fun Dd σ H ⟨I, e, Fs, R, r, hm, k⟩ => by cases hm
theorem ss_pass : SS X A (.Pass pos) sNext := PS.imp ps_pass fun Dd σ H ⟨I, e, Fs, R, r, hm, k⟩ => by
  cases hm
  exact k σ I Fs H R Ext.refl Agr.refl
theorem ss_brk : SS X A (.Break pos) sBrk := PS.imp ps_break fun Dd σ H ⟨I, e, Fs, R, r, hm, k⟩ => by
  cases hm
  exact k σ I Fs H R Ext.refl Agr.refl
theorem ss_cont : SS X A (.Continue pos) sCont := PS.imp ps_continue fun Dd σ H ⟨I, e, Fs, R, r, hm, k⟩ => by
  cases hm
  exact k σ I Fs H R Ext.refl Agr.refl
theorem ss_ret (h : SO X a mw) : SS X A (.Return (some a) pos) (sRet mw) := by
  refine PS.imp (ps_ret h) fun Dd σ H ⟨I, e, Fs, R, r, hm, k⟩ => ?_
  obtain ⟨⟨w, e1⟩, h1, hm⟩ := Option.map_eq_some_iff.mp hm
  cases hm
  exact ⟨I, e, Fs, R, w, e1, h1, fun v I' Fs' H' F R' x o hF => k v σ I' Fs' H' F R' x Agr.refl o hF⟩
theorem ss_retN : SS X A (.Return none pos) sRetN := by
  refine PS.imp ps_retN fun Dd σ H ⟨I, e, Fs, R, r, hm, k⟩ => ?_
  cases hm
  exact k .non σ I Fs H [] R Ext.refl Agr.refl (.pure (by simp only [Rp])) fun _ z => by cases z
theorem ss_if {c : Expr} {as bs : List Stmt} {tc : M Bool} (hc : ST X c tc) (ha : SB X A as s1) (hb : SB X A bs s2) : SS X A (.If c as bs pos) (sIf tc s1 s2) := by
  refine PS.imp (ps_if hc ha hb) fun Dd σ H ⟨I, e, Fs, R, r, hm, k⟩ => ?_
  obtain ⟨⟨b1, e1⟩, h1, hm⟩ := Option.bind_eq_some_iff.mp hm
  refine ⟨I, e, Fs, R, b1, e1, h1, fun I1 F1 H1 R1 x1 => ?_⟩
  cases b1 with
  | true =>
    rw [if_pos rfl]
    have hm : s1 e1 = some r := hm
    exact ⟨I1, e1, F1, R1, r, hm, k.from x1 Agr.refl⟩
  | false =>
    rw [if_neg Bool.false_ne_true]
    have hm : s2 e1 = some r := hm
    exact ⟨I1, e1, F1, R1, r, hm, k.from x1 Agr.refl⟩
theorem ss_drop (h : SO X a mw) (hs : swapsWith a none pos.line X.env = pure false := by rfl) : SS X A (.Expr a pos) (sDrop mw) := by
  refine PS.imp (ps_expr h hs) fun Dd σ H ⟨I, e, Fs, R, r, hm, k⟩ => ?_
  obtain ⟨⟨w, e1⟩, h1, hm⟩ := Option.map_eq_some_iff.mp hm
  cases hm
  exact ⟨I, e, Fs, R, w, e1, h1, fun v I' Fs' H' F R' x o hF => k σ I' Fs' H' R' x Agr.refl⟩
theorem set_run {K : PySem.W.Frag} {mg : Str → Option Value} {Dd : Ends} {σ : L2.St} {H : Hp} {i : Nat} (hA : A i = true) (h : tS K mg A (sSet i mw) Dd σ H) : tAsg (tO K mg mw) (gName i) Dd σ H := by
  obtain ⟨I, e, Fs, R, r, hm, k⟩ := h
  obtain ⟨⟨w, e1⟩, h1, hm⟩ := Option.map_eq_some_iff.mp hm
  cases hm
  exact ⟨I, e, Fs, R, w, e1, h1, fun v I' Fs' H' F R' x o hF => k _ I' _ H' (R'.put o) (x.put hF) (Agr.refl.set hA)⟩
theorem ss_set {i : Nat} {x : Str} {pos' : Pos} (hA : A i = true) (hN : X.N.Nodup) (hi : X.N[i]? = some x) (hx : Loc X.env.scope x) (he : SO X a mw) (hs : swapsWith a (some (.Name x pos')) pos.line X.env = pure false := by rfl) (hf : X.fn x = true ∨ X.env.scope.names.lookup x = some .local := by first | exact .inl rfl | exact .inr rfl | assumption) :
    SS X A (.Assign [.Name x pos'] a pos) (sSet i mw) := PS.imp (ps_set hN hi hx he hs hf) fun Dd σ H h => set_run hA h
end
end MV

namespace MV
open PySem L2

/-! ### targets -/
abbrev Tg := D → Env → Option Env
def tG (K : PySem.W.Frag) (mg : Str → Option Value) (A : Nat → Bool) (t : Tg) : TG := fun v σ H Q => ∃ I e Fs d, Rel K mg I e Fs σ H ∧ Rp K mg I d v ∧ ∃ e', t d e = some e' ∧
  ∀ σ' Fs', Rel K mg I e' Fs' σ' H → (∀ a, MF Fs' a → MF Fs a) → Agr A σ σ' → σ'.length = σ.length → Q σ' H
def SG (X : Cx) (A : Nat → Bool) (tg : Expr) (t : Tg) : Prop := PG X tg (tG X.K X.mg A t)
theorem PG.imp {X : Cx} {a : Expr} {t t' : TG} (h : PG X a t) (i : ∀ v σ H Q, t' v σ H Q → t v σ H Q) : PG X a t' := ⟨fun pins s σ H v u Q I r hq => h.run pins s σ H v u Q I r (i v σ H Q hq)⟩
theorem PGs.imp {X : Cx} {a : List Expr} {t t' : TGs} (h : PGs X a t) (i : ∀ v σ H Q, t' v σ H Q → t v σ H Q) : PGs X a t' := ⟨fun pins s σ H v u Q I r hq => h.run pins s σ H v u Q I r (i v σ H Q hq)⟩
def gN (i : Nat) : Tg := fun d e => some (e.set i (some (.p d)))
abbrev Tgs := List D → Env → Option Env
def tGs (K : PySem.W.Frag) (mg : Str → Option Value) (A : Nat → Bool) (t : Tgs) : TGs := fun vs σ H Q => ∃ I e Fs ds, Rel K mg I e Fs σ H ∧ RpL K mg I ds vs ∧ ∃ e', t ds e = some e' ∧
  ∀ σ' Fs', Rel K mg I e' Fs' σ' H → (∀ a, MF Fs' a → MF Fs a) → Agr A σ σ' → σ'.length = σ.length → Q σ' H
def SGs (X : Cx) (A : Nat → Bool) (tg : List Expr) (t : Tgs) : Prop := PGs X tg (tGs X.K X.mg A t)
def gsNil : Tgs := fun ds e => match ds with
  | [] => some e
  | _ => none
def gsCons (t : Tg) (r : Tgs) : Tgs := fun ds e => match ds with
  | d :: ds => (t d e).bind (r ds)
  | [] => none
def gT (n : Nat) (r : Tgs) : Tg := fun d e => match d with
  | .tup ds => if ds.length = n then r ds e else none
  | _ => none
section
variable {X : Cx} {A : Nat → Bool} {pos : Pos}
theorem Rel.putD {K : PySem.W.Frag} {mg : Str → Option Value} {I H : Hp} {e : Env} {Fs : Fp} {σ : L2.St} {i : Nat} {d : D} {v : V} (R : Rel K mg I e Fs σ H) (h : Rp K mg I d v) : Rel K mg I (e.set i (some (.p d))) (putF Fs i []) (σ.set i (some v)) H := R.put (.pure h)
theorem sg_name {i : Nat} {x : Str} (hA : A i = true) (hN : X.N.Nodup) (hi : X.N[i]? = some x) (hx : Loc X.env.scope x) (hf : X.fn x = true ∨ X.env.scope.names.lookup x = some .local := by first | exact .inl rfl | exact .inr rfl | assumption) : SG X A (.Name x pos) (gN i) :=
  PG.imp (pg_name hN hi hx hf) fun v σ H Q ⟨I, e, Fs, d, R, r, e', hm, k⟩ => by
    cases hm
    exact k _ _ (R.putD r) (fun a m => m.nil) (Agr.refl.set hA) (by simp)
theorem sgs_nil : SGs X A [] gsNil := PGs.imp pgs_nil fun vs σ H Q ⟨I, e, Fs, ds, R, r, e', hm, k⟩ => by
  cases ds with
  | nil =>
    simp only [RpL] at r
    cases hm
    exact ⟨r, k σ Fs R (fun _ m => m) Agr.refl rfl⟩
  | cons d ds => cases hm
theorem sgs_cons {a : Expr} {es : List Expr} {t : Tg} {u : Tgs} (h1 : SG X A a t) (h2 : SGs X A es u)
    (hs : (assignEach (a :: es) X.env).map (·.2) = assign a X.env :: (assignEach es X.env).map (·.2) := by rfl) : SGs X A (a :: es) (gsCons t u) := PGs.imp (pgs_cons h1 h2 hs) fun vs σ H Q ⟨I, e, Fs, ds, R, r, e', hm, k⟩ => by
  cases ds with
  | nil => cases hm
  | cons d ds =>
    simp only [RpL] at r
    obtain ⟨x, rr, rfl, r1, r2⟩ := r
    obtain ⟨e1, h1, hm⟩ := Option.bind_eq_some_iff.mp (show (t d e).bind (u ds) = some e' from hm)
    exact ⟨x, rr, rfl, I, e, Fs, d, R, r1, e1, h1, fun σ1 F1 R1 m1 a1 l1 => ⟨I, e1, F1, ds, R1, r2, e', hm, fun σ2 F2 R2 m2 a2 l2 => k σ2 F2 R2 (fun a m => m1 a (m2 a m)) (a1.trans a2) (l2.trans l1)⟩⟩
theorem sg_tup {es : List Expr} {k : Nat} {t : Tgs} {n : Nat} (hc : X.calm = true) (h : SGs X A es t)
    (hn : (assignEach es X.env).length = n := by rfl) (hst : (assignEach es X.env).findIdx? (·.1) = none := by rfl) : SG X A (.Tuple es k pos) (gT n t) := PG.imp (pg_tup hc h hn hst) fun v σ H Q ⟨I, e, Fs, d, R, r, e', hm, kk⟩ => by
  cases d with
  | tup ds =>
    have hm : (if ds.length = n then t ds e else none) = some e' := hm
    split at hm
    · rename_i hl
      simp only [Rp] at r
      obtain ⟨a, xs, rfl, h1, h2⟩ := r
      exact ⟨a, xs, rfl, ex_t R.sub h1, by rw [← h2.length]; exact hl, I, e, Fs, ds, R, h2, e', hm, kk⟩
    · cases hm
  | _ => cases hm
/-- target = value -/
def sAsg (t : Tg) (m : M D) : S := fun e => (m e).bind fun x => (t x.1 x.2).map .nx
theorem ss_asg {tg a : Expr} {m : M D} {t : Tg} (he : SE X a m) (hg : SG X A tg t) (hs : swapsWithSole [tg] a pos.line X.env = pure false := by rfl) (hw : swappedStores [tg] a X.env = pure none := by rfl)
    (h1 : (assignEach [tg] X.env).map (·.2) = [assign tg X.env] := by rfl) : SS X A (.Assign [tg] a pos) (sAsg t m) := PS.imp (ps_asg he hg hs hw h1) fun Dd σ H ⟨I, e, Fs, R, r, hm, k⟩ => by
  obtain ⟨⟨d, e1⟩, h1, hm⟩ := Option.bind_eq_some_iff.mp hm
  obtain ⟨e2, h2, hm⟩ := Option.map_eq_some_iff.mp hm
  cases hm
  exact ⟨I, e, Fs, R, d, e1, h1, fun v I1 F1 H1 R1 x1 r1 => ⟨I1, e1, F1, d, R1, r1, e2, h2, fun σ' F2 R2 m a _ => k σ' I1 F2 H1 R2 ⟨x1.g, fun b q => x1.fp b (m b q)⟩ a⟩⟩
end

/-! ### what is walked -/
def ItR (K : PySem.W.Frag) (mg : Str → Option Value) (I : Hp) (J : It) (ds : List D) : Prop := ∀ (i : Nat) (I1 H1 : Hp), Ex I I1 → Ex I1 H1 →
  (∀ d, ds[i]? = some d → J.go i H1 ∧ ∀ x H2, J.yld i H1 x H2 → ∃ I2, Gr I1 H1 I2 H2 ∧ Rp K mg I2 d x) ∧ (ds.length ≤ i → J.stop i H1)
def tI (K : PySem.W.Frag) (mg : Str → Option Value) (m : M (List D)) : TI := fun σ H R => ∃ I e Fs, Rel K mg I e Fs σ H ∧ ∃ ds e', m e = some (ds, e') ∧
  ∀ J I' Fs' H', Rel K mg I' e' Fs' σ H' → Ext Fs I H Fs' I' H' → ItR K mg I' J ds → R J H'
def SI (X : Cx) (tg it : Expr) (m : M (List D)) : Prop := PI X tg it (tI X.K X.mg m)
theorem PI.imp {X : Cx} {tg a : Expr} {t t' : TI} (h : PI X tg a t) (i : ∀ σ H Q, t' σ H Q → t σ H Q) : PI X tg a t' := ⟨fun pins s σ H R I hq => h.run pins s σ H R I (i σ H R hq)⟩
def iLst (m : M D) : M (List D) := fun e => (m e).bind fun x => match x.1 with
  | .lst ds => some (ds, x.2)
  | .fl ds => some (ds, x.2)
  | _ => none
def iTpl (m : M D) : M (List D) := fun e => (m e).bind fun x => match x.1 with
  | .tup ds => some (ds, x.2)
  | _ => none
def iTxt (m : M D) : M (List D) := fun e => (m e).bind fun x => match x.1 with
  | .str y => some (y.cps.toList.map fun c => .str ⟨#[c]⟩, x.2)
  | _ => none
theorem itl_r {K : PySem.W.Frag} {mg : Str → Option Value} {I : Hp} {a : Addr} {xs : List V} {ds : List D} (h : SqL K I a xs) (r : RpL K mg I ds xs) : ItR K mg I (Itl K a) ds := fun i I1 H1 e1 e2 => by
  have h1 := ex_l (e1.trans e2) h
  refine ⟨fun d hd => ?_, fun hl => ⟨xs, h1, by rw [← r.length]; exact hl⟩⟩
  obtain ⟨x, hx, rx⟩ := r.get hd
  refine ⟨⟨xs, x, h1, hx⟩, fun y H2 hy => ?_⟩
  obtain ⟨rfl, q⟩ := hy
  have := q xs h1
  rw [hx] at this
  cases this
  exact ⟨I1, .same, rx.mono e1 _ _⟩
theorem itt_r {K : PySem.W.Frag} {mg : Str → Option Value} {I : Hp} {a : Addr} {xs : List V} {ds : List D} (h : SqT K I a xs) (r : RpL K mg I ds xs) : ItR K mg I (Itt K a) ds := fun i I1 H1 e1 e2 => by
  have h1 := ex_t (e1.trans e2) h
  refine ⟨fun d hd => ?_, fun hl => ⟨xs, h1, by rw [← r.length]; exact hl⟩⟩
  obtain ⟨x, hx, rx⟩ := r.get hd
  refine ⟨⟨xs, x, h1, hx⟩, fun y H2 hy => ?_⟩
  obtain ⟨rfl, q⟩ := hy
  have := q xs h1
  rw [hx] at this
  cases this
  exact ⟨I1, .same, rx.mono e1 _ _⟩
def rngD (lo : Int) (n : Nat) : List D := (List.range n).map fun (i : Nat) => .int (lo + (i : Int))
theorem itr_r {K : PySem.W.Frag} {mg : Str → Option Value} {I : Hp} {lo : Int} {n : Nat} : ItR K mg I (Itr lo n) (rngD lo n) := fun i I1 H1 e1 e2 => by
  refine ⟨fun d hd => ?_, fun hl => by simpa [rngD, Itr] using hl⟩
  unfold rngD at hd
  rw [List.getElem?_map] at hd
  by_cases hi : i < n
  · rw [List.getElem?_range hi] at hd
    cases hd
    refine ⟨hi, fun y H2 hy => ?_⟩
    obtain ⟨rfl, rfl⟩ := hy
    exact ⟨I1, .same, by unfold Rp; rfl⟩
  · rw [List.getElem?_eq_none (by simpa using hi)] at hd
    cases hd
theorem its_r {K : PySem.W.Frag} {mg : Str → Option Value} {I : Hp} {x : Str} : ItR K mg I (Its x) (x.cps.toList.map fun c => D.str ⟨#[c]⟩) := fun i I1 H1 e1 e2 => by
  refine ⟨fun d hd => ?_, fun hl => by simpa [Its] using hl⟩
  rw [List.getElem?_map] at hd
  cases e : x.cps.toList[i]? with
  | none => rw [e] at hd; cases hd
  | some c =>
    rw [e] at hd
    cases hd
    have e' : x.cps[i]? = some c := by simpa using e
    refine ⟨by
      show i < x.cps.size
      exact (Array.getElem?_eq_some_iff.mp e').1, fun y H2 hy => ?_⟩
    obtain ⟨rfl, c', h1, rfl⟩ := hy
    rw [e'] at h1
    cases h1
    exact ⟨I1, .same, by simp only [Rp]⟩
def enD (ds : List D) : List D := ds.mapIdx fun i d => .tup [.int (i : Int), d]
theorem ite_r {K : PySem.W.Frag} {mg : Str → Option Value} {I : Hp} {a : Addr} {xs : List V} {ds : List D} (h : SqL K I a xs) (r : RpL K mg I ds xs) : ItR K mg I (Ite K a) (enD ds) := fun i I1 H1 e1 e2 => by
  have h1 := ex_l (e1.trans e2) h
  refine ⟨fun d hd => ?_, fun hl => ⟨xs, h1, by rw [← r.length]; simpa [enD] using hl⟩⟩
  unfold enD at hd
  rw [List.getElem?_mapIdx] at hd
  cases e : ds[i]? with
  | none => rw [e] at hd; cases hd
  | some d0 =>
    rw [e] at hd
    cases hd
    obtain ⟨x, hx, rx⟩ := r.get e
    refine ⟨⟨xs, x, h1, hx⟩, fun y H2 hy => ?_⟩
    obtain ⟨T, z, rfl, hT, rfl, q⟩ := hy
    have := q xs h1
    rw [hx] at this
    cases this
    have hI : I1 T = none := by
      cases q : I1 T with
      | none => rfl
      | some u => rw [e2 T u q] at hT; cases hT
    refine ⟨_, .new T _ hT, ?_⟩
    simp only [Rp]
    exact ⟨T, _, rfl, .inl (.inl upd_same), RpL.cons (by unfold Rp; rfl) (RpL.cons (rx.mono (e1.trans (Ex.new hI)) _ _) RpL.nil)⟩
def zipD : List D → List D → List D
  | a :: as, b :: bs => .tup [a, b] :: zipD as bs
  | _, _ => []
theorem zipD_get : ∀ {as bs : List D} {i : Nat} {d : D}, (zipD as bs)[i]? = some d → ∃ a b, as[i]? = some a ∧ bs[i]? = some b ∧ d = .tup [a, b]
  | [], _, i, d, h => by simp [zipD] at h
  | a :: as, [], i, d, h => by simp [zipD] at h
  | a :: as, b :: bs, 0, d, h => by simp [zipD] at h; exact ⟨a, b, rfl, rfl, h.symm⟩
  | a :: as, b :: bs, i + 1, d, h => by
    have h' : (zipD as bs)[i]? = some d := by simpa [zipD] using h
    simpa using zipD_get h'
theorem zipD_len : ∀ {as bs : List D}, (zipD as bs).length = min as.length bs.length
  | [], _ => by simp [zipD]
  | a :: as, [] => by simp [zipD]
  | a :: as, b :: bs => by simp [zipD, zipD_len (as := as) (bs := bs)]
theorem itz_r {K : PySem.W.Frag} {mg : Str → Option Value} {I : Hp} {a b : Addr} {xs ys : List V} {ds es : List D} (h : SqL K I a xs) (r : RpL K mg I ds xs) (h' : SqL K I b ys) (r' : RpL K mg I es ys) : ItR K mg I (Itz K a b) (zipD ds es) := fun i I1 H1 e1 e2 => by
  have h1 := ex_l (e1.trans e2) h
  have h1' := ex_l (e1.trans e2) h'
  refine ⟨fun d hd => ?_, fun hl => ⟨xs, ys, h1, h1', by rw [← r.length, ← r'.length]; rw [zipD_len] at hl; omega⟩⟩
  obtain ⟨d1, d2, g1, g2, rfl⟩ := zipD_get hd
  obtain ⟨x, hx, rx⟩ := r.get g1
  obtain ⟨y, hy, ry⟩ := r'.get g2
  refine ⟨⟨xs, ys, x, y, h1, h1', hx, hy⟩, fun v H2 hv => ?_⟩
  obtain ⟨T, z, z', rfl, hT, rfl, q, q'⟩ := hv
  have e3 := q xs h1
  rw [hx] at e3
  cases e3
  have e4 := q' ys h1'
  rw [hy] at e4
  cases e4
  have hI : I1 T = none := by
    cases q : I1 T with
    | none => rfl
    | some u => rw [e2 T u q] at hT; cases hT
  refine ⟨_, .new T _ hT, ?_⟩
  simp only [Rp]
  exact ⟨T, _, rfl, .inl (.inl upd_same), RpL.cons (rx.mono (e1.trans (Ex.new hI)) _ _) (RpL.cons (ry.mono (e1.trans (Ex.new hI)) _ _) RpL.nil)⟩
theorem itzt_r {K : PySem.W.Frag} {mg : Str → Option Value} {I : Hp} {a b : Addr} {xs ys : List V} {ds es : List D} (h : SqT K I a xs) (r : RpL K mg I ds xs) (h' : SqT K I b ys) (r' : RpL K mg I es ys) : ItR K mg I (RZ.ItzT K a b) (zipD ds es) := fun i I1 H1 e1 e2 => by
  have h1 := ex_t (e1.trans e2) h
  have h1' := ex_t (e1.trans e2) h'
  refine ⟨fun d hd => ?_, fun hl => ⟨xs, ys, h1, h1', by rw [← r.length, ← r'.length]; rw [zipD_len] at hl; omega⟩⟩
  obtain ⟨d1, d2, g1, g2, rfl⟩ := zipD_get hd
  obtain ⟨x, hx, rx⟩ := r.get g1
  obtain ⟨y, hy, ry⟩ := r'.get g2
  refine ⟨⟨xs, ys, x, y, h1, h1', hx, hy⟩, fun v H2 hv => ?_⟩
  obtain ⟨T, z, z', rfl, hT, rfl, q, q'⟩ := hv
  have e3 := q xs h1
  rw [hx] at e3
  cases e3
  have e4 := q' ys h1'
  rw [hy] at e4
  cases e4
  have hI : I1 T = none := by
    cases q : I1 T with
    | none => rfl
    | some u => rw [e2 T u q] at hT; cases hT
  refine ⟨_, .new T _ hT, ?_⟩
  simp only [Rp]
  exact ⟨T, _, rfl, .inl (.inl upd_same), RpL.cons (rx.mono (e1.trans (Ex.new hI)) _ _) (RpL.cons (ry.mono (e1.trans (Ex.new hI)) _ _) RpL.nil)⟩
/-- the arguments of a built-in are data -/
def allD : List Arg → Option (List D)
  | [] => some []
  | .d d :: r => (allD r).map (d :: ·)
  | _ => none
theorem allD_rp {K : PySem.W.Frag} {mg : Str → Option Value} {I : Hp} {σ : L2.St} : ∀ {as : List Arg} {ds : List D} {vs : List V}, allD as = some ds → ArgR K mg I σ as vs → RpL K mg I ds vs
  | [], ds, vs, h, r => by cases h; simp only [ArgR] at r; subst r; exact RpL.nil
  | .d d :: as, ds, vs, h, r => by
    obtain ⟨v, t, rfl, r1, r2⟩ := r
    obtain ⟨ds', h1, h2⟩ := Option.map_eq_some_iff.mp (show (allD as).map (d :: ·) = some ds from h)
    subst h2
    exact RpL.cons r1 (allD_rp h1 r2)
  | .io i :: as, ds, vs, h, r => by cases h
/-- an iterator of values of the arguments -/
def iArgs (f : List D → Option (List D)) (ma : M (List Arg)) : M (List D) := fun e => (ma e).bind fun x => (allD x.1).bind fun ds => (f ds).map fun r => (r, x.2)
def fRange1 : List D → Option (List D)
  | [.int j] => if -1000000 ≤ j ∧ j ≤ 1000000 then some (rngD 0 j.toNat) else none
  | _ => none
def fRange2 : List D → Option (List D)
  | [.int i, .int j] => if -1000000 ≤ i ∧ i ≤ 1000000 ∧ -1000000 ≤ j ∧ j ≤ 1000000 then some (rngD i (j - i).toNat) else none
  | _ => none
def fEnum : List D → Option (List D)
  | [.lst ds] => some (enD ds)
  | [.fl ds] => some (enD ds)
  | _ => none
def fZip : List D → Option (List D)
  | [.lst a, .lst b] => some (zipD a b)
  | [.tup a, .tup b] => some (zipD a b)
  | _ => none
theorem RpL.one {K : PySem.W.Frag} {mg : Str → Option Value} {I : Hp} {d : D} {vs : List V} (h : RpL K mg I [d] vs) : ∃ v, vs = [v] ∧ Rp K mg I d v := by
  simp only [RpL] at h
  obtain ⟨x, r, rfl, h1, h2⟩ := h
  subst h2
  exact ⟨x, rfl, h1⟩
theorem RpL.two {K : PySem.W.Frag} {mg : Str → Option Value} {I : Hp} {d d' : D} {vs : List V} (h : RpL K mg I [d, d'] vs) : ∃ v v', vs = [v, v'] ∧ Rp K mg I d v ∧ Rp K mg I d' v' := by
  simp only [RpL] at h
  obtain ⟨x, r, rfl, h1, y, r2, rfl, h2, rfl⟩ := h
  exact ⟨x, y, rfl, h1, h2⟩
section
variable {X : Cx} {tg a b : Expr} {m : M D} {ma : M (List Arg)} {p pos tpos : Pos} {elts : List Expr} {kk : Nat}
theorem si_list (h : SE X a m) : SI X tg a (iLst m) := PI.imp (pi_list h) fun σ H Q ⟨I, e, Fs, R, ds, e', hm, k⟩ => by
  obtain ⟨⟨d, e1⟩, h1, hm⟩ := Option.bind_eq_some_iff.mp hm
  refine ⟨I, e, Fs, R, d, e1, h1, fun v I' Fs' H' R' x r => ?_⟩
  cases d with
  | lst es =>
    cases hm
    simp only [Rp] at r
    obtain ⟨l, xs, rfl, h2, h3⟩ := r
    exact ⟨l, rfl, ⟨xs, .of (R'.sub _ _ h2)⟩, k _ I' Fs' H' R' x (itl_r (.of h2) h3)⟩
  | fl es =>
    cases hm
    simp only [Rp] at r
    obtain ⟨l, xs, rfl, h2, h3⟩ := r
    exact ⟨l, rfl, ⟨xs, ex_l R'.sub h2⟩, k _ I' Fs' H' R' x (itl_r h2 h3)⟩
  | _ => cases hm
theorem si_tup (h : SE X a m) : SI X tg a (iTpl m) := PI.imp (pi_tup h) fun σ H Q ⟨I, e, Fs, R, ds, e', hm, k⟩ => by
  obtain ⟨⟨d, e1⟩, h1, hm⟩ := Option.bind_eq_some_iff.mp hm
  refine ⟨I, e, Fs, R, d, e1, h1, fun v I' Fs' H' R' x r => ?_⟩
  cases d with
  | tup es =>
    cases hm
    simp only [Rp] at r
    obtain ⟨l, xs, rfl, h2, h3⟩ := r
    exact ⟨l, rfl, ⟨xs, ex_t R'.sub h2⟩, k _ I' Fs' H' R' x (itt_r h2 h3)⟩
  | _ => cases hm
theorem si_txt (h : SE X a m) : SI X tg a (iTxt m) := PI.imp (pi_str h) fun σ H Q ⟨I, e, Fs, R, ds, e', hm, k⟩ => by
  obtain ⟨⟨d, e1⟩, h1, hm⟩ := Option.bind_eq_some_iff.mp hm
  refine ⟨I, e, Fs, R, d, e1, h1, fun v I' Fs' H' R' x r => ?_⟩
  cases d with
  | str y =>
    cases hm
    simp only [Rp] at r
    subst r
    exact ⟨y, rfl, k _ I' Fs' H' R' x its_r⟩
  | _ => cases hm
theorem iargs_run {K : PySem.W.Frag} {mg : Str → Option Value} {f : List D → Option (List D)} {σ : L2.St} {H : Hp} {Q : It → Hp → Prop} {P : List V → Hp → Prop} (hf : ∀ I' H' ds rs vs, Ex I' H' → f ds = some rs → RpL K mg I' ds vs → (∀ J, ItR K mg I' J rs → Q J H') → P vs H')
    (h : tI K mg (iArgs f ma) σ H Q) : tAr K mg ma σ H P := by
  obtain ⟨I, e, Fs, R, ds, e', hm, k⟩ := h
  obtain ⟨⟨as, e1⟩, h1, hm⟩ := Option.bind_eq_some_iff.mp hm
  obtain ⟨bs, h2, hm⟩ := Option.bind_eq_some_iff.mp hm
  obtain ⟨rs, h3, hm⟩ := Option.map_eq_some_iff.mp hm
  cases hm
  refine ⟨I, e, Fs, R, as, e1, h1, fun vs I' Fs' H' R' x r => hf I' H' bs _ vs R'.sub h3 (allD_rp h2 r) fun J hJ => k J I' Fs' H' R' x hJ⟩
theorem si_range1 (hg : Gl X "range") (hm : X.mg "range" = none) (ha : SA X [a] ma) (hs : starEach [a] X.env = [(false, eval a X.env)] := by rfl) : SI X tg (.Call (.Name "range" p) [a] [] pos) (iArgs fRange1 ma) :=
  PI.imp (pi_range1 hg hm ha hs) fun σ H Q h => by
    refine iargs_run (P := fun vs H1 => ∃ j : Int, vs = [.int j] ∧ -(2 ^ 62) ≤ j ∧ j < 2 ^ 62 ∧ Q (Itr 0 j.toNat) H1) (fun I' H' ds rs vs s hf r k => ?_) h
    unfold fRange1 at hf
    split at hf
    · split at hf
      · rename_i j hj
        cases hf
        obtain ⟨v, rfl, h1⟩ := r.one
        simp only [Rp] at h1
        subst h1
        exact ⟨j, rfl, by omega, by omega, k _ itr_r⟩
      · cases hf
    · cases hf
theorem si_range2 (hg : Gl X "range") (hm : X.mg "range" = none) (ha : SA X [a, b] ma) (hs : starEach [a, b] X.env = [(false, eval a X.env), (false, eval b X.env)] := by rfl) (hs2 : starEach [b] X.env = [(false, eval b X.env)] := by rfl) : SI X tg (.Call (.Name "range" p) [a, b] [] pos) (iArgs fRange2 ma) :=
  PI.imp (pi_range2 hg hm ha hs hs2) fun σ H Q h => by
    refine iargs_run (P := fun vs H1 => ∃ i j : Int, vs = [.int i, .int j] ∧ (-(2 ^ 62) ≤ i ∧ i < 2 ^ 62 ∧ -(2 ^ 62) ≤ j ∧ j < 2 ^ 62) ∧ Q (Itr i (j - i).toNat) H1) (fun I' H' ds rs vs s hf r k => ?_) h
    unfold fRange2 at hf
    split at hf
    · split at hf
      · rename_i i j hj
        cases hf
        obtain ⟨v, v', rfl, h1, h2⟩ := r.two
        simp only [Rp] at h1 h2
        subst h1 h2
        exact ⟨i, j, rfl, by omega, k _ itr_r⟩
      · cases hf
    · cases hf
theorem si_enum (hg : Gl X "enumerate") (hm : X.mg "enumerate" = none) (ha : SA X [a] ma) (hs : starEach [a] X.env = [(false, eval a X.env)] := by rfl) : SI X (.Tuple elts kk tpos) (.Call (.Name "enumerate" p) [a] [] pos) (iArgs fEnum ma) :=
  PI.imp (pi_enum hg hm ha hs) fun σ H Q h => by
    refine iargs_run (P := fun vs H1 => ∃ a xs, vs = [.ref a] ∧ SqL X.K H1 a xs ∧ Q (Ite X.K a) H1) (fun I' H' ds rs vs s hf r k => ?_) h
    unfold fEnum at hf
    split at hf
    · cases hf
      obtain ⟨v, rfl, h1⟩ := r.one
      simp only [Rp] at h1
      obtain ⟨l, xs, rfl, h2, h3⟩ := h1
      exact ⟨l, xs, rfl, .of (s _ _ h2), k _ (ite_r (.of h2) h3)⟩
    · cases hf
      obtain ⟨v, rfl, h1⟩ := r.one
      simp only [Rp] at h1
      obtain ⟨l, xs, rfl, h2, h3⟩ := h1
      exact ⟨l, xs, rfl, ex_l s h2, k _ (ite_r h2 h3)⟩
    · cases hf
theorem si_zip (hg : Gl X "zip") (hm : X.mg "zip" = none) (ha : SA X [a, b] ma)
    (hs : starEach [a, b] X.env = (false, eval a X.env) :: starEach [b] X.env := by rfl) (hpl : (backTo pos (starEach [b] X.env)).any (·.1) = false := by rfl) : SI X (.Tuple elts kk tpos) (.Call (.Name "zip" p) [a, b] [] pos) (iArgs fZip ma) :=
  PI.imp (RZ.pi_zipA hg hm ha hs hpl) fun σ H Q h => by
    refine iargs_run (P := fun vs H1 => ∃ a b xs ys, vs = [.ref a, .ref b] ∧ ((SqL X.K H1 a xs ∧ SqL X.K H1 b ys ∧ Q (Itz X.K a b) H1) ∨ (SqT X.K H1 a xs ∧ SqT X.K H1 b ys ∧ Q (RZ.ItzT X.K a b) H1))) (fun I' H' ds rs vs s hf r k => ?_) h
    unfold fZip at hf
    split at hf
    · cases hf
      obtain ⟨v, v', rfl, h1, h2⟩ := r.two
      simp only [Rp] at h1 h2
      obtain ⟨l, xs, rfl, h3, h4⟩ := h1
      obtain ⟨l', xs', rfl, h3', h4'⟩ := h2
      exact ⟨l, l', xs, xs', rfl, .inl ⟨.of (s _ _ h3), .of (s _ _ h3'), k _ (itz_r (.of h3) h4 (.of h3') h4')⟩⟩
    · cases hf
      obtain ⟨v, v', rfl, h1, h2⟩ := r.two
      simp only [Rp] at h1 h2
      obtain ⟨l, xs, rfl, h3, h4⟩ := h1
      obtain ⟨l', xs', rfl, h3', h4'⟩ := h2
      exact ⟨l, l', xs, xs', rfl, .inr ⟨ex_t s h3, ex_t s h3', k _ (itzt_r h3 h4 h3' h4')⟩⟩
    · cases hf
end
end MV

namespace MV
open PySem L2

/-! ### comprehensions -/
def wipeE (e : Env) : List Nat → Env
  | [] => e
  | v :: vs => (wipeE e vs).set v none
def lcRun (own : List Nat) (t : Tg) (c : M Bool) (m : M D) : List D → Env → Option (List D × Env)
  | [], e => some ([], e)
  | d :: ds, e => (t d e).bind fun e1 => (c e1).bind fun b => if b.1 = true then (m b.2).bind fun y => (lcRun own t c m ds (wipeE y.2 own)).map fun r => (y.1 :: r.1, r.2) else lcRun own t c m ds (wipeE b.2 own)
def mLc (own : List Nat) (mi : M (List D)) (t : Tg) (c : M Bool) (m : M D) : M D := fun e => (mi e).bind fun x => if x.1.length ≤ 1000000 then (lcRun own t c m x.1 (wipeE x.2 own)).map fun r => (.lst r.1, r.2) else none
section
variable {K : PySem.W.Frag} {mg : Str → Option Value} {I H : Hp} {e : Env} {Fs : Fp} {σ : L2.St}
theorem Rel.wiped (R : Rel K mg I e Fs σ H) : ∀ own : List Nat, ∃ F', Rel K mg I (wipeE e own) F' (L2.wipe σ own) H ∧ ∀ a, MF F' a → MF Fs a
  | [] => ⟨Fs, R, fun _ m => m⟩
  | v :: vs => by
    obtain ⟨F1, R1, m1⟩ := R.wiped vs
    refine ⟨putF F1 v [], ?_, fun a m => m1 a m.nil⟩
    have R2 := R1.drop (i := v)
    refine ⟨R2.sub, ?_, fun i w q => ?_, R2.nd, R2.dj, R2.out, R2.live⟩
    · have := R2.len
      show ((wipeE e vs).set v none).length = ((L2.wipe σ vs).set v none).length
      simp at this ⊢
      exact this
    · have q : ((wipeE e vs).set v none)[i]? = some (some w) := q
      by_cases z : i = v
      · subst z
        by_cases hl : i < (wipeE e vs).length
        · rw [List.getElem?_set_self hl] at q; cases q
        · rw [List.getElem?_eq_none (by simpa using hl)] at q; cases q
      · obtain ⟨x, hx, hr⟩ := R2.at_ i w q
        refine ⟨x, ?_, hr⟩
        show ((L2.wipe σ vs).set v none)[i]? = _
        rw [List.getElem?_set_ne (Ne.symm z)]
        exact hx
/-- back to the slots that were not wiped -/
theorem Rel.unwiped {own : List Nat} (R : Rel K mg I e Fs (L2.wipe σ own) H) : Rel K mg I e Fs σ H :=
  ⟨R.sub, by rw [R.len, wipe_length], fun i w q => by
    obtain ⟨x, hx, hr⟩ := R.at_ i w q
    exact ⟨x, (wipe_some hx).1, hr⟩, R.nd, R.dj, R.out, R.live⟩
/-- an object that nobody holds -/
theorem Rel.loose {p : Addr} {o : HO} (R : Rel K mg I e Fs σ H) (h : H p = none) : Rel K mg I e Fs σ (upd H p o) :=
  R.frame (M := fun a => a = p) ⟨Ex.refl _, fun a u q _ => Ex.new h a u q, fun a q => .inl q⟩ (fun a u q => Ex.new h a u (R.sub a u q)) fun a ⟨i, hi⟩ z => by subst z; exact R.live i a hi h
theorem Rel.loose2 {p : Addr} {o : HO} (R : Rel K mg I e Fs σ H) (h : I p = none) (hF : ¬ MF Fs p) : Rel K mg I e Fs σ (upd H p o) :=
  R.frame (M := fun a => a = p) ⟨Ex.refl _, fun a u q m => by rw [upd_ne m]; exact q, fun a q => .inl q⟩ (fun a u q => by
    rw [upd_ne (fun z => by subst z; rw [h] at q; cases q)]
    exact R.sub a u q) fun a m z => by subst z; exact hF m
/-- it is frozen -/
theorem Rel.freeze {p : Addr} {o : HO} (R : Rel K mg I e Fs σ H) (h : H p = some o) (hI : I p = none) (hF : ¬ MF Fs p) : Rel K mg (upd I p o) e Fs σ H := by
  refine ⟨fun a u q => ?_, R.len, fun i w q => ?_, R.nd, R.dj, fun i a ha => ?_, R.live⟩
  · by_cases z : a = p
    · subst z; rw [upd_same] at q; cases q; exact h
    · rw [upd_ne z] at q; exact R.sub a u q
  · obtain ⟨x, hx, hr⟩ := R.at_ i w q
    exact ⟨x, hx, hr.frame (Ex.new hI) w x (Fs i) fun a _ u hu => hu⟩
  · rw [upd_ne (fun z => by subst z; exact hF ⟨i, ha⟩)]
    exact R.out i a ha
end
def ownA (own : List Nat) : Nat → Bool := fun i => own.contains i
theorem wipe_get {σ : L2.St} : ∀ {own : List Nat} {i : Nat}, (wipe σ own)[i]? = if i ∈ own then (σ[i]?).map (fun _ => none) else σ[i]?
  | [], i => by simp [wipe]
  | v :: vs, i => by
    show ((L2.wipe σ vs).set v none)[i]? = _
    by_cases z : v = i
    · subst z
      rw [if_pos (by simp)]
      by_cases hl : v < σ.length
      · rw [List.getElem?_set_self (by rw [wipe_length]; exact hl), List.getElem?_eq_getElem hl]; rfl
      · rw [List.getElem?_eq_none (by simpa [wipe_length] using hl), List.getElem?_eq_none (by simpa using hl)]; rfl
    · rw [List.getElem?_set_ne z, wipe_get (own := vs)]
      by_cases y : i ∈ vs
      · rw [if_pos y, if_pos (by simp [y])]
      · rw [if_neg y, if_neg (by simp [y, Ne.symm z])]
theorem wipe_agr {σ σ' : L2.St} {own : List Nat} (hl : σ'.length = σ.length) (a : Agr (ownA own) (wipe σ own) σ') : wipe σ' own = wipe σ own := by
  refine List.ext_getElem? fun i => ?_
  rw [wipe_get, wipe_get]
  by_cases y : i ∈ own
  · rw [if_pos y, if_pos y]
    by_cases h : i < σ.length
    · rw [List.getElem?_eq_getElem h, List.getElem?_eq_getElem (by rw [hl]; exact h)]; rfl
    · rw [List.getElem?_eq_none (by omega), List.getElem?_eq_none (by omega)]
  · rw [if_neg y, if_neg y]
    have := a i (by simp [ownA, y])
    rw [wipe_get, if_neg y] at this
    exact this
def STs (X : Cx) (ifs : List Expr) (m : M Bool) : Prop := PTs X ifs (tT X.K X.mg m)
theorem sts_nil {X : Cx} : STs X [] (fun e => some (true, e)) := ⟨fun pins s σ H Q I ⟨J, e, Fs, R, b, e', hm, k⟩ => by
  cases hm
  exact pts_nil.run pins s σ H Q I (k J Fs H R Ext.refl)⟩
theorem sts_one {X : Cx} {c : Expr} {m : M Bool} (h : ST X c m) : STs X [c] m := pts_one h
theorem lc_run {K : PySem.W.Frag} {mg : Str → Option Value} {own : List Nat} {mi : M (List D)} {t : Tg} {c : M Bool} {m : M D} {σ : L2.St} {H : Hp} {Q : VK} (h : tE K mg (mLc own mi t c m) σ H Q) :
    tLc (tI K mg mi) (tG K mg (ownA own) t) (tT K mg c) (tE K mg m) own σ H Q := by
  obtain ⟨I, e, Fs, R, d, e', hm, k⟩ := h
  obtain ⟨⟨ds, e1⟩, h1, hm⟩ := Option.bind_eq_some_iff.mp hm
  have hm : (if ds.length ≤ 1000000 then (lcRun own t c m ds (wipeE e1 own)).map fun r => (D.lst r.1, r.2) else none) = some (d, e') := hm
  split at hm
  case isFalse => cases hm
  rename_i hlen
  obtain ⟨⟨ys, e2⟩, h2, hm⟩ := Option.map_eq_some_iff.mp hm
  cases hm
  refine ⟨I, e, Fs, R, ds, e1, h1, fun J I1 F1 H1 R1 x1 hJ D hD => ?_⟩
  have hsz : sizeLine = 16777216 := sizeLine_eq
  refine ⟨fun i n Hc => n = ds.length - i ∧ i ≤ ds.length ∧ ∃ I2 ec F2 acc dacc rest, Rel K mg I2 ec F2 (wipe σ own) Hc ∧ Ext Fs I H F2 I2 Hc ∧ Ex I1 I2 ∧ Hc D = some (.lst acc) ∧ I2 D = none ∧ ¬ MF F2 D ∧ RpL K mg I2 dacc acc ∧ dacc.length ≤ i ∧
    lcRun own t c m (ds.drop i) ec = some (rest, e2) ∧ ys = dacc ++ rest, ⟨ds.length, ?_⟩, ?_⟩
  · obtain ⟨F2, R2, m2⟩ := R1.wiped own
    have R3 := R2.loose (o := .lst []) hD
    have hI : I1 D = none := by
      cases q : I1 D with
      | none => rfl
      | some u => rw [R1.sub D u q] at hD; cases hD
    have hF : ¬ MF F2 D := fun ⟨i, hi⟩ => R2.live i D hi hD
    refine ⟨by simp, Nat.zero_le _, I1, wipeE e1 own, F2, [], [], ys, R3, ?_, Ex.refl _, upd_same, hI, hF, RpL.nil, Nat.zero_le _, by rw [List.drop_zero]; exact h2, rfl⟩
    exact ⟨⟨x1.g.ex, fun a u q mm => Ex.new hD a u (x1.g.fr a u q mm), x1.g.new⟩, fun a mm => x1.fp a (m2 a mm)⟩
  · rintro i n Hc ⟨rfl, hi, I2, ec, F2, acc, dacc, rest, R2, x2, ex2, hDc, hI2, hF2, racc, hl, hrun, hys⟩
    have it := hJ i I2 Hc ex2 R2.sub
    have keepD : ∀ {Fa : Fp} {Ia Ha : Hp} {Fb : Fp} {Ib Hb : Hp} {o : HO}, Ext Fa Ia Ha Fb Ib Hb → Ha D = some o → Ia D = none → ¬ MF Fa D → Hb D = some o ∧ Ib D = none ∧ ¬ MF Fb D := fun {Fa Ia Ha Fb Ib Hb o} x h1 h2 h3 => by
      refine ⟨x.g.fr D o h1 h3, ?_, fun q => ?_⟩
      · cases q : Ib D with
        | none => rfl
        | some u =>
          rcases x.g.new D (by rw [q]; exact fun z => by cases z) with z | z | z
          · exact absurd h2 z
          · rw [h1] at z; cases z
          · exact absurd z h3
      · rcases x.fp D q with z | z
        · exact h3 z
        · rw [h1] at z; cases z
    by_cases hlt : i < ds.length
    · refine .inr ?_
      obtain ⟨hgo, hy⟩ := it.1 _ (List.getElem?_eq_getElem hlt)
      refine ⟨hgo, fun H' => ∃ I2 ec F2 acc dacc rest, Rel K mg I2 ec F2 (wipe σ own) H' ∧ Ext Fs I H F2 I2 H' ∧ Ex I1 I2 ∧ H' D = some (.lst acc) ∧ I2 D = none ∧ ¬ MF F2 D ∧ RpL K mg I2 dacc acc ∧ dacc.length ≤ i + 1 ∧
        lcRun own t c m (ds.drop (i + 1)) ec = some (rest, e2) ∧ ys = dacc ++ rest, fun H' h => ⟨ds.length - (i + 1), by omega, rfl, hlt, h⟩, fun v H3 hv => ?_⟩
      obtain ⟨I3, g3, r3⟩ := hy v H3 hv
      obtain ⟨R3, x3⟩ := g3.rel R2
      rw [List.drop_eq_getElem_cons hlt] at hrun
      simp only [lcRun] at hrun
      obtain ⟨e4, h4, hrun⟩ := Option.bind_eq_some_iff.mp hrun
      obtain ⟨⟨b, e5⟩, h5, hrun⟩ := Option.bind_eq_some_iff.mp hrun
      obtain ⟨hD3, hI3, hF3⟩ := keepD x3 hDc hI2 hF2
      refine ⟨I3, ec, F2, ds[i], R3, r3, e4, h4, fun σ4 F4 R4 m4 a4 hl4 => ?_⟩
      have hw : wipe σ4 own = wipe σ own := by
        have q := wipe_agr (σ := wipe σ own) hl4 (by
          intro j hj
          rw [a4 j hj]
          rw [wipe_get (σ := wipe σ own), if_neg (by simpa [ownA] using hj)])
        rw [q]
        refine List.ext_getElem? fun j => ?_
        rw [wipe_get, wipe_get]
        by_cases y : j ∈ own
        · rw [if_pos y, if_pos y]
          cases σ[j]? <;> rfl
        · rw [if_neg y, if_neg y]
      have x4 : Ext F2 I3 H3 F4 I3 H3 := ⟨Gx.refl, fun a q => .inl (m4 a q)⟩
      obtain ⟨hD4, hI4, hF4⟩ := keepD x4 hD3 hI3 hF3
      refine ⟨hw, I3, e4, F4, R4, b, e5, h5, fun I5 F5 H5 R5 x5 => ?_⟩
      obtain ⟨hD5, hI5, hF5⟩ := keepD x5 hD4 hI4 hF4
      have xs5 := ((x2.trans x3).trans x4).trans x5
      have ex5 : Ex I1 I5 := (ex2.trans x3.g.ex).trans x5.g.ex
      cases b with
      | false =>
        rw [if_neg Bool.false_ne_true]
        rw [if_neg Bool.false_ne_true] at hrun
        obtain ⟨F6, R6, m6⟩ := R5.wiped own
        rw [hw] at R6
        exact ⟨I5, wipeE e5 own, F6, acc, dacc, rest, R6, ⟨xs5.g, fun a q => xs5.fp a (m6 a q)⟩, ex5, hD5, hI5, fun q => hF5 (m6 D q), racc.mono (x3.g.ex.trans x5.g.ex) _ _, by omega, hrun, hys⟩
      | true =>
        rw [if_pos rfl]
        rw [if_pos rfl] at hrun
        obtain ⟨⟨y, e6⟩, h6, hrun⟩ := Option.bind_eq_some_iff.mp hrun
        obtain ⟨⟨rs, e7⟩, h7, hrun⟩ := Option.map_eq_some_iff.mp hrun
        cases hrun
        refine ⟨I5, e5, F5, R5, y, e6, h6, fun z I6 F6 H6 R6 x6 r6 => ?_⟩
        obtain ⟨hD6, hI6, hF6⟩ := keepD x6 hD5 hI5 hF5
        have racc' := racc.mono ((x3.g.ex.trans x5.g.ex).trans x6.g.ex) _ _
        refine ⟨acc, hD6, by rw [← racc'.length]; omega, ?_⟩
        obtain ⟨F7, R7, m7⟩ := R6.wiped own
        rw [hw] at R7
        have hF7 : ¬ MF F7 D := fun q => hF6 (m7 D q)
        have R8 := R7.loose2 (o := .lst (acc ++ [z])) hI6 hF7
        have xs6 := xs5.trans x6
        have hDH : MF Fs D ∨ H D = none := by
          cases q : H D with
          | none => exact .inr rfl
          | some u =>
            by_cases mm : MF Fs D
            · exact .inl mm
            · exfalso
              have := x1.g.fr D u q mm
              rw [hD] at this
              cases this
        refine ⟨I6, wipeE e6 own, F7, acc ++ [z], dacc ++ [y], rs, R8, ⟨⟨xs6.g.ex, fun a u q mm => ?_, xs6.g.new⟩, fun a q => xs6.fp a (m7 a q)⟩, ex5.trans x6.g.ex, upd_same, hI6, hF7, racc'.append (RpL.cons r6 RpL.nil), by simp; omega, h7, by rw [hys]; simp⟩
        rw [upd_ne (fun z => by
          subst z
          rcases hDH with w | w
          · exact mm w
          · rw [q] at w; cases w)]
        exact xs6.g.fr a u q mm
    · have hie : i = ds.length := by omega
      subst hie
      refine .inl ⟨it.2 (Nat.le_refl _), ?_⟩
      rw [List.drop_length] at hrun
      simp only [lcRun] at hrun
      cases hrun
      rw [List.append_nil] at hys
      subst hys
      have R3 := (R2.unwiped).freeze hDc hI2 hF2
      refine k (.ref D) (upd I2 D (.lst acc)) F2 Hc R3 ⟨⟨fun a u q => ?_, x2.g.fr, fun a q => ?_⟩, x2.fp⟩ ?_
      · rw [upd_ne (fun z => by subst z; rw [x2.g.ex a u q] at hI2; cases hI2)]
        exact x2.g.ex a u q
      · by_cases z : a = D
        · subst z
          right
          cases q' : H a with
          | none => exact .inl rfl
          | some u =>
            by_cases mm : MF Fs a
            · exact .inr mm
            · exfalso
              have := x1.g.fr a u q' mm
              rw [hD] at this
              cases this
        · rw [upd_ne z] at q
          exact x2.g.new a q
      · simp only [Rp]
        exact ⟨D, acc, rfl, upd_same, racc.mono (Ex.new hI2) _ _⟩
theorem se_lc {X : Cx} {elt tg iter : Expr} {ifs : List Expr} {scope : Scope} {own : List (Str × Nat)} {pos : Pos} {mi : M (List D)} {t : Tg} {c : M Bool} {m : M D} (hc : X.calm = true) (hN : X.N.Nodup) (ok : BlkOk X.N X.env.scope scope own) (hi : SI X tg iter mi)
    (hg : ∀ (s : Shared) (H : Hp) (C : Addr) (cl : List (Str × Addr)) (fp : List Addr), SG (X.blk s H scope (compEnvC scope cl C X.env) fp) (ownA (own.map (·.2))) tg t) (ht : ∀ (s : Shared) (H : Hp) (C : Addr) (cl : List (Str × Addr)) (fp : List Addr), STs (X.blk s H scope (compEnvC scope cl C X.env) fp) ifs c)
    (he : ∀ (s : Shared) (H : Hp) (C : Addr) (cl : List (Str × Addr)) (fp : List Addr), SE (X.blk s H scope (compEnvC scope cl C X.env) fp) elt m) (hs : ∀ x, foldedSetIterable iter X.env x = pure x := by intro _; rfl) :
    SE X (.ListComp elt [⟨tg, iter, ifs, 0⟩] scope pos) (mLc (own.map (·.2)) mi t c m) := PE.imp (pe_lc (g := tG X.K X.mg (ownA (List.map (fun (x : Str × Nat) => x.2) own)) t) (tt := tT X.K X.mg c) (te := tE X.K X.mg m) hc hN hi ok hg ht he hs) fun σ H Q h => lc_run h
end MV

namespace MV
open PySem L2

/-! ### loops -/
def forRun (t : Tg) (b : S) : List D → Env → Option SR
  | [], e => some (.nx e)
  | d :: ds, e => (t d e).bind fun e1 => (b e1).bind fun r => match r with
    | .nx e2 => forRun t b ds e2
    | .ct e2 => forRun t b ds e2
    | .bk e2 => some (.nx e2)
    | .rt w e2 => some (.rt w e2)
def sFor (mi : M (List D)) (t : Tg) (b : S) : S := fun e => (mi e).bind fun x => forRun t b x.1 x.2
theorem for_run {K : PySem.W.Frag} {mg : Str → Option Value} {A : Nat → Bool} {mi : M (List D)} {t : Tg} {b : S} {Dd : Ends} {σ : L2.St} {H : Hp} (h : tS K mg A (sFor mi t b) Dd σ H) : tFor (tI K mg mi) (tG K mg A t) (tS K mg A b) Dd σ H := by
  obtain ⟨I, e, Fs, R, r, hm, k⟩ := h
  obtain ⟨⟨ds, e1⟩, h1, hm⟩ := Option.bind_eq_some_iff.mp hm
  refine ⟨I, e, Fs, R, ds, e1, h1, fun J I1 F1 H1 R1 x1 hJ => ?_⟩
  refine ⟨fun i n σc Hc => n = ds.length - i ∧ i ≤ ds.length ∧ ∃ I2 ec F2, Rel K mg I2 ec F2 σc Hc ∧ Ext Fs I H F2 I2 Hc ∧ Ex I1 I2 ∧ Agr A σ σc ∧ forRun t b (ds.drop i) ec = some r, ⟨ds.length, by simp, Nat.zero_le _, I1, e1, F1, R1, x1, Ex.refl _, Agr.refl, by rw [List.drop_zero]; exact hm⟩, ?_⟩
  rintro i n σc Hc ⟨rfl, hi, I2, ec, F2, R2, x2, ex2, ag, hrun⟩
  have it := hJ i I2 Hc ex2 R2.sub
  by_cases hlt : i < ds.length
  · refine .inr ?_
    obtain ⟨hgo, hy⟩ := it.1 _ (List.getElem?_eq_getElem hlt)
    refine ⟨hgo, fun σ' H' => ∃ I2 ec F2, Rel K mg I2 ec F2 σ' H' ∧ Ext Fs I H F2 I2 H' ∧ Ex I1 I2 ∧ Agr A σ σ' ∧ forRun t b (ds.drop (i + 1)) ec = some r, fun σ' H' h => ⟨ds.length - (i + 1), by omega, rfl, hlt, h⟩, fun v H3 hv => ?_⟩
    obtain ⟨I3, g3, r3⟩ := hy v H3 hv
    obtain ⟨R3, x3⟩ := g3.rel R2
    rw [List.drop_eq_getElem_cons hlt] at hrun
    simp only [forRun] at hrun
    obtain ⟨e4, h4, hrun⟩ := Option.bind_eq_some_iff.mp hrun
    obtain ⟨r5, h5, hrun⟩ := Option.bind_eq_some_iff.mp hrun
    refine ⟨I3, ec, F2, ds[i], R3, r3, e4, h4, fun σ4 F4 R4 m4 a4 _ => ⟨I3, e4, F4, R4, r5, h5, ?_⟩⟩
    have x4 : Ext F2 I3 H3 F4 I3 H3 := ⟨Gx.refl, fun a q => .inl (m4 a q)⟩
    have xs := (x2.trans x3).trans x4
    have ex3 := ex2.trans x3.g.ex
    have ag4 := ag.trans a4
    cases r5 with
    | nx e2 => exact fun σ' I' Fs' H' R' x' a' => ⟨I', e2, Fs', R', xs.trans x', ex3.trans x'.g.ex, ag4.trans a', hrun⟩
    | ct e2 => exact fun σ' I' Fs' H' R' x' a' => ⟨I', e2, Fs', R', xs.trans x', ex3.trans x'.g.ex, ag4.trans a', hrun⟩
    | bk e2 =>
      cases hrun
      exact k.from xs ag4
    | rt w e2 =>
      cases hrun
      exact k.from xs ag4
  · have hie : i = ds.length := by omega
    subst hie
    rw [List.drop_length] at hrun
    cases hrun
    exact .inl ⟨it.2 (Nat.le_refl _), k σc I2 F2 Hc R2 x2 ag⟩
def whRun (c : M Bool) (b : S) : Nat → Env → Option SR
  | 0, _ => none
  | n + 1, e => (c e).bind fun x => if x.1 = true then (b x.2).bind fun r => match r with
    | .nx e2 => whRun c b n e2
    | .ct e2 => whRun c b n e2
    | .bk e2 => some (.nx e2)
    | .rt w e2 => some (.rt w e2)
    else some (.nx x.2)
def sWh (n : Nat) (c : M Bool) (b : S) : S := whRun c b n
theorem wh_run {K : PySem.W.Frag} {mg : Str → Option Value} {A : Nat → Bool} {n : Nat} {c : M Bool} {b : S} {Dd : Ends} {σ : L2.St} {H : Hp} (h : tS K mg A (sWh n c b) Dd σ H) : tWhile (tT K mg c) (tS K mg A b) Dd σ H := by
  obtain ⟨I, e, Fs, R, r, hm, k⟩ := h
  refine ⟨fun i σc Hc => ∃ I2 ec F2, Rel K mg I2 ec F2 σc Hc ∧ Ext Fs I H F2 I2 Hc ∧ Agr A σ σc ∧ whRun c b i ec = some r, ⟨n, I, e, Fs, R, Ext.refl, Agr.refl, hm⟩, ?_⟩
  rintro i σc Hc ⟨I2, ec, F2, R2, x2, ag, hrun⟩
  cases i with
  | zero => cases hrun
  | succ i =>
    simp only [whRun] at hrun
    obtain ⟨⟨bb, e3⟩, h3, hrun⟩ := Option.bind_eq_some_iff.mp hrun
    refine ⟨I2, ec, F2, R2, bb, e3, h3, fun I3 F3 H3 R3 x3 => ?_⟩
    have xs := x2.trans x3
    cases bb with
    | false =>
      show Dd.nx σc H3
      rw [if_neg Bool.false_ne_true] at hrun
      cases hrun
      exact k σc I3 F3 H3 R3 xs ag
    | true =>
      rw [if_pos rfl] at hrun
      obtain ⟨r5, h5, hrun⟩ := Option.bind_eq_some_iff.mp hrun
      refine iteT ?_
      refine ⟨fun σ' H' => ∃ I2 ec F2, Rel K mg I2 ec F2 σ' H' ∧ Ext Fs I H F2 I2 H' ∧ Agr A σ σ' ∧ whRun c b i ec = some r, fun σ' H' h => ⟨i, Nat.lt_succ_self _, h⟩, I3, e3, F3, R3, r5, h5, ?_⟩
      cases r5 with
      | nx e2 => exact fun σ' I' Fs' H' R' x' a' => ⟨I', e2, Fs', R', xs.trans x', ag.trans a', hrun⟩
      | ct e2 => exact fun σ' I' Fs' H' R' x' a' => ⟨I', e2, Fs', R', xs.trans x', ag.trans a', hrun⟩
      | bk e2 =>
        cases hrun
        exact k.from xs ag
      | rt w e2 =>
        cases hrun
        exact k.from xs ag
section
variable {X : Cx} {A : Nat → Bool} {tg iter c : Expr} {body : List Stmt} {mi : M (List D)} {t : Tg} {b : S} {mc : M Bool} {pos : Pos}
theorem ss_for (hp : PassesOwn (model X.prog X.w) X.A X.env X.xe) (hc : X.calm = true) (hi : SI X tg iter mi) (hg : SG X A tg t) (hb : SB X A body b)
    (hs : ∀ x, foldedSetIterable iter X.env x = pure x := by intro _; rfl) : SS X A (.For tg iter body [] pos) (sFor mi t b) := PS.imp (ps_for hp hc hi hg hb hs) fun D σ H h => for_run h
theorem ss_while {n : Nat} (hp : PassesOwn (model X.prog X.w) X.A X.env X.xe) (hc : ST X c mc) (hb : SB X A body b) : SS X A (.While c body [] pos) (sWh n mc b) := PS.imp (ps_while hp hc hb) fun D σ H h => wh_run h
end

/-! ### a def by its body -/
def outs : List Bool → Env → Env
  | [], _ => []
  | b :: bs, e => (if b = true then (e.head?).join else none) :: outs bs e.tail
def ioA (io : List Bool) : Nat → Bool := fun i => !(io.getD i false)
def fsem (n : Nat) (io : List Bool) (m : S) : FSem := fun ws => match m (ws.map some ++ List.replicate (n - ws.length) none) with
  | some (.nx e) => some (.p .none, outs io e)
  | some (.rt w e) => some (w, outs io e)
  | _ => none
section
variable {K : PySem.W.Frag} {mg : Str → Option Value} {I H : Hp} {e : Env} {Fs : Fp} {σ : L2.St}
theorem Rel.pad (R : Rel K mg I e Fs σ H) (k : Nat) : ∃ F', Rel K mg I (e ++ List.replicate k none) F' (σ ++ List.replicate k none) H ∧ ∀ a, MF F' a → MF Fs a := by
  refine ⟨fun i => if i < e.length then Fs i else [], ⟨R.sub, by simp [R.len], fun i w q => ?_, fun i => ?_, fun i j a h1 h2 => ?_, fun i a h => ?_, fun i a h => ?_⟩, fun a ⟨i, h⟩ => ?_⟩
  · by_cases hi : i < e.length
    · rw [List.getElem?_append_left hi] at q
      rw [if_pos hi, List.getElem?_append_left (by rw [← R.len]; exact hi)]
      exact R.at_ i w q
    · rw [List.getElem?_append_right (by omega), List.getElem?_replicate] at q
      split at q <;> cases q
  · split
    · exact R.nd i
    · exact List.nodup_nil
  · split at h1
    · split at h2
      · exact R.dj i j a h1 h2
      · cases h2
    · cases h1
  · split at h
    · exact R.out i a h
    · cases h
  · split at h
    · exact R.live i a h
    · cases h
  · have h : a ∈ (if i < e.length then Fs i else []) := h
    split at h
    · exact ⟨i, h⟩
    · cases h
theorem outs_get : ∀ {io : List Bool} {e : Env} {i : Nat} {w : W}, (outs io e)[i]? = some (some w) → io[i]? = some true ∧ e[i]? = some (some w)
  | [], e, i, w, h => by simp [outs] at h
  | b :: bs, e, 0, w, h => by
    have h : some (if b = true then (e.head?).join else none) = some (some w) := by simpa [outs] using h
    cases b with
    | false => simp at h
    | true =>
      refine ⟨rfl, ?_⟩
      cases e with
      | nil => simp at h
      | cons x e => simpa using h
  | b :: bs, e, i + 1, w, h => by
    have h : (outs bs e.tail)[i]? = some (some w) := by simpa [outs] using h
    obtain ⟨h1, h2⟩ := outs_get h
    refine ⟨by simpa using h1, ?_⟩
    cases e with
    | nil => simp at h2
    | cons x e => simpa using h2
theorem outs_len : ∀ {io : List Bool} {e : Env}, (outs io e).length = io.length
  | [], e => rfl
  | b :: bs, e => by simp [outs, outs_len (io := bs)]
theorem Rel.outsR {io : List Bool} {τ : L2.St} (R : Rel K mg I e Fs σ H) (hl : io.length = τ.length) (h : ∀ i : Nat, io[i]? = some true → σ[i]? = τ[i]?) : ∃ Fo, Rel K mg I (outs io e) Fo τ H ∧ ∀ a, MF Fo a → MF Fs a := by
  refine ⟨fun (i : Nat) => if io[i]? = some true then Fs i else [], ⟨R.sub, by rw [outs_len, hl], fun i w q => ?_, fun i => ?_, fun i j a h1 h2 => ?_, fun i a h => ?_, fun i a h => ?_⟩, fun a ⟨i, h⟩ => ?_⟩
  · obtain ⟨h1, h2⟩ := outs_get q
    rw [if_pos h1, ← h i h1]
    exact R.at_ i w h2
  · split
    · exact R.nd i
    · exact List.nodup_nil
  · split at h1
    · split at h2
      · exact R.dj i j a h1 h2
      · cases h2
    · cases h1
  · split at h
    · exact R.out i a h
    · cases h
  · split at h
    · exact R.live i a h
    · cases h
  · have h : a ∈ (if io[i]? = some true then Fs i else []) := h
    split at h
    · exact ⟨i, h⟩
    · cases h
end
theorem fsem_run {K : PySem.W.Frag} {mg : Str → Option Value} {N : List Str} {n : Nat} {io : List Bool} {m : S} {vs : List V} {H : Hp} {Q : VK} {E : XK} (hio : io.length = n) (hn : n ≤ N.length) (h : spF K mg n (fsem N.length io m) vs H Q E) :
    tS K mg (ioA io) m { nx := fun _ H' => Q .non H', rt := Q } (L2.start N vs) H := by
  obtain ⟨I, ws, Fa, hl, R, w, oe, hf, k⟩ := h
  have hvl : vs.length = n := by have := R.len; simp at this; omega
  obtain ⟨F1, R1, m1⟩ := R.pad (N.length - vs.length)
  have es : L2.start N vs = vs.map some ++ List.replicate (N.length - vs.length) none := rfl
  rw [es]
  have x0 : Ext Fa I H F1 I H := ⟨Gx.refl, fun a q => .inl (m1 a q)⟩
  unfold fsem at hf
  rw [show N.length - ws.length = N.length - vs.length by omega] at hf
  have keep : ∀ σ' : L2.St, Agr (ioA io) (vs.map some ++ List.replicate (N.length - vs.length) none) σ' → ∀ i : Nat, io[i]? = some true → σ'[i]? = (vs.map some)[i]? := fun σ' ag i hi => by
    have hlt : i < vs.length := by
      have := (List.getElem?_eq_some_iff.mp hi).1
      omega
    rw [ag i (by simp [ioA, List.getD, hi]), List.getElem?_append_left (by simpa using hlt)]
  split at hf
  · rename_i e' hr
    cases hf
    refine ⟨I, _, F1, R1, .nx e', hr, fun σ' I' Fs' H' R' x' ag => ?_⟩
    obtain ⟨Fo, Ro', mo⟩ := R'.outsR (io := io) (τ := vs.map some) (by simp; omega) (keep σ' ag)
    have xx := x0.trans x'
    exact k .non I' Fo H' [] Ro' ⟨⟨xx.g.ex, fun a u q mm => xx.g.fr a u q fun z => mm z, xx.g.new⟩, fun a q => xx.fp a (mo a q)⟩ (.pure (by simp only [Rp])) fun _ z => by cases z
  · rename_i w' e' hr
    cases hf
    refine ⟨I, _, F1, R1, .rt w e', hr, fun v σ' I' Fs' H' F R' x' ag o hF => ?_⟩
    obtain ⟨Fo, Ro', mo⟩ := R'.outsR (io := io) (τ := vs.map some) (by simp; omega) (keep σ' ag)
    have xx := x0.trans x'
    refine k v I' Fo H' F Ro' ⟨⟨xx.g.ex, fun a u q mm => xx.g.fr a u q fun z => mm z, xx.g.new⟩, fun a q => xx.fp a (mo a q)⟩ ⟨o.ro, o.nd, o.out, fun a ha q => o.dj a ha (mo a q)⟩ fun a ha => ?_
    rcases hF a ha with z | z
    · exact .inl (m1 a z)
    · exact .inr z
  · cases hf
section
variable {P : Program} {w : World} {K : PySem.W.Frag} {mg : Str → Option Value} {base : Heap}
theorem fn_sem {x qual : Str} {params : Arguments} {body : List Stmt} {scope : Scope} {dvs : List V} {kws : List (Str × V)} {f : Addr} {fd : FuncData} {N ps : List Str} {k : Nat} {io : List Bool} {m : S} (F : FunD K x qual params body scope dvs kws f fd) (Sc : FnScope N ps scope) (hio : io.length = ps.length)
    (hb : ∀ (cdv : Value) (A : Around) (outer : List PySem.Env) (s : Shared) (H : Hp) (E : XK), Room k (A.deeper (PyProof.Rows.envOfC qual scope s.heap.objs.size f cdv)) → SB (cxOf CX0 P w K mg base N qual scope f cdv A outer s H E).nox (ioA io) body m) :
    FnOk P w K mg base CX0 (k + 1) f fd ps (spF K mg ps.length (fsem N.length io m)) := by
  have hpl : ps.length ≤ N.length := by have := congrArg List.length Sc.pre; rw [List.length_take] at this; omega
  refine F.ok Sc (fun vs H Q E h => spF_len h) fun cdv A outer s H vs Q E hr h => ?_
  exact ⟨tS K mg (ioA io) m, PSs.nox (hb cdv A outer s H E hr), fsem_run hio hpl h⟩
end
section
variable {X : Cx} {k : Nat} {f C : Addr} {fd : FuncData} {ps : List Str} {n : Nat} {g : FSem} {x mth : Str} {p pos apos : Pos} {a o : Expr} {es : List Expr} {ma : M (List Arg)}
/-- f(a, ..) -/
theorem so_call (F : FnOk X.prog X.w X.K X.mg X.base CX0 k f fd ps (spF X.K X.mg n g)) (hr : Room k X.A) (hg : Gl X x) (hm : X.mg x = some (.ref f)) (hk : PySem.W.keepIn X.K (.ref f) = true) (hb : Binds X.K fd ps [])
    (ha : SA X (a :: es) ma) (hn : ∀ as e e', ma e = some (as, e') → as.length = n) (hdb : (x == ("__debug__" : Str)) = false := by decide) (he : starEach (a :: es) X.env = (false, eval a X.env) :: starEach es X.env := by rfl) (hpl : (backTo pos (starEach es X.env)).any (·.1) = false := by rfl) :
    SO X (.Call (.Name x p) (a :: es) [] pos) (mCall g ma) := PE.imp (pe_call F hr hg hm hk hb .nil pass0 ha hdb he hpl) fun σ H Q h => by
  have q := call_step (E := E0) hn h
  unfold tCall
  simpa only [List.append_nil] using q
end
theorem len_nil : ∀ (as : List Arg) (e e' : Env), aNil e = some (as, e') → as.length = 0 := fun as e e' h => by cases h; rfl
theorem len_d {m : M D} {r : M (List Arg)} {n : Nat} (hr : ∀ (as : List Arg) (e e' : Env), r e = some (as, e') → as.length = n) : ∀ (as : List Arg) (e e' : Env), aD m r e = some (as, e') → as.length = n + 1 := fun as e e' h => by
  obtain ⟨⟨x, e1⟩, h1, h⟩ := Option.bind_eq_some_iff.mp h
  obtain ⟨⟨y, e2⟩, h2, h⟩ := Option.map_eq_some_iff.mp h
  cases h
  rw [List.length_cons, hr _ _ _ h2]
theorem len_io {i : Nat} {r : M (List Arg)} {n : Nat} (hr : ∀ (as : List Arg) (e e' : Env), r e = some (as, e') → as.length = n) : ∀ (as : List Arg) (e e' : Env), aIO i r e = some (as, e') → as.length = n + 1 := fun as e e' h => by
  unfold aIO at h
  split at h
  · obtain ⟨⟨y, e2⟩, h2, h⟩ := Option.map_eq_some_iff.mp h
    cases h
    rw [List.length_cons, hr _ _ _ h2]
  · cases h
end MV

namespace MV
open PySem L2

def LIM : Nat := 1000000
theorem lim_le {n : Nat} (h : n ≤ LIM) : n ≤ sizeLine := Nat.le_trans h (by rw [sizeLine_eq]; decide)
theorem lim_lt {n : Nat} (h : n < LIM) : n < sizeLine := Nat.lt_of_lt_of_le h (by rw [sizeLine_eq]; decide)
section
variable {K : PySem.W.Frag} {mg : Str → Option Value} {I H : Hp}
theorem sub_none {p : Addr} (s : Ex I H) (h : H p = none) : I p = none := by
  cases q : I p with
  | none => rfl
  | some u => rw [s p u q] at h; cases h
theorem Rp.new {p : Addr} {o : HO} {d : D} {v : V} (s : Ex I H) (h : H p = none) (r : Rp K mg I d v) : Rp K mg (upd I p o) d v := r.mono (Ex.new (sub_none s h)) _ _
theorem RpL.new {p : Addr} {o : HO} {ds : List D} {xs : List V} (s : Ex I H) (h : H p = none) (r : RpL K mg I ds xs) : RpL K mg (upd I p o) ds xs := r.mono (Ex.new (sub_none s h)) _ _
theorem rp_lst {p : Addr} {ds : List D} {xs : List V} (s : Ex I H) (h : H p = none) (r : RpL K mg I ds xs) : Rp K mg (upd I p (.lst xs)) (.lst ds) (.ref p) := by
  simp only [Rp]; exact ⟨p, xs, rfl, upd_same, r.new s h⟩
theorem rp_tup {p : Addr} {ds : List D} {xs : List V} (s : Ex I H) (h : H p = none) (r : RpL K mg I ds xs) : Rp K mg (upd I p (.tup xs)) (.tup ds) (.ref p) := by
  simp only [Rp]; exact ⟨p, xs, rfl, .inl (.inl upd_same), r.new s h⟩
theorem rp_int {i : Int} : Rp K mg I (.int i) (.int i) := by unfold Rp; rfl
theorem rp_bool {i : Bool} : Rp K mg I (.bool i) (.bl i) := by unfold Rp; rfl
theorem rp_str {i : Str} : Rp K mg I (.str i) (.str i) := by unfold Rp; rfl
theorem rp_none : Rp K mg I .none .non := by unfold Rp; rfl

/-! ### arithmetic -/
def dAdd : D → D → Option D
  | .int i, .int j => some (.int (i + j))
  | .str a, .str b => if a.length + b.length ≤ LIM then some (.str (a ++ b)) else none
  | .lst a, .lst b => if a.length + b.length ≤ LIM then some (.lst (a ++ b)) else none
  | .tup a, .tup b => if a.length + b.length ≤ LIM then some (.tup (a ++ b)) else none
  | _, _ => none
def rAddS : R2 := fun x y H Q => ∃ i j, x = .str i ∧ y = .str j ∧ i.length + j.length ≤ sizeLine ∧ Q (.str (i ++ j)) H
def rAddD (K : PySem.W.Frag) : R2 := fun x y H Q => rI0 (fun i j => .int (i + j)) x y H Q ∨ rAddS x y H Q ∨ rCat x y H Q ∨ rCatA K x y H Q
theorem op_addD {X : Cx} : OpR X (binaryOp .Add) (rAddD X.K) := op_add.or (OpR.or (r := rAddS) op_add_str (op_cat.or op_catA))
theorem od_add : OpD K mg (rAddD K) dAdd := by
  intro I H x y z v u Q s rx ry e k
  unfold dAdd at e
  split at e
  · cases e
    simp only [Rp] at rx ry
    subst rx ry
    exact .inl ⟨_, _, rfl, rfl, k _ I H .same rp_int⟩
  · split at e
    · rename_i hz
      cases e
      simp only [Rp] at rx ry
      subst rx ry
      exact .inr (.inl ⟨_, _, rfl, rfl, lim_le hz, k _ I H .same rp_str⟩)
    · cases e
  · split at e
    · rename_i hz
      cases e
      simp only [Rp] at rx ry
      obtain ⟨a, xs, rfl, h1, h2⟩ := rx
      obtain ⟨b, ys, rfl, h3, h4⟩ := ry
      refine .inr (.inr (.inl ⟨a, b, xs, ys, rfl, rfl, s _ _ h1, s _ _ h3, by rw [← h2.length, ← h4.length]; exact lim_le hz, fun p hp => ?_⟩))
      exact k _ _ _ (.new p _ hp) (rp_lst s hp (h2.append h4))
    · cases e
  · split at e
    · rename_i xs0 ys0 hz
      cases e
      have rx' := rx
      have ry' := ry
      simp only [Rp] at rx ry
      obtain ⟨a, xs, rfl, h1, h2⟩ := rx
      obtain ⟨b, ys, rfl, h3, h4⟩ := ry
      refine .inr (.inr (.inr ⟨a, b, xs, ys, rfl, rfl, ex_t s h1, ex_t s h3, by rw [← h2.length, ← h4.length]; exact lim_le hz, fun hx => ?_, fun _ hy => ?_, fun _ _ p hp => ?_⟩))
      · subst hx
        have e0 := h2.length
        cases xs0 with
        | nil => exact k _ I H .same (by simpa using ry')
        | cons d ds => simp at e0
      · subst hy
        have e0 := h4.length
        cases ys0 with
        | nil => exact k _ I H .same (by simpa using rx')
        | cons d ds => simp at e0
      · exact k _ _ _ (.new p _ hp) (rp_tup s hp (h2.append h4))
    · cases e
  · cases e
/-- ints in, a value out -/
def dI (f : Int → Int → Option D) : D → D → Option D
  | .int i, .int j => f i j
  | _, _ => none
theorem od_I0 {g : Int → Int → V} {f : Int → Int → D} (h : ∀ i j I, Rp K mg I (f i j) (g i j)) : OpD K mg (rI0 g) (dI fun i j => some (f i j)) := by
  intro I H x y z v u Q s rx ry e k
  unfold dI at e
  split at e
  · cases e
    simp only [Rp] at rx ry
    subst rx ry
    exact ⟨_, _, rfl, rfl, k _ I H .same (h _ _ _)⟩
  · cases e
theorem od_I {C : Int → Int → Prop} [∀ i j, Decidable (C i j)] {g : Int → Int → V} {f : Int → Int → D} (h : ∀ i j I, Rp K mg I (f i j) (g i j)) : OpD K mg (rI C g) (dI fun i j => if C i j then some (f i j) else none) := by
  intro I H x y z v u Q s rx ry e k
  unfold dI at e
  split at e
  · rename_i i j
    have e : (if C i j then some (f i j) else none) = some z := e
    split at e
    · rename_i hc
      cases e
      simp only [Rp] at rx ry
      subst rx ry
      exact ⟨_, _, rfl, rfl, hc, k _ I H .same (h _ _ _)⟩
    · cases e
  · cases e
instance (i j : Int) : Decidable (CMul i j) := by unfold CMul; exact inferInstance
instance (i j : Int) : Decidable (CDiv i j) := by unfold CDiv; exact inferInstance
instance (i j : Int) : Decidable (CPow i j) := by unfold CPow; exact inferInstance
abbrev dSub : D → D → Option D := dI fun i j => some (.int (i - j))
theorem od_sub : OpD K mg (rI0 fun i j => .int (i - j)) dSub := od_I0 fun _ _ _ => rp_int
abbrev dMod : D → D → Option D := dI fun i j => if 0 < j then some (.int (i % j)) else none
theorem od_mod : OpD K mg (rI (fun _ j => 0 < j) fun i j => .int (i % j)) dMod := od_I (C := fun _ j => 0 < j) fun _ _ _ => rp_int
abbrev dDiv : D → D → Option D := dI fun i j => if CDiv i j then some (.int (i / j)) else none
theorem od_div : OpD K mg (rI CDiv fun i j => .int (i / j)) dDiv := od_I fun _ _ _ => rp_int
abbrev dPow : D → D → Option D := dI fun i j => if CPow i j then some (.int (i ^ j.toNat)) else none
theorem od_pow : OpD K mg (rI CPow fun i j => .int (i ^ j.toNat)) dPow := od_I fun _ _ _ => rp_int
abbrev dLt : D → D → Option D := dI fun i j => some (.bool (decide (i < j)))
theorem od_lt : OpD K mg (rI0 fun i j => .bl (decide (i < j))) dLt := od_I0 fun _ _ _ => rp_bool
abbrev dLe : D → D → Option D := dI fun i j => some (.bool (decide (i ≤ j)))
theorem od_le : OpD K mg (rI0 fun i j => .bl (decide (i ≤ j))) dLe := od_I0 fun _ _ _ => rp_bool
abbrev dGt : D → D → Option D := dI fun i j => some (.bool (decide (j < i)))
theorem od_gt : OpD K mg (rI0 fun i j => .bl (decide (j < i))) dGt := od_I0 fun _ _ _ => rp_bool
abbrev dGe : D → D → Option D := dI fun i j => some (.bool (decide (j ≤ i)))
theorem od_ge : OpD K mg (rI0 fun i j => .bl (decide (j ≤ i))) dGe := od_I0 fun _ _ _ => rp_bool
/-- a text times a number -/
def repS (x : Str) (n : Int) : Str := Txt.mul x n
def dMul : D → D → Option D
  | .int i, .int j => if CMul i j then some (.int (i * j)) else none
  | .str x, .int j => if 0 ≤ j ∧ x.length * j.toNat ≤ LIM ∧ x.length ≤ LIM ∧ j ≤ 1000000 then some (.str (Txt.mul x j)) else none
  | .lst ds, .int j => if 0 ≤ j ∧ ds.length * j.toNat ≤ LIM ∧ j ≤ 1000000 then some (.lst (List.replicate j.toNat ds).flatten) else none
  | _, _ => none
def rMulS : R2 := fun x y H Q => ∃ i j, x = .str i ∧ y = .int j ∧ MulOk i j ∧ Q (.str (Txt.mul i j)) H
theorem op_mulS {X : Cx} : OpR X (binaryOp .Mult) rMulS := by
  intro pins s σ H x y v u Q I rx ry h
  obtain ⟨i, j, rfl, rfl, hz, q⟩ := h
  obtain ⟨t, rfl⟩ := rx
  obtain ⟨t', rfl⟩ := ry
  exact SB.mul hz fun t' k => ⟨.str _, H, I.tok k, ⟨_, rfl⟩, q⟩
def rMulD : R2 := fun x y H Q => rI CMul (fun i j => .int (i * j)) x y H Q ∨ rMulS x y H Q ∨ rRep x y H Q
theorem op_mulD {X : Cx} : OpR X (binaryOp .Mult) rMulD := op_mul.or (op_mulS.or op_rep)
theorem RpL.rep {ds : List D} {xs : List V} (h : RpL K mg I ds xs) : ∀ k : Nat, RpL K mg I (List.replicate k ds).flatten (List.replicate k xs).flatten
  | 0 => RpL.nil
  | k + 1 => by
    rw [List.replicate_succ, List.flatten_cons, List.replicate_succ, List.flatten_cons]
    exact h.append (RpL.rep h k)
theorem od_mul : OpD K mg rMulD dMul := by
  intro I H x y z v u Q s rx ry e k
  unfold dMul at e
  split at e
  · split at e
    · rename_i hc
      cases e
      simp only [Rp] at rx ry
      subst rx ry
      exact .inl ⟨_, _, rfl, rfl, hc, k _ I H .same rp_int⟩
    · cases e
  · rename_i x0 j
    split at e
    · rename_i hc
      cases e
      simp only [Rp] at rx ry
      subst rx ry
      obtain ⟨h0, h1, h2, h3⟩ := hc
      refine .inr (.inl ⟨_, _, rfl, rfl, ⟨by simp; omega, fun hn _ => ?_, fun hn _ => ?_⟩, k _ I H .same rp_str⟩)
      · have hj : 0 < j := by omega
        have h4 : (x0.length : Int) * j ≤ 1000000 := by
          have : ((x0.length * j.toNat : Nat) : Int) ≤ 1000000 := by
            have := h1; unfold LIM at this; omega
          rw [Int.natCast_mul] at this
          rwa [Int.toNat_of_nonneg h0] at this
        intro hgt
        have h5 : (x0.length : Int) ≤ (2 ^ 63 - 1) / j := (Int.le_ediv_iff_mul_le hj).mpr (by omega)
        omega
      · have := lim_le h1
        rw [sizeLine_eq] at this
        unfold LIM at h1
        unfold Builtin.Str.tooLong
        simp
        rw [sizeLine_eq]
        omega
    · cases e
  · split at e
    · rename_i hc
      cases e
      simp only [Rp] at rx ry
      obtain ⟨a, xs, rfl, h1, h2⟩ := rx
      subst ry
      refine .inr (.inr ⟨a, _, xs, rfl, rfl, s _ _ h1, by omega, by omega, by rw [← h2.length]; exact lim_le hc.2.1, fun p hp => ?_⟩)
      exact k _ _ _ (.new p _ hp) (rp_lst s hp (h2.rep _))
    · cases e
  · cases e
def dNeg : D → Option D
  | .int i => some (.int (-i))
  | _ => none
theorem ud_neg : UnD K mg (rU fun i => .int (-i)) dNeg := by
  intro I H x z v Q s rx e k
  unfold dNeg at e
  split at e
  · cases e
    simp only [Rp] at rx
    subst rx
    exact ⟨_, rfl, k _ I H .same rp_int⟩
  · cases e

/-! ### == -/
mutual
def toPy : D → Option PyData
  | .none => some .none
  | .bool b => some (.bool b)
  | .int i => some (.int i)
  | .str x => some (.str x)
  | .lst ds => (toPys ds).map .list
  | .fl ds => (toPys ds).map .list
  | .tup ds => (toPys ds).map .tuple
  | _ => none
def toPys : List D → Option (List PyData)
  | [] => some []
  | d :: ds => (toPy d).bind fun x => (toPys ds).map (x :: ·)
end
mutual
theorem toPy_dp (s : Ex I H) : ∀ (d : D) (v : V) (p : PyData), Rp K mg I d v → toPy d = some p → Dp K H v p
  | .none, v, p, h, e => by simp only [Rp] at h; subst h; cases e; exact .non
  | .bool b, v, p, h, e => by simp only [Rp] at h; subst h; cases e; exact .bl b
  | .int b, v, p, h, e => by simp only [Rp] at h; subst h; cases e; exact .int b
  | .str b, v, p, h, e => by simp only [Rp] at h; subst h; cases e; exact .str b
  | .lst ds, v, p, h, e => by
    simp only [Rp] at h
    obtain ⟨a, xs, rfl, h1, h2⟩ := h
    obtain ⟨q, e1, rfl⟩ := Option.map_eq_some_iff.mp (show (toPys ds).map .list = some p from e)
    exact .lst (.of (s _ _ h1)) (toPys_dp s ds xs q h2 e1)
  | .fl ds, v, p, h, e => by
    simp only [Rp] at h
    obtain ⟨a, xs, rfl, h1, h2⟩ := h
    obtain ⟨q, e1, rfl⟩ := Option.map_eq_some_iff.mp (show (toPys ds).map .list = some p from e)
    exact .lst (ex_l s h1) (toPys_dp s ds xs q h2 e1)
  | .tup ds, v, p, h, e => by
    simp only [Rp] at h
    obtain ⟨a, xs, rfl, h1, h2⟩ := h
    obtain ⟨q, e1, rfl⟩ := Option.map_eq_some_iff.mp (show (toPys ds).map .tuple = some p from e)
    exact .tup (ex_t s h1) (toPys_dp s ds xs q h2 e1)
  | .dict _, v, p, h, e => by cases e
  | .inst _ _, v, p, h, e => by cases e
theorem toPys_dp (s : Ex I H) : ∀ (ds : List D) (xs : List V) (ps : List PyData), RpL K mg I ds xs → toPys ds = some ps → DpAll K H xs ps
  | [], xs, ps, h, e => by simp only [RpL] at h; subst h; cases e; exact .nil
  | d :: ds, xs, ps, h, e => by
    simp only [RpL] at h
    obtain ⟨x, r, rfl, h1, h2⟩ := h
    obtain ⟨p, e1, e2⟩ := Option.bind_eq_some_iff.mp (show ((toPy d).bind fun x => (toPys ds).map (x :: ·)) = some ps from e)
    obtain ⟨q, e3, rfl⟩ := Option.map_eq_some_iff.mp e2
    exact .cons (toPy_dp s d x p h1 e1) (toPys_dp s ds r q h2 e3)
end
def eqDeep (x y : D) : Option Bool := (toPy x).bind fun p => (toPy y).bind fun q => if (SeqAt.shaped p && SeqAt.shaped q) = true then some (PyData.eqv p q) else none
def eqB : D → D → Option Bool
  | .int i, .int j => some (decide (i = j))
  | .str i, .str j => some (decide (i = j))
  | .bool i, .bool j => some (decide (i = j))
  | x, y => eqDeep x y
def dEq (x y : D) : Option D := (eqB x y).map .bool
def dNe (x y : D) : Option D := (eqB x y).map fun b => .bool !b
def rEq2 (K : PySem.W.Frag) : R2 := fun x y H Q => rEq x y H Q ∨ rEqD K x y H Q
def rNe2 (K : PySem.W.Frag) : R2 := fun x y H Q => rNe x y H Q ∨ rNeD K x y H Q
theorem op_eq2 {X : Cx} (hu : X.A.units + 64 < cLine) : OpR X (compareOp .Eq) (rEq2 X.K) := op_eq.or (op_eqD hu)
theorem op_ne2 {X : Cx} (hu : X.A.units + 64 < cLine) : OpR X (compareOp .NotEq) (rNe2 X.K) := op_ne.or (op_neD hu)
theorem od_eq : OpD K mg (rEq2 K) dEq := by
  intro I H x y z v u Q s rx ry e k
  obtain ⟨b, e', rfl⟩ := Option.map_eq_some_iff.mp e
  clear e
  have e := e'
  clear e'
  unfold eqB at e
  split at e
  · cases e
    simp only [Rp] at rx ry
    subst rx ry
    exact .inl ⟨rfl, by rw [dec_int, Bool.beq_eq_decide_eq]; exact k _ I H .same rp_bool⟩
  · cases e
    simp only [Rp] at rx ry
    subst rx ry
    exact .inl ⟨rfl, by rw [dec_str, Bool.beq_eq_decide_eq]; exact k _ I H .same rp_bool⟩
  · cases e
    simp only [Rp] at rx ry
    subst rx ry
    exact .inl ⟨rfl, by rw [dec_bl, Bool.beq_eq_decide_eq]; exact k _ I H .same rp_bool⟩
  · unfold eqDeep at e
    obtain ⟨p, e1, e⟩ := Option.bind_eq_some_iff.mp e
    obtain ⟨q, e2, e⟩ := Option.bind_eq_some_iff.mp e
    split at e
    · rename_i hs
      cases e
      rw [Bool.and_eq_true] at hs
      exact .inr ⟨p, q, toPy_dp s _ _ _ rx e1, toPy_dp s _ _ _ ry e2, hs.1, hs.2, k _ I H .same rp_bool⟩
    · cases e
theorem od_ne : OpD K mg (rNe2 K) dNe := by
  intro I H x y z v u Q s rx ry e k
  obtain ⟨b, e', rfl⟩ := Option.map_eq_some_iff.mp e
  clear e
  have e := e'
  clear e'
  unfold eqB at e
  split at e
  · cases e
    simp only [Rp] at rx ry
    subst rx ry
    exact .inl ⟨rfl, by rw [dec_int, Bool.beq_eq_decide_eq]; exact k _ I H .same rp_bool⟩
  · cases e
    simp only [Rp] at rx ry
    subst rx ry
    exact .inl ⟨rfl, by rw [dec_str, Bool.beq_eq_decide_eq]; exact k _ I H .same rp_bool⟩
  · cases e
    simp only [Rp] at rx ry
    subst rx ry
    exact .inl ⟨rfl, by rw [dec_bl, Bool.beq_eq_decide_eq]; exact k _ I H .same rp_bool⟩
  · unfold eqDeep at e
    obtain ⟨p, e1, e⟩ := Option.bind_eq_some_iff.mp e
    obtain ⟨q, e2, e⟩ := Option.bind_eq_some_iff.mp e
    split at e
    · rename_i hs
      cases e
      rw [Bool.and_eq_true] at hs
      exact .inr ⟨p, q, toPy_dp s _ _ _ rx e1, toPy_dp s _ _ _ ry e2, hs.1, hs.2, k _ I H .same rp_bool⟩
    · cases e

/-! ### is None, in -/
def isNone : D → Bool
  | .none => true
  | _ => false
theorem isNone_v {d : D} {v : V} (h : Rp K mg I d v) : decide (v = .non) = isNone d := by
  cases d with
  | none => simp only [Rp] at h; subst h; rfl
  | bool b => simp only [Rp] at h; subst h; rfl
  | int b => simp only [Rp] at h; subst h; rfl
  | str b => simp only [Rp] at h; subst h; rfl
  | lst b => simp only [Rp] at h; obtain ⟨a, _, rfl, _⟩ := h; rfl
  | fl b => simp only [Rp] at h; obtain ⟨a, _, rfl, _⟩ := h; rfl
  | tup b => simp only [Rp] at h; obtain ⟨a, _, rfl, _⟩ := h; rfl
  | dict b => simp only [Rp] at h; obtain ⟨a, _, rfl, _⟩ := h; rfl
  | inst c b => simp only [Rp] at h; obtain ⟨a, _, _, _, rfl, _⟩ := h; rfl
def dIsN (x y : D) : Option D := if isNone y = true then some (.bool (isNone x)) else none
def dNotN (x y : D) : Option D := if isNone y = true then some (.bool (!isNone x)) else none
def rIsN : R2 := fun x y H Q => y = .non ∧ Q (.bl (decide (x = .non))) H
def rNotN : R2 := fun x y H Q => y = .non ∧ Q (.bl (!decide (x = .non))) H
theorem op_isN1 {X : Cx} : OpR X (compareOp .Is) rIsN := op_isN
theorem op_notN1 {X : Cx} : OpR X (compareOp .IsNot) rNotN := op_notN
theorem od_isN : OpD K mg rIsN dIsN := by
  intro I H x y z v u Q s rx ry e k
  unfold dIsN at e
  split at e
  · rename_i hn
    cases e
    refine ⟨of_decide_eq_true ((isNone_v ry).trans hn), ?_⟩
    rw [isNone_v rx]
    exact k _ I H .same rp_bool
  · cases e
theorem od_notN : OpD K mg rNotN dNotN := by
  intro I H x y z v u Q s rx ry e k
  unfold dNotN at e
  split at e
  · rename_i hn
    cases e
    refine ⟨of_decide_eq_true ((isNone_v ry).trans hn), ?_⟩
    rw [isNone_v rx]
    exact k _ I H .same rp_bool
  · cases e
def flatD : D → Bool
  | .none => true
  | .bool _ => true
  | .int _ => true
  | .str _ => true
  | _ => false
def eqF : D → D → Bool
  | .none, .none => true
  | .bool a, .bool b => a == b
  | .bool a, .int b => (if a then 1 else 0) == b
  | .int a, .bool b => a == (if b then 1 else 0)
  | .int a, .int b => a == b
  | .str a, .str b => a == b
  | _, _ => false
theorem flat_v {d : D} {v : V} (h : Rp K mg I d v) (f : flatD d = true) : flatV v = true := by
  cases d with
  | none => simp only [Rp] at h; subst h; rfl
  | bool b => simp only [Rp] at h; subst h; rfl
  | int b => simp only [Rp] at h; subst h; rfl
  | str b => simp only [Rp] at h; subst h; rfl
  | _ => cases f
theorem eqF_v {d e : D} {v u : V} (h : Rp K mg I d v) (h' : Rp K mg I e u) (f : flatD d = true) (f' : flatD e = true) : eqV v u = eqF d e := by
  cases d with
  | none =>
    simp only [Rp] at h; subst h
    cases e <;> first | (simp only [Rp] at h'; subst h'; rfl) | cases f'
  | bool b =>
    simp only [Rp] at h; subst h
    cases e <;> first | (simp only [Rp] at h'; subst h'; rfl) | cases f'
  | int b =>
    simp only [Rp] at h; subst h
    cases e <;> first | (simp only [Rp] at h'; subst h'; rfl) | cases f'
  | str b =>
    simp only [Rp] at h; subst h
    cases e <;> first | (simp only [Rp] at h'; subst h'; rfl) | cases f'
  | _ => cases f
theorem flats_v : ∀ {ds : List D} {xs : List V}, RpL K mg I ds xs → ds.all flatD = true → xs.all flatV = true
  | [], xs, h, f => by simp only [RpL] at h; subst h; rfl
  | d :: ds, xs, h, f => by
    simp only [RpL] at h
    obtain ⟨x, r, rfl, h1, h2⟩ := h
    rw [List.all_cons, Bool.and_eq_true] at f ⊢
    exact ⟨flat_v h1 f.1, flats_v h2 f.2⟩
theorem inF_v {dd : D} {vv : V} (h : Rp K mg I dd vv) (f0 : flatD dd = true) : ∀ {ds : List D} {xs : List V}, RpL K mg I ds xs → ds.all flatD = true → inV vv xs = ds.any fun y => eqF y dd
  | [], xs, h, f => by simp only [RpL] at h; subst h; rfl
  | d :: ds, xs, h, f => by
    simp only [RpL] at h
    obtain ⟨x, r, rfl, h1, h2⟩ := h
    rw [List.all_cons, Bool.and_eq_true] at f
    have ih := inF_v h f0 h2 f.2
    unfold inV at ih ⊢
    rw [List.any_cons, List.any_cons, eqF_v h1 h f.1 f0, ih]
def sign? (a : Str) : Option Nat := match a.cps.toList with
  | [c] => some c
  | _ => none
theorem sign_of {a : Str} {c : Nat} (h : sign? a = some c) : a = ⟨#[c]⟩ := by
  unfold sign? at h
  split at h
  · rename_i c' e
    cases h
    obtain ⟨l⟩ := a
    have : l = #[c] := by
      apply Array.ext'
      simpa using e
    rw [this]
  · cases h
def inB : D → D → Option Bool
  | .str a, .str b => (sign? a).map fun c => decide (c ∈ b.cps.toList)
  | x, .lst ds => if (flatD x && ds.all flatD) = true then some (ds.any fun y => eqF y x) else (toPy x).bind fun p => (toPys ds).bind fun qs => if (SeqAt.shaped p && SeqAt.shaped (.list qs)) = true then some (qs.any fun z => PyData.eqv z p) else none
  | x, .fl ds => if (flatD x && ds.all flatD) = true then some (ds.any fun y => eqF y x) else none
  | x, .tup ds => if (flatD x && ds.all flatD) = true then some (ds.any fun y => eqF y x) else none
  | _, _ => none
def dIn (x y : D) : Option D := (inB x y).map .bool
def dNotIn (x y : D) : Option D := (inB x y).map fun b => .bool !b
def rInG (K : PySem.W.Frag) (neg : Bool) : R2 := fun x y H Q => (∃ (c : Nat) (z : Str), x = .str ⟨#[c]⟩ ∧ y = .str z ∧ Q (.bl (if neg then !decide (c ∈ z.cps.toList) else decide (c ∈ z.cps.toList))) H) ∨ rIn K neg x y H Q ∨
  ∃ d ds, Dp K H x d ∧ Dp K H y (.list ds) ∧ SeqAt.shaped d = true ∧ SeqAt.shaped (.list ds) = true ∧ Q (.bl (if neg then !(ds.any fun z => PyData.eqv z d) else ds.any fun z => PyData.eqv z d)) H
theorem op_inG {X : Cx} (hu : X.A.units + 65 < cLine) : OpR X (compareOp .In) (rInG X.K false) := by
  intro pins s σ H x y v u Q I rx ry h
  rcases h with h | h | h
  · exact op_in_sign pins s σ H x y v u Q I rx ry h
  · exact op_in_seq pins s σ H x y v u Q I rx ry h
  · exact op_inD hu pins s σ H x y v u Q I rx ry h
theorem op_ninG {X : Cx} (hu : X.A.units + 65 < cLine) : OpR X (compareOp .NotIn) (rInG X.K true) := by
  intro pins s σ H x y v u Q I rx ry h
  rcases h with h | h | h
  · exact op_notIn_sign pins s σ H x y v u Q I rx ry h
  · exact op_notIn_seq pins s σ H x y v u Q I rx ry h
  · exact op_notInD hu pins s σ H x y v u Q I rx ry h
theorem in_run {neg : Bool} {x y : D} {b : Bool} {v u : V} {Q : VK} (s : Ex I H) (rx : Rp K mg I x v) (ry : Rp K mg I y u) (e : inB x y = some b) (k : Q (.bl (if neg then !b else b)) H) : rInG K neg v u H Q := by
  unfold inB at e
  split at e
  · obtain ⟨c, h1, rfl⟩ := Option.map_eq_some_iff.mp e
    simp only [Rp] at rx ry
    subst rx ry
    rw [sign_of h1]
    exact .inl ⟨c, _, rfl, rfl, k⟩
  · rename_i ds
    have ry' := ry
    simp only [Rp] at ry
    obtain ⟨a, xs, rfl, h1, h2⟩ := ry
    split at e
    · rename_i hf
      rw [Bool.and_eq_true] at hf
      cases e
      exact .inr (.inl ⟨a, xs, rfl, .inl (.of (s _ _ h1)), flat_v rx hf.1, flats_v h2 hf.2, by rw [inF_v rx hf.1 h2 hf.2]; exact k⟩)
    · obtain ⟨p, e1, e⟩ := Option.bind_eq_some_iff.mp e
      obtain ⟨q, e2, e⟩ := Option.bind_eq_some_iff.mp e
      split at e
      · rename_i hs
        rw [Bool.and_eq_true] at hs
        cases e
        exact .inr (.inr ⟨p, q, toPy_dp s _ _ _ rx e1, .lst (.of (s _ _ h1)) (toPys_dp s _ _ _ h2 e2), hs.1, hs.2, k⟩)
      · cases e
  · simp only [Rp] at ry
    obtain ⟨a, xs, rfl, h1, h2⟩ := ry
    split at e
    · rename_i hf
      rw [Bool.and_eq_true] at hf
      cases e
      exact .inr (.inl ⟨a, xs, rfl, .inl (ex_l s h1), flat_v rx hf.1, flats_v h2 hf.2, by rw [inF_v rx hf.1 h2 hf.2]; exact k⟩)
    · cases e
  · simp only [Rp] at ry
    obtain ⟨a, xs, rfl, h1, h2⟩ := ry
    split at e
    · rename_i hf
      rw [Bool.and_eq_true] at hf
      cases e
      exact .inr (.inl ⟨a, xs, rfl, .inr (ex_t s h1), flat_v rx hf.1, flats_v h2 hf.2, by rw [inF_v rx hf.1 h2 hf.2]; exact k⟩)
    · cases e
  · cases e
theorem od_in : OpD K mg (rInG K false) dIn := by
  intro I H x y z v u Q s rx ry e k
  obtain ⟨b, e', rfl⟩ := Option.map_eq_some_iff.mp e
  clear e
  have e := e'
  clear e'
  exact in_run s rx ry e (k _ I H .same rp_bool)
theorem od_notIn : OpD K mg (rInG K true) dNotIn := by
  intro I H x y z v u Q s rx ry e k
  obtain ⟨b, e', rfl⟩ := Option.map_eq_some_iff.mp e
  clear e
  have e := e'
  clear e'
  exact in_run s rx ry e (k _ I H .same rp_bool)
end
end MV

namespace MV
open PySem L2

/-! ### subscripts, slices -/
def dIx : D → D → Option D
  | .lst ds, .int i => atI ds i
  | .fl ds, .int i => atI ds i
  | .tup ds, .int i => atI ds i
  | .str x, .int i => if x.length ≤ LIM then (atI x.cps.toList i).map fun c => .str ⟨#[c]⟩ else none
  | _, _ => none
section
variable {K : PySem.W.Frag} {mg : Str → Option Value} {I H : Hp}
theorem RpL.atI {ds : List D} {xs : List V} {i : Int} {d : D} (h : RpL K mg I ds xs) (e : L2.atI ds i = some d) : ∃ v, L2.atI xs i = some v ∧ Rp K mg I d v := by
  unfold L2.atI at e ⊢
  obtain ⟨j, h1, h2⟩ := Option.bind_eq_some_iff.mp e
  obtain ⟨v, h3, h4⟩ := h.get h2
  rw [← h.length, h1]
  exact ⟨v, h3, h4⟩
theorem od_ix : OpD K mg (rIx K) dIx := by
  intro I H x y z v u Q s rx ry e k
  unfold dIx at e
  split at e
  · simp only [Rp] at rx ry
    obtain ⟨a, xs, rfl, h1, h2⟩ := rx
    subst ry
    obtain ⟨v, h3, h4⟩ := h2.atI e
    exact .inl ⟨a, xs, _, v, rfl, rfl, .of (s _ _ h1), h3, k _ I H .same h4⟩
  · simp only [Rp] at rx ry
    obtain ⟨a, xs, rfl, h1, h2⟩ := rx
    subst ry
    obtain ⟨v, h3, h4⟩ := h2.atI e
    exact .inl ⟨a, xs, _, v, rfl, rfl, ex_l s h1, h3, k _ I H .same h4⟩
  · simp only [Rp] at rx ry
    obtain ⟨a, xs, rfl, h1, h2⟩ := rx
    subst ry
    obtain ⟨v, h3, h4⟩ := h2.atI e
    exact .inr (.inl ⟨a, xs, _, v, rfl, rfl, ex_t s h1, h3, k _ I H .same h4⟩)
  · split at e
    · rename_i hz
      obtain ⟨c, h1, rfl⟩ := Option.map_eq_some_iff.mp e
      simp only [Rp] at rx ry
      subst rx ry
      exact .inr (.inr ⟨_, _, c, rfl, rfl, lim_le hz, h1, k _ I H .same rp_str⟩)
    · cases e
  · cases e
def cutD (ds : List D) (lo hi : Option Int) : List D := (ds.drop (HT.sIx ds.length 0 lo)).take (HT.sIx ds.length ds.length hi - HT.sIx ds.length 0 lo)
theorem RpL.drop : ∀ {ds : List D} {xs : List V} (n : Nat), RpL K mg I ds xs → RpL K mg I (ds.drop n) (xs.drop n)
  | ds, xs, 0, h => h
  | [], xs, n + 1, h => by simp only [RpL] at h; subst h; exact RpL.nil
  | d :: ds, xs, n + 1, h => by
    simp only [RpL] at h
    obtain ⟨x, r, rfl, h1, h2⟩ := h
    exact RpL.drop n h2
theorem RpL.take : ∀ {ds : List D} {xs : List V} (n : Nat), RpL K mg I ds xs → RpL K mg I (ds.take n) (xs.take n)
  | ds, xs, 0, h => RpL.nil
  | [], xs, n + 1, h => by simp only [RpL] at h; subst h; exact RpL.nil
  | d :: ds, xs, n + 1, h => by
    simp only [RpL] at h
    obtain ⟨x, r, rfl, h1, h2⟩ := h
    exact RpL.cons h1 (RpL.take n h2)
theorem RpL.cut {ds : List D} {xs : List V} {lo hi : Option Int} (h : RpL K mg I ds xs) : RpL K mg I (cutD ds lo hi) (cutV xs lo hi) := by
  unfold cutD cutV
  rw [h.length]
  exact (h.drop _).take _
def dSl : D → Option Int → Option Int → Option D
  | .lst ds, lo, hi => some (.lst (cutD ds lo hi))
  | .fl ds, lo, hi => some (.lst (cutD ds lo hi))
  | .tup ds, lo, hi => some (.tup (cutD ds lo hi))
  | .str x, lo, hi => if x.length ≤ LIM then some (.str (cutS x lo hi)) else none
  | _, _, _ => none
end
def rSlD (K : PySem.W.Frag) : V → Option Int → Option Int → Hp → VK → Prop := fun x lo hi H Q => rSlL K x lo hi H Q ∨ rSlA K x lo hi H Q ∨ rSlS x lo hi H Q
theorem sl_all {X : Cx} : SlR X (rSlD X.K) := sl_list.or (sl_tupA.or sl_str)
theorem sl_run {K : PySem.W.Frag} {mg : Str → Option Value} {I H : Hp} {x z : D} {v : V} {lo hi : Option Int} {Q : VK} (s : Ex I H) (rx : Rp K mg I x v) (e : dSl x lo hi = some z) (k : ∀ v' I' H', Gr I H I' H' → Rp K mg I' z v' → Q v' H') : rSlD K v lo hi H Q := by
  unfold dSl at e
  split at e
  · cases e
    simp only [Rp] at rx
    obtain ⟨a, xs, rfl, h1, h2⟩ := rx
    exact .inl ⟨a, xs, rfl, .of (s _ _ h1), fun p hp => k _ _ _ (.new p _ hp) (rp_lst s hp h2.cut)⟩
  · cases e
    simp only [Rp] at rx
    obtain ⟨a, xs, rfl, h1, h2⟩ := rx
    exact .inl ⟨a, xs, rfl, ex_l s h1, fun p hp => k _ _ _ (.new p _ hp) (rp_lst s hp h2.cut)⟩
  · rename_i ds
    cases e
    have rx' := rx
    simp only [Rp] at rx
    obtain ⟨a, xs, rfl, h1, h2⟩ := rx
    refine .inr (.inl ⟨a, xs, rfl, ex_t s h1, fun hw => k _ I H .same ?_, fun _ p hp => k _ _ _ (.new p _ hp) (rp_tup s hp h2.cut)⟩)
    have e0 : cutD ds lo hi = ds := by
      unfold cutD
      rw [h2.length, hw.1, hw.2, Nat.sub_zero, List.drop_zero, ← h2.length, List.take_length]
    rw [e0]
    exact rx'
  · split at e
    · rename_i hz
      cases e
      simp only [Rp] at rx
      subst rx
      exact .inr (.inr ⟨_, rfl, lim_le hz, k _ I H .same rp_str⟩)
    · cases e
  · cases e
def mOptI (m : M D) : M (Option Int) := fun e => (m e).bind fun x => match x.1 with
  | .int i => some (some i, x.2)
  | _ => none
def mNoI : M (Option Int) := fun e => some (none, e)
def tPo (K : PySem.W.Frag) (mg : Str → Option Value) (m : M (Option Int)) : TO := fun σ H Q => ∃ I e Fs, Rel K mg I e Fs σ H ∧ ∃ o e', m e = some (o, e') ∧ ∀ I' Fs' H', Rel K mg I' e' Fs' σ H' → Ext Fs I H Fs' I' H' → Q o H'
def SPo (X : Cx) (a : Option Expr) (m : M (Option Int)) : Prop := PO X a (tPo X.K X.mg m)
theorem PO.imp {X : Cx} {a : Option Expr} {t t' : TO} (h : PO X a t) (i : ∀ σ H Q, t' σ H Q → t σ H Q) : PO X a t' := ⟨fun pins s σ H Q I hq => h.run pins s σ H Q I (i σ H Q hq)⟩
def mSl (f : D → Option Int → Option Int → Option D) (a : M D) (lo hi : M (Option Int)) : M D := fun e => (a e).bind fun x => (lo x.2).bind fun l => (hi l.2).bind fun h => (f x.1 l.1 h.1).map fun z => (z, h.2)
section
variable {X : Cx} {a b c : Expr} {lo hi : Option Expr} {ma mb mc : M D} {ml mh : M (Option Int)} {pos p p2 : Pos}
theorem spo_none : SPo X none mNoI := PO.imp po_none fun σ H Q ⟨I, e, Fs, R, o, e', hm, k⟩ => by
  cases hm
  exact k I Fs H R Ext.refl
theorem spo_some (h : SE X a ma) : SPo X (some a) (mOptI ma) := PO.imp (po_some h) fun σ H Q ⟨I, e, Fs, R, o, e', hm, k⟩ => by
  obtain ⟨⟨d, e1⟩, h1, hm⟩ := Option.bind_eq_some_iff.mp hm
  refine ⟨I, e, Fs, R, d, e1, h1, fun v I' Fs' H' R' x r => ?_⟩
  cases d with
  | int i =>
    cases hm
    simp only [Rp] at r
    exact ⟨i, r, k I' Fs' H' R' x⟩
  | _ => cases hm
theorem se_slice (ha : SE X a ma) (hl : SPo X lo ml) (hh : SPo X hi mh) : SE X (.Subscript a (.Slice lo hi none p2) pos) (mSl dSl ma ml mh) := PE.imp (pe_slice sl_all ha hl hh) fun σ H Q ⟨I, e, Fs, R, d, e', hm, k⟩ => by
  obtain ⟨⟨x, e1⟩, h1, hm⟩ := Option.bind_eq_some_iff.mp hm
  obtain ⟨⟨l, e2⟩, h2, hm⟩ := Option.bind_eq_some_iff.mp hm
  obtain ⟨⟨h, e3⟩, h3, hm⟩ := Option.bind_eq_some_iff.mp hm
  obtain ⟨z, h4, hm⟩ := Option.map_eq_some_iff.mp hm
  cases hm
  refine ⟨I, e, Fs, R, x, e1, h1, fun v I1 F1 H1 R1 x1 r1 => ⟨I1, e1, F1, R1, l, e2, h2, fun I2 F2 H2 R2 x2 => ⟨I2, e2, F2, R2, h, e3, h3, fun I3 F3 H3 R3 x3 => ?_⟩⟩⟩
  refine sl_run R3.sub (r1.mono (x2.g.ex.trans x3.g.ex) _ _) h4 fun v' I4 H4 g r4 => ?_
  obtain ⟨R4, x4⟩ := g.rel R3
  exact k v' I4 F3 H4 R4 (((x1.trans x2).trans x3).trans x4) r4
theorem se_ix (ha : SE X a ma) (hb : SE X b mb) (hs : PlainIx b) : SE X (.Subscript a b pos) (mOp dIx ma mb) := by
  refine PE.imp (pe_ix ix_seq ha hb hs) fun σ H Q ⟨I, e, Fs, R, d', e', hm, k⟩ => ?_
  obtain ⟨⟨x, e1⟩, h1, hm⟩ := Option.bind_eq_some_iff.mp hm
  obtain ⟨⟨y, e2⟩, h2, hm⟩ := Option.bind_eq_some_iff.mp hm
  obtain ⟨z, h3, hm⟩ := Option.map_eq_some_iff.mp hm
  cases hm
  refine ⟨I, e, Fs, R, x, e1, h1, fun v I1 F1 H1 R1 x1 r1 => ⟨I1, e1, F1, R1, y, e2, h2, fun u I2 F2 H2 R2 x2 r2 => ?_⟩⟩
  refine od_ix I2 H2 x y _ v u Q R2.sub (r1.mono x2.g.ex _ _) r2 h3 fun v' I3 H3 g r3 => ?_
  obtain ⟨R3, x3⟩ := g.rel R2
  exact k v' I3 F2 H3 R3 ((x1.trans x2).trans x3) r3
theorem se_neg (ha : SE X a ma) : SE X (.UnaryOp .USub a pos) (mUn dNeg ma) := by
  refine PE.imp (pe_un un_neg ha) fun σ H Q ⟨I, e, Fs, R, d', e', hm, k⟩ => ?_
  obtain ⟨⟨x, e1⟩, h1, hm⟩ := Option.bind_eq_some_iff.mp hm
  obtain ⟨z, h3, hm⟩ := Option.map_eq_some_iff.mp hm
  cases hm
  refine ⟨I, e, Fs, R, x, e1, h1, fun v I1 F1 H1 R1 x1 r1 => ?_⟩
  refine ud_neg I1 H1 x _ v Q R1.sub r1 h3 fun v' I3 H3 g r3 => ?_
  obtain ⟨R3, x3⟩ := g.rel R1
  exact k v' I3 F1 H3 R3 (x1.trans x3) r3

/-! ### displays -/
def mDisp (f : List D → Option D) (ma : M (List Arg)) : M D := fun e => (ma e).bind fun x => (allD x.1).bind fun ds => (f ds).map fun d => (d, x.2)
def fLst : List D → Option D := fun ds => if ds.length ≤ LIM then some (.lst ds) else none
def fTup : List D → Option D := fun ds => if ds.length ≤ LIM then some (.tup ds) else none
/-- a built-in call's data -/
def CallD (K : PySem.W.Frag) (mg : Str → Option Value) (r : List V → Hp → VK → Prop) (f : List D → Option D) : Prop :=
  ∀ (I H : Hp) (ds : List D) (z : D) (vs : List V) (Q : VK), Ex I H → RpL K mg I ds vs → f ds = some z → (∀ v' I' H', Gr I H I' H' → Rp K mg I' z v' → Q v' H') → r vs H Q
theorem disp_run {K : PySem.W.Frag} {mg : Str → Option Value} {r : List V → Hp → VK → Prop} {f : List D → Option D} {ma : M (List Arg)} {σ : L2.St} {H : Hp} {Q : VK} (hf : CallD K mg r f) (h : tE K mg (mDisp f ma) σ H Q) : tAr K mg ma σ H fun vs H1 => r vs H1 Q := by
  obtain ⟨I, e, Fs, R, d, e', hm, k⟩ := h
  obtain ⟨⟨as, e1⟩, h1, hm⟩ := Option.bind_eq_some_iff.mp hm
  obtain ⟨bs, h2, hm⟩ := Option.bind_eq_some_iff.mp hm
  obtain ⟨rs, h3, hm⟩ := Option.map_eq_some_iff.mp hm
  cases hm
  refine ⟨I, e, Fs, R, as, e1, h1, fun vs I1 F1 H1 R1 x1 r1 => ?_⟩
  refine hf I1 H1 bs _ vs Q R1.sub (allD_rp h2 r1) h3 fun v' I2 H2 g r2 => ?_
  obtain ⟨R2, x2⟩ := g.rel R1
  exact k v' I2 F1 H2 R2 (x1.trans x2) r2
theorem se_lst {es : List Expr} {m : M (List Arg)} (h : SA X es m) : SE X (.List es pos) (mDisp fLst m) := PE.imp (pe_lst h) fun σ H Q q => disp_run (r := fun xs H1 Q => xs.length ≤ sizeLine ∧ ∀ p, H1 p = none → Q (.ref p) (upd H1 p (.lst xs))) (fun I H ds z vs Q s r e k => by
  unfold fLst at e
  split at e
  · rename_i hz
    cases e
    exact ⟨by rw [← r.length]; exact lim_le hz, fun p hp => k _ _ _ (.new p _ hp) (rp_lst s hp r)⟩
  · cases e) q
theorem se_tup {es : List Expr} {m : M (List Arg)} {x1 : Nat} (h : SA X es m) : SE X (.Tuple es x1 pos) (mDisp fTup m) := PE.imp (pe_tup h) fun σ H Q q => disp_run (r := fun xs H1 Q => xs.length ≤ sizeLine ∧ ∀ p, H1 p = none → Q (.ref p) (upd H1 p (.tup xs))) (fun I H ds z vs Q s r e k => by
  unfold fTup at e
  split at e
  · rename_i hz
    cases e
    exact ⟨by rw [← r.length]; exact lim_le hz, fun p hp => k _ _ _ (.new p _ hp) (rp_tup s hp r)⟩
  · cases e) q
theorem se_callB {id : String} {x : Str} {es : List Expr} {r : List V → Hp → VK → Prop} {f : List D → Option D} {m : M (List Arg)} (hc : CallR X (.builtin id) r) (hf : CallD X.K X.mg r f) (hg : Gl X x) (hm : X.mg x = none) (hv : bootBuiltins x = some (.builtin id)) (ha : SA X (a :: es) m) (hn : x ≠ "__name__" := by decide) (hdb : (x == ("__debug__" : Str)) = false := by decide)
    (he : starEach (a :: es) X.env = (false, eval a X.env) :: starEach es X.env := by rfl) (hpl : (backTo pos (starEach es X.env)).any (·.1) = false := by rfl) : SE X (.Call (.Name x p) (a :: es) [] pos) (mDisp f m) := PE.imp (pe_callB hc hg hm hv ha hn hdb he hpl) fun σ H Q q => disp_run hf q
theorem se_callTy {T : String} {x : Str} {es : List Expr} {r : List V → Hp → VK → Prop} {f : List D → Option D} {m : M (List Arg)} (hc : CallR X (.type T) r) (hf : CallD X.K X.mg r f) (hg : Gl X x) (hm : X.mg x = none) (hv : bootBuiltins x = some (.type T)) (ha : SA X (a :: es) m) (hn : x ≠ "__name__" := by decide) (hdb : (x == ("__debug__" : Str)) = false := by decide)
    (he : starEach (a :: es) X.env = (false, eval a X.env) :: starEach es X.env := by rfl) (hpl : (backTo pos (starEach es X.env)).any (·.1) = false := by rfl) : SE X (.Call (.Name x p) (a :: es) [] pos) (mDisp f m) := PE.imp (pe_callTy hc hg hm hv ha hn hdb he hpl) fun σ H Q q => disp_run hf q
theorem se_glob {x : Str} {v : V} {u : Value} {d : D} (hg : Gl X x) (hm : X.mg x = some u) (r : RelV v u) (hd : Rp X.K X.mg (fun _ => none) d v) (hdb : (x == ("__debug__" : Str)) = false := by decide) : SE X (.Name x pos) (mC d) := by
  refine PE.imp (pe_glob hg hm r hdb) fun σ H Q ⟨I, e, Fs, R, d', e', hm, k⟩ => ?_
  have q : d = d' ∧ e = e' := by simpa [mC] using hm
  obtain ⟨rfl, rfl⟩ := q
  exact k v I Fs H R Ext.refl (hd.mono (fun _ _ z => by cases z) _ _)
end

/-! ### built-ins -/
section
variable {K : PySem.W.Frag} {mg : Str → Option Value}
def fLen : List D → Option D
  | [.str x] => if x.length ≤ LIM then some (.int x.length) else none
  | [.lst ds] => some (.int ds.length)
  | [.fl ds] => some (.int ds.length)
  | [.tup ds] => some (.int ds.length)
  | _ => none
theorem cd_len : CallD K mg (fun xs H Q => ∃ x n, xs = [x] ∧ LenV K x H n ∧ Q (.int n) H) fLen := by
  intro I H ds z vs Q s r e k
  unfold fLen at e
  split at e
  · obtain ⟨v, rfl, h⟩ := r.one
    split at e
    · rename_i hz
      cases e
      simp only [Rp] at h
      subst h
      exact ⟨_, _, rfl, ⟨lim_le hz, rfl⟩, k _ I H .same rp_int⟩
    · cases e
  · obtain ⟨v, rfl, h⟩ := r.one
    cases e
    simp only [Rp] at h
    obtain ⟨a, xs, rfl, h1, h2⟩ := h
    exact ⟨_, _, rfl, .inl ⟨xs, .of (s _ _ h1), h2.length⟩, k _ I H .same rp_int⟩
  · obtain ⟨v, rfl, h⟩ := r.one
    cases e
    simp only [Rp] at h
    obtain ⟨a, xs, rfl, h1, h2⟩ := h
    exact ⟨_, _, rfl, .inl ⟨xs, ex_l s h1, h2.length⟩, k _ I H .same rp_int⟩
  · obtain ⟨v, rfl, h⟩ := r.one
    cases e
    simp only [Rp] at h
    obtain ⟨a, xs, rfl, h1, h2⟩ := h
    exact ⟨_, _, rfl, .inr ⟨xs, ex_t s h1, h2.length⟩, k _ I H .same rp_int⟩
  · cases e
def fAbs : List D → Option D
  | [.int i] => some (.int (if i < 0 then -i else i))
  | _ => none
theorem cd_abs : CallD K mg (fun xs H Q => ∃ i, xs = [.int i] ∧ Q (.int (if i < 0 then -i else i)) H) fAbs := by
  intro I H ds z vs Q s r e k
  unfold fAbs at e
  split at e
  · obtain ⟨v, rfl, h⟩ := r.one
    cases e
    simp only [Rp] at h
    subst h
    exact ⟨_, rfl, k _ I H .same rp_int⟩
  · cases e
def fList : List D → Option D
  | [.lst ds] => some (.lst ds)
  | [.fl ds] => some (.lst ds)
  | [.tup ds] => some (.lst ds)
  | _ => none
theorem cd_list : CallD K mg (fun xs H Q => ∃ p ys, xs = [.ref p] ∧ (SqL K H p ys ∨ SqT K H p ys) ∧ ∀ l, H l = none → Q (.ref l) (upd H l (.lst ys))) fList := by
  intro I H ds z vs Q s r e k
  unfold fList at e
  split at e
  · obtain ⟨v, rfl, h⟩ := r.one
    cases e
    simp only [Rp] at h
    obtain ⟨a, xs, rfl, h1, h2⟩ := h
    exact ⟨_, _, rfl, .inl (.of (s _ _ h1)), fun p hp => k _ _ _ (.new p _ hp) (rp_lst s hp h2)⟩
  · obtain ⟨v, rfl, h⟩ := r.one
    cases e
    simp only [Rp] at h
    obtain ⟨a, xs, rfl, h1, h2⟩ := h
    exact ⟨_, _, rfl, .inl (ex_l s h1), fun p hp => k _ _ _ (.new p _ hp) (rp_lst s hp h2)⟩
  · obtain ⟨v, rfl, h⟩ := r.one
    cases e
    simp only [Rp] at h
    obtain ⟨a, xs, rfl, h1, h2⟩ := h
    exact ⟨_, _, rfl, .inr (ex_t s h1), fun p hp => k _ _ _ (.new p _ hp) (rp_lst s hp h2)⟩
  · cases e
def boolsD : List D → Option (List Bool)
  | [] => some []
  | .bool b :: r => (boolsD r).map (b :: ·)
  | _ => none
theorem bools_v {I : Hp} : ∀ {ds : List D} {bs : List Bool} {xs : List V}, boolsD ds = some bs → RpL K mg I ds xs → xs = bs.map V.bl
  | [], bs, xs, h, r => by cases h; simp only [RpL] at r; exact r
  | .bool b :: ds, bs, xs, h, r => by
    simp only [RpL] at r
    obtain ⟨x, t, rfl, h1, h2⟩ := r
    obtain ⟨cs, h3, rfl⟩ := Option.map_eq_some_iff.mp (show (boolsD ds).map (b :: ·) = some bs from h)
    simp only [Rp] at h1
    rw [h1, bools_v h3 h2]
    rfl
  | .none :: _, _, _, h, _ => by cases h
  | .int _ :: _, _, _, h, _ => by cases h
  | .str _ :: _, _, _, h, _ => by cases h
  | .lst _ :: _, _, _, h, _ => by cases h
  | .fl _ :: _, _, _, h, _ => by cases h
  | .tup _ :: _, _, _, h, _ => by cases h
  | .dict _ :: _, _, _, h, _ => by cases h
  | .inst _ _ :: _, _, _, h, _ => by cases h
def fAll : List D → Option D
  | [.lst ds] => (boolsD ds).map fun bs => .bool (bs.all id)
  | _ => none
def fAny : List D → Option D
  | [.lst ds] => (boolsD ds).map fun bs => .bool (bs.any id)
  | _ => none
theorem cd_all : CallD K mg (rAll K) fAll := by
  intro I H ds z vs Q s r e k
  unfold fAll at e
  split at e
  · obtain ⟨v, rfl, h⟩ := r.one
    obtain ⟨bs, h3, rfl⟩ := Option.map_eq_some_iff.mp e
    simp only [Rp] at h
    obtain ⟨a, xs, rfl, h1, h2⟩ := h
    exact ⟨a, bs, rfl, by rw [← bools_v h3 h2]; exact .of (s _ _ h1), k _ I H .same rp_bool⟩
  · cases e
theorem cd_any : CallD K mg (rAny K) fAny := by
  intro I H ds z vs Q s r e k
  unfold fAny at e
  split at e
  · obtain ⟨v, rfl, h⟩ := r.one
    obtain ⟨bs, h3, rfl⟩ := Option.map_eq_some_iff.mp e
    simp only [Rp] at h
    obtain ⟨a, xs, rfl, h1, h2⟩ := h
    exact ⟨a, bs, rfl, by rw [← bools_v h3 h2]; exact .of (s _ _ h1), k _ I H .same rp_bool⟩
  · cases e
/-- isinstance(x, T), T a built-in type -/
def tyD : D → Option String
  | .none => some "NoneType"
  | .bool _ => some "bool"
  | .int _ => some "int"
  | .str _ => some "str"
  | .lst _ => some "list"
  | .tup _ => some "tuple"
  | .dict _ => some "dict"
  | _ => none
def isiT (a b : String) : Bool := a == b || (a == "bool" && b == "int")
def tyNames : List String := ["NoneType", "bool", "int", "str", "list", "tuple", "dict"]
theorem kit_all : (tyNames.all fun a => tyNames.all fun b => b == "NoneType" || decide (kitB a b = some (isiT a b))) = true := by decide +kernel
theorem kit_isi {a b : String} (ha : a ∈ tyNames) (hb : b ∈ tyNames) (h : b ≠ "NoneType") : kitB a b = some (isiT a b) := by
  have := List.all_eq_true.mp (List.all_eq_true.mp kit_all a ha) b hb
  rw [Bool.or_eq_true] at this
  rcases this with q | q
  · exact absurd (eq_of_beq q) h
  · exact of_decide_eq_true q
theorem ty_v {I H : Hp} {d : D} {v : V} {T : String} (s : Ex I H) (h : Rp K mg I d v) (e : tyD d = some T) : TyX K H v (.type T) ∧ T ∈ tyNames := by
  cases d with
  | none => simp only [Rp] at h; subst h; cases e; exact ⟨.base .non, by decide⟩
  | bool b => simp only [Rp] at h; subst h; cases e; exact ⟨.base (.bl b), by decide⟩
  | int b => simp only [Rp] at h; subst h; cases e; exact ⟨.base (.int b), by decide⟩
  | str b => simp only [Rp] at h; subst h; cases e; exact ⟨.base (.str b), by decide⟩
  | lst b => simp only [Rp] at h; obtain ⟨a, _, rfl, h1, _⟩ := h; cases e; exact ⟨.base (.lst (s _ _ h1)), by decide⟩
  | tup b =>
    simp only [Rp] at h; obtain ⟨a, _, rfl, h1, _⟩ := h; cases e
    refine ⟨?_, by decide⟩
    rcases h1 with (h1 | ⟨o, h1⟩) | ⟨o, its, n, h1, h2, _⟩
    · exact .base (.tup (s _ _ h1))
    · exact .fTuple (s _ _ h1)
    · exact .kTuple h1 h2
  | dict b => simp only [Rp] at h; obtain ⟨a, _, rfl, h1, _⟩ := h; cases e; exact ⟨.base (.dK (s _ _ h1)), by decide⟩
  | _ => cases e
end
def dIsi (T : String) (d : D) : Option D := (tyD d).map fun U => .bool (isiT U T)
theorem se_isi {X : Cx} {a : Expr} {m : M D} {p p2 pos : Pos} {x : Str} {T : String} (hT : T ∈ tyNames) (hT2 : T ≠ "NoneType") (hg : Gl X "isinstance") (hm : X.mg "isinstance" = none) (hg2 : Gl X x) (hm2 : X.mg x = none) (hv2 : bootBuiltins x = some (.type T)) (ha : SE X a m)
    (hn2 : x ≠ "__name__" := by decide) (hd2 : (x == ("__debug__" : Str)) = false := by decide)
    (hs : starEach [a, .Name x p2] X.env = (false, eval a X.env) :: starEach [.Name x p2] X.env := by rfl) (hs2 : starEach [.Name x p2] X.env = (false, eval (.Name x p2) X.env) :: starEach [] X.env := by rfl) (hpl : (backTo pos (starEach [.Name x p2] X.env)).any (·.1) = false := by rfl) (hv : bootBuiltins "isinstance" = some (.builtin "isinstance") := by rfl) :
    SE X (.Call (.Name "isinstance" p) [a, .Name x p2] [] pos) (mUn (dIsi T) m) := by
  refine PE.imp (pe_callB (call_isi) hg hm hv (pa_cons ha (pa_cons (pe_bltn (v := .ty T) hg2 hm2 hv2 rfl hn2 hd2) pa_nil hs2) hs) (by decide) (by decide) hs hpl) fun σ H Q ⟨I, e, Fs, R, d', e', hm, k⟩ => ?_
  obtain ⟨⟨d, e1⟩, h1, hm⟩ := Option.bind_eq_some_iff.mp hm
  obtain ⟨z, h3, hm⟩ := Option.map_eq_some_iff.mp hm
  cases hm
  obtain ⟨U, h4, rfl⟩ := Option.map_eq_some_iff.mp h3
  refine ⟨I, e, Fs, R, d, e1, h1, fun v I1 F1 H1 R1 x1 r1 => ?_⟩
  obtain ⟨t1, t2⟩ := ty_v R1.sub r1 h4
  exact ⟨v, .ty T, _, _, _, rfl, .ty T, t1, kit_ty (kit_isi t2 hT hT2), k _ I1 F1 H1 R1 x1 rp_bool⟩
end MV

namespace MV
open PySem L2

/-! ### owned lists -/
section
variable {K : PySem.W.Frag} {mg : Str → Option Value} {I H : Hp}
theorem RoL.get : ∀ {ws : List W} {xs : List V} {F : List Addr} {j : Nat} {w : W}, RoL K mg I H ws xs F → ws[j]? = some w → ∃ x F1, xs[j]? = some x ∧ Ro K mg I H w x F1 ∧ ∀ a ∈ F1, a ∈ F
  | [], xs, F, j, w, h, e => by simp at e
  | u :: ws, xs, F, 0, w, h, e => by
    simp only [RoL] at h
    obtain ⟨x, r, F1, F2, rfl, rfl, h1, h2⟩ := h
    simp at e
    subst e
    exact ⟨x, F1, rfl, h1, fun a ha => by simp [ha]⟩
  | u :: ws, xs, F, j + 1, w, h, e => by
    simp only [RoL] at h
    obtain ⟨x, r, F1, F2, rfl, rfl, h1, h2⟩ := h
    simp at e
    obtain ⟨y, G, h3, h4, h5⟩ := RoL.get h2 e
    exact ⟨y, G, by simpa using h3, h4, fun a ha => by simp [h5 a ha]⟩
theorem RoL.len : ∀ {ws : List W} {xs : List V} {F : List Addr}, RoL K mg I H ws xs F → ws.length = xs.length
  | [], xs, F, h => by simp only [RoL] at h; rw [h.1]; rfl
  | u :: ws, xs, F, h => by
    simp only [RoL] at h
    obtain ⟨x, r, F1, F2, rfl, rfl, h1, h2⟩ := h
    rw [List.length_cons, List.length_cons, RoL.len h2]
theorem RoL.setP {d : D} {v : V} (hd : Rp K mg I d v) : ∀ {ws : List W} {xs : List V} {F : List Addr} (j : Nat), RoL K mg I H ws xs F → ∃ F', RoL K mg I H (ws.set j (.p d)) (xs.set j v) F' ∧ F'.Sublist F
  | [], xs, F, j, h => by
    simp only [RoL] at h
    obtain ⟨rfl, rfl⟩ := h
    exact ⟨[], by simp [RoL], List.Sublist.refl _⟩
  | u :: ws, xs, F, 0, h => by
    simp only [RoL] at h
    obtain ⟨x, r, F1, F2, rfl, rfl, h1, h2⟩ := h
    refine ⟨F2, ?_, List.sublist_append_right _ _⟩
    show RoL K mg I H (W.p d :: ws) (v :: r) F2
    simp only [RoL]
    exact ⟨v, r, [], F2, rfl, rfl, by simp only [Ro]; exact ⟨hd, trivial⟩, h2⟩
  | u :: ws, xs, F, j + 1, h => by
    simp only [RoL] at h
    obtain ⟨x, r, F1, F2, rfl, rfl, h1, h2⟩ := h
    obtain ⟨G, h3, h4⟩ := RoL.setP hd j h2
    refine ⟨F1 ++ G, ?_, List.Sublist.append (List.Sublist.refl _) h4⟩
    show RoL K mg I H (u :: ws.set j (.p d)) (x :: r.set j v) (F1 ++ G)
    simp only [RoL]
    exact ⟨x, _, F1, G, rfl, rfl, h1, h3⟩
theorem RoL.ofP : ∀ {ds : List D} {xs : List V}, RpL K mg I ds xs → RoL K mg I H (ds.map .p) xs []
  | [], xs, h => by simp only [RpL] at h; subst h; simp [RoL]
  | d :: ds, xs, h => by
    simp only [RpL] at h
    obtain ⟨x, r, rfl, h1, h2⟩ := h
    show RoL K mg I H (.p d :: ds.map .p) (x :: r) []
    simp only [RoL]
    exact ⟨x, r, [], [], rfl, rfl, by simp only [Ro]; exact ⟨h1, trivial⟩, RoL.ofP h2⟩
end
/-- [a, ..], a list of one's own -/
def mOl (ma : M (List Arg)) : M W := fun e => (ma e).bind fun x => (allD x.1).bind fun ds => if ds.length ≤ LIM then some (.ol (ds.map .p), x.2) else none
/-- x[i], x a list of one's own in slot k -/
def mIxO (k : Nat) (m : M D) : M D := fun e => match e[k]? with
  | some (some _) => (m e).bind fun x => match x.1, x.2[k]? with
    | .int i, some (some (.ol ws)) => match atI ws i with
      | some (.p d) => some (d, x.2)
      | _ => none
    | _, _ => none
  | _ => none
/-- x[i] = v -/
def sSetIx (k : Nat) (mi mv : M D) : S := fun e => (mv e).bind fun y => match y.2[k]? with
  | some (some _) => (mi y.2).bind fun x => match x.1, x.2[k]? with
    | .int i, some (some (.ol ws)) => (ixN ws.length i).map fun j => .nx (x.2.set k (some (.ol (ws.set j (.p y.1)))))
    | _, _ => none
  | _ => none
section
variable {X : Cx} {A : Nat → Bool} {a b : Expr} {es : List Expr} {ma : M (List Arg)} {mi mv : M D} {k : Nat} {x : Str} {pos p tpos : Pos}
theorem so_lst (h : SA X es ma) : SO X (.List es pos) (mOl ma) := PE.imp (pe_lst h) fun σ H Q ⟨I, e, Fs, R, w, e', hm, kk⟩ => by
  obtain ⟨⟨as, e1⟩, h1, hm⟩ := Option.bind_eq_some_iff.mp hm
  obtain ⟨ds, h2, hm⟩ := Option.bind_eq_some_iff.mp hm
  have hm : (if ds.length ≤ LIM then some (W.ol (ds.map .p), e1) else none) = some (w, e') := hm
  split at hm
  · rename_i hz
    cases hm
    refine ⟨I, e, Fs, R, as, _, h1, fun vs I1 F1 H1 R1 x1 r1 => ?_⟩
    have r := allD_rp h2 r1
    refine ⟨by rw [← r.length]; exact lim_le hz, fun q hq => ?_⟩
    have R2 := R1.loose (o := .lst vs) hq
    have hI : I1 q = none := sub_none R1.sub hq
    have dq : ∀ i, q ∉ F1 i := fun i hi => R1.live i q hi hq
    have hH : MF Fs q ∨ H q = none := by
      cases e0 : H q with
      | none => exact .inr rfl
      | some u =>
        by_cases mm : MF Fs q
        · exact .inl mm
        · rw [x1.g.fr q u e0 mm] at hq; cases hq
    refine kk (.ref q) I1 F1 _ [q] R2 ⟨⟨x1.g.ex, fun c u q' mm => Ex.new hq c u (x1.g.fr c u q' mm), x1.g.new⟩, x1.fp⟩ ⟨?_, by simp, fun c hc => ?_, fun c hc ⟨i, hi⟩ => ?_⟩ fun c hc => ?_
    · simp only [Ro]
      exact ⟨q, vs, [], rfl, upd_same, rfl, RoL.ofP r⟩
    · rw [List.mem_singleton.mp hc]; exact hI
    · rw [List.mem_singleton.mp hc] at hi; exact dq i hi
    · rw [List.mem_singleton.mp hc]; exact hH
  · cases hm
theorem se_ixO (hx : PE X (.Name x p) (tVar k)) (hi : SE X b mi) (hs : PlainIx b) : SE X (.Subscript (.Name x p) b pos) (mIxO k mi) := PE.imp (pe_ix ix_list hx hi hs) fun σ H Q ⟨I, e, Fs, R, d, e', hm, kk⟩ => by
  unfold mIxO at hm
  split at hm
  · rename_i w0 hw
    obtain ⟨⟨y, e1⟩, h1, hm⟩ := Option.bind_eq_some_iff.mp hm
    obtain ⟨v0, hv0, _⟩ := R.at_ k _ hw
    refine ⟨v0, hv0, I, e, Fs, R, y, e1, h1, fun u I1 F1 H1 R1 x1 r1 => ?_⟩
    split at hm
    · rename_i i ws h2 h3
      obtain ⟨v1, hv1, ro⟩ := R1.at_ k _ h3
      rw [hv0] at hv1
      cases hv1
      simp only [Ro] at ro
      obtain ⟨l, xs, G, rfl, g1, g2, g3⟩ := ro
      split at hm
      · rename_i d' hd
        cases hm
        have h2' : y = .int i := h2
        subst h2'
        simp only [Rp] at r1
        subst r1
        unfold atI at hd
        obtain ⟨j, h4, h5⟩ := Option.bind_eq_some_iff.mp hd
        obtain ⟨z, F2, h6, h7, _⟩ := g3.get h5
        simp only [Ro] at h7
        exact ⟨l, xs, i, z, rfl, rfl, .of g1, by unfold atI; rw [← g3.len, h4]; exact h6, kk z I1 F1 H1 R1 x1 h7.1⟩
      · cases hm
    · cases hm
  · cases hm
theorem ss_setIx (hv : SE X a mv) (hx : PE X (.Name x p) (tVar k)) (hi : SE X b mi) (hs : swapsWithSole [.Subscript (.Name x p) b tpos] a pos.line X.env = pure false := by rfl) (hw : swappedStores [.Subscript (.Name x p) b tpos] a X.env = pure none := by rfl)
    (h1 : (assignEach [.Subscript (.Name x p) b tpos] X.env).map (·.2) = [assign (.Subscript (.Name x p) b tpos) X.env] := by rfl)
    (ha : ∀ v, assign (.Subscript (.Name x p) b tpos) X.env v = (do
      let ov ← holding [v] (eval (.Name x p) X.env)
      let iv ← holding [v, ov] (eval b X.env)
      standAt tpos
      holding [v, ov, iv] (setItem ov iv v)
      release [v, ov, iv] []) := by intro _; rfl) : SS X A (.Assign [.Subscript (.Name x p) b tpos] a pos) (sSetIx k mi mv) := PS.imp (ps_asg hv (pg_sub hx hi set_list ha) hs hw h1) fun Dd σ H ⟨I, e, Fs, R, r, hm, kk⟩ => by
  obtain ⟨⟨d, e1⟩, h1, hm⟩ := Option.bind_eq_some_iff.mp hm
  refine ⟨I, e, Fs, R, d, e1, h1, fun v I1 F1 H1 R1 x1 r1 => ?_⟩
  split at hm
  · rename_i w0 hw0
    obtain ⟨⟨y, e2⟩, h2, hm⟩ := Option.bind_eq_some_iff.mp hm
    obtain ⟨v0, hv0, _⟩ := R1.at_ k _ hw0
    refine ⟨v0, hv0, I1, e1, F1, R1, y, e2, h2, fun u I2 F2 H2 R2 x2 r2 => ?_⟩
    split at hm
    · rename_i i ws h3 h4
      obtain ⟨j, h5, hm⟩ := Option.map_eq_some_iff.mp hm
      cases hm
      obtain ⟨v1, hv1, ro⟩ := R2.at_ k _ h4
      rw [hv0] at hv1
      cases hv1
      simp only [Ro] at ro
      obtain ⟨l, xs, G, rfl, g1, g2, g3⟩ := ro
      have h3' : y = .int i := h3
      subst h3'
      simp only [Rp] at r2
      subst r2
      have nd := R2.nd k
      rw [g2, List.nodup_cons] at nd
      refine ⟨l, xs, i, j, rfl, rfl, g1, by rw [← g3.len]; exact h5, ?_⟩
      -- the state without the list, then with the new one
      have Rd := R2.drop (i := k)
      have hl : MF F2 l := ⟨k, by rw [g2]; simp⟩
      have hIl : I2 l = none := R2.out k l (by rw [g2]; simp)
      have hFl : ¬ MF (putF F2 k []) l := fun ⟨i', hi'⟩ => by
        by_cases z : i' = k
        · subst z; rw [putF_same] at hi'; cases hi'
        · rw [putF_ne z] at hi'; exact z (R2.dj i' k l hi' (by rw [g2]; simp))
      have R3 := Rd.loose2 (o := .lst (xs.set j v)) hIl hFl
      obtain ⟨G', g4, g5⟩ := RoL.setP (r1.mono x2.g.ex _ _) j g3
      have fr : ∀ c ∈ G', ∀ o, H2 c = some o → upd H2 l (.lst (xs.set j v)) c = some o := fun c hc o ho => by
        rw [upd_ne (fun z => by subst z; exact nd.1 (g5.subset hc))]
        exact ho
      have ow : Own X.K X.mg I2 (upd H2 l (.lst (xs.set j v))) (putF F2 k []) (.ol (ws.set j (.p d))) (.ref l) (l :: G') := by
        refine ⟨?_, List.nodup_cons.mpr ⟨fun hc => nd.1 (g5.subset hc), nd.2.sublist g5⟩, fun c hc => ?_, fun c hc => ?_⟩
        · simp only [Ro]
          exact ⟨l, _, G', rfl, upd_same, rfl, g4.frame (Ex.refl _) _ _ _ fr⟩
        · rcases List.mem_cons.mp hc with rfl | hc
          · exact hIl
          · exact R2.out k c (by rw [g2]; exact List.mem_cons_of_mem _ (g5.subset hc))
        · rcases List.mem_cons.mp hc with rfl | hc
          · exact hFl
          · intro ⟨i', hi'⟩
            by_cases z : i' = k
            · subst z; rw [putF_same] at hi'; cases hi'
            · rw [putF_ne z] at hi'; exact z (R2.dj i' k c hi' (by rw [g2]; exact List.mem_cons_of_mem _ (g5.subset hc)))
      have R4 := R3.put (i := k) ow
      have es : σ.set k (some (.ref l)) = σ := by
        obtain ⟨hlt, e0⟩ := List.getElem?_eq_some_iff.mp hv0
        exact List.ext_getElem? fun j' => by
          by_cases z : k = j'
          · subst z; rw [List.getElem?_set_self hlt, hv0]
          · rw [List.getElem?_set_ne z]
      have ee : (e2.set k none).set k (some (.ol (ws.set j (.p d)))) = e2.set k (some (.ol (ws.set j (.p d)))) := List.set_set ..
      rw [es, ee] at R4
      have xx : Ext F1 I1 H1 (putF (putF F2 k []) k (l :: G')) I2 (upd H2 l (.lst (xs.set j v))) := by
        have keep : ∀ c, MF F2 c → MF F1 c ∨ H1 c = none := x2.fp
        refine ⟨⟨x2.g.ex, fun c u hc mm => ?_, x2.g.new⟩, fun c hc => ?_⟩
        · rw [upd_ne (fun z => by
            subst z
            rcases keep c hl with q | q
            · exact mm q
            · rw [hc] at q; cases q)]
          exact x2.g.fr c u hc mm
        · rcases hc.put with q | q
          · refine keep c ⟨k, ?_⟩
            rw [g2]
            rcases List.mem_cons.mp q with rfl | q
            · simp
            · exact List.mem_cons_of_mem _ (g5.subset q)
          · exact keep c q.nil
      exact kk σ I2 _ _ R4 (x1.trans xx) Agr.refl
    · cases hm
  · cases hm
end

/-! ### "".join -/
def strsD : List D → Option (List Str)
  | [] => some []
  | .str b :: r => (strsD r).map (b :: ·)
  | _ => none
theorem strs_v {K : PySem.W.Frag} {mg : Str → Option Value} {I : Hp} : ∀ {ds : List D} {bs : List Str} {xs : List V}, strsD ds = some bs → RpL K mg I ds xs → xs = bs.map V.str
  | [], bs, xs, h, r => by cases h; simp only [RpL] at r; exact r
  | .str b :: ds, bs, xs, h, r => by
    simp only [RpL] at r
    obtain ⟨x, t, rfl, h1, h2⟩ := r
    obtain ⟨cs, h3, rfl⟩ := Option.map_eq_some_iff.mp (show (strsD ds).map (b :: ·) = some bs from h)
    simp only [Rp] at h1
    rw [h1, strs_v h3 h2]
    rfl
  | .none :: _, _, _, h, _ => by cases h
  | .int _ :: _, _, _, h, _ => by cases h
  | .bool _ :: _, _, _, h, _ => by cases h
  | .lst _ :: _, _, _, h, _ => by cases h
  | .fl _ :: _, _, _, h, _ => by cases h
  | .tup _ :: _, _, _, h, _ => by cases h
  | .dict _ :: _, _, _, h, _ => by cases h
  | .inst _ _ :: _, _, _, h, _ => by cases h
def joinD : D → D → Option D
  | .str a, .lst ds => (strsD ds).bind fun ys => if (ys.map (·.length)).sum + ys.length * a.length ≤ LIM then some (.str (Txt.join a ys)) else none
  | .str a, .tup ds => (strsD ds).bind fun ys => if (ys.map (·.length)).sum + ys.length * a.length ≤ LIM then some (.str (Txt.join a ys)) else none
  | _, _ => none
def mOp2 (f : D → D → Option D) (a : M D) (ma : M (List Arg)) : M D := fun e => (a e).bind fun x => (ma x.2).bind fun y => match allD y.1 with
  | some [d] => (f x.1 d).map fun z => (z, y.2)
  | _ => none
theorem se_join {X : Cx} {o b : Expr} {mo : M D} {ma : M (List Arg)} {apos pos : Pos} (ho : SE X o mo) (hb : SA X [b] ma) (hbase : attributeBase o "join" X.env (eval o X.env) = eval o X.env := by rfl)
    (hfew : ((backTo pos (starEach [b] X.env)).all (fun x => !x.1) && (backToKw pos (keywordEach [] X.env)).all (fun x => x.1.isSome)
      && decide ([b].length + ([] : List Keyword).length + (if ([] : List Keyword).isEmpty then 0 else 1) < 30)) = true := by rfl)
    (hline : (apos.endLine == pos.line) = true := by rfl) (hs : starEach [b] X.env = (false, eval b X.env) :: starEach [] X.env := by rfl) (hplain : (backTo pos (starEach [] X.env)).any (·.1) = false := by rfl) :
    SE X (.Call (.Attribute o "join" apos) [b] [] pos) (mOp2 joinD mo ma) := by
  refine PE.imp (pe_bm PySem.F.plainAttrs_str PySem.F.slot_str_join PySem.F.type_str_join mt_join ho hb hbase hfew hline hs hplain) fun σ H Q ⟨I, e, Fs, R, d, e', hm, kk⟩ => ?_
  obtain ⟨⟨x, e1⟩, h1, hm⟩ := Option.bind_eq_some_iff.mp hm
  obtain ⟨⟨as, e2⟩, h2, hm⟩ := Option.bind_eq_some_iff.mp hm
  refine ⟨I, e, Fs, R, x, e1, h1, fun v I1 F1 H1 R1 x1 r1 => ?_⟩
  split at hm
  · rename_i d0 hd0
    obtain ⟨z, h3, hm⟩ := Option.map_eq_some_iff.mp hm
    cases hm
    have isS : ∃ a, x = .str a := by
      cases x with
      | str a => exact ⟨a, rfl⟩
      | _ => cases h3
    obtain ⟨a, rfl⟩ := isS
    simp only [Rp] at r1
    subst r1
    refine ⟨rfl, I1, e1, F1, R1, as, e2, h2, fun vs I2 F2 H2 R2 x2 r2 => ?_⟩
    obtain ⟨u, rfl, r3⟩ := (allD_rp hd0 r2).one
    cases d0 with
    | lst ds =>
      obtain ⟨ys, h4, h5⟩ := Option.bind_eq_some_iff.mp h3
      have h5 : (if (ys.map (·.length)).sum + ys.length * a.length ≤ LIM then some (D.str (Txt.join a ys)) else none) = some d := h5
      split at h5
      · rename_i hz
        cases h5
        simp only [Rp] at r3
        obtain ⟨l, xs, rfl, g1, g2⟩ := r3
        exact ⟨a, l, ys, rfl, rfl, .inl (by rw [← strs_v h4 g2]; exact .of (R2.sub _ _ g1)), by unfold LIM at hz; omega, kk _ I2 F2 H2 R2 (x1.trans x2) rp_str⟩
      · cases h5
    | tup ds =>
      obtain ⟨ys, h4, h5⟩ := Option.bind_eq_some_iff.mp h3
      have h5 : (if (ys.map (·.length)).sum + ys.length * a.length ≤ LIM then some (D.str (Txt.join a ys)) else none) = some d := h5
      split at h5
      · rename_i hz
        cases h5
        simp only [Rp] at r3
        obtain ⟨l, xs, rfl, g1, g2⟩ := r3
        exact ⟨a, l, ys, rfl, rfl, .inr (by rw [← strs_v h4 g2]; exact ex_t R2.sub g1), by unfold LIM at hz; omega, kk _ I2 F2 H2 R2 (x1.trans x2) rp_str⟩
      · cases h5
    | _ => cases h3
  · cases hm

/-! ### keywords alone -/
def tKw (K : PySem.W.Frag) (mg : Str → Option Value) (m : M (List Arg)) : TA := tAr K mg m
def SK (X : Cx) (kws : List Keyword) (m : M (List Arg)) : Prop := PK X kws (tAr X.K X.mg m)
theorem PK.imp {X : Cx} {a : List Keyword} {t t' : TA} (h : PK X a t) (i : ∀ σ H Q, t' σ H Q → t σ H Q) : PK X a t' := ⟨fun pos pins s σ H Q I hq => h.run pos pins s σ H Q I (i σ H Q hq)⟩
section
variable {X : Cx} {a : Expr} {kws : List Keyword} {pos kpos p : Pos} {nm : Option Str}
theorem sk_nil : SK X [] aNil := PK.imp pk_nil fun σ H Q ⟨I, e, Fs, R, as, e', hm, k⟩ => by
  cases hm
  exact k [] I Fs H R Ext.refl rfl
theorem sk_d {m : M D} {r : M (List Arg)} (h : SE X a m) (hr : SK X kws r) : SK X (⟨nm, a, kpos⟩ :: kws) (aD m r) := PK.imp (pk_cons h hr) fun σ H Q ⟨I, e, Fs, R, as, e', hm, k⟩ => by
  obtain ⟨⟨x, e1⟩, h1, hm⟩ := Option.bind_eq_some_iff.mp hm
  obtain ⟨⟨y, e2⟩, h2, hm⟩ := Option.map_eq_some_iff.mp hm
  cases hm
  refine ⟨I, e, Fs, R, x, e1, h1, fun v I1 F1 H1 R1 x1 r1 => ⟨I1, e1, F1, R1, y, e2, h2, fun vs I2 F2 H2 R2 x2 r2 => ?_⟩⟩
  exact k (v :: vs) I2 F2 H2 R2 (x1.trans x2) ⟨v, vs, rfl, r1.mono x2.g.ex _ _, r2⟩
/-- f(k = v, ..), every parameter by name; perm puts the values in the parameters' order -/
theorem so_callK0 {k : Nat} {f : Addr} {fd : FuncData} {ps ks : List Str} {n : Nat} {g : FSem} {x : Str} {ma : M (List Arg)} (F : FnOk X.prog X.w X.K X.mg X.base CX0 k f fd ps (spF X.K X.mg n g)) (hr : Room k X.A) (hg : Gl X x) (hm : X.mg x = some (.ref f)) (hk : PySem.W.keepIn X.K (.ref f) = true)
    (hb : ∀ (s : Shared) (ws : List Value), X.K.In s.heap → ws.length = ps.length → BindsTo s fd ⟨[], ks.zip ws⟩ (ps.zip ws))
    (hkw : SK X kws ma) (hn : ∀ as e e', ma e = some (as, e') → as.length = n) (hall : (backToKw pos (keywordEach kws X.env)).all (·.1.isSome) = true := by rfl) (hks : (backToKw pos (keywordEach kws X.env)).filterMap (·.1) = ks := by rfl)
    (hdb : (x == ("__debug__" : Str)) = false := by decide) (hplain : ((backTo pos (starEach [] X.env)).any (·.1) || (backToKw pos (keywordEach kws X.env)).any (·.1.isNone)) = false := by rfl) :
    SO X (.Call (.Name x p) [] kws pos) (mCall g ma) := by
  refine ⟨fun pins s σ H Q I h => ?_⟩
  have h := call_step (E := E0) hn h
  refine wpAny_Call_Name_kw (ld_glob I hg hm ?_ hdb)
  refine PySem.W.callWith_KW0 (h₀ := X.base) I.ok.mod.kin hk hall (thn (hkw.run pos pins s σ H _ I h) fun ws s2 ⟨zs, H2, I2, rz, q2⟩ => ⟨I2.kIn, ?_⟩) hplain
  rw [hks]
  have hl := F.len _ _ _ _ q2
  refine wpAny_call (codeAny_mono (F.run X.A X.stack s2 H2 ⟨[], ks.zip ws⟩ ws zs Q E0 hr I2.env0 (hb s2 ws I2.kIn (by rw [← rz.length]; exact hl)) rz q2) fun r s' hq => ?_)
  cases r with
  | error e => exact False.elim hq
  | ok fl =>
    cases fl with
    | ret u => exact I2.after hq
    | next => exact False.elim hq
    | brk => exact False.elim hq
    | cont => exact False.elim hq
end
end MV

namespace MV
open PySem L2

/-! ### a def of the module, by its name -/
def Fn (P : Program) (w : World) (K : PySem.W.Frag) (mg : Str → Option Value) (base : Heap) (k : Nat) (x : Str) (ps : List Str) (g : FSem) : Prop :=
  ∃ f fd, mg x = some (.ref f) ∧ PySem.W.keepIn K (.ref f) = true ∧ Binds K fd ps [] ∧ FnOk P w K mg base CX0 k f fd ps (spF K mg ps.length g)
/-- .. by its keywords ks, in the order ix -/
def FnK (P : Program) (w : World) (K : PySem.W.Frag) (mg : Str → Option Value) (base : Heap) (k : Nat) (x : Str) (ps ks : List Str) (ix : List Nat) (g : FSem) : Prop :=
  ∃ f fd, mg x = some (.ref f) ∧ PySem.W.keepIn K (.ref f) = true ∧ (∀ (s : Shared) (ws : List Value), ws.length = ks.length → BindsTo s fd ⟨[], ks.zip ws⟩ (ps.zip (ix.filterMap (ws[·]?)))) ∧ FnOk P w K mg base CX0 k f fd ps (spF K mg ps.length g)
theorem fn_none {P : Program} {w : World} {K : PySem.W.Frag} {mg : Str → Option Value} {base : Heap} {k : Nat} {f : Addr} {fd : FuncData} {ps : List Str} : FnOk P w K mg base CX0 k f fd ps (spF K mg ps.length fun _ => none) :=
  ⟨fun vs H Q E h => spF_len h, fun A outer s H args us vs Q E _ _ _ _ ⟨I, ws, Fa, _, _, w, oe, h, _⟩ => by cases h⟩
section
variable {P : Program} {w : World} {K : PySem.W.Frag} {mg : Str → Option Value} {base : Heap}
theorem FunD.kb {x qual : Str} {params : Arguments} {body : List Stmt} {scope : Scope} {kws : List (Str × V)} {f : Addr} {fd : FuncData} {ps ks : List Str} {ix : List Nat} (F : FunD K x qual params body scope [] kws f fd)
    (h : ∀ (kV doc pm : Value) (an : Option Addr) (cdv ct : Value) (ws : List Value), ws.length = ks.length → bindArgs (PySem.W.fnOf x qual params body scope .none kV doc pm an cdv ct) ⟨[], ks.zip ws⟩ = pure (ps.zip (ix.filterMap (ws[·]?)))) :
    ∀ (s : Shared) (ws : List Value), ws.length = ks.length → BindsTo s fd ⟨[], ks.zip ws⟩ (ps.zip (ix.filterMap (ws[·]?))) := by
  obtain ⟨oc, od, dV, kV, doc, pm, an, cdv, ct, osl, rfl, lk, hcd, hD, hK⟩ := F.ex
  rcases hD with ⟨_, rfl⟩ | ⟨e, _⟩
  · exact fun s ws hl => .of_eq (h kV doc pm an cdv ct ws hl)
  · exact absurd rfl e
end
def aPerm (ix : List Nat) (m : M (List Arg)) : M (List Arg) := fun e => (m e).map fun x => (ix.filterMap (x.1[·]?), x.2)
theorem ArgR.get {K : PySem.W.Frag} {mg : Str → Option Value} {I : Hp} {σ : L2.St} : ∀ {as : List Arg} {vs : List V} (i : Nat), ArgR K mg I σ as vs → (∃ a v, as[i]? = some a ∧ vs[i]? = some v ∧ ArgR K mg I σ [a] [v]) ∨ (as[i]? = none ∧ vs[i]? = none)
  | [], vs, i, h => by simp only [ArgR] at h; subst h; right; simp
  | a :: as, vs, i, h => by
    have hh : ∃ v t, vs = v :: t ∧ ArgR K mg I σ [a] [v] ∧ ArgR K mg I σ as t := by
      cases a with
      | d d => obtain ⟨v, t, e, h1, h2⟩ := h; exact ⟨v, t, e, ⟨v, [], rfl, h1, rfl⟩, h2⟩
      | io j => obtain ⟨v, t, e, h1, h2⟩ := h; exact ⟨v, t, e, ⟨v, [], rfl, h1, rfl⟩, h2⟩
    obtain ⟨v, t, rfl, h1, h2⟩ := hh
    cases i with
    | zero => exact .inl ⟨a, v, rfl, rfl, h1⟩
    | succ i => simpa using ArgR.get i h2
theorem ArgR.app {K : PySem.W.Frag} {mg : Str → Option Value} {I : Hp} {σ : L2.St} {a : Arg} {v : V} {as : List Arg} {vs : List V} (h : ArgR K mg I σ [a] [v]) (t : ArgR K mg I σ as vs) : ArgR K mg I σ (a :: as) (v :: vs) := by
  cases a with
  | d d => obtain ⟨v', t', e, h1, h2⟩ := h; cases e; exact ⟨_, _, rfl, h1, t⟩
  | io j => obtain ⟨v', t', e, h1, h2⟩ := h; cases e; exact ⟨_, _, rfl, h1, t⟩
theorem ArgR.perm {K : PySem.W.Frag} {mg : Str → Option Value} {I : Hp} {σ : L2.St} {as : List Arg} {vs : List V} (h : ArgR K mg I σ as vs) : ∀ ix : List Nat, ArgR K mg I σ (ix.filterMap (as[·]?)) (ix.filterMap (vs[·]?))
  | [] => rfl
  | i :: ix => by
    rw [List.filterMap_cons, List.filterMap_cons]
    rcases h.get i with ⟨a, v, e1, e2, q⟩ | ⟨e1, e2⟩
    · rw [e1, e2]; exact q.app (ArgR.perm h ix)
    · rw [e1, e2]; exact ArgR.perm h ix
theorem Vals.perm {xs : List V} {us : List Value} (h : Vals xs us) : ∀ ix : List Nat, Vals (ix.filterMap (xs[·]?)) (ix.filterMap (us[·]?))
  | [] => .nil
  | i :: ix => by
    rw [List.filterMap_cons, List.filterMap_cons]
    cases e : xs[i]? with
    | none => rw [h.none_of e]; exact Vals.perm h ix
    | some x =>
      obtain ⟨u, e2, r⟩ := h.get e
      rw [e2]
      exact .cons r (Vals.perm h ix)
theorem perm_run {K : PySem.W.Frag} {mg : Str → Option Value} {ix : List Nat} {ma : M (List Arg)} {σ : L2.St} {H : Hp} {Q : List V → Hp → Prop} (h : tAr K mg (aPerm ix ma) σ H Q) : tAr K mg ma σ H fun vs H1 => Q (ix.filterMap (vs[·]?)) H1 := by
  obtain ⟨I, e, Fs, R, as, e', hm, k⟩ := h
  obtain ⟨⟨as0, e1⟩, h1, hm⟩ := Option.map_eq_some_iff.mp hm
  cases hm
  exact ⟨I, e, Fs, R, as0, e1, h1, fun vs I' Fs' H' R' x r => k _ I' Fs' H' R' x (r.perm ix)⟩
section
variable {X : Cx} {k : Nat} {ps : List Str} {g : FSem} {x : Str} {p pos : Pos} {a : Expr} {es : List Expr} {ma : M (List Arg)}
theorem so_fn (F : Fn X.prog X.w X.K X.mg X.base k x ps g) (hr : Room k X.A) (hg : Gl X x) (ha : SA X (a :: es) ma) (hn : ∀ as e e', ma e = some (as, e') → as.length = ps.length)
    (hdb : (x == ("__debug__" : Str)) = false := by decide) (he : starEach (a :: es) X.env = (false, eval a X.env) :: starEach es X.env := by rfl) (hpl : (backTo pos (starEach es X.env)).any (·.1) = false := by rfl) :
    SO X (.Call (.Name x p) (a :: es) [] pos) (mCall g ma) := by
  obtain ⟨f, fd, h1, h2, h3, h4⟩ := F
  exact so_call h4 hr hg h1 h2 h3 ha hn hdb he hpl
theorem so_fnK {ks : List Str} {ix : List Nat} {kws : List Keyword} (F : FnK X.prog X.w X.K X.mg X.base k x ps ks ix g) (hr : Room k X.A) (hg : Gl X x)
    (hkw : SK X kws ma) (hn : ∀ as e e', aPerm ix ma e = some (as, e') → as.length = ps.length) (hn2 : ∀ as e e', ma e = some (as, e') → as.length = ks.length) (hall : (backToKw pos (keywordEach kws X.env)).all (·.1.isSome) = true := by rfl) (hks : (backToKw pos (keywordEach kws X.env)).filterMap (·.1) = ks := by rfl)
    (hdb : (x == ("__debug__" : Str)) = false := by decide) (hplain : ((backTo pos (starEach [] X.env)).any (·.1) || (backToKw pos (keywordEach kws X.env)).any (·.1.isNone)) = false := by rfl) :
    SO X (.Call (.Name x p) [] kws pos) (mCall g (aPerm ix ma)) := by
  obtain ⟨f, fd, hm, hk, hb, F⟩ := F
  refine ⟨fun pins s σ H Q I h => ?_⟩
  have h := perm_run (call_step (E := E0) hn h)
  have h : tAr X.K X.mg ma σ H fun vs H1 => vs.length = ks.length ∧ spF X.K X.mg ps.length g (ix.filterMap (vs[·]?)) H1 Q E0 := by
    obtain ⟨I, e, Fs, R, as, e', hm, kk⟩ := h
    refine ⟨I, e, Fs, R, as, e', hm, fun vs I' Fs' H' R' x r => ⟨?_, kk vs I' Fs' H' R' x r⟩⟩
    rw [← hn2 as e e' hm]
    have : ∀ {as : List Arg} {vs : List V}, ArgR X.K X.mg I' σ as vs → vs.length = as.length := by
      intro as
      induction as with
      | nil => intro vs h; simp only [ArgR] at h; subst h; rfl
      | cons a as ih =>
        intro vs h
        cases a with
        | d d => obtain ⟨v, t, rfl, _, h2⟩ := h; rw [List.length_cons, List.length_cons, ih h2]
        | io j => obtain ⟨v, t, rfl, _, h2⟩ := h; rw [List.length_cons, List.length_cons, ih h2]
    exact this r
  refine wpAny_Call_Name_kw (ld_glob I hg hm ?_ hdb)
  refine PySem.W.callWith_KW0 (h₀ := X.base) I.ok.mod.kin hk hall (thn (hkw.run pos pins s σ H _ I h) fun ws s2 ⟨zs, H2, I2, rz, l2, q2⟩ => ⟨I2.kIn, ?_⟩) hplain
  rw [hks]
  refine wpAny_call (codeAny_mono (F.run X.A X.stack s2 H2 ⟨[], ks.zip ws⟩ (ix.filterMap (ws[·]?)) (ix.filterMap (zs[·]?)) Q E0 hr I2.env0 (hb s2 ws (by rw [← rz.length]; exact l2)) (MV.Vals.perm rz ix) q2) fun r s' hq => ?_)
  cases r with
  | error e => exact False.elim hq
  | ok fl =>
    cases fl with
    | ret u => exact I2.after hq
    | next => exact False.elim hq
    | brk => exact False.elim hq
    | cont => exact False.elim hq
theorem se_globI {i : Int} (hg : Gl X x) (hm : ∃ t, X.mg x = some (.int i t)) (hdb : (x == ("__debug__" : Str)) = false := by decide) : SE X (.Name x pos) (mC (.int i)) := by
  obtain ⟨t, hm⟩ := hm
  exact se_glob (v := .int i) hg hm ⟨t, rfl⟩ rp_int hdb
theorem se_globS {i : Str} (hg : Gl X x) (hm : ∃ t, X.mg x = some (.str i t)) (hdb : (x == ("__debug__" : Str)) = false := by decide) : SE X (.Name x pos) (mC (.str i)) := by
  obtain ⟨t, hm⟩ := hm
  exact se_glob (v := .str i) hg hm ⟨t, rfl⟩ rp_str hdb
end
theorem _root_.L2.Room.u64 {k : Nat} {A : Around} (r : Room k A) : A.units + 64 < cLine := r.units
theorem _root_.L2.Room.u65 {k : Nat} {A : Around} (r : Room k A) : A.units + 65 < cLine := by have := r.un; omega
theorem mp_lc {K : PySem.W.Frag} {mg : Str → Option Value} {m : M D} {σ : L2.St} {H : Hp} {Q : VK} (h : tO K mg (mP m) σ H Q) : tE K mg m σ H Q := by
  obtain ⟨I, e, Fs, R, w, e', hm, k⟩ := h
  obtain ⟨⟨d, e1⟩, h1, hm⟩ := Option.map_eq_some_iff.mp hm
  cases hm
  exact ⟨I, e, Fs, R, d, e1, h1, fun v I' Fs' H' R' x r => k v I' Fs' H' [] R' x (.pure r) fun _ z => by cases z⟩
/-- name = [..] on one line, the name a local -/
theorem ss_setLc {X : Cx} {A : Nat → Bool} {i : Nat} {y : Str} {py : Pos} {elt tg iter : Expr} {ifs : List Expr} {scope : Scope} {own : List (Str × Nat)} {pos spos : Pos} {mi : M (List D)} {t : Tg} {c : M Bool} {m : M D} (hA : A i = true) (hc : X.calm = true) (hN : X.N.Nodup) (hy : X.N[i]? = some y) (hyl : X.env.scope.names.lookup y = some .local)
    (hsw : swapsWith (.ListComp elt [⟨tg, iter, ifs, 0⟩] scope pos) (some (.Name y py)) spos.line X.env = pure true) (ok : BlkOk X.N X.env.scope scope own) (hi : SI X tg iter mi)
    (hg : ∀ (s : Shared) (H : Hp) (C : Addr) (cl : List (Str × Addr)) (fp : List Addr), SG (X.blk s H scope (compEnvC scope cl C X.env) fp) (ownA (own.map (·.2))) tg t) (ht : ∀ (s : Shared) (H : Hp) (C : Addr) (cl : List (Str × Addr)) (fp : List Addr), STs (X.blk s H scope (compEnvC scope cl C X.env) fp) ifs c)
    (he : ∀ (s : Shared) (H : Hp) (C : Addr) (cl : List (Str × Addr)) (fp : List Addr), SE (X.blk s H scope (compEnvC scope cl C X.env) fp) elt m) (hs : ∀ x, foldedSetIterable iter X.env x = pure x := by intro _; rfl) :
    SS X A (.Assign [.Name y py] (.ListComp elt [⟨tg, iter, ifs, 0⟩] scope pos) spos) (sSet i (mP (mLc (own.map (·.2)) mi t c m))) :=
  PS.imp (ps_setLc (g := tG X.K X.mg (ownA (List.map (fun (x : Str × Nat) => x.2) own)) t) (tt := tT X.K X.mg c) (te := tE X.K X.mg m) hc hN hy hyl hsw hi ok hg ht he hs) fun D σ H h => by
    have q : tO X.K X.mg (mP (mLc (own.map (·.2)) mi t c m)) σ H fun x H1 => gName i x σ H1 D.nx := set_run hA h
    exact lc_run (mp_lc q)

theorem len_perm {ma : M (List Arg)} {n m : Nat} {ix : List Nat} (h1 : ix.all (fun i => decide (i < n)) = true) (h2 : ix.length = m) (h : ∀ (as : List Arg) (e e' : Env), ma e = some (as, e') → as.length = n) : ∀ (as : List Arg) (e e' : Env), aPerm ix ma e = some (as, e') → as.length = m := fun as e e' hm => by
  obtain ⟨⟨as0, e1⟩, h3, hm⟩ := Option.map_eq_some_iff.mp hm
  cases hm
  have hl := h as0 e e1 h3
  rw [← h2]
  have : ∀ ix : List Nat, ix.all (fun i => decide (i < n)) = true → (ix.filterMap (as0[·]?)).length = ix.length := by
    intro ix
    induction ix with
    | nil => intro _; rfl
    | cons i ix ih =>
      intro h
      rw [List.all_cons, Bool.and_eq_true, decide_eq_true_eq] at h
      rw [List.filterMap_cons, List.getElem?_eq_getElem (by omega), List.length_cons, List.length_cons, ih h.2]
  exact this ix h1
/-! ### the end of a row -/
theorem law_sp {K : PySem.W.Frag} {mg : Str → Option Value} {g : FSem} (hg : ∀ ns : List Int, ns.length ≤ 63 → ∃ oe, g [.p (.fl (ns.map .int))] = some (.p (.bool true), oe)) (H : Hp) (a : Addr) (ns : List Int) (hl : ns.length ≤ 63) (hS : SqL K H a (ns.map V.int)) :
    spF K mg 1 g [.ref a] H (fun v _ => v = .bl true) fun _ _ _ => False := by
  obtain ⟨oe, h⟩ := hg ns hl
  have rl : ∀ ns : List Int, RpL K mg H (ns.map D.int) (ns.map V.int) := by
    intro ns
    induction ns with
    | nil => exact RpL.nil
    | cons n ns ih => exact RpL.cons rp_int ih
  have rp : Rp K mg H (.fl (ns.map .int)) (.ref a) := by
    simp only [Rp]
    exact ⟨a, _, rfl, hS, rl ns⟩
  refine ⟨H, [.p (.fl (ns.map .int))], consF [] (fun _ => []), rfl, (Rel.nil (Ex.refl H)).cons (.pure rp), _, oe, h, fun v I' Fo H' F R x o _ => ?_⟩
  have q := o.ro
  simp only [Ro, Rp] at q
  exact q.1
end MV

namespace MV
open PySem L2

/-! ### evaluation, a step at a time (no continuation is opened before its argument is known) -/
section
variable {α β γ : Type} {e e1 e2 : Env} {d x y z : D} {i j k : Nat} {m ma mb mc : M D} {f g : D → D → Option D} {b : Bool}
-- values
@[simp] theorem ev_C : mC d e = some (d, e) := rfl
def varK : Option (Option W) → Env → Option (D × Env)
  | some (some (.p d)), e => some (d, e)
  | _, _ => none
@[simp] theorem ev_var : mVar i e = varK e[i]? e := by unfold mVar varK; split <;> rename_i h <;> simp_all
@[simp] theorem varK_p : varK (some (some (.p d))) e = some (d, e) := rfl
def opK1 (f : D → D → Option D) (b : M D) : Option (D × Env) → Option (D × Env)
  | some x => (b x.2).bind fun y => (f x.1 y.1).map fun z => (z, y.2)
  | none => none
def opK2 (f : D → D → Option D) (x : D) : Option (D × Env) → Option (D × Env)
  | some y => (f x y.1).map fun z => (z, y.2)
  | none => none
def retK : Option D → Env → Option (D × Env)
  | some z, e => some (z, e)
  | none, _ => none
@[simp] theorem retK_s : retK (some d) e = some (d, e) := rfl
@[simp] theorem ev_op : mOp f ma mb e = opK1 f mb (ma e) := by unfold mOp opK1; cases ma e <;> rfl
@[simp] theorem opK1_s : opK1 f mb (some (x, e)) = opK2 f x (mb e) := by unfold opK1 opK2; cases h : mb e <;> simp [h]
@[simp] theorem opK2_s : opK2 f x (some (y, e)) = retK (f x y) e := by unfold opK2 retK; cases h : f x y <;> simp [h]
def unK (f : D → Option D) : Option (D × Env) → Option (D × Env)
  | some x => retK (f x.1) x.2
  | none => none
@[simp] theorem ev_un {f : D → Option D} : mUn f ma e = unK f (ma e) := by unfold mUn unK retK; cases ma e with
  | none => rfl
  | some x => cases h : f x.1 <;> simp [h]
@[simp] theorem unK_s {f : D → Option D} : unK f (some (x, e)) = retK (f x) e := rfl
-- tests
def bK {α : Type} : Option α → Env → Option (α × Env)
  | some b, e => some (b, e)
  | none, _ => none
@[simp] theorem bK_s {b : α} : bK (some b) e = some (b, e) := rfl
def truK : Option (D × Env) → Option (Bool × Env)
  | some x => bK (dTru x.1) x.2
  | none => none
@[simp] theorem ev_tru : mTru m e = truK (m e) := by unfold mTru truK bK; cases m e with
  | none => rfl
  | some x => cases h : dTru x.1 <;> simp [h]
@[simp] theorem truK_s : truK (some (d, e)) = bK (dTru d) e := rfl
def boolK : Option (D × Env) → Option (Bool × Env)
  | some (.bool b, e) => some (b, e)
  | _ => none
@[simp] theorem ev_bool : mBool m e = boolK (m e) := by unfold mBool boolK; cases h : m e with
  | none => rfl
  | some x => obtain ⟨d, e1⟩ := x; cases d <;> rfl
@[simp] theorem boolK_s : boolK (some (.bool b, e)) = some (b, e) := rfl
def andK (u : M Bool) : Option (Bool × Env) → Option (Bool × Env)
  | some (true, e) => u e
  | some (false, e) => some (false, e)
  | none => none
def orK (u : M Bool) : Option (Bool × Env) → Option (Bool × Env)
  | some (false, e) => u e
  | some (true, e) => some (true, e)
  | none => none
variable {t u : M Bool}
@[simp] theorem ev_and : mAnd t u e = andK u (t e) := by unfold mAnd andK; cases h : t e with
  | none => rfl
  | some x => obtain ⟨b, e1⟩ := x; cases b <;> rfl
@[simp] theorem ev_or : mOr t u e = orK u (t e) := by unfold mOr orK; cases h : t e with
  | none => rfl
  | some x => obtain ⟨b, e1⟩ := x; cases b <;> rfl
@[simp] theorem andK_t : andK u (some (true, e)) = u e := rfl
@[simp] theorem andK_f : andK u (some (false, e)) = some (false, e) := rfl
@[simp] theorem orK_f : orK u (some (false, e)) = u e := rfl
@[simp] theorem orK_t : orK u (some (true, e)) = some (true, e) := rfl
def notK : Option (Bool × Env) → Option (Bool × Env)
  | some (b, e) => some (!b, e)
  | none => none
@[simp] theorem ev_not : mNot t e = notK (t e) := by unfold mNot notK; cases t e <;> rfl
@[simp] theorem notK_s : notK (some (b, e)) = some (!b, e) := rfl
def ifK {α : Type} (a b : Env → Option α) : Option (Bool × Env) → Option α
  | some (true, e) => a e
  | some (false, e) => b e
  | none => none
@[simp] theorem ifK_t {a b : Env → Option α} : ifK a b (some (true, e)) = a e := rfl
@[simp] theorem ifK_f {a b : Env → Option α} : ifK a b (some (false, e)) = b e := rfl
@[simp] theorem ev_if {a b : M α} : mIf t a b e = ifK a b (t e) := by unfold mIf ifK; cases h : t e with
  | none => rfl
  | some x => obtain ⟨b, e1⟩ := x; cases b <;> rfl
@[simp] theorem ev_sif {a b : S} : sIf t a b e = ifK a b (t e) := by unfold sIf ifK; cases h : t e with
  | none => rfl
  | some x => obtain ⟨b, e1⟩ := x; cases b <;> rfl
@[simp] theorem ev_andV : mAndV ma mb e = ifK mb (fun e => some (.bool false, e)) (boolK (ma e)) := by
  unfold mAndV; rw [ev_bool]; cases h : boolK (ma e) with
  | none => rfl
  | some x => obtain ⟨b, e1⟩ := x; cases b <;> rfl
@[simp] theorem ev_orV : mOrV ma mb e = ifK (fun e => some (.bool true, e)) mb (boolK (ma e)) := by
  unfold mOrV; rw [ev_bool]; cases h : boolK (ma e) with
  | none => rfl
  | some x => obtain ⟨b, e1⟩ := x; cases b <;> rfl
def notVK : Option (Bool × Env) → Option (D × Env)
  | some (b, e) => some (.bool !b, e)
  | none => none
@[simp] theorem ev_notV : mNotV ma e = notVK (boolK (ma e)) := by unfold mNotV notVK; rw [ev_bool]; cases boolK (ma e) <;> rfl
@[simp] theorem notVK_s : notVK (some (b, e)) = some (.bool !b, e) := rfl
def chK1 (f g : D → D → Option D) (b c : M D) : Option (D × Env) → Option (D × Env)
  | some x => mChain f g (fun e => some (x.1, x.2)) b c x.2
  | none => none
def chK2 (f g : D → D → Option D) (c : M D) (x : D) : Option (D × Env) → Option (D × Env)
  | some y => mChain f g (fun e => some (x, y.2)) (fun e => some (y.1, e)) c y.2
  | none => none
def chK3 (g : D → D → Option D) (c : M D) (y : D) (e : Env) : Option D → Option (D × Env)
  | some (.bool true) => opK2 g y (c e)
  | some (.bool false) => some (.bool false, e)
  | _ => none
@[simp] theorem ev_chain : mChain f g ma mb mc e = chK1 f g mb mc (ma e) := by unfold mChain chK1; cases h : ma e <;> simp [mChain]
@[simp] theorem chK1_s : chK1 f g mb mc (some (x, e)) = chK2 f g mc x (mb e) := by unfold chK1 chK2; cases h : mb e <;> simp [mChain, h]
@[simp] theorem chK2_s : chK2 f g mc x (some (y, e)) = chK3 g mc y e (f x y) := by
  unfold chK2 chK3 opK2
  cases h : f x y with
  | none => simp [mChain, h]
  | some z => cases z with
    | bool b => cases b with
      | true => simp [mChain, h]; cases h2 : mc e <;> simp [h2]
      | false => simp [mChain, h]
    | _ => simp [mChain, h]
@[simp] theorem chK3_t : chK3 g mc y e (some (.bool true)) = opK2 g y (mc e) := rfl
@[simp] theorem chK3_f : chK3 g mc y e (some (.bool false)) = some (.bool false, e) := rfl
-- arguments, displays, calls
variable {r : M (List Arg)} {as : List Arg} {ds : List D}
@[simp] theorem ev_nil : aNil e = some ([], e) := rfl
def aK1 (r : M (List Arg)) : Option (D × Env) → Option (List Arg × Env)
  | some x => (r x.2).map fun y => (.d x.1 :: y.1, y.2)
  | none => none
def aK2 (a : Arg) : Option (List Arg × Env) → Option (List Arg × Env)
  | some y => some (a :: y.1, y.2)
  | none => none
@[simp] theorem ev_aD : aD m r e = aK1 r (m e) := by unfold aD aK1; cases m e <;> rfl
@[simp] theorem aK1_s : aK1 r (some (d, e)) = aK2 (.d d) (r e) := by unfold aK1 aK2; cases h : r e <;> simp [h]
@[simp] theorem aK2_s {a : Arg} : aK2 a (some (as, e)) = some (a :: as, e) := rfl
def aK3 (i : Nat) (r : M (List Arg)) : Option (Option W) → Env → Option (List Arg × Env)
  | some (some _), e => aK2 (.io i) (r e)
  | _, _ => none
@[simp] theorem ev_aIO : aIO i r e = aK3 i r e[i]? e := by unfold aIO aK3 aK2; split <;> rename_i h <;> simp_all; cases r e <;> rfl
@[simp] theorem aK3_s {w : W} : aK3 i r (some (some w)) e = aK2 (.io i) (r e) := rfl
@[simp] theorem allD_nil : allD [] = some [] := rfl
@[simp] theorem allD_d : allD (.d d :: as) = (allD as).map (d :: ·) := rfl
def dispK1 (f : List D → Option D) : Option (List Arg × Env) → Option (D × Env)
  | some x => dispK2 f (allD x.1) x.2
  | none => none
where dispK2 (f : List D → Option D) : Option (List D) → Env → Option (D × Env)
  | some ds, e => retK (f ds) e
  | none, _ => none
@[simp] theorem ev_disp {f : List D → Option D} : mDisp f r e = dispK1 f (r e) := by
  unfold mDisp dispK1; cases h : r e with
  | none => rfl
  | some x =>
    simp only [Option.bind_some]
    cases h2 : allD x.1 with
    | none => rfl
    | some ds => simp only [Option.bind_some, dispK1.dispK2, retK]; cases f ds <;> rfl
@[simp] theorem dispK1_s {f : List D → Option D} : dispK1 f (some (as, e)) = dispK1.dispK2 f (allD as) e := rfl
@[simp] theorem dispK2_s {f : List D → Option D} : dispK1.dispK2 f (some ds) e = retK (f ds) e := rfl
def callK1 (g : FSem) : Option (List Arg × Env) → Option (W × Env)
  | some x => callK2 g x.1 (gather x.1 x.2)
  | none => none
where
  callK2 (g : FSem) (as : List Arg) : Option (List W × Env) → Option (W × Env)
  | some y => callK3 as y.2 (g y.1)
  | none => none
  callK3 (as : List Arg) (e : Env) : Option (W × Env) → Option (W × Env)
  | some z => some (z.1, scatter as z.2 e)
  | none => none
variable {gg : FSem} {ws : List W} {w : W} {oe : Env}
@[simp] theorem ev_call : mCall gg r e = callK1 gg (r e) := by
  unfold mCall callK1; cases h : r e with
  | none => rfl
  | some x =>
    simp only [Option.bind_some]
    cases h2 : gather x.1 x.2 with
    | none => rfl
    | some y => simp only [Option.bind_some, callK1.callK2, callK1.callK3]; cases gg y.1 <;> rfl
@[simp] theorem callK1_s : callK1 gg (some (as, e)) = callK1.callK2 gg as (gather as e) := rfl
@[simp] theorem callK2_s : callK1.callK2 gg as (some (ws, e)) = callK1.callK3 as e (gg ws) := rfl
@[simp] theorem callK3_s : callK1.callK3 as e (some (w, oe)) = some (w, scatter as oe e) := rfl
def gatK (w : W) : Option (List W × Env) → Option (List W × Env)
  | some x => some (w :: x.1, x.2)
  | none => none
@[simp] theorem gatK_s : gatK w (some (ws, e)) = some (w :: ws, e) := rfl
@[simp] theorem gather_nil : gather [] e = some ([], e) := rfl
@[simp] theorem gather_d : gather (.d d :: as) e = gatK (.p d) (gather as e) := by unfold gatK; show (gather as e).map _ = _; cases gather as e <;> rfl
def gatI (as : List Arg) (e1 : Env) : Option (Option W) → Option (List W × Env)
  | some (some w) => gatK w (gather as e1)
  | _ => none
@[simp] theorem gather_io : gather (.io i :: as) e = gatI as (e.set i none) e[i]? := by
  show (match e[i]? with
    | some (some w) => (gather as (e.set i none)).map fun (x : List W × Env) => (w :: x.1, x.2)
    | _ => none) = _
  generalize e[i]? = q
  cases q with
  | none => rfl
  | some q => cases q with
    | none => rfl
    | some w => simp only [gatI, gatK]; cases gather as (e.set i none) <;> rfl
@[simp] theorem gatI_s : gatI as e (some (some w)) = gatK w (gather as e) := rfl
@[simp] theorem scatter_nil : scatter [] oe e = e := rfl
@[simp] theorem scatter_d {o : Option W} : scatter (.d d :: as) (o :: oe) e = scatter as oe e := rfl
@[simp] theorem scatter_io : scatter (.io i :: as) (some w :: oe) e = scatter as oe (e.set i (some w)) := rfl
@[simp] theorem scatter_ion : scatter (.io i :: as) (none :: oe) e = scatter as oe e := rfl
def permK (ix : List Nat) : Option (List Arg × Env) → Option (List Arg × Env)
  | some (as, e) => some (ix.filterMap (as[·]?), e)
  | none => none
@[simp] theorem ev_perm {ix : List Nat} : aPerm ix r e = permK ix (r e) := by unfold aPerm permK; cases r e <;> rfl
@[simp] theorem permK_s {ix : List Nat} : permK ix (some (as, e)) = some (ix.filterMap (as[·]?), e) := rfl
-- owned
variable {mw : M W}
def pK : Option (D × Env) → Option (W × Env)
  | some x => some (.p x.1, x.2)
  | none => none
@[simp] theorem ev_P : mP m e = pK (m e) := by unfold mP pK; cases m e <;> rfl
@[simp] theorem pK_s : pK (some (d, e)) = some (.p d, e) := rfl
def gpK : Option (W × Env) → Option (D × Env)
  | some (.p d, e) => some (d, e)
  | _ => none
@[simp] theorem ev_GetP : mGetP mw e = gpK (mw e) := by unfold mGetP gpK; cases h : mw e with
  | none => rfl
  | some x => obtain ⟨w, e1⟩ := x; cases w <;> rfl
@[simp] theorem gpK_s : gpK (some (.p d, e)) = some (d, e) := rfl
def moveK (i : Nat) (e : Env) : Option (Option W) → Option (W × Env)
  | some (some w) => some (w, e.set i none)
  | _ => none
@[simp] theorem ev_move : mMove i e = moveK i e e[i]? := by unfold mMove moveK; split <;> rename_i h <;> simp_all
@[simp] theorem moveK_s : moveK i e (some (some w)) = some (w, e.set i none) := rfl
def olK : Option (List Arg × Env) → Option (W × Env)
  | some x => olK2 (allD x.1) x.2
  | none => none
where olK2 : Option (List D) → Env → Option (W × Env)
  | some ds, e => if ds.length ≤ LIM then some (.ol (ds.map .p), e) else none
  | none, _ => none
@[simp] theorem ev_ol : mOl r e = olK (r e) := by
  unfold mOl olK; cases h : r e with
  | none => rfl
  | some x => simp only [Option.bind_some]; cases allD x.1 <;> rfl
@[simp] theorem olK_s : olK (some (as, e)) = olK.olK2 (allD as) e := rfl
@[simp] theorem olK2_s : olK.olK2 (some ds) e = if ds.length ≤ LIM then some (.ol (ds.map .p), e) else none := rfl
def ixoK1 (k : Nat) (m : M D) (e : Env) : Option (Option W) → Option (D × Env)
  | some (some _) => ixoK2 k (m e)
  | _ => none
where
  ixoK2 (k : Nat) : Option (D × Env) → Option (D × Env)
  | some (.int i, e) => ixoK3 i e e[k]?
  | _ => none
  ixoK3 (i : Int) (e : Env) : Option (Option W) → Option (D × Env)
  | some (some (.ol ws)) => ixoK4 e (L2.atI ws i)
  | _ => none
  ixoK4 (e : Env) : Option W → Option (D × Env)
  | some (.p d) => some (d, e)
  | _ => none
@[simp] theorem ev_ixO : mIxO k m e = ixoK1 k m e e[k]? := by
  unfold mIxO ixoK1
  generalize e[k]? = o
  rcases o with _ | _ | w0
  · rfl
  · rfl
  · rcases m e with _ | ⟨d, e1⟩
    · rfl
    · cases d with
      | int i =>
        simp only [Option.bind_some, ixoK1.ixoK2, ixoK1.ixoK3]
        generalize e1[k]? = o2
        rcases o2 with _ | _ | w2
        · rfl
        · rfl
        · cases w2 with
          | ol ws =>
            first
              | rfl
              | (simp only [ixoK1.ixoK4]; done)
              | (simp only [ixoK1.ixoK4]; generalize L2.atI ws i = o3; rcases o3 with _ | w3 <;> first | rfl | (cases w3 <;> rfl))
          | _ => rfl
      | _ => rfl
@[simp] theorem ixoK1_s : ixoK1 k m e (some (some w)) = ixoK1.ixoK2 k (m e) := rfl
@[simp] theorem ixoK2_s {i : Int} : ixoK1.ixoK2 k (some (.int i, e)) = ixoK1.ixoK3 i e e[k]? := rfl
@[simp] theorem ixoK3_s {i : Int} {ws : List W} : ixoK1.ixoK3 i e (some (some (.ol ws))) = ixoK1.ixoK4 e (L2.atI ws i) := rfl
@[simp] theorem ixoK4_s : ixoK1.ixoK4 e (some (.p d)) = some (d, e) := rfl
-- statements
variable {a c : S} {sr : SR}
def seqK (b : S) : Option SR → Option SR
  | some (.nx e) => b e
  | r => r
@[simp] theorem ev_seq : sSeq a c e = seqK c (a e) := by unfold sSeq seqK; cases h : a e with
  | none => rfl
  | some r => cases r <;> rfl
@[simp] theorem seqK_nx : seqK c (some (.nx e)) = c e := rfl
@[simp] theorem seqK_rt : seqK c (some (.rt w e)) = some (.rt w e) := rfl
@[simp] theorem seqK_bk : seqK c (some (.bk e)) = some (.bk e) := rfl
@[simp] theorem seqK_ct : seqK c (some (.ct e)) = some (.ct e) := rfl
@[simp] theorem ev_next : sNext e = some (.nx e) := rfl
@[simp] theorem ev_brk : sBrk e = some (.bk e) := rfl
@[simp] theorem ev_cont : sCont e = some (.ct e) := rfl
def rtK : Option (W × Env) → Option SR
  | some x => some (.rt x.1 x.2)
  | none => none
@[simp] theorem ev_ret : sRet mw e = rtK (mw e) := by unfold sRet rtK; cases mw e <;> rfl
@[simp] theorem rtK_s : rtK (some (w, e)) = some (.rt w e) := rfl
@[simp] theorem ev_retN : sRetN e = some (.rt (.p .none) e) := rfl
def setK (i : Nat) : Option (W × Env) → Option SR
  | some x => some (.nx (x.2.set i (some x.1)))
  | none => none
@[simp] theorem ev_set : sSet i mw e = setK i (mw e) := by unfold sSet setK; cases mw e <;> rfl
@[simp] theorem setK_s : setK i (some (w, e)) = some (.nx (e.set i (some w))) := rfl
def dropK : Option (W × Env) → Option SR
  | some x => some (.nx x.2)
  | none => none
@[simp] theorem ev_drop : sDrop mw e = dropK (mw e) := by unfold sDrop dropK; cases mw e <;> rfl
@[simp] theorem dropK_s : dropK (some (w, e)) = some (.nx e) := rfl
def sixK1 (k : Nat) (mi : M D) : Option (D × Env) → Option SR
  | some y => sixK2 k mi y.1 y.2 y.2[k]?
  | none => none
where
  sixK2 (k : Nat) (mi : M D) (d : D) (e : Env) : Option (Option W) → Option SR
  | some (some _) => sixK3 k d (mi e)
  | _ => none
  sixK3 (k : Nat) (d : D) : Option (D × Env) → Option SR
  | some (.int i, e) => sixK4 k d i e e[k]?
  | _ => none
  sixK4 (k : Nat) (d : D) (i : Int) (e : Env) : Option (Option W) → Option SR
  | some (some (.ol ws)) => (ixN ws.length i).map fun j => .nx (e.set k (some (.ol (ws.set j (.p d)))))
  | _ => none
@[simp] theorem ev_setIx {mi mv : M D} : sSetIx k mi mv e = sixK1 k mi (mv e) := by
  unfold sSetIx sixK1
  rcases mv e with _ | ⟨d, e0⟩
  · rfl
  · simp only [Option.bind_some, sixK1.sixK2]
    generalize e0[k]? = o
    rcases o with _ | _ | w0
    · rfl
    · rfl
    · rcases mi e0 with _ | ⟨d1, e1⟩
      · rfl
      · cases d1 with
        | int i =>
          simp only [Option.bind_some, sixK1.sixK3, sixK1.sixK4]
          generalize e1[k]? = o2
          rcases o2 with _ | _ | w2
          · rfl
          · rfl
          · cases w2 <;> rfl
        | _ => rfl
@[simp] theorem sixK1_s {mi : M D} : sixK1 k mi (some (d, e)) = sixK1.sixK2 k mi d e e[k]? := rfl
@[simp] theorem sixK2_s {mi : M D} : sixK1.sixK2 k mi d e (some (some w)) = sixK1.sixK3 k d (mi e) := rfl
@[simp] theorem sixK3_s {i : Int} : sixK1.sixK3 k d (some (.int i, e)) = sixK1.sixK4 k d i e e[k]? := rfl
@[simp] theorem sixK4_s {i : Int} {ws : List W} : sixK1.sixK4 k d i e (some (some (.ol ws))) = (ixN ws.length i).map fun j => .nx (e.set k (some (.ol (ws.set j (.p d))))) := rfl
-- targets, loops
@[simp] theorem ev_gN : gN i d e = some (e.set i (some (.p d))) := rfl
@[simp] theorem ev_gsNil : gsNil [] e = some e := rfl
def gsK (r : Tgs) (ds : List D) : Option Env → Option Env
  | some e => r ds e
  | none => none
@[simp] theorem ev_gsCons {tg : Tg} {r : Tgs} : gsCons tg r (d :: ds) e = gsK r ds (tg d e) := by
  show (tg d e).bind (r ds) = _
  unfold gsK; cases tg d e <;> rfl
@[simp] theorem gsK_s {r : Tgs} : gsK r ds (some e) = r ds e := rfl
@[simp] theorem ev_gT {n : Nat} {r : Tgs} : gT n r (.tup ds) e = if ds.length = n then r ds e else none := rfl
def asgK (tg : Tg) : Option (D × Env) → Option SR
  | some x => asgK2 (tg x.1 x.2)
  | none => none
where asgK2 : Option Env → Option SR
  | some e => some (.nx e)
  | none => none
@[simp] theorem ev_asg {tg : Tg} : sAsg tg m e = asgK tg (m e) := by
  unfold sAsg asgK; cases h : m e with
  | none => rfl
  | some x => simp only [Option.bind_some]; cases tg x.1 x.2 <;> rfl
@[simp] theorem asgK_s {tg : Tg} : asgK tg (some (d, e)) = asgK.asgK2 (tg d e) := rfl
@[simp] theorem asgK2_s : asgK.asgK2 (some e) = some (.nx e) := rfl
def forK (tg : Tg) (b : S) : Option (List D × Env) → Option SR
  | some x => forRun tg b x.1 x.2
  | none => none
@[simp] theorem ev_for {mi : M (List D)} {tg : Tg} : sFor mi tg a e = forK tg a (mi e) := by unfold sFor forK; cases mi e <;> rfl
@[simp] theorem forK_s {tg : Tg} : forK tg a (some (ds, e)) = forRun tg a ds e := rfl
def iaK (f : List D → Option (List D)) : Option (List Arg × Env) → Option (List D × Env)
  | some x => iaK2 f (allD x.1) x.2
  | none => none
where iaK2 (f : List D → Option (List D)) : Option (List D) → Env → Option (List D × Env)
  | some ds, e => bK (f ds) e
  | none, _ => none
@[simp] theorem ev_iargs {f : List D → Option (List D)} : iArgs f r e = iaK f (r e) := by
  unfold iArgs iaK; cases h : r e with
  | none => rfl
  | some x =>
    simp only [Option.bind_some]
    cases allD x.1 with
    | none => rfl
    | some ds => simp only [Option.bind_some, iaK.iaK2, bK]; cases f ds <;> rfl
@[simp] theorem iaK_s {f : List D → Option (List D)} : iaK f (some (as, e)) = iaK.iaK2 f (allD as) e := rfl
@[simp] theorem iaK2_s {f : List D → Option (List D)} : iaK.iaK2 f (some ds) e = bK (f ds) e := rfl
def ilK : Option (D × Env) → Option (List D × Env)
  | some (.lst ds, e) => some (ds, e)
  | some (.fl ds, e) => some (ds, e)
  | _ => none
@[simp] theorem ev_iLst : iLst m e = ilK (m e) := by unfold iLst ilK; cases h : m e with
  | none => rfl
  | some x => obtain ⟨d, e1⟩ := x; cases d <;> rfl
@[simp] theorem ilK_l : ilK (some (.lst ds, e)) = some (ds, e) := rfl
@[simp] theorem ilK_f : ilK (some (.fl ds, e)) = some (ds, e) := rfl
def itK : Option (D × Env) → Option (List D × Env)
  | some (.tup ds, e) => some (ds, e)
  | _ => none
@[simp] theorem ev_iTpl : iTpl m e = itK (m e) := by unfold iTpl itK; cases h : m e with
  | none => rfl
  | some x => obtain ⟨d, e1⟩ := x; cases d <;> rfl
@[simp] theorem itK_l : itK (some (.tup ds, e)) = some (ds, e) := rfl
def ixK : Option (D × Env) → Option (List D × Env)
  | some (.str y, e) => some (y.cps.toList.map fun c => .str ⟨#[c]⟩, e)
  | _ => none
@[simp] theorem ev_iTxt : iTxt m e = ixK (m e) := by unfold iTxt ixK; cases h : m e with
  | none => rfl
  | some x => obtain ⟨d, e1⟩ := x; cases d <;> rfl
@[simp] theorem ixK_l {y : Str} : ixK (some (.str y, e)) = some (y.cps.toList.map fun c => .str ⟨#[c]⟩, e) := rfl
def lcK (own : List Nat) (tg : Tg) (c : M Bool) (m : M D) : Option (List D × Env) → Option (D × Env)
  | some x => if x.1.length ≤ 1000000 then lcK2 (lcRun own tg c m x.1 (wipeE x.2 own)) else none
  | none => none
where lcK2 : Option (List D × Env) → Option (D × Env)
  | some r => some (.lst r.1, r.2)
  | none => none
@[simp] theorem ev_lc {own : List Nat} {mi : M (List D)} {tg : Tg} : mLc own mi tg t m e = lcK own tg t m (mi e) := by
  unfold mLc lcK; cases h : mi e with
  | none => rfl
  | some x =>
    simp only [Option.bind_some]
    split
    · cases lcRun own tg t m x.1 (wipeE x.2 own) <;> rfl
    · rfl
@[simp] theorem lcK_s {own : List Nat} {tg : Tg} : lcK own tg t m (some (ds, e)) = if ds.length ≤ 1000000 then lcK.lcK2 (lcRun own tg t m ds (wipeE e own)) else none := rfl
@[simp] theorem lcK2_s : lcK.lcK2 (some (ds, e)) = some (.lst ds, e) := rfl
@[simp] theorem wipeE_nil : wipeE e [] = e := rfl
@[simp] theorem wipeE_cons {v : Nat} {vs : List Nat} : wipeE e (v :: vs) = (wipeE e vs).set v none := rfl
def slK1 (f : D → Option Int → Option Int → Option D) (lo hi : M (Option Int)) : Option (D × Env) → Option (D × Env)
  | some x => slK2 f hi x.1 (lo x.2)
  | none => none
where
  slK2 (f : D → Option Int → Option Int → Option D) (hi : M (Option Int)) (x : D) : Option (Option Int × Env) → Option (D × Env)
  | some l => slK3 f x l.1 (hi l.2)
  | none => none
  slK3 (f : D → Option Int → Option Int → Option D) (x : D) (l : Option Int) : Option (Option Int × Env) → Option (D × Env)
  | some h => retK (f x l h.1) h.2
  | none => none
variable {lo hi : M (Option Int)} {fs : D → Option Int → Option Int → Option D} {ol oh : Option Int}
@[simp] theorem ev_sl : mSl fs m lo hi e = slK1 fs lo hi (m e) := by
  unfold mSl slK1; cases h : m e with
  | none => rfl
  | some x =>
    simp only [Option.bind_some]
    cases h2 : lo x.2 with
    | none => rfl
    | some l =>
      simp only [Option.bind_some, slK1.slK2]
      cases h3 : hi l.2 with
      | none => rfl
      | some hh => simp only [Option.bind_some, slK1.slK3, retK]; cases fs x.1 l.1 hh.1 <;> rfl
@[simp] theorem slK1_s : slK1 fs lo hi (some (d, e)) = slK1.slK2 fs hi d (lo e) := rfl
@[simp] theorem slK2_s : slK1.slK2 fs hi d (some (ol, e)) = slK1.slK3 fs d ol (hi e) := rfl
@[simp] theorem slK3_s : slK1.slK3 fs d ol (some (oh, e)) = retK (fs d ol oh) e := rfl
@[simp] theorem ev_noI : mNoI e = some (none, e) := rfl
def optK : Option (D × Env) → Option (Option Int × Env)
  | some (.int i, e) => some (some i, e)
  | _ => none
@[simp] theorem ev_optI : mOptI m e = optK (m e) := by unfold mOptI optK; cases h : m e with
  | none => rfl
  | some x => obtain ⟨d, e1⟩ := x; cases d <;> rfl
@[simp] theorem optK_s {i : Int} : optK (some (.int i, e)) = some (some i, e) := rfl
def op2K1 (f : D → D → Option D) (r : M (List Arg)) : Option (D × Env) → Option (D × Env)
  | some x => op2K2 f x.1 (r x.2)
  | none => none
where
  op2K2 (f : D → D → Option D) (x : D) : Option (List Arg × Env) → Option (D × Env)
  | some y => op2K3 f x y.2 (allD y.1)
  | none => none
  op2K3 (f : D → D → Option D) (x : D) (e : Env) : Option (List D) → Option (D × Env)
  | some [d] => retK (f x d) e
  | _ => none
@[simp] theorem ev_op2 : mOp2 f m r e = op2K1 f r (m e) := by
  unfold mOp2 op2K1
  rcases m e with _ | ⟨x, e1⟩
  · rfl
  · simp only [Option.bind_some]
    rcases r e1 with _ | ⟨y, e2⟩
    · rfl
    · simp only [Option.bind_some, op2K1.op2K2, op2K1.op2K3]
      generalize allD y = o
      rcases o with _ | _ | ⟨d, _ | ⟨d2, l⟩⟩
      · rfl
      · rfl
      · simp only [retK]
        cases f x d <;> rfl
      · rfl
@[simp] theorem op2K1_s : op2K1 f r (some (d, e)) = op2K1.op2K2 f d (r e) := rfl
@[simp] theorem op2K2_s : op2K1.op2K2 f x (some (as, e)) = op2K1.op2K3 f x e (allD as) := rfl
@[simp] theorem op2K3_s : op2K1.op2K3 f x e (some [d]) = retK (f x d) e := rfl
end
/-- the loop as a fold over what its turns do to the state -/
theorem forRun_nil {tg : Tg} {b : S} {e : Env} : forRun tg b [] e = some (.nx e) := rfl
theorem forRun_cons {tg : Tg} {b : S} {d : D} {ds : List D} {e e1 e2 : Env} (h1 : tg d e = some e1) (h2 : b e1 = some (.nx e2)) : forRun tg b (d :: ds) e = forRun tg b ds e2 := by
  simp only [forRun, h1, h2, Option.bind_some]
/-- an invariant of a loop that runs through -/
theorem forRun_inv {tg : Tg} {b : S} (P : Nat → Env → Prop) : ∀ (ds : List D) (i : Nat) (e : Env), P i e → (∀ j d e, ds[j]? = some d → P (i + j) e → ∃ e1 e2, tg d e = some e1 ∧ b e1 = some (.nx e2) ∧ P (i + j + 1) e2) →
    ∃ e', forRun tg b ds e = some (.nx e') ∧ P (i + ds.length) e'
  | [], i, e, h, _ => ⟨e, rfl, h⟩
  | d :: ds, i, e, h, k => by
    obtain ⟨e1, e2, h1, h2, h3⟩ := k 0 d e rfl h
    obtain ⟨e', h4, h5⟩ := forRun_inv P ds (i + 1) e2 (by simpa using h3) fun j d e hd hp => by
      have := k (j + 1) d e (by simpa using hd) (by rw [show i + (j + 1) = i + 1 + j by omega]; exact hp)
      rw [show i + (j + 1) + 1 = i + 1 + j + 1 by omega] at this
      exact this
    refine ⟨e', by rw [forRun_cons h1 h2]; exact h4, ?_⟩
    rw [List.length_cons, show i + (ds.length + 1) = i + 1 + ds.length by omega]
    exact h5
/-- a comprehension whose turns all give something: the results by an invariant of the state -/
theorem lcRun_inv {own : List Nat} {tg : Tg} {c : M Bool} {m : M D} (P : Nat → Env → Prop) (T : D → Prop) : ∀ (ds : List D) (i : Nat) (e : Env), P i e →
    (∀ j d e, ds[j]? = some d → P (i + j) e → ∃ e1, tg d e = some e1 ∧ ((∃ e2, c e1 = some (false, e2) ∧ P (i + j + 1) (wipeE e2 own)) ∨ (∃ e2 y e3, c e1 = some (true, e2) ∧ m e2 = some (y, e3) ∧ T y ∧ P (i + j + 1) (wipeE e3 own)))) →
    ∃ ys e', lcRun own tg c m ds e = some (ys, e') ∧ P (i + ds.length) e' ∧ (∀ y ∈ ys, T y) ∧ ys.length ≤ ds.length
  | [], i, e, h, _ => ⟨[], e, rfl, h, (fun y hy => by cases hy), Nat.le_refl _⟩
  | d :: ds, i, e, h, k => by
    have next : ∀ e2, P (i + 1) e2 → ∃ ys e', lcRun own tg c m ds e2 = some (ys, e') ∧ P (i + (ds.length + 1)) e' ∧ (∀ y ∈ ys, T y) ∧ ys.length ≤ ds.length := fun e2 h2 => by
      obtain ⟨ys, e', h3, h4, h5, h6⟩ := lcRun_inv P T ds (i + 1) e2 h2 fun j d e hd hp => by
        have := k (j + 1) d e (by simpa using hd) (by rw [show i + (j + 1) = i + 1 + j by omega]; exact hp)
        rw [show i + (j + 1) + 1 = i + 1 + j + 1 by omega] at this
        exact this
      exact ⟨ys, e', h3, by rw [show i + (ds.length + 1) = i + 1 + ds.length by omega]; exact h4, h5, h6⟩
    obtain ⟨e1, h1, hh⟩ := k 0 d e rfl h
    rcases hh with ⟨e2, h2, h3⟩ | ⟨e2, y, e3, h2, h3, h4, h5⟩
    · obtain ⟨ys, e', q1, q2, q3, q4⟩ := next _ h3
      exact ⟨ys, e', by simp [lcRun, h1, h2, q1], q2, q3, by rw [List.length_cons]; omega⟩
    · obtain ⟨ys, e', q1, q2, q3, q4⟩ := next _ h5
      refine ⟨y :: ys, e', by simp [lcRun, h1, h2, h3, q1], q2, fun z hz => ?_, by rw [List.length_cons, List.length_cons]; omega⟩
      rcases List.mem_cons.mp hz with rfl | hz
      · exact h4
      · exact q3 z hz
/-- a comprehension that leaves the state: a map -/
theorem lcRun_map {own : List Nat} {tg : Tg} {c : M Bool} {m : M D} {e : Env} (f : D → D) : ∀ (ds : List D), (∀ d ∈ ds, ∃ e1 e2 e3, tg d e = some e1 ∧ c e1 = some (true, e2) ∧ m e2 = some (f d, e3) ∧ wipeE e3 own = e) → lcRun own tg c m ds e = some (ds.map f, e)
  | [], _ => rfl
  | d :: ds, k => by
    obtain ⟨e1, e2, e3, h1, h2, h3, h4⟩ := k d (by simp)
    simp [lcRun, h1, h2, h3, h4, lcRun_map f ds fun d hd => k d (by simp [hd])]
/-- .. with a test: a filter and a map -/
theorem lcRun_filter {own : List Nat} {tg : Tg} {c : M Bool} {m : M D} {e : Env} (p : D → Bool) (f : D → D) : ∀ (ds : List D), (∀ d ∈ ds, ∃ e1 e2, tg d e = some e1 ∧ c e1 = some (p d, e2) ∧ (p d = false → wipeE e2 own = e) ∧ (p d = true → ∃ e3, m e2 = some (f d, e3) ∧ wipeE e3 own = e)) → lcRun own tg c m ds e = some ((ds.filter p).map f, e)
  | [], _ => rfl
  | d :: ds, k => by
    obtain ⟨e1, e2, h1, h2, h3, h4⟩ := k d (by simp)
    have ih := lcRun_filter p f ds fun d hd => k d (by simp [hd])
    cases hp : p d with
    | false => simp [lcRun, h1, h2, hp, h3 hp, ih]
    | true =>
      obtain ⟨e3, h5, h6⟩ := h4 hp
      simp [lcRun, h1, h2, hp, h5, h6, ih]
/-- a def's meaning at its arguments -/
theorem fsem_rt {n : Nat} {io : List Bool} {m : S} {ws : List W} {w : W} {e : Env} (h : m (ws.map some ++ List.replicate (n - ws.length) none) = some (.rt w e)) : fsem n io m ws = some (w, outs io e) := by
  unfold fsem; rw [h]
theorem fsem_nx {n : Nat} {io : List Bool} {m : S} {ws : List W} {e : Env} (h : m (ws.map some ++ List.replicate (n - ws.length) none) = some (.nx e)) : fsem n io m ws = some (.p .none, outs io e) := by
  unfold fsem; rw [h]
end MV
namespace MV
open PySem L2
/-! ### items, numbers -/
section
variable {α : Type} {xs : List α} {i j : Int}
theorem atI_nn (h : 0 ≤ i) : L2.atI xs i = xs[i.toNat]? := by
  unfold L2.atI ixN
  rw [if_pos h]
  by_cases hl : i < (xs.length : Int)
  · rw [if_pos hl]; rfl
  · rw [if_neg hl, List.getElem?_eq_none (by omega)]; rfl
@[simp] theorem atI_0 : L2.atI xs 0 = xs[0]? := atI_nn (by decide)
@[simp] theorem atI_1 : L2.atI xs 1 = xs[1]? := atI_nn (by decide)
@[simp] theorem atI_2 : L2.atI xs 2 = xs[2]? := atI_nn (by decide)
@[simp] theorem atI_3 : L2.atI xs 3 = xs[3]? := atI_nn (by decide)
@[simp] theorem atI_cast {n : Nat} : L2.atI xs (n : Int) = xs[n]? := atI_nn (by omega)
theorem ixN_nn {n : Nat} (h : 0 ≤ i) (hl : i < (n : Int)) : ixN n i = some i.toNat := by unfold ixN; rw [if_pos h, if_pos hl]
@[simp] theorem ixN_0 {n : Nat} : ixN (n + 1) 0 = some 0 := ixN_nn (by decide) (by omega)
@[simp] theorem ixN_1 {n : Nat} : ixN (n + 2) 1 = some 1 := ixN_nn (by decide) (by omega)
@[simp] theorem ixN_2 {n : Nat} : ixN (n + 3) 2 = some 2 := ixN_nn (by decide) (by omega)
@[simp] theorem ixN_3 {n : Nat} : ixN (n + 4) 3 = some 3 := ixN_nn (by decide) (by omega)
end
section
variable {i j : Int} {ds es : List D} {x y : Str} {a b : Bool}
@[simp] theorem dAdd_i : dAdd (.int i) (.int j) = some (.int (i + j)) := rfl
@[simp] theorem dI_i {f : Int → Int → Option D} : dI f (.int i) (.int j) = f i j := rfl
@[simp] theorem dMul_i : dMul (.int i) (.int j) = if CMul i j then some (.int (i * j)) else none := rfl
@[simp] theorem dNeg_i : dNeg (.int i) = some (.int (-i)) := rfl
@[simp] theorem dEq_i : dEq (.int i) (.int j) = some (.bool (decide (i = j))) := rfl
@[simp] theorem dEq_s : dEq (.str x) (.str y) = some (.bool (decide (x = y))) := rfl
@[simp] theorem dEq_b : dEq (.bool a) (.bool b) = some (.bool (decide (a = b))) := rfl
@[simp] theorem dNe_i : dNe (.int i) (.int j) = some (.bool !decide (i = j)) := rfl
@[simp] theorem dNe_s : dNe (.str x) (.str y) = some (.bool !decide (x = y)) := rfl
@[simp] theorem dNe_b : dNe (.bool a) (.bool b) = some (.bool !decide (a = b)) := rfl
@[simp] theorem dIx_l : dIx (.lst ds) (.int i) = L2.atI ds i := rfl
@[simp] theorem dIx_f : dIx (.fl ds) (.int i) = L2.atI ds i := rfl
@[simp] theorem dIx_t : dIx (.tup ds) (.int i) = L2.atI ds i := rfl
@[simp] theorem dIx_s : dIx (.str x) (.int i) = if x.length ≤ LIM then (L2.atI x.cps.toList i).map fun c => .str ⟨#[c]⟩ else none := rfl
@[simp] theorem fLen_l : fLen [.lst ds] = some (.int ds.length) := rfl
@[simp] theorem fLen_f : fLen [.fl ds] = some (.int ds.length) := rfl
@[simp] theorem fLen_t : fLen [.tup ds] = some (.int ds.length) := rfl
@[simp] theorem fLen_s : fLen [.str x] = if x.length ≤ LIM then some (.int x.length) else none := rfl
@[simp] theorem fAbs_i : fAbs [.int i] = some (.int (if i < 0 then -i else i)) := rfl
@[simp] theorem fList_l : fList [.lst ds] = some (.lst ds) := rfl
@[simp] theorem fList_f : fList [.fl ds] = some (.lst ds) := rfl
@[simp] theorem fList_t : fList [.tup ds] = some (.lst ds) := rfl
@[simp] theorem dTru_b : dTru (.bool a) = some a := rfl
@[simp] theorem dTru_n : dTru .none = some false := rfl
@[simp] theorem dIsN_n {d : D} : dIsN d .none = some (.bool (isNone d)) := rfl
@[simp] theorem dNotN_n {d : D} : dNotN d .none = some (.bool !isNone d) := rfl
@[simp] theorem isNone_n : isNone .none = true := rfl
@[simp] theorem isNone_i : isNone (.int i) = false := rfl
@[simp] theorem isNone_b : isNone (.bool a) = false := rfl
@[simp] theorem isNone_s : isNone (.str x) = false := rfl
@[simp] theorem isNone_l : isNone (.lst ds) = false := rfl
@[simp] theorem isNone_t : isNone (.tup ds) = false := rfl
@[simp] theorem isNone_d {es : List (Key × D)} : isNone (.dict es) = false := rfl
@[simp] theorem fLst_e : fLst ds = if ds.length ≤ LIM then some (.lst ds) else none := rfl
@[simp] theorem fTup_e : fTup ds = if ds.length ≤ LIM then some (.tup ds) else none := rfl
@[simp] theorem fRange1_i : fRange1 [.int i] = if -1000000 ≤ i ∧ i ≤ 1000000 then some (rngD 0 i.toNat) else none := rfl
@[simp] theorem fRange2_i : fRange2 [.int i, .int j] = if -1000000 ≤ i ∧ i ≤ 1000000 ∧ -1000000 ≤ j ∧ j ≤ 1000000 then some (rngD i (j - i).toNat) else none := rfl
@[simp] theorem fEnum_l : fEnum [.lst ds] = some (enD ds) := rfl
@[simp] theorem fZip_l : fZip [.lst ds, .lst es] = some (zipD ds es) := rfl
@[simp] theorem fZip_t : fZip [.tup ds, .tup es] = some (zipD ds es) := rfl
@[simp] theorem fAll_l : fAll [.lst ds] = (boolsD ds).map fun bs => .bool (bs.all id) := rfl
@[simp] theorem fAny_l : fAny [.lst ds] = (boolsD ds).map fun bs => .bool (bs.any id) := rfl
theorem boolsD_map {α : Type} {xs : List α} {f : α → Bool} : boolsD (xs.map fun x => .bool (f x)) = some (xs.map f) := by
  induction xs with
  | nil => rfl
  | cons x xs ih => show (boolsD (xs.map fun x => .bool (f x))).map (f x :: ·) = _; rw [ih]; rfl
@[simp] theorem dIsi_i {T : String} : dIsi T (.int i) = some (.bool (isiT "int" T)) := rfl
@[simp] theorem dIsi_b {T : String} : dIsi T (.bool a) = some (.bool (isiT "bool" T)) := rfl
@[simp] theorem dIsi_s {T : String} : dIsi T (.str x) = some (.bool (isiT "str" T)) := rfl
@[simp] theorem dIsi_l {T : String} : dIsi T (.lst ds) = some (.bool (isiT "list" T)) := rfl
@[simp] theorem dIsi_t {T : String} : dIsi T (.tup ds) = some (.bool (isiT "tuple" T)) := rfl
@[simp] theorem dIsi_n {T : String} : dIsi T .none = some (.bool (isiT "NoneType" T)) := rfl
@[simp] theorem joinD_l : joinD (.str x) (.lst ds) = (strsD ds).bind fun ys => if (ys.map (·.length)).sum + ys.length * x.length ≤ LIM then some (.str (Txt.join x ys)) else none := rfl
end
end MV
namespace Lw
open PySem L2 MV
def top (i : Nat) : Stmt := PySem.Challenge.pw_hiddenrank_k01_names_and_values.main.body.getD i (.Pass ⟨0, 0, 0, 0⟩)
abbrev s_x_law_bag : Stmt := (top 7)
abbrev N_x_law_bag : List Str := ["_law_script"]
theorem sc_x_law_bag : FnScope N_x_law_bag ["_law_script"] (defScope s_x_law_bag) := ⟨rfl, rfl, rfl, by decide +kernel, rfl, by decide +kernel, by decide +kernel⟩
abbrev s_x_law_same : Stmt := (top 10)
abbrev N_x_law_same : List Str := ["_law_found", "_law_due", "_law_one", "_law_two"]
theorem sc_x_law_same : FnScope N_x_law_same ["_law_found", "_law_due"] (defScope s_x_law_same) := ⟨rfl, rfl, rfl, by decide +kernel, rfl, by decide +kernel, by decide +kernel⟩
abbrev s_x_law_pull : Stmt := (top 8)
abbrev N_x_law_pull : List Str := ["_law_bag_here", "_law_sides", "_law_cell", "_law_digit", "_law_twice"]
theorem sc_x_law_pull : FnScope N_x_law_pull ["_law_bag_here", "_law_sides"] (defScope s_x_law_pull) := ⟨rfl, rfl, rfl, by decide +kernel, rfl, by decide +kernel, by decide +kernel⟩
abbrev s_x_law_is_name : Stmt := (top 11)
abbrev N_x_law_is_name : List Str := ["_law_text_z", "_law_sign"]
theorem sc_x_law_is_name : FnScope N_x_law_is_name ["_law_text_z"] (defScope s_x_law_is_name) := ⟨rfl, rfl, rfl, by decide +kernel, rfl, by decide +kernel, by decide +kernel⟩
abbrev s_x_law_is_value : Stmt := (top 12)
abbrev N_x_law_is_value : List Str := ["_law_text_z", "_law_signs", "_law_sign"]
theorem sc_x_law_is_value : FnScope N_x_law_is_value ["_law_text_z"] (defScope s_x_law_is_value) := ⟨rfl, rfl, rfl, by decide +kernel, rfl, by decide +kernel, by decide +kernel⟩
abbrev s_is_name : Stmt := (top 4)
abbrev N_is_name : List Str := ["text", "sign"]
theorem sc_is_name : FnScope N_is_name ["text"] (defScope s_is_name) := ⟨rfl, rfl, rfl, by decide +kernel, rfl, by decide +kernel, by decide +kernel⟩
abbrev s_is_value : Stmt := (top 5)
abbrev N_is_value : List Str := ["text", "sign"]
theorem sc_is_value : FnScope N_is_value ["text"] (defScope s_is_value) := ⟨rfl, rfl, rfl, by decide +kernel, rfl, by decide +kernel, by decide +kernel⟩
abbrev s_x_law_of : Stmt := (top 9)
abbrev N_x_law_of : List Str := ["_law_bag_here", "_law_some"]
theorem sc_x_law_of : FnScope N_x_law_of ["_law_bag_here", "_law_some"] (defScope s_x_law_of) := ⟨rfl, rfl, rfl, by decide +kernel, rfl, by decide +kernel, by decide +kernel⟩
abbrev s_law : Stmt := (top 13)
abbrev N_law : List Str := ["_law_script", "_law_bag_here", "_law_signs", "_law_turn", "_law_word", "_law_bend", "_law_at", "_law_due", "_law_k"]
theorem sc_law : FnScope N_law ["_law_script"] (defScope s_law) := ⟨rfl, rfl, rfl, by decide +kernel, rfl, by decide +kernel, by decide +kernel⟩
/-! ### meanings -/
def m_x_law_bag : S := (sRet (mOl (aD (mDisp fList (aD (mSl dSl (mVar 0) mNoI (mOptI (mC (.int 63)))) aNil)) (aD (mC (.int 0)) (aD (mC (.int 0)) (aD (mC (.int 9485)) aNil))))))
def f_x_law_bag : FSem := fsem 1 [false] m_x_law_bag
def b_x_law_same_0 (rec : FSem) : M D := (mGetP (mCall rec (aD (mVar 2) (aD (mVar 3) aNil))))
def m_x_law_same (rec : FSem) : S := (sSeq (sIf (mBool (mOp dIsN (mVar 1) (mC .none))) ((sRet (mP (mOp dIsN (mVar 0) (mC .none))))) (sNext))
  (sSeq (sIf (mOr (mTru (mUn (dIsi "bool") (mVar 1))) (mTru (mUn (dIsi "bool") (mVar 0)))) ((sRet (mP (mAndV (mUn (dIsi "bool") (mVar 1)) (mAndV (mUn (dIsi "bool") (mVar 0)) (mOp dEq (mVar 0) (mVar 1))))))) (sNext))
  (sSeq (sIf (mOr (mTru (mUn (dIsi "int") (mVar 1))) (mTru (mUn (dIsi "str") (mVar 1)))) ((sRet (mP (mAndV (mOp dEq (mUn (dIsi "int") (mVar 0)) (mUn (dIsi "int") (mVar 1))) (mAndV (mOp dEq (mUn (dIsi "str") (mVar 0)) (mUn (dIsi "str") (mVar 1))) (mOp dEq (mVar 0) (mVar 1))))))) (sNext))
  (sSeq (sIf (mOr (mBool (mOp dNe (mUn (dIsi "list") (mVar 1)) (mUn (dIsi "list") (mVar 0)))) (mBool (mOp dNe (mUn (dIsi "tuple") (mVar 1)) (mUn (dIsi "tuple") (mVar 0))))) ((sRet (mP (mC (.bool false))))) (sNext))
  (sRet (mP (mAndV (mOp dEq (mDisp fLen (aD (mVar 0) aNil)) (mDisp fLen (aD (mVar 1) aNil))) (mDisp fAll (aD (mLc [2, 3] (iArgs fZip (aD (mVar 0) (aD (mVar 1) aNil))) (gT 2 (gsCons (gN 2) (gsCons (gN 3) gsNil))) (fun e => some (true, e)) (b_x_law_same_0 rec)) aNil)))))))))
def f_x_law_same : Nat → FSem
  | 0 => fun _ => none
  | n + 1 => fsem 4 [false, false] (m_x_law_same (f_x_law_same n))
def m_x_law_pull : S := (sSeq (sIf (mAnd (mBool (mOp dEq (mIxO 0 (mC (.int 2))) (mC (.int 0)))) (mBool (mOp dLt (mIxO 0 (mC (.int 1))) (mDisp fLen (aD (mIxO 0 (mC (.int 0))) aNil))))) ((sSeq (sSet 2 (mP (mOp dIx (mIxO 0 (mC (.int 0))) (mIxO 0 (mC (.int 1))))))
  (sSeq (sSetIx 0 (mC (.int 1)) (mOp dAdd (mIxO 0 (mC (.int 1))) (mC (.int 1))))
  (sIf (mBool (mOp dGe (mDisp fAbs (aD (mVar 2) aNil)) (mOp dPow (mC (.int 10)) (mC (.int 18))))) ((sSetIx 0 (mC (.int 2)) (mDisp fAbs (aD (mVar 2) aNil)))) ((sSetIx 0 (mC (.int 3)) (mOp dMod (mOp dAdd (mOp dAdd (mOp dMul (mIxO 0 (mC (.int 3))) (mC (.int 48271))) (mOp dMul (mOp dMod (mVar 2) (mC (.int 1000003))) (mC (.int 911)))) (mC (.int 7))) (mC (.int 2147483647))))))))) (sNext))
  (sSeq (sIf (mBool (mOp dGt (mIxO 0 (mC (.int 2))) (mC (.int 0)))) ((sSeq (sSet 3 (mP (mOp dMod (mIxO 0 (mC (.int 2))) (mVar 1))))
  (sSeq (sSetIx 0 (mC (.int 2)) (mOp dDiv (mIxO 0 (mC (.int 2))) (mVar 1)))
  (sRet (mP (mVar 3)))))) (sNext))
  (sSeq (sSet 4 (mP (mOp dMod (mOp dMul (mIxO 0 (mC (.int 3))) (mIxO 0 (mC (.int 3)))) (mC (.int 2147483629)))))
  (sSeq (sSetIx 0 (mC (.int 3)) (mOp dMod (mOp dAdd (mOp dAdd (mOp dMul (mVar 4) (mC (.int 16807))) (mOp dMul (mIxO 0 (mC (.int 3))) (mC (.int 40692)))) (mC (.int 12345))) (mC (.int 2147483647))))
  (sRet (mP (mOp dMod (mOp dDiv (mIxO 0 (mC (.int 3))) (mC (.int 64))) (mVar 1))))))))
def f_x_law_pull : FSem := fsem 5 [true, false] m_x_law_pull
def b_x_law_is_name_0 : M D := (mOp dIn (mVar 1) (mC (.str "abcdefghijklmnopqrstuvwxyz")))
def m_x_law_is_name : S := (sRet (mP (mAndV (mChain dLe dLe (mC (.int 1)) (mDisp fLen (aD (mVar 0) aNil)) (mC (.int 8))) (mDisp fAll (aD (mLc [1] (iTxt (mVar 0)) (gN 1) (fun e => some (true, e)) b_x_law_is_name_0) aNil)))))
def f_x_law_is_name : FSem := fsem 2 [false] m_x_law_is_name
def b_x_law_is_value_0 : M D := (mOp dIn (mVar 2) (mVar 1))
def m_x_law_is_value : S := (sSeq (sSet 1 (mP (mC (.str "abcdefghijklmnopqrstuvwxyz0123456789"))))
  (sRet (mP (mAndV (mChain dLe dLe (mC (.int 1)) (mDisp fLen (aD (mVar 0) aNil)) (mC (.int 8))) (mDisp fAll (aD (mLc [2] (iTxt (mVar 0)) (gN 2) (fun e => some (true, e)) b_x_law_is_value_0) aNil))))))
def f_x_law_is_value : FSem := fsem 3 [false] m_x_law_is_value
def b_is_name_0 : M D := (mOp dIn (mVar 1) (mC (.str "abcdefghijklmnopqrstuvwxyz")))
def m_is_name : S := (sRet (mP (mAndV (mChain dLe dLe (mC (.int 1)) (mDisp fLen (aD (mVar 0) aNil)) (mC (.int 8))) (mDisp fAll (aD (mLc [1] (iTxt (mVar 0)) (gN 1) (fun e => some (true, e)) b_is_name_0) aNil)))))
def f_is_name : FSem := fsem 2 [false] m_is_name
def b_is_value_0 : M D := (mOp dIn (mVar 1) (mC (.str "abcdefghijklmnopqrstuvwxyz0123456789")))
def m_is_value : S := (sRet (mP (mAndV (mChain dLe dLe (mC (.int 1)) (mDisp fLen (aD (mVar 0) aNil)) (mC (.int 8))) (mDisp fAll (aD (mLc [1] (iTxt (mVar 0)) (gN 1) (fun e => some (true, e)) b_is_value_0) aNil)))))
def f_is_value : FSem := fsem 2 [false] m_is_value
def m_x_law_of : S := (sRet (mP (mOp dIx (mVar 1) (mGetP (mCall f_x_law_pull (aIO 0 (aD (mDisp fLen (aD (mVar 1) aNil)) aNil)))))))
def f_x_law_of : FSem := fsem 2 [true, false] m_x_law_of
def b_law_0 : M D := (mGetP (mCall f_x_law_of (aIO 1 (aD (mSl dSl (mVar 2) mNoI (mOptI (mC (.int 26)))) aNil))))
def b_law_1 : S := (sSeq (sSet 6 (mP (mGetP (mCall f_x_law_pull (aIO 1 (aD (mOp dAdd (mDisp fLen (aD (mVar 4) aNil)) (mC (.int 1))) aNil))))))
  (sSet 4 (mP (mOp dAdd (mOp dAdd (mSl dSl (mVar 4) mNoI (mOptI (mVar 6))) (mGetP (mCall f_x_law_of (aIO 1 (aD (mVar 2) aNil))))) (mSl dSl (mVar 4) (mOptI (mOp dAdd (mVar 6) (mGetP (mCall f_x_law_pull (aIO 1 (aD (mC (.int 2)) aNil)))))) mNoI)))))
def b_law_2 : S := (sSeq (sSet 4 (mP (mOp2 joinD (mC (.str "")) (aD (mLc [8] (iArgs fRange1 (aD (mGetP (mCall f_x_law_pull (aIO 1 (aD (mC (.int 10)) aNil)))) aNil)) (gN 8) (fun e => some (true, e)) b_law_0) aNil))))
  (sSeq (sFor (iArgs fRange1 (aD (mGetP (mCall f_x_law_pull (aIO 1 (aD (mC (.int 3)) aNil)))) aNil)) (gN 5) (b_law_1))
  (sSeq (sSet 7 (mP (mDisp fLst (aD (mGetP (mCall f_x_law_is_name (aD (mVar 4) aNil))) (aD (mGetP (mCall f_x_law_is_value (aD (mVar 4) aNil))) aNil)))))
  (sIf (mNot (mTru (mGetP (mCall (f_x_law_same 10) (aD (mDisp fLst (aD (mGetP (mCall f_is_name (aD (mVar 4) aNil))) (aD (mGetP (mCall f_is_value (aD (mVar 4) aNil))) (aD (mGetP (mCall f_is_name (aPerm [0] (aD (mVar 4) aNil)))) (aD (mGetP (mCall f_is_value (aPerm [0] (aD (mVar 4) aNil)))) aNil))))) (aD (mOp dAdd (mVar 7) (mVar 7)) aNil)))))) ((sRet (mP (mC (.bool false))))) (sNext)))))
def m_law : S := (sSeq (sSet 1 (mCall f_x_law_bag (aD (mVar 0) aNil)))
  (sSeq (sSet 2 (mP (mC (.str "abcdefghijklmnopqrstuvwxyz0123456789AZ _-~\n"))))
  (sSeq (sFor (iArgs fRange1 (aD (mC (.int 12)) aNil)) (gN 3) (b_law_2))
  (sRet (mP (mGetP (mCall (f_x_law_same 10) (aD (mDisp fLst (aD (mGetP (mCall f_is_name (aD (mC (.str "")) aNil))) (aD (mGetP (mCall f_is_value (aD (mC (.str "")) aNil))) (aD (mGetP (mCall f_is_value (aD (mC (.str "0")) aNil))) (aD (mGetP (mCall f_is_name (aD (mOp dMul (mC (.str "a")) (mC (.int 8))) aNil))) (aD (mC (.int 8)) aNil)))))) (aD (mDisp fLst (aD (mC (.bool false)) (aD (mC (.bool false)) (aD (mC (.bool true)) (aD (mC (.bool true)) (aD (mC (.int 8)) aNil)))))) aNil)))))))))
def f_law : FSem := fsem 9 [false] m_law
/-! ### the text's facts -/
structure Facts (K : PySem.W.Frag) (mg : Str → Option Value) : Prop where
  g_x_law_bag : mg "_law_bag" = some (.ref (He.ga K "_law_bag"))
  g_x_law_same : mg "_law_same" = some (.ref (He.ga K "_law_same"))
  g_x_law_pull : mg "_law_pull" = some (.ref (He.ga K "_law_pull"))
  g_x_law_is_name : mg "_law_is_name" = some (.ref (He.ga K "_law_is_name"))
  g_x_law_is_value : mg "_law_is_value" = some (.ref (He.ga K "_law_is_value"))
  g_is_name : mg "is_name" = some (.ref (He.ga K "is_name"))
  g_is_value : mg "is_value" = some (.ref (He.ga K "is_value"))
  g_x_law_of : mg "_law_of" = some (.ref (He.ga K "_law_of"))
  g_law : mg "law" = some (.ref (He.ga K "law"))
  n_abs : mg "abs" = none
  n_all : mg "all" = none
  n_bool : mg "bool" = none
  n_int : mg "int" = none
  n_isinstance : mg "isinstance" = none
  n_len : mg "len" = none
  n_list : mg "list" = none
  n_range : mg "range" = none
  n_str : mg "str" = none
  n_tuple : mg "tuple" = none
  n_zip : mg "zip" = none
  c_LETTERS : ∃ t, mg "LETTERS" = some (.str "abcdefghijklmnopqrstuvwxyz" t)
  c_MAX_NAME : ∃ t, mg "MAX_NAME" = some (.int 8 t)
  c_SIGNS : ∃ t, mg "SIGNS" = some (.str "abcdefghijklmnopqrstuvwxyz0123456789" t)
  d_x_law_bag : ∃ fd, FunD K "_law_bag" "_law_bag" (defArgs s_x_law_bag) (defBody s_x_law_bag) (defScope s_x_law_bag) [] [] (He.ga K "_law_bag") fd
  d_x_law_same : ∃ fd, FunD K "_law_same" "_law_same" (defArgs s_x_law_same) (defBody s_x_law_same) (defScope s_x_law_same) [] [] (He.ga K "_law_same") fd
  d_x_law_pull : ∃ fd, FunD K "_law_pull" "_law_pull" (defArgs s_x_law_pull) (defBody s_x_law_pull) (defScope s_x_law_pull) [] [] (He.ga K "_law_pull") fd
  d_x_law_is_name : ∃ fd, FunD K "_law_is_name" "_law_is_name" (defArgs s_x_law_is_name) (defBody s_x_law_is_name) (defScope s_x_law_is_name) [] [] (He.ga K "_law_is_name") fd
  d_x_law_is_value : ∃ fd, FunD K "_law_is_value" "_law_is_value" (defArgs s_x_law_is_value) (defBody s_x_law_is_value) (defScope s_x_law_is_value) [] [] (He.ga K "_law_is_value") fd
  d_is_name : ∃ fd, FunD K "is_name" "is_name" (defArgs s_is_name) (defBody s_is_name) (defScope s_is_name) [] [] (He.ga K "is_name") fd
  d_is_value : ∃ fd, FunD K "is_value" "is_value" (defArgs s_is_value) (defBody s_is_value) (defScope s_is_value) [] [] (He.ga K "is_value") fd
  d_x_law_of : ∃ fd, FunD K "_law_of" "_law_of" (defArgs s_x_law_of) (defBody s_x_law_of) (defScope s_x_law_of) [] [] (He.ga K "_law_of") fd
  d_law : ∃ fd, FunD K "law" "law" (defArgs s_law) (defBody s_law) (defScope s_law) [] [] (He.ga K "law") fd
section
variable {P : Program} {w : World} {K : PySem.W.Frag} {mg : Str → Option Value} {base : Heap}
theorem ok_x_law_bag (T : Facts K mg)  : Fn P w K mg base 1 "_law_bag" ["_law_script"] f_x_law_bag := by
  obtain ⟨fd, F⟩ := T.d_x_law_bag
  exact ⟨_, fd, T.g_x_law_bag, F.kp, FunD.bindsN F (fun _ _ _ _ _ _ us hl => match us, hl with | [_], _ => rfl), fn_sem F sc_x_law_bag rfl fun cdv A outer s H E hr => (sb_one (ss_ret (so_lst (sa_d (se_callTy call_list_of cd_list rfl T.n_list (by rfl) (sa_d (se_slice (se_var (pv 0)) spo_none (spo_some se_int)) sa_nil)) (sa_d se_int (sa_d se_int (sa_d se_int sa_nil)))))))⟩
theorem ok_x_law_same (T : Facts K mg)  : ∀ n : Nat, Fn P w K mg base (n + 1) "_law_same" ["_law_found", "_law_due"] (f_x_law_same n)
  | 0 => by
    obtain ⟨fd, F⟩ := T.d_x_law_same
    exact ⟨_, fd, T.g_x_law_same, F.kp, FunD.bindsN F (fun _ _ _ _ _ _ us hl => match us, hl with | [_, _], _ => rfl), fn_none⟩
  | n + 1 => by
    have REC := ok_x_law_same T  n
    obtain ⟨fd, F⟩ := T.d_x_law_same
    refine ⟨_, fd, T.g_x_law_same, F.kp, FunD.bindsN F (fun _ _ _ _ _ _ us hl => match us, hl with | [_, _], _ => rfl), ?_⟩
    rw [show n + 1 + 1 = (n + 1) + 1 by omega]
    exact fn_sem F sc_x_law_same rfl fun cdv A outer s H E hr => (sb_cons (ss_if (st_cmp op_isN1 od_isN (se_var (pv 1)) se_non (nomark _)) (sb_one (ss_ret (so_p (se_cmp op_isN1 od_isN (se_var (pv 0)) se_non (nomark _))))) sb_nil) (sb_cons (ss_if (SW.st (sw_or (st_tru (se_isi (T := "bool") (by decide) (by decide) rfl T.n_isinstance rfl T.n_bool (by rfl) (se_var (pv 1))) (fun _ => rfl)) (sw_or1 (st_tru (se_isi (T := "bool") (by decide) (by decide) rfl T.n_isinstance rfl T.n_bool (by rfl) (se_var (pv 0))) (fun _ => rfl))))) (sb_one (ss_ret (so_p (se_and (se_isi (T := "bool") (by decide) (by decide) rfl T.n_isinstance rfl T.n_bool (by rfl) (se_var (pv 1))) (se_and (se_isi (T := "bool") (by decide) (by decide) rfl T.n_isinstance rfl T.n_bool (by rfl) (se_var (pv 0))) (se_one (se_cmp (op_eq2 hr.u64) od_eq (se_var (pv 0)) (se_var (pv 1)) (nomark _)))))))) sb_nil) (sb_cons (ss_if (SW.st (sw_or (st_tru (se_isi (T := "int") (by decide) (by decide) rfl T.n_isinstance rfl T.n_int (by rfl) (se_var (pv 1))) (fun _ => rfl)) (sw_or1 (st_tru (se_isi (T := "str") (by decide) (by decide) rfl T.n_isinstance rfl T.n_str (by rfl) (se_var (pv 1))) (fun _ => rfl))))) (sb_one (ss_ret (so_p (se_and (se_cmp (op_eq2 hr.u64) od_eq (se_isi (T := "int") (by decide) (by decide) rfl T.n_isinstance rfl T.n_int (by rfl) (se_var (pv 0))) (se_isi (T := "int") (by decide) (by decide) rfl T.n_isinstance rfl T.n_int (by rfl) (se_var (pv 1))) (nomark _)) (se_and (se_cmp (op_eq2 hr.u64) od_eq (se_isi (T := "str") (by decide) (by decide) rfl T.n_isinstance rfl T.n_str (by rfl) (se_var (pv 0))) (se_isi (T := "str") (by decide) (by decide) rfl T.n_isinstance rfl T.n_str (by rfl) (se_var (pv 1))) (nomark _)) (se_one (se_cmp (op_eq2 hr.u64) od_eq (se_var (pv 0)) (se_var (pv 1)) (nomark _)))))))) sb_nil) (sb_cons (ss_if (SW.st (sw_or (st_cmp (op_ne2 hr.u64) od_ne (se_isi (T := "list") (by decide) (by decide) rfl T.n_isinstance rfl T.n_list (by rfl) (se_var (pv 1))) (se_isi (T := "list") (by decide) (by decide) rfl T.n_isinstance rfl T.n_list (by rfl) (se_var (pv 0))) (nomark _)) (sw_or1 (st_cmp (op_ne2 hr.u64) od_ne (se_isi (T := "tuple") (by decide) (by decide) rfl T.n_isinstance rfl T.n_tuple (by rfl) (se_var (pv 1))) (se_isi (T := "tuple") (by decide) (by decide) rfl T.n_isinstance rfl T.n_tuple (by rfl) (se_var (pv 0))) (nomark _))))) (sb_one (ss_ret (so_p se_bl))) sb_nil) (sb_one (ss_ret (so_p (se_and (se_cmp (op_eq2 hr.u64) od_eq (se_callB call_len cd_len rfl T.n_len boot_len (sa_d (se_var (pv 0)) sa_nil)) (se_callB call_len cd_len rfl T.n_len boot_len (sa_d (se_var (pv 1)) sa_nil)) (nomark _)) (se_one (se_callB (cr_all rfl) cd_all rfl T.n_all (by rfl) (sa_d (se_lc (own := [("_law_one", 2), ("_law_two", 3)]) rfl sc_x_law_same.nd (blkOk_by (N := N_x_law_same) (sc := (defScope s_x_law_same)) (by decide +kernel)) (si_zip rfl T.n_zip (sa_d (se_var (pv 0)) (sa_d (se_var (pv 1)) sa_nil))) (fun _ _ _ _ _ => (sg_tup (n := 2) rfl (sgs_cons (sg_name (i := 2) rfl sc_x_law_same.nd rfl (Or.inl rfl)) (sgs_cons (sg_name (i := 3) rfl sc_x_law_same.nd rfl (Or.inl rfl)) sgs_nil)))) (fun _ _ _ _ _ => sts_nil) (fun _ _ _ _ _ => (se_o (so_fn REC (hr.mono (by omega)) rfl (sa_d (se_var (pv 2)) (sa_d (se_var (pv 3)) sa_nil)) (len_d (len_d len_nil)))))) sa_nil)))))))))))
theorem ok_x_law_pull (T : Facts K mg)  : Fn P w K mg base 1 "_law_pull" ["_law_bag_here", "_law_sides"] f_x_law_pull := by
  obtain ⟨fd, F⟩ := T.d_x_law_pull
  exact ⟨_, fd, T.g_x_law_pull, F.kp, FunD.bindsN F (fun _ _ _ _ _ _ us hl => match us, hl with | [_, _], _ => rfl), fn_sem F sc_x_law_pull rfl fun cdv A outer s H E hr => (sb_cons (ss_if (SW.st (sw_and (st_cmp (op_eq2 hr.u64) od_eq (se_ixO (pv 0) se_int (fun _ _ => rfl)) se_int (nomark _)) (sw_and1 (st_cmp op_lt od_lt (se_ixO (pv 0) se_int (fun _ _ => rfl)) (se_callB call_len cd_len rfl T.n_len boot_len (sa_d (se_ixO (pv 0) se_int (fun _ _ => rfl)) sa_nil)) (nomark _))))) (sb_cons (ss_set (i := 2) rfl sc_x_law_pull.nd rfl (Or.inl rfl) (so_p (se_ix (se_ixO (pv 0) se_int (fun _ _ => rfl)) (se_ixO (pv 0) se_int (fun _ _ => rfl)) (fun _ _ => rfl)))) (sb_cons (ss_setIx (se_op op_addD od_add (se_ixO (pv 0) se_int (fun _ _ => rfl)) se_int) (pv 0) se_int) (sb_one (ss_if (st_cmp op_ge od_ge (se_callB call_abs cd_abs rfl T.n_abs (by rfl) (sa_d (se_var (pv 2)) sa_nil)) (se_op op_pow od_pow se_int se_int) (nomark _)) (sb_one (ss_setIx (se_callB call_abs cd_abs rfl T.n_abs (by rfl) (sa_d (se_var (pv 2)) sa_nil)) (pv 0) se_int)) (sb_one (ss_setIx (se_op op_mod od_mod (se_op op_addD od_add (se_op op_addD od_add (se_op op_mulD od_mul (se_ixO (pv 0) se_int (fun _ _ => rfl)) se_int) (se_op op_mulD od_mul (se_op op_mod od_mod (se_var (pv 2)) se_int) se_int)) se_int) se_int) (pv 0) se_int)))))) sb_nil) (sb_cons (ss_if (st_cmp op_gt od_gt (se_ixO (pv 0) se_int (fun _ _ => rfl)) se_int (nomark _)) (sb_cons (ss_set (i := 3) rfl sc_x_law_pull.nd rfl (Or.inl rfl) (so_p (se_op op_mod od_mod (se_ixO (pv 0) se_int (fun _ _ => rfl)) (se_var (pv 1))))) (sb_cons (ss_setIx (se_op op_fdiv od_div (se_ixO (pv 0) se_int (fun _ _ => rfl)) (se_var (pv 1))) (pv 0) se_int) (sb_one (ss_ret (so_p (se_var (pv 3))))))) sb_nil) (sb_cons (ss_set (i := 4) rfl sc_x_law_pull.nd rfl (Or.inl rfl) (so_p (se_op op_mod od_mod (se_op op_mulD od_mul (se_ixO (pv 0) se_int (fun _ _ => rfl)) (se_ixO (pv 0) se_int (fun _ _ => rfl))) se_int))) (sb_cons (ss_setIx (se_op op_mod od_mod (se_op op_addD od_add (se_op op_addD od_add (se_op op_mulD od_mul (se_var (pv 4)) se_int) (se_op op_mulD od_mul (se_ixO (pv 0) se_int (fun _ _ => rfl)) se_int)) se_int) se_int) (pv 0) se_int) (sb_one (ss_ret (so_p (se_op op_mod od_mod (se_op op_fdiv od_div (se_ixO (pv 0) se_int (fun _ _ => rfl)) se_int) (se_var (pv 1))))))))))⟩
theorem ok_x_law_is_name (T : Facts K mg)  : Fn P w K mg base 1 "_law_is_name" ["_law_text_z"] f_x_law_is_name := by
  obtain ⟨fd, F⟩ := T.d_x_law_is_name
  exact ⟨_, fd, T.g_x_law_is_name, F.kp, FunD.bindsN F (fun _ _ _ _ _ _ us hl => match us, hl with | [_], _ => rfl), fn_sem F sc_x_law_is_name rfl fun cdv A outer s H E hr => (sb_one (ss_ret (so_p (se_and (se_chain op_le od_le op_le od_le se_int (se_callB call_len cd_len rfl T.n_len boot_len (sa_d (se_var (pv 0)) sa_nil)) se_int) (se_one (se_callB (cr_all rfl) cd_all rfl T.n_all (by rfl) (sa_d (se_lc (own := [("_law_sign", 1)]) rfl sc_x_law_is_name.nd (blkOk_by (N := N_x_law_is_name) (sc := (defScope s_x_law_is_name)) (by decide +kernel)) (si_txt (se_var (pv 0))) (fun _ _ _ _ _ => (sg_name (i := 1) rfl sc_x_law_is_name.nd rfl (Or.inl rfl))) (fun _ _ _ _ _ => sts_nil) (fun _ _ _ _ _ => (se_cmp (op_inG hr.u65) od_in (se_var (pv 1)) se_str (by with_unfolding_all rfl)))) sa_nil)))))))⟩
theorem ok_x_law_is_value (T : Facts K mg)  : Fn P w K mg base 1 "_law_is_value" ["_law_text_z"] f_x_law_is_value := by
  obtain ⟨fd, F⟩ := T.d_x_law_is_value
  exact ⟨_, fd, T.g_x_law_is_value, F.kp, FunD.bindsN F (fun _ _ _ _ _ _ us hl => match us, hl with | [_], _ => rfl), fn_sem F sc_x_law_is_value rfl fun cdv A outer s H E hr => (sb_cons (ss_set (i := 1) rfl sc_x_law_is_value.nd rfl (Or.inr rfl) (so_p se_str)) (sb_one (ss_ret (so_p (se_and (se_chain op_le od_le op_le od_le se_int (se_callB call_len cd_len rfl T.n_len boot_len (sa_d (se_var (pv 0)) sa_nil)) se_int) (se_one (se_callB (cr_all rfl) cd_all rfl T.n_all (by rfl) (sa_d (se_lc (own := [("_law_sign", 2)]) rfl sc_x_law_is_value.nd (blkOk_by (N := N_x_law_is_value) (sc := (defScope s_x_law_is_value)) (by decide +kernel)) (si_txt (se_var (pv 0))) (fun _ _ _ _ _ => (sg_name (i := 2) rfl sc_x_law_is_value.nd rfl (Or.inl rfl))) (fun _ _ _ _ _ => sts_nil) (fun _ _ _ _ _ => (se_cmp (op_inG hr.u65) od_in (se_var (pv 2)) (se_var (pv 1)) (by with_unfolding_all rfl)))) sa_nil))))))))⟩
theorem okk_is_name (T : Facts K mg)  : Fn P w K mg base 1 "is_name" ["text"] f_is_name ∧ FnK P w K mg base 1 "is_name" ["text"] ["text"] [0] f_is_name := by
  obtain ⟨fd, F⟩ := T.d_is_name
  have FO : FnOk P w K mg base CX0 1 _ fd ["text"] (spF K mg 1 f_is_name) := fn_sem F sc_is_name rfl fun cdv A outer s H E hr => (sb_one (ss_ret (so_p (se_and (se_chain op_le od_le op_le od_le se_int (se_callB call_len cd_len rfl T.n_len boot_len (sa_d (se_var (pv 0)) sa_nil)) (se_globI rfl T.c_MAX_NAME)) (se_one (se_callB (cr_all rfl) cd_all rfl T.n_all (by rfl) (sa_d (se_lc (own := [("sign", 1)]) rfl sc_is_name.nd (blkOk_by (N := N_is_name) (sc := (defScope s_is_name)) (by decide +kernel)) (si_txt (se_var (pv 0))) (fun _ _ _ _ _ => (sg_name (i := 1) rfl sc_is_name.nd rfl (Or.inl rfl))) (fun _ _ _ _ _ => sts_nil) (fun _ _ _ _ _ => (se_cmp (op_inG hr.u65) od_in (se_var (pv 1)) (se_globS rfl T.c_LETTERS) (by with_unfolding_all rfl)))) sa_nil)))))))
  exact ⟨⟨_, fd, T.g_is_name, F.kp, FunD.bindsN F (fun _ _ _ _ _ _ us hl => match us, hl with | [_], _ => rfl), FO⟩, ⟨_, fd, T.g_is_name, F.kp, FunD.kb F (fun _ _ _ _ _ _ us hl => match us, hl with | [_], _ => rfl), FO⟩⟩
theorem ok_is_name (T : Facts K mg)  : Fn P w K mg base 1 "is_name" ["text"] f_is_name := (okk_is_name T ).1
theorem kw_1 (T : Facts K mg)  : FnK P w K mg base 1 "is_name" ["text"] ["text"] [0] f_is_name := (okk_is_name T ).2
theorem okk_is_value (T : Facts K mg)  : Fn P w K mg base 1 "is_value" ["text"] f_is_value ∧ FnK P w K mg base 1 "is_value" ["text"] ["text"] [0] f_is_value := by
  obtain ⟨fd, F⟩ := T.d_is_value
  have FO : FnOk P w K mg base CX0 1 _ fd ["text"] (spF K mg 1 f_is_value) := fn_sem F sc_is_value rfl fun cdv A outer s H E hr => (sb_one (ss_ret (so_p (se_and (se_chain op_le od_le op_le od_le se_int (se_callB call_len cd_len rfl T.n_len boot_len (sa_d (se_var (pv 0)) sa_nil)) (se_globI rfl T.c_MAX_NAME)) (se_one (se_callB (cr_all rfl) cd_all rfl T.n_all (by rfl) (sa_d (se_lc (own := [("sign", 1)]) rfl sc_is_value.nd (blkOk_by (N := N_is_value) (sc := (defScope s_is_value)) (by decide +kernel)) (si_txt (se_var (pv 0))) (fun _ _ _ _ _ => (sg_name (i := 1) rfl sc_is_value.nd rfl (Or.inl rfl))) (fun _ _ _ _ _ => sts_nil) (fun _ _ _ _ _ => (se_cmp (op_inG hr.u65) od_in (se_var (pv 1)) (se_globS rfl T.c_SIGNS) (by with_unfolding_all rfl)))) sa_nil)))))))
  exact ⟨⟨_, fd, T.g_is_value, F.kp, FunD.bindsN F (fun _ _ _ _ _ _ us hl => match us, hl with | [_], _ => rfl), FO⟩, ⟨_, fd, T.g_is_value, F.kp, FunD.kb F (fun _ _ _ _ _ _ us hl => match us, hl with | [_], _ => rfl), FO⟩⟩
theorem ok_is_value (T : Facts K mg)  : Fn P w K mg base 1 "is_value" ["text"] f_is_value := (okk_is_value T ).1
theorem kw_0 (T : Facts K mg)  : FnK P w K mg base 1 "is_value" ["text"] ["text"] [0] f_is_value := (okk_is_value T ).2
theorem ok_x_law_of (T : Facts K mg) (F_x_law_pull : Fn P w K mg base 1 "_law_pull" ["_law_bag_here", "_law_sides"] f_x_law_pull) : Fn P w K mg base 2 "_law_of" ["_law_bag_here", "_law_some"] f_x_law_of := by
  obtain ⟨fd, F⟩ := T.d_x_law_of
  exact ⟨_, fd, T.g_x_law_of, F.kp, FunD.bindsN F (fun _ _ _ _ _ _ us hl => match us, hl with | [_, _], _ => rfl), fn_sem F sc_x_law_of rfl fun cdv A outer s H E hr => (sb_one (ss_ret (so_p (se_ix (se_var (pv 1)) (se_o (so_fn F_x_law_pull (hr.mono (by first | decide | omega)) rfl (sa_io (pv 0) (sa_d (se_callB call_len cd_len rfl T.n_len boot_len (sa_d (se_var (pv 1)) sa_nil)) sa_nil)) (len_io (len_d len_nil)))) (fun _ _ => rfl)))))⟩
theorem okd_law (T : Facts K mg) (F_x_law_bag : Fn P w K mg base 1 "_law_bag" ["_law_script"] f_x_law_bag) (F_x_law_is_name : Fn P w K mg base 1 "_law_is_name" ["_law_text_z"] f_x_law_is_name) (F_x_law_is_value : Fn P w K mg base 1 "_law_is_value" ["_law_text_z"] f_x_law_is_value) (F_x_law_of : Fn P w K mg base 2 "_law_of" ["_law_bag_here", "_law_some"] f_x_law_of) (F_x_law_pull : Fn P w K mg base 1 "_law_pull" ["_law_bag_here", "_law_sides"] f_x_law_pull) (F_x_law_same : Fn P w K mg base 11 "_law_same" ["_law_found", "_law_due"] (f_x_law_same 10)) (F_is_name : Fn P w K mg base 1 "is_name" ["text"] f_is_name) (F_is_value : Fn P w K mg base 1 "is_value" ["text"] f_is_value) (K0 : FnK P w K mg base 1 "is_value" ["text"] ["text"] [0] f_is_value) (K1 : FnK P w K mg base 1 "is_name" ["text"] ["text"] [0] f_is_name) {fd : FuncData} (F : FunD K "law" "law" (defArgs s_law) (defBody s_law) (defScope s_law) [] [] (He.ga K "law") fd) : FnOk P w K mg base CX0 12 (He.ga K "law") fd ["_law_script"] (spF K mg 1 f_law) := fn_sem F sc_law rfl fun cdv A outer s H E hr => (sb_cons (ss_set (i := 1) rfl sc_law.nd rfl (Or.inr rfl) (so_fn F_x_law_bag (hr.mono (by first | decide | omega)) rfl (sa_d (se_var (pv 0)) sa_nil) (len_d len_nil))) (sb_cons (ss_set (i := 2) rfl sc_law.nd rfl (Or.inr rfl) (so_p se_str)) (sb_cons (ss_for PassesOwn.never rfl (si_range1 rfl T.n_range (sa_d se_int sa_nil)) (sg_name (i := 3) rfl sc_law.nd rfl (Or.inl rfl)) (sb_cons (ss_set (i := 4) rfl sc_law.nd rfl (Or.inl rfl) (so_p (se_join se_str (sa_d (se_lc (own := [("_law_k", 8)]) rfl sc_law.nd (blkOk_by (N := N_law) (sc := (defScope s_law)) (by decide +kernel)) (si_range1 rfl T.n_range (sa_d (se_o (so_fn F_x_law_pull (hr.mono (by first | decide | omega)) rfl (sa_io (pv 1) (sa_d se_int sa_nil)) (len_io (len_d len_nil)))) sa_nil)) (fun _ _ _ _ _ => (sg_name (i := 8) rfl sc_law.nd rfl (Or.inl rfl))) (fun _ _ _ _ _ => sts_nil) (fun _ _ _ _ _ => (se_o (so_fn F_x_law_of (hr.mono (by first | decide | omega)) rfl (sa_io (pv 1) (sa_d (se_slice (se_var (pv 2)) spo_none (spo_some se_int)) sa_nil)) (len_io (len_d len_nil)))))) sa_nil)))) (sb_cons (ss_for PassesOwn.never rfl (si_range1 rfl T.n_range (sa_d (se_o (so_fn F_x_law_pull (hr.mono (by first | decide | omega)) rfl (sa_io (pv 1) (sa_d se_int sa_nil)) (len_io (len_d len_nil)))) sa_nil)) (sg_name (i := 5) rfl sc_law.nd rfl (Or.inl rfl)) (sb_cons (ss_set (i := 6) rfl sc_law.nd rfl (Or.inl rfl) (so_p (se_o (so_fn F_x_law_pull (hr.mono (by first | decide | omega)) rfl (sa_io (pv 1) (sa_d (se_op op_addD od_add (se_callB call_len cd_len rfl T.n_len boot_len (sa_d (se_var (pv 4)) sa_nil)) se_int) sa_nil)) (len_io (len_d len_nil)))))) (sb_one (ss_set (i := 4) rfl sc_law.nd rfl (Or.inl rfl) (so_p (se_op op_addD od_add (se_op op_addD od_add (se_slice (se_var (pv 4)) spo_none (spo_some (se_var (pv 6)))) (se_o (so_fn F_x_law_of (hr.mono (by first | decide | omega)) rfl (sa_io (pv 1) (sa_d (se_var (pv 2)) sa_nil)) (len_io (len_d len_nil))))) (se_slice (se_var (pv 4)) (spo_some (se_op op_addD od_add (se_var (pv 6)) (se_o (so_fn F_x_law_pull (hr.mono (by first | decide | omega)) rfl (sa_io (pv 1) (sa_d se_int sa_nil)) (len_io (len_d len_nil)))))) spo_none))))))) (sb_cons (ss_set (i := 7) rfl sc_law.nd rfl (Or.inl rfl) (so_p (se_lst (sa_d (se_o (so_fn F_x_law_is_name (hr.mono (by first | decide | omega)) rfl (sa_d (se_var (pv 4)) sa_nil) (len_d len_nil))) (sa_d (se_o (so_fn F_x_law_is_value (hr.mono (by first | decide | omega)) rfl (sa_d (se_var (pv 4)) sa_nil) (len_d len_nil))) sa_nil))))) (sb_one (ss_if (st_not (st_tru (se_o (so_fn F_x_law_same (hr.mono (by first | decide | omega)) rfl (sa_d (se_lst (sa_d (se_o (so_fn F_is_name (hr.mono (by first | decide | omega)) rfl (sa_d (se_var (pv 4)) sa_nil) (len_d len_nil))) (sa_d (se_o (so_fn F_is_value (hr.mono (by first | decide | omega)) rfl (sa_d (se_var (pv 4)) sa_nil) (len_d len_nil))) (sa_d (se_o (so_fnK K1 (hr.mono (by first | decide | omega)) rfl (sk_d (se_var (pv 4)) sk_nil) (len_perm (by decide) (by decide) (len_d len_nil)) (len_d len_nil))) (sa_d (se_o (so_fnK K0 (hr.mono (by first | decide | omega)) rfl (sk_d (se_var (pv 4)) sk_nil) (len_perm (by decide) (by decide) (len_d len_nil)) (len_d len_nil))) sa_nil))))) (sa_d (se_op op_addD od_add (se_var (pv 7)) (se_var (pv 7))) sa_nil)) (len_d (len_d len_nil)))) (fun _ => rfl))) (sb_one (ss_ret (so_p se_bl))) sb_nil)))))) (sb_one (ss_ret (so_p (se_o (so_fn F_x_law_same (hr.mono (by first | decide | omega)) rfl (sa_d (se_lst (sa_d (se_o (so_fn F_is_name (hr.mono (by first | decide | omega)) rfl (sa_d se_str sa_nil) (len_d len_nil))) (sa_d (se_o (so_fn F_is_value (hr.mono (by first | decide | omega)) rfl (sa_d se_str sa_nil) (len_d len_nil))) (sa_d (se_o (so_fn F_is_value (hr.mono (by first | decide | omega)) rfl (sa_d se_str sa_nil) (len_d len_nil))) (sa_d (se_o (so_fn F_is_name (hr.mono (by first | decide | omega)) rfl (sa_d (se_op op_mulD od_mul se_str se_int) sa_nil) (len_d len_nil))) (sa_d (se_globI rfl T.c_MAX_NAME) sa_nil)))))) (sa_d (se_lst (sa_d se_bl (sa_d se_bl (sa_d se_bl (sa_d se_bl (sa_d se_int sa_nil)))))) sa_nil)) (len_d (len_d len_nil))))))))))
theorem all_law (T : Facts K mg) {fd : FuncData} (F : FunD K "law" "law" (defArgs s_law) (defBody s_law) (defScope s_law) [] [] (He.ga K "law") fd) : FnOk P w K mg base CX0 12 (He.ga K "law") fd ["_law_script"] (spF K mg 1 f_law) := by
  have F_x_law_bag : Fn P w K mg base 1 "_law_bag" ["_law_script"] f_x_law_bag := ok_x_law_bag T 
  have F_x_law_same : Fn P w K mg base 11 "_law_same" ["_law_found", "_law_due"] (f_x_law_same 10) := ok_x_law_same T  10
  have F_x_law_pull : Fn P w K mg base 1 "_law_pull" ["_law_bag_here", "_law_sides"] f_x_law_pull := ok_x_law_pull T 
  have F_x_law_is_name : Fn P w K mg base 1 "_law_is_name" ["_law_text_z"] f_x_law_is_name := ok_x_law_is_name T 
  have F_x_law_is_value : Fn P w K mg base 1 "_law_is_value" ["_law_text_z"] f_x_law_is_value := ok_x_law_is_value T 
  have F_is_name : Fn P w K mg base 1 "is_name" ["text"] f_is_name := ok_is_name T 
  have K1 : FnK P w K mg base 1 "is_name" ["text"] ["text"] [0] f_is_name := kw_1 T 
  have F_is_value : Fn P w K mg base 1 "is_value" ["text"] f_is_value := ok_is_value T 
  have K0 : FnK P w K mg base 1 "is_value" ["text"] ["text"] [0] f_is_value := kw_0 T 
  have F_x_law_of : Fn P w K mg base 2 "_law_of" ["_law_bag_here", "_law_some"] f_x_law_of := ok_x_law_of T F_x_law_pull
  exact okd_law T F_x_law_bag F_x_law_is_name F_x_law_is_value F_x_law_of F_x_law_pull F_x_law_same F_is_name F_is_value K0 K1 F
end
end Lw
namespace Lw
open PySem L2 MV
/-! ### the bag -/
def bagW (ns : List Int) (a b c : Int) : W := .ol [.p (.lst (ns.map .int)), .p (.int a), .p (.int b), .p (.int c)]
def BagW (w : W) : Prop := ∃ ns a b c, w = bagW ns a b c ∧ 0 ≤ a ∧ a ≤ (ns.length : Int) ∧ 0 ≤ b ∧ 0 ≤ c ∧ c < 2147483647
theorem atI_ints {ns : List Int} {a : Int} (h0 : 0 ≤ a) (h1 : a < (ns.length : Int)) : ∃ v, L2.atI (ns.map D.int) a = some (.int v) := by
  refine ⟨ns[a.toNat]'(by omega), ?_⟩
  rw [atI_nn h0]
  simp
theorem pull_ok {w : W} (h : BagW w) {s : Int} (h0 : 0 < s) (h1 : s ≤ 1000000) : ∃ r w', f_x_law_pull [w, .p (.int s)] = some (.p (.int r), [some w', none]) ∧ 0 ≤ r ∧ r < s ∧ BagW w' := by
  obtain ⟨ns, a, b, c, rfl, ha, ha', hb, hc, hc'⟩ := h
  have hp : CPow 10 18 := by unfold CPow; decide
  have hcc : CMul c c := .inl (by omega)
  have cm1 : ∀ x : Int, CMul x 48271 := fun x => .inr (by omega)
  have cm2 : ∀ x : Int, CMul x 911 := fun x => .inr (by omega)
  have cm3 : ∀ x : Int, CMul x 16807 := fun x => .inr (by omega)
  have cm4 : ∀ x : Int, CMul x 40692 := fun x => .inr (by omega)
  have m1 : ∀ x : Int, 0 ≤ x % 2147483647 ∧ x % 2147483647 < 2147483647 := fun x => ⟨Int.emod_nonneg _ (by decide), Int.emod_lt_of_pos _ (by decide)⟩
  have m2 : ∀ x : Int, 0 ≤ x % s ∧ x % s < s := fun x => ⟨Int.emod_nonneg _ (by omega), Int.emod_lt_of_pos _ h0⟩
  have d1 : ∀ x : Int, CDiv x 64 := fun x => ⟨by decide, by decide⟩
  have d2 : ∀ x : Int, CDiv x s := fun x => ⟨h0, by omega⟩
  have hm : ∀ x : Int, CMul (x % 2147483647) (x % 2147483647) := fun x => .inl (by have := m1 x; omega)
  have fin : ∀ (ns : List Int) (a b c : Int), 0 ≤ a → a ≤ (ns.length : Int) → 0 ≤ b → 0 ≤ c → c < 2147483647 → BagW (bagW ns a b c) := fun ns a b c h1 h2 h3 h4 h5 => ⟨ns, a, b, c, rfl, h1, h2, h3, h4, h5⟩
  unfold f_x_law_pull fsem m_x_law_pull
  by_cases hb0 : b = 0
  · by_cases hal : a < (ns.length : Int)
    · obtain ⟨v, hv⟩ := atI_ints ha hal
      by_cases hv0 : v < 0
      · by_cases hg : (10 : Int) ^ 18 ≤ -v
        · have hg' : (1000000000000000000 : Int) ≤ -v := hg
          have hg2 : 0 < -v := by omega
          simp [bagW, hb0, hal, hv, hv0, hp, hg, hg', h0, d2, outs]
          refine ⟨_, _, ⟨rfl, rfl⟩, (m2 _).1, (m2 _).2, ?_⟩
          exact fin ns (a+1) _ c (by omega) (by omega) (Int.ediv_nonneg (by omega) (by omega)) hc hc'
        · have hg' : ¬ (1000000000000000000 : Int) ≤ -v := hg
          simp [bagW, hb0, hal, hv, hv0, hp, hg, hg', h0, d1, d2, cm1, cm2, cm3, cm4, hm, outs]
          exact ⟨_, _, ⟨rfl, rfl⟩, (m2 _).1, (m2 _).2, fin ns (a+1) 0 _ (by omega) (by omega) (by omega) (m1 _).1 (m1 _).2⟩
      · by_cases hg : (10 : Int) ^ 18 ≤ v
        · have hg' : (1000000000000000000 : Int) ≤ v := hg
          have hg2 : 0 < v := by omega
          simp [bagW, hb0, hal, hv, hv0, hp, hg, hg', hg2, h0, d2, outs]
          refine ⟨_, _, ⟨rfl, rfl⟩, (m2 _).1, (m2 _).2, ?_⟩
          exact fin ns (a+1) _ c (by omega) (by omega) (Int.ediv_nonneg (by omega) (by omega)) hc hc'
        · have hg' : ¬ (1000000000000000000 : Int) ≤ v := hg
          simp [bagW, hb0, hal, hv, hv0, hp, hg, hg', h0, d1, d2, cm1, cm2, cm3, cm4, hm, outs]
          exact ⟨_, _, ⟨rfl, rfl⟩, (m2 _).1, (m2 _).2, fin ns (a+1) 0 _ (by omega) (by omega) (by omega) (m1 _).1 (m1 _).2⟩
    · simp [bagW, hb0, hal, h0, hcc, d1, d2, cm1, cm2, cm3, cm4, hm, outs]
      exact ⟨_, _, ⟨rfl, rfl⟩, (m2 _).1, (m2 _).2, fin ns a 0 _ (by omega) (by omega) (by omega) (m1 _).1 (m1 _).2⟩
  · have hb1 : 0 < b := by omega
    simp [bagW, hb0, hb1, h0, d2, outs]
    exact ⟨_, _, ⟨rfl, rfl⟩, (m2 _).1, (m2 _).2, fin ns a _ c (by omega) (by omega) (Int.ediv_nonneg (by omega) (by omega)) hc hc'⟩
end Lw

namespace Lw
open PySem L2 MV
/-! ### the same -/
def Sm : Nat → D → Prop
  | 0, _ => False
  | _ + 1, .none => True
  | _ + 1, .bool _ => True
  | _ + 1, .int _ => True
  | _ + 1, .str _ => True
  | n + 1, .lst ds => ds.length ≤ 1000000 ∧ ∀ x ∈ ds, Sm n x
  | n + 1, .tup ds => ds.length ≤ 1000000 ∧ ∀ x ∈ ds, Sm n x
  | _ + 1, _ => False
theorem zip_self : ∀ ds : List D, zipD ds ds = ds.map fun d => .tup [d, d]
  | [] => rfl
  | d :: ds => by rw [zipD, zip_self ds]; rfl
theorem bools_same : ∀ ds : List D, boolsD (ds.map fun _ => .bool true) = some (ds.map fun _ => true) := fun ds => boolsD_map
theorem isi_t : ∀ s : String, isiT s s = true := fun s => by unfold isiT; simp
theorem same_refl : ∀ (n : Nat) (d : D), Sm n d → f_x_law_same n [.p d, .p d] = some (.p (.bool true), [none, none])
  | 0, d, h => by cases d <;> exact h.elim
  | n + 1, d, h => by
    have h1 : isiT "list" "bool" = false := by decide
    have h2 : isiT "list" "int" = false := by decide
    have h3 : isiT "list" "str" = false := by decide
    have h4 : isiT "list" "tuple" = false := by decide
    have h5 : isiT "tuple" "bool" = false := by decide
    have h6 : isiT "tuple" "int" = false := by decide
    have h7 : isiT "tuple" "str" = false := by decide
    have h8 : isiT "tuple" "list" = false := by decide
    have h9 : isiT "int" "bool" = false := by decide
    have h10 : isiT "str" "bool" = false := by decide
    have h11 : isiT "str" "int" = false := by decide
    have h12 : isiT "int" "str" = false := by decide
    have lc : ∀ (a b : Option W) (ds : List D), (∀ x ∈ ds, Sm n x) → lcRun [2, 3] (gT 2 (gsCons (gN 2) (gsCons (gN 3) gsNil))) (fun e => some (true, e)) (mGetP (mCall (f_x_law_same n) (aD (mVar 2) (aD (mVar 3) aNil)))) (zipD ds ds) [a, b, none, none] = some (ds.map (fun _ => .bool true), [a, b, none, none]) := fun a b ds hs => by
      rw [zip_self, lcRun_map (fun _ => .bool true)]
      · simp
      · intro d hd
        obtain ⟨x, hx, rfl⟩ := List.mem_map.mp hd
        have := same_refl n x (hs x hx)
        exact ⟨[a, b, some (.p x), some (.p x)], _, [a, b, some (.p x), some (.p x)], by simp, rfl, by simp [this], by simp⟩
    have zl : ∀ ds : List D, (zipD ds ds).length = ds.length := fun ds => by rw [zip_self]; simp
    cases d with
    | none => simp [f_x_law_same, fsem, m_x_law_same, b_x_law_same_0, outs]
    | bool b => simp [f_x_law_same, fsem, m_x_law_same, b_x_law_same_0, isi_t, outs]
    | int b => simp [f_x_law_same, fsem, m_x_law_same, b_x_law_same_0, isi_t, h9, h12, outs]
    | str b => simp [f_x_law_same, fsem, m_x_law_same, b_x_law_same_0, isi_t, h10, h11, outs]
    | lst ds => simp [f_x_law_same, fsem, m_x_law_same, b_x_law_same_0, isi_t, h1, h2, h3, h4, h.1, outs, lc _ _ ds h.2, zl, bools_same]
    | tup ds => simp [f_x_law_same, fsem, m_x_law_same, b_x_law_same_0, isi_t, h5, h6, h7, h8, h.1, outs, lc _ _ ds h.2, zl, bools_same]
    | fl ds => exact h.elim
    | dict es => exact h.elim
    | inst _ _ => exact h.elim
end Lw

namespace Lw
open PySem L2 MV
theorem lcRun_mapF {α : Type} {own : List Nat} {tg : Tg} {c : M Bool} {m : M D} {e : MV.Env} (g f : α → D) : ∀ (xs : List α), (∀ x ∈ xs, ∃ e1 e2 e3, tg (g x) e = some e1 ∧ c e1 = some (true, e2) ∧ m e2 = some (f x, e3) ∧ wipeE e3 own = e) → lcRun own tg c m (xs.map g) e = some (xs.map f, e)
  | [], _ => rfl
  | x :: xs, k => by
    obtain ⟨e1, e2, e3, h1, h2, h3, h4⟩ := k x (by simp)
    simp [lcRun, h1, h2, h3, h4, lcRun_mapF g f xs fun x hx => k x (by simp [hx])]
/-! ### the two deciders -/
/-- the text of these signs -/
def T (l : List Nat) : Str := ⟨l.toArray⟩
theorem T_tl (y : Str) : T y.cps.toList = y := rfl
@[simp] theorem T_sg {l : List Nat} : (T l).cps.toList = l := rfl
@[simp] theorem T_len {l : List Nat} : (T l).length = l.length := by simp [T, Str.length]
def inS (z : Str) (c : Nat) : Bool := decide (c ∈ z.cps.toList)
def nameB (z : Str) (l : List Nat) : Bool := decide (1 ≤ l.length) && (decide (l.length ≤ 8) && l.all fun c => inS z c)
abbrev sg (c : Nat) : D := .str (T [c])
theorem dIn_c {c : Nat} {z : Str} : dIn (sg c) (.str z) = some (.bool (inS z c)) := rfl
theorem chars_T {l : List Nat} : ((T l).cps.toList.map fun c => D.str ⟨#[c]⟩) = l.map sg := rfl
theorem itx_T {l : List Nat} {e : MV.Env} : ixK (some (.str (T l), e)) = some (l.map sg, e) := rfl
theorem lc_in {l : List Nat} {z : Str} {a : Option W} : lcRun [1] (gN 1) (fun e => some (true, e)) (mOp dIn (mVar 1) (mC (.str z))) (l.map sg) [a, none] = some (l.map fun c => .bool (inS z c), [a, none]) := by
  rw [lcRun_mapF sg (fun c => .bool (inS z c))]
  intro c _
  exact ⟨_, _, [a, some (.p (sg c))], by simp; rfl, rfl, rfl, by simp⟩
theorem lc_in2 {l : List Nat} {z : Str} {a : Option W} : lcRun [2] (gN 2) (fun e => some (true, e)) (mOp dIn (mVar 2) (mVar 1)) (l.map sg) [a, some (.p (.str z)), none] = some (l.map fun c => .bool (inS z c), [a, some (.p (.str z)), none]) := by
  rw [lcRun_mapF sg (fun c => .bool (inS z c))]
  intro c _
  exact ⟨_, _, [a, some (.p (.str z)), some (.p (sg c))], by simp; rfl, rfl, rfl, by simp⟩
def letters : Str := "abcdefghijklmnopqrstuvwxyz"
def signs : Str := "abcdefghijklmnopqrstuvwxyz0123456789"
theorem all_in {l : List Nat} {z : Str} : fAll [.lst (l.map fun c => .bool (inS z c))] = some (.bool (l.all fun c => inS z c)) := by
  rw [fAll_l, boolsD_map]
  simp only [Option.map_some, List.all_map]
  rfl
theorem nat_le {a b : Nat} : decide ((a : Int) ≤ (b : Int)) = decide (a ≤ b) := by simp
theorem is_name_ok {l : List Nat} (h : l.length ≤ 1000000) : f_is_name [.p (.str (T l))] = some (.p (.bool (nameB letters l)), [none]) := by
  have hl : l.length ≤ LIM := by unfold LIM; omega
  unfold f_is_name m_is_name b_is_name_0
  have e : (Str.ofString "abcdefghijklmnopqrstuvwxyz") = letters := rfl
  rw [e]
  by_cases h1 : (1 : Int) ≤ l.length <;> by_cases h2 : (l.length : Int) ≤ 8
  · have h1' : 1 ≤ l.length := by omega
    have h2' : l.length ≤ 8 := by omega
    simp [-ixK_l, -fAll_l, fsem, hl, h1, h2, lc_in, itx_T, h, all_in, nameB, outs, h1', h2']
  · have h2' : ¬ l.length ≤ 8 := by omega
    simp [fsem, hl, h1, h2, nameB, outs, h2']
  · have h1' : ¬ 1 ≤ l.length := by omega
    simp [fsem, hl, h1, h2, nameB, outs, h1']
  · have h1' : ¬ 1 ≤ l.length := by omega
    simp [fsem, hl, h1, h2, nameB, outs, h1']
theorem x_is_name_ok {l : List Nat} (h : l.length ≤ 1000000) : f_x_law_is_name [.p (.str (T l))] = some (.p (.bool (nameB letters l)), [none]) := is_name_ok h
theorem is_value_ok {l : List Nat} (h : l.length ≤ 1000000) : f_is_value [.p (.str (T l))] = some (.p (.bool (nameB signs l)), [none]) := by
  have hl : l.length ≤ LIM := by unfold LIM; omega
  unfold f_is_value m_is_value b_is_value_0
  have e : (Str.ofString "abcdefghijklmnopqrstuvwxyz0123456789") = signs := rfl
  rw [e]
  by_cases h1 : (1 : Int) ≤ l.length <;> by_cases h2 : (l.length : Int) ≤ 8
  · have h1' : 1 ≤ l.length := by omega
    have h2' : l.length ≤ 8 := by omega
    simp [-ixK_l, -fAll_l, fsem, hl, h1, h2, lc_in, itx_T, h, all_in, nameB, outs, h1', h2']
  · have h2' : ¬ l.length ≤ 8 := by omega
    simp [fsem, hl, h1, h2, nameB, outs, h2']
  · have h1' : ¬ 1 ≤ l.length := by omega
    simp [fsem, hl, h1, h2, nameB, outs, h1']
  · have h1' : ¬ 1 ≤ l.length := by omega
    simp [fsem, hl, h1, h2, nameB, outs, h1']
theorem x_is_value_ok {l : List Nat} (h : l.length ≤ 1000000) : f_x_law_is_value [.p (.str (T l))] = some (.p (.bool (nameB signs l)), [none]) := by
  have hl : l.length ≤ LIM := by unfold LIM; omega
  unfold f_x_law_is_value m_x_law_is_value b_x_law_is_value_0
  have e : (Str.ofString "abcdefghijklmnopqrstuvwxyz0123456789") = signs := rfl
  rw [e]
  by_cases h1 : (1 : Int) ≤ l.length <;> by_cases h2 : (l.length : Int) ≤ 8
  · have h1' : 1 ≤ l.length := by omega
    have h2' : l.length ≤ 8 := by omega
    simp [-ixK_l, -fAll_l, fsem, hl, h1, h2, lc_in2, itx_T, h, all_in, nameB, outs, h1', h2']
  · have h2' : ¬ l.length ≤ 8 := by omega
    simp [fsem, hl, h1, h2, nameB, outs, h2']
  · have h1' : ¬ 1 ≤ l.length := by omega
    simp [fsem, hl, h1, h2, nameB, outs, h1']
  · have h1' : ¬ 1 ≤ l.length := by omega
    simp [fsem, hl, h1, h2, nameB, outs, h1']
/-! ### one of a text -/
theorem of_txt {w : W} (hw : BagW w) {l : List Nat} (h0 : 0 < l.length) (h1 : l.length ≤ 1000000) : ∃ c w', f_x_law_of [w, .p (.str (T l))] = some (.p (sg c), [some w', none]) ∧ c ∈ l ∧ BagW w' := by
  obtain ⟨r, w', e, h2, h3, h4⟩ := pull_ok hw (s := l.length) (by omega) (by omega)
  have hl : l.length ≤ LIM := by unfold LIM; omega
  have hr : r.toNat < l.length := by omega
  have ha : L2.atI l r = some (l[r.toNat]'hr) := by rw [atI_nn h2, List.getElem?_eq_getElem hr]
  refine ⟨l[r.toNat]'hr, w', ?_, List.getElem_mem hr, h4⟩
  simp [f_x_law_of, fsem, m_x_law_of, hl, e, outs, ha]
  rfl
end Lw

namespace Lw
open PySem L2 MV
theorem strs_sg : ∀ (ys : List D), (∀ y ∈ ys, ∃ c, y = sg c) → ∃ cs : List Nat, ys = cs.map sg
  | [], _ => ⟨[], rfl⟩
  | y :: ys, h => by
    obtain ⟨c, rfl⟩ := h y (by simp)
    obtain ⟨cs, rfl⟩ := strs_sg ys fun y hy => h y (by simp [hy])
    exact ⟨c :: cs, rfl⟩
theorem strsD_sg : ∀ cs : List Nat, strsD (cs.map sg) = some (cs.map fun c => T [c])
  | [] => rfl
  | c :: cs => by show (strsD (cs.map sg)).map _ = _; rw [strsD_sg cs]; rfl
theorem lens_sg (cs : List Nat) : ((cs.map fun c => T [c]).map (·.length)).sum = cs.length := by
  induction cs with
  | nil => rfl
  | cons c cs ih => simp [ih] at ih ⊢; omega
theorem joinL_nil : ∀ cs : List (List Nat), TL.joinL [] cs = cs.flatten
  | [] => rfl
  | [x] => by simp [TL.joinL]
  | x :: y :: r => by
    have := joinL_nil (y :: r)
    simp [TL.joinL] at this ⊢
    try exact this
theorem flat_sg : ∀ cs : List Nat, (cs.map fun c => [c]).flatten = cs
  | [] => rfl
  | c :: cs => by rw [List.map_cons, List.flatten_cons, flat_sg cs]; rfl
theorem join_sg {cs : List Nat} (h : cs.length ≤ 1000000) : joinD (.str "") (.lst (cs.map sg)) = some (.str (T cs)) := by
  have hl : cs.length ≤ LIM := by unfold LIM; omega
  have e1 : (cs.map fun c => T [c]) = (cs.map fun c => [c]).map SX.S := by simp [T]
  have e2 : Txt.join (Str.ofString "") (cs.map fun c => T [c]) = T cs := by
    rw [e1]
    have := SX.join_S [] (cs.map fun c => [c])
    refine this.trans ?_
    rw [joinL_nil]
    rw [flat_sg]
    rfl
  have e3 : (Str.ofString "").length = 0 := rfl
  rw [joinD_l, strsD_sg, Option.bind_some, lens_sg, e3, e2]
  simp [hl]
theorem cutS_T {l : List Nat} {lo hi : Option Int} : ∃ l', cutS (T l) lo hi = T l' ∧ l'.length ≤ l.length := ⟨(cutS (T l) lo hi).cps.toList, rfl, by
  have := cutS_length (T l) lo hi
  rw [T_len] at this
  simpa [Str.length] using this⟩
theorem T_cat {a b : List Nat} : T a ++ T b = T (a ++ b) := SX.S_cat a b
theorem rng_mem {n : Nat} {d : D} {lo : Int} (h : d ∈ rngD lo n) : ∃ i : Int, d = .int i ∧ lo ≤ i ∧ i < lo + n := by
  unfold rngD at h
  obtain ⟨i, hi, rfl⟩ := List.mem_map.mp h
  exact ⟨_, rfl, by omega, by have := List.mem_range.mp hi; omega⟩
theorem rng_len {n : Nat} {lo : Int} : (rngD lo n).length = n := by simp [rngD]
def allSigns : Str := "abcdefghijklmnopqrstuvwxyz0123456789AZ _-~\n"
theorem allSigns_T : allSigns = T allSigns.cps.toList := rfl
theorem sIx_nn {n d : Nat} {k : Int} (h : 0 ≤ k) : HT.sIx n d (some k) = min k.toNat n := by
  show (if k < 0 then _ else _) = _
  rw [if_neg (by omega)]
theorem cutD_to {ds : List D} {k : Int} (h : 0 ≤ k) : cutD ds none (some k) = ds.take k.toNat := by
  unfold cutD
  rw [sIx_nn h, show HT.sIx ds.length 0 none = 0 from rfl, List.drop_zero, Nat.sub_zero]
  rw [List.take_eq_take_iff]
  omega
theorem cutD_from {ds : List D} {k : Int} (h : 0 ≤ k) : cutD ds (some k) none = ds.drop k.toNat := by
  unfold cutD
  rw [sIx_nn h, show HT.sIx ds.length ds.length none = ds.length from rfl]
  by_cases hk : k.toNat ≤ ds.length
  · rw [Nat.min_eq_left hk, List.take_of_length_le (by simp)]
  · rw [Nat.min_eq_right (by omega), List.drop_eq_nil_of_le (by omega), List.drop_eq_nil_of_le (by omega)]; simp
theorem bag_ok (ns : List Int) (h : ns.length ≤ 63) : ∃ w, f_x_law_bag [.p (.fl (ns.map .int))] = some (w, [none]) ∧ BagW w := by
  refine ⟨bagW (ns.take 63) 0 0 9485, ?_, ⟨_, _, _, _, rfl, by omega, by omega, by omega, by omega, by omega⟩⟩
  simp [f_x_law_bag, fsem, m_x_law_bag, dSl, cutD_to, outs, bagW, LIM]
theorem take26 : cutS allSigns none (some 26) = letters := by decide +kernel
theorem LIM_le {n : Nat} (h : n ≤ 1000000) : n ≤ LIM := by unfold LIM; omega
theorem law_true (ns : List Int) (h : ns.length ≤ 63) : ∃ oe, f_law [.p (.fl (ns.map .int))] = some (.p (.bool true), oe) := by
  obtain ⟨w0, hb, hw0⟩ := bag_ok ns h
  have es : (Str.ofString "abcdefghijklmnopqrstuvwxyz0123456789AZ _-~\n") = T allSigns.cps.toList := rfl
  unfold f_law fsem m_law
  rw [es]
  obtain ⟨S, hS⟩ : ∃ S, S = some (W.p (.fl (ns.map .int))) := ⟨_, rfl⟩
  have A0 : 0 < allSigns.cps.toList.length ∧ allSigns.cps.toList.length ≤ 1000 := by decide +kernel
  have c26 : cutS (T allSigns.cps.toList) none (some 26) = T letters.cps.toList := by decide +kernel
  generalize allSigns.cps.toList = AL at *
  have L0 : 0 < letters.cps.toList.length ∧ letters.cps.toList.length ≤ 1000 := by decide +kernel
  have AL1 := LIM_le (n := AL.length) (by omega)
  -- a word's letters
  have let1 : ∀ (w : W) (t3 t4 t5 t6 t7 t8 : Option W), BagW w → ∃ c w', b_law_0 [S, some w, some (.p (.str (T AL))), t3, t4, t5, t6, t7, t8] = some (sg c, [S, some w', some (.p (.str (T AL))), t3, t4, t5, t6, t7, t8]) ∧ BagW w' := fun w t3 t4 t5 t6 t7 t8 hw => by
    obtain ⟨c, w', e, _, hw'⟩ := of_txt hw (l := letters.cps.toList) L0.1 (by omega)
    refine ⟨c, w', ?_, hw'⟩
    unfold b_law_0
    simp [dSl, AL1, c26, e]
  have lets : ∀ (w : W) (t3 t4 t5 t6 t7 : Option W) (n : Nat), BagW w → ∃ (cs : List Nat) (w' : W), lcRun [8] (gN 8) (fun e => some (true, e)) b_law_0 (rngD 0 n) [S, some w, some (.p (.str (T AL))), t3, t4, t5, t6, t7, none] = some (cs.map sg, [S, some w', some (.p (.str (T AL))), t3, t4, t5, t6, t7, none]) ∧ BagW w' ∧ cs.length ≤ n := fun w t3 t4 t5 t6 t7 n hw => by
    obtain ⟨ys, e', h1, ⟨w', hw', rfl⟩, h2, h3⟩ := lcRun_inv (own := [8]) (tg := gN 8) (c := fun e => some (true, e)) (m := b_law_0) (fun _ e => ∃ w, BagW w ∧ e = [S, some w, some (.p (.str (T AL))), t3, t4, t5, t6, t7, none]) (fun y => ∃ c, y = sg c) (rngD 0 n) 0 _ ⟨w, hw, rfl⟩ (by
      rintro j d e hd ⟨w, hw, rfl⟩
      obtain ⟨c, w', e1, hw'⟩ := let1 w t3 t4 t5 t6 t7 (some (.p d)) hw
      exact ⟨_, rfl, .inr ⟨_, _, _, rfl, e1, ⟨c, rfl⟩, w', hw', rfl⟩⟩)
    obtain ⟨cs, rfl⟩ := strs_sg ys h2
    exact ⟨cs, w', h1, hw', by simpa [rng_len] using h3⟩
  have bends : ∀ (w : W) (t3 t5 t6 t7 : Option W) (l : List Nat) (n : Nat), n ≤ 2 → l.length ≤ 10 → BagW w → ∃ (l' : List Nat) (w' : W) (t5' t6' : Option W), forRun (gN 5) b_law_1 (rngD 0 n) [S, some w, some (.p (.str (T AL))), t3, some (.p (.str (T l))), t5, t6, t7, none] = some (.nx [S, some w', some (.p (.str (T AL))), t3, some (.p (.str (T l'))), t5', t6', t7, none]) ∧ BagW w' ∧ l'.length ≤ 1000 := fun w t3 t5 t6 t7 l n hn hl hw => by
    obtain ⟨e', h1, l', w', t5', t6', h2, h3, rfl⟩ := forRun_inv (tg := gN 5) (b := b_law_1) (fun j e => ∃ l w t5 t6, l.length ≤ 10 * 3 ^ j ∧ BagW w ∧ e = [S, some w, some (.p (.str (T AL))), t3, some (.p (.str (T l))), t5, t6, t7, none]) (rngD 0 n) 0 _ ⟨l, w, t5, t6, by omega, hw, rfl⟩ (by
      rintro j d e hd ⟨l, w, t5, t6, hl, hw, rfl⟩
      have hj : j < n := by
        have := List.getElem?_eq_some_iff.mp hd
        obtain ⟨h, _⟩ := this
        simpa [rng_len] using h
      have h3j : 3 ^ (0 + j) ≤ 3 ^ 2 := Nat.pow_le_pow_right (by decide) (by omega)
      have hL := LIM_le (n := l.length) (by omega)
      obtain ⟨r, w1, e1, r0, r1, hw1⟩ := pull_ok hw (s := l.length + 1) (by omega) (by omega)
      obtain ⟨c, w2, e2, _, hw2⟩ := of_txt hw1 A0.1 (by omega)
      obtain ⟨r3, w3, e3, _, _, hw3⟩ := pull_ok hw2 (s := 2) (by omega) (by omega)
      obtain ⟨l1, c1, q1⟩ := cutS_T (l := l) (lo := none) (hi := some r)
      obtain ⟨l2, c2, q2⟩ := cutS_T (l := l) (lo := some (r + r3)) (hi := none)
      have hL1 := LIM_le (n := l1.length + 1) (by omega)
      have hL2 := LIM_le (n := l1.length + 1 + l2.length) (by omega)
      refine ⟨_, _, rfl, ?_, l1 ++ [c] ++ l2, w3, some (.p d), some (.p (.int r)), ?_, hw3, rfl⟩
      · unfold b_law_1
        simp [dSl, dAdd, hL, e1, e2, e3, c1, c2, hL1, T_cat]
        rw [if_pos hL2]
        simp
      · simp
        have : 3 ^ (0 + j + 1) = 3 * 3 ^ (0 + j) := by rw [Nat.pow_succ, Nat.mul_comm]
        simp at this
        have : 0 < 3 ^ j := Nat.pow_pos (by decide)
        simp at hl
        omega)
    refine ⟨l', w', t5', t6', h1, h3, ?_⟩
    rw [rng_len] at h2
    have h3j : 3 ^ (0 + n) ≤ 3 ^ 2 := Nat.pow_le_pow_right (by decide) (by omega)
    omega
  have step : ∀ (w : W) (d : D) (t3 t4 t5 t6 t7 : Option W), BagW w → ∃ w' t4' t5' t6' t7', b_law_2 [S, some w, some (.p (.str (T AL))), t3, t4, t5, t6, t7, none] = some (.nx [S, some w', some (.p (.str (T AL))), t3, t4', t5', t6', t7', none]) ∧ BagW w' := fun w d t3 t4 t5 t6 t7 hw => by
    obtain ⟨r, w1, e1, r0, r1, hw1⟩ := pull_ok hw (s := 10) (by omega) (by omega)
    obtain ⟨cs, w2, e2, hw2, hcs⟩ := lets w1 t3 t4 t5 t6 t7 r.toNat hw1
    obtain ⟨r3, w3, e3, _, _, hw3⟩ := pull_ok hw2 (s := 3) (by omega) (by omega)
    obtain ⟨l, w4, t5', t6', e4, hw4, hl⟩ := bends w3 t3 t5 t6 t7 cs r3.toNat (by omega) (by omega) hw3
    refine ⟨w4, some (.p (.str (T l))), t5', t6', some (.p (.lst [.bool (nameB letters l), .bool (nameB signs l)])), ?_, hw4⟩
    have hR : -1000000 ≤ r ∧ r ≤ 1000000 := by omega
    have hR2 : r.toNat ≤ 1000000 := by omega
    have hR3 : -1000000 ≤ r3 ∧ r3 ≤ 1000000 := by omega
    have hl' : l.length ≤ 1000000 := by omega
    have n1 := is_name_ok hl'
    have n2 := is_value_ok hl'
    have n3 := x_is_name_ok hl'
    have n4 := x_is_value_ok hl'
    have hs := same_refl 10 (.lst [.bool (nameB letters l), .bool (nameB signs l), .bool (nameB letters l), .bool (nameB signs l)]) (by simp [Sm])
    unfold b_law_2
    simp [-joinD_l, e1, hR, hR2, rng_len, e2, join_sg (cs := cs) (by omega), e3, hR3, e4, n1, n2, n3, n4, LIM, dAdd, hs]
  -- the loop
  have loop := forRun_inv (tg := gN 3) (b := b_law_2)
    (P := fun _ e => ∃ w t3 t4 t5 t6 t7, BagW w ∧ e = [S, some w, some (.p (.str (T AL))), t3, t4, t5, t6, t7, none])
    (rngD 0 12) 0 [S, some w0, some (.p (.str (T AL))), none, none, none, none, none, none] ⟨w0, _, _, _, _, _, hw0, rfl⟩ (by
      rintro j d e hd ⟨w, t3, t4, t5, t6, t7, hw, rfl⟩
      obtain ⟨w', t4', t5', t6', t7', e1, hw'⟩ := step w d (some (.p d)) t4 t5 t6 t7 hw
      exact ⟨_, _, rfl, e1, ⟨w', _, _, _, _, _, hw', rfl⟩⟩)
  obtain ⟨e', e2, w', t3, t4, t5, t6, t7, hw', rfl⟩ := loop
  subst hS
  have z0 : Str.ofString "" = T [] := rfl
  have z1 : Str.ofString "0" = T [48] := rfl
  have z2 : Str.ofString "a" = T [97] := rfl
  have z3 : Txt.mul (T [97]) 8 = T [97, 97, 97, 97, 97, 97, 97, 97] := by decide +kernel
  have n1 := is_name_ok (l := []) (by simp)
  have n2 := is_value_ok (l := []) (by simp)
  have n3 := is_value_ok (l := [48]) (by simp)
  have n4 := is_name_ok (l := [97, 97, 97, 97, 97, 97, 97, 97]) (by simp)
  have b1 : nameB letters [] = false := by decide +kernel
  have b2 : nameB signs [] = false := by decide +kernel
  have b3 : nameB signs [48] = true := by decide +kernel
  have b4 : nameB letters [97, 97, 97, 97, 97, 97, 97, 97] = true := by decide +kernel
  rw [b1] at n1
  rw [b2] at n2
  rw [b3] at n3
  rw [b4] at n4
  have hs := same_refl 10 (.lst [.bool false, .bool false, .bool true, .bool true, .int 8]) (by simp [Sm])
  rw [z0, z1, z2]
  simp [hb, e2, n1, n2, n3, n4, LIM, dMul, z3, hs]
end Lw

/-! ### the head -/
namespace Lw
open PySem PySem.W PySem.Calls PyProof.Rows L2 MV
def d_x_law_bag : He.DefD := ⟨("_law_bag", none), "_law_bag", "_law_bag", defArgs s_x_law_bag, defBody s_x_law_bag, defScope s_x_law_bag, [], []⟩
def d_x_law_same : He.DefD := ⟨("_law_same", none), "_law_same", "_law_same", defArgs s_x_law_same, defBody s_x_law_same, defScope s_x_law_same, [], []⟩
def d_x_law_pull : He.DefD := ⟨("_law_pull", none), "_law_pull", "_law_pull", defArgs s_x_law_pull, defBody s_x_law_pull, defScope s_x_law_pull, [], []⟩
def d_x_law_is_name : He.DefD := ⟨("_law_is_name", none), "_law_is_name", "_law_is_name", defArgs s_x_law_is_name, defBody s_x_law_is_name, defScope s_x_law_is_name, [], []⟩
def d_x_law_is_value : He.DefD := ⟨("_law_is_value", none), "_law_is_value", "_law_is_value", defArgs s_x_law_is_value, defBody s_x_law_is_value, defScope s_x_law_is_value, [], []⟩
def d_is_name : He.DefD := ⟨("is_name", none), "is_name", "is_name", defArgs s_is_name, defBody s_is_name, defScope s_is_name, [], []⟩
def d_is_value : He.DefD := ⟨("is_value", none), "is_value", "is_value", defArgs s_is_value, defBody s_is_value, defScope s_is_value, [], []⟩
def d_x_law_of : He.DefD := ⟨("_law_of", none), "_law_of", "_law_of", defArgs s_x_law_of, defBody s_x_law_of, defScope s_x_law_of, [], []⟩
def d_law : He.DefD := ⟨("law", none), "law", "law", defArgs s_law, defBody s_law, defScope s_law, [], []⟩
def fn : List He.DefD := [d_x_law_bag, d_x_law_same, d_x_law_pull, d_x_law_is_name, d_x_law_is_value, d_is_name, d_is_value, d_x_law_of, d_law]
def fa : List He.Fa := [.glo "_law_bag", .glo "_law_same", .glo "_law_pull", .glo "_law_is_name", .glo "_law_is_value", .glo "is_name", .glo "is_value", .glo "_law_of", .glo "law", .free "abs", .free "all", .free "bool", .free "int", .free "isinstance", .free "len", .free "list", .free "range", .free "str", .free "tuple", .free "zip", .str "LETTERS" "abcdefghijklmnopqrstuvwxyz", .int "MAX_NAME" 8, .str "SIGNS" "abcdefghijklmnopqrstuvwxyz0123456789"]
abbrev R : PySem.W.OpenRow := PySem.W.OpenLaw.row PySem.Challenge.rw_hiddenrank_k01_names_and_values
abbrev hk : PySem.W.Hook := He.hookD 4 fa fn
def ob (s : PySem.W.SharedT) : He.AlD := He.obsDG 4 fa fn (HandSHeadRun.getT s)
theorem ob_eq (s : PySem.W.SharedT) : ob s = hk.obs s.abs := He.obsDG_eq (HandSHeadRun.getT_eq s)
def names : List PySem.Str := (["MAX_NAME", "LETTERS", "SIGNS", "is_name", "is_value", "_law_bag", "_law_pull", "_law_of", "_law_same", "_law_is_name", "_law_is_value"] : List PySem.Str)
theorem run (w : World) : HandSHeadRun.RunEq R (PySem.W.view R.prog [13]) hk ob 20000 names w := by
  intro os
  kernel_rfl
theorem facts {K : PySem.W.Frag} {h : Heap} {mg : Str → Option Value} (X : K.In h) (G : h.Ns mainGlobals mg) (c : He.SaysD fa fn K) : Facts K mg where
  g_x_law_bag := He.glo_ok X G (c.fact 0 (f := .glo "_law_bag") rfl)
  g_x_law_same := He.glo_ok X G (c.fact 1 (f := .glo "_law_same") rfl)
  g_x_law_pull := He.glo_ok X G (c.fact 2 (f := .glo "_law_pull") rfl)
  g_x_law_is_name := He.glo_ok X G (c.fact 3 (f := .glo "_law_is_name") rfl)
  g_x_law_is_value := He.glo_ok X G (c.fact 4 (f := .glo "_law_is_value") rfl)
  g_is_name := He.glo_ok X G (c.fact 5 (f := .glo "is_name") rfl)
  g_is_value := He.glo_ok X G (c.fact 6 (f := .glo "is_value") rfl)
  g_x_law_of := He.glo_ok X G (c.fact 7 (f := .glo "_law_of") rfl)
  g_law := He.glo_ok X G (c.fact 8 (f := .glo "law") rfl)
  n_abs := He.free_ok X G (c.fact 9 (f := .free "abs") rfl)
  n_all := He.free_ok X G (c.fact 10 (f := .free "all") rfl)
  n_bool := He.free_ok X G (c.fact 11 (f := .free "bool") rfl)
  n_int := He.free_ok X G (c.fact 12 (f := .free "int") rfl)
  n_isinstance := He.free_ok X G (c.fact 13 (f := .free "isinstance") rfl)
  n_len := He.free_ok X G (c.fact 14 (f := .free "len") rfl)
  n_list := He.free_ok X G (c.fact 15 (f := .free "list") rfl)
  n_range := He.free_ok X G (c.fact 16 (f := .free "range") rfl)
  n_str := He.free_ok X G (c.fact 17 (f := .free "str") rfl)
  n_tuple := He.free_ok X G (c.fact 18 (f := .free "tuple") rfl)
  n_zip := He.free_ok X G (c.fact 19 (f := .free "zip") rfl)
  c_LETTERS := He.str_ok X G (c.fact 20 (f := .str "LETTERS" "abcdefghijklmnopqrstuvwxyz") rfl)
  c_MAX_NAME := He.int_ok X G (c.fact 21 (f := .int "MAX_NAME" 8) rfl)
  c_SIGNS := He.str_ok X G (c.fact 22 (f := .str "SIGNS" "abcdefghijklmnopqrstuvwxyz0123456789") rfl)
  d_x_law_bag := c.def_ 0 (d := d_x_law_bag) rfl
  d_x_law_same := c.def_ 1 (d := d_x_law_same) rfl
  d_x_law_pull := c.def_ 2 (d := d_x_law_pull) rfl
  d_x_law_is_name := c.def_ 3 (d := d_x_law_is_name) rfl
  d_x_law_is_value := c.def_ 4 (d := d_x_law_is_value) rfl
  d_is_name := c.def_ 5 (d := d_is_name) rfl
  d_is_value := c.def_ 6 (d := d_is_value) rfl
  d_x_law_of := c.def_ 7 (d := d_x_law_of) rfl
  d_law := c.def_ 8 (d := d_law) rfl
end Lw
open PySem PySem.W PySem.Calls PyProof.Rows
theorem PySem.Challenge.cw_hiddenrank_k01_names_and_values_holds : PySem.Challenge.rw_hiddenrank_k01_names_and_values.Holds := by
  w_on; o_law
  refine HandSHeadRun.head_any (r := OpenLaw.row PySem.Challenge.rw_hiddenrank_k01_names_and_values) (q := view (OpenLaw.row PySem.Challenge.rw_hiddenrank_k01_names_and_values).prog [13]) (H := Lw.hk) (ob := Lw.ob) (M := 20000) (loose := Lw.names) (d := HandSHeadRun.topDef (OpenLaw.row PySem.Challenge.rw_hiddenrank_k01_names_and_values).prog 13) (kwd := []) Lw.ob_eq
    (by kernel_rfl) (fun s => by kernel_rfl) Lw.run (by kernel_rfl) (by kernel_rfl) (by kernel_rfl) (by rfl) (by first | assumption | decide +kernel) (by decide +kernel) ⟨rfl, rfl, rfl, rfl, rfl, by decide +kernel⟩ ?hw ?hc
  case hw => w_witness2
  case hc =>
    refine L2.walk_ofE (l := PySem.Challenge.rw_hiddenrank_k01_names_and_values) (n := 63) (k := 12) (x := "_law_script") (CX := L2.CX0) rfl (by decide) (by kernel_rfl) ⟨rfl, by decide, by decide⟩ ?F (fun _ _ _ _ z => z)
    intro w mg fa h Y G hmg0
    obtain ⟨K, KX, c⟩ := Y
    have hmg : mg ("law" : PySem.Str) = some (.ref fa) := by
      have e : (HandSHeadRun.topDef (OpenLaw.row PySem.Challenge.rw_hiddenrank_k01_names_and_values).prog 13).name = ("law" : PySem.Str) := by kernel_rfl
      rw [← e]
      exact hmg0
    have T := Lw.facts KX G c
    obtain ⟨fd, F⟩ := T.d_law
    have e := hmg.symm.trans T.g_law
    cases e
    have hb := L2.FunD.bindsA (ps := ["_law_script"]) F fun _ _ _ _ _ _ us hl => match us, hl with | [_], _ => rfl
    exact ⟨K, fd, MV.spF K mg 1 Lw.f_law, KX, fun s v => hb s [v] rfl, fun H a ns hl _ hS => MV.law_sp Lw.law_true H a ns hl hS, fun base _ _ => Lw.all_law T F⟩
