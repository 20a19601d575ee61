import PyProof.Rows.All
import Wide.All
import OpenK.AllK
import Wide.FinOn
import HandS.ForMost
import HandS.Lambda
import HandS.Exc
import HandS.ExcOwn
import HandS.ExcCtx
import HandS.CallSlots
import HandS.WordsExc
import HandS.Defaults
import HandS.Zip
import HandS.IsInst
import HandS.TupAny
import HandS.Deep
import HandS.HeadEnd
import HandS.Style
import HandS.DictComp
import HandS.Conv
import HandS.More
import HandS.SortKw
import KE.DataMinMax
import PyProof.CollectIter
import PyProof.WalksMore
import HandS.ExcValue
import KE.KRevSl
import HandS.TupMul
import HandS.SetFor
import HandS.Strs
import PyProof.FactsAll.list_3
import HandS.WideBits
import HandS.NoneIn
import PyProof.Draws
import KE.GoesEnum
import KE.KMinKey
import HandS.HeadHook4
import PyProof.Rows.CallKwBuiltin
import HandS.HeadWalk
import HandS.SortInts
import KE.GoesMore
import KE.KStateDown
import Lean
import HandS.Head0
import HandS.Head1
import HandS.Head2
import HandS.HeadHook1
import HandS.HeadHook2
import PySem.Challenge.RW_hiddenrank_k17_orders_that_agree
set_option Elab.async false
set_option linter.all false
set_option maxRecDepth 100000
set_option maxHeartbeats 0
namespace MV
open PySem L2

/-- the tables of code objects of the defs that make lambdas -/
class TB where
  T : List (Addr × Str)
instance (priority := low) tb0 : TB := ⟨[]⟩
def NT (o : HO) : Prop := ∀ ps, o ≠ .tbl ps

/-! ### data -/
inductive D where
  | none | bool (b : Bool) | int (i : Int) | str (x : Str)
  | tup (ds : List D) | ft (ds : List D) | lst (ds : List D) | fl (ds : List D) | dict (es : List (Key × D)) | inst (c : Str) (fs : List (Str × D)) | exc (a dx : Addr) (c : Str) (gs : List (Str × D))

section
variable (K : PySem.W.Frag) (mg : Str → Option Value) (I : Hp)
mutual
def Rp : D → V → Prop
  | .none, v => v = .non
  | .bool b, v => v = .bl b
  | .int i, v => v = .int i
  | .str x, v => v = .str x
  | .lst ds, v => ∃ a xs, v = .ref a ∧ I a = some (.lst xs) ∧ RpL ds xs
  | .fl ds, v => ∃ a xs, v = .ref a ∧ SqL K I a xs ∧ RpL ds xs
  | .tup ds, v => ∃ a xs, v = .ref a ∧ SqT K I a xs ∧ RpL ds xs
  | .ft ds, v => ∃ a o xs, v = .ref a ∧ I a = some (.frz o (.tup xs)) ∧ o.cls = .type "tuple" ∧ o.dict = none ∧ RpL ds xs
  | .dict es, v => ∃ a o kvs, v = .ref a ∧ I a = some (.frz o (.dK kvs)) ∧ RpK es kvs
  | .exc a dx c gs, v => v = .ref a ∧ ∃ C fs, mg c = some (.ref C) ∧ I dx = some (.xd fs) ∧ RpF gs fs
  | .inst c gs, v => ∃ a C dx fs, v = .ref a ∧ mg c = some (.ref C) ∧ I a = some (.ins C dx fs) ∧ RpF gs fs
def RpL : List D → List V → Prop
  | [], xs => xs = []
  | d :: ds, xs => ∃ x r, xs = x :: r ∧ Rp d x ∧ RpL ds r
def RpK : List (Key × D) → List (Key × V) → Prop
  | [], xs => xs = []
  | (k, d) :: ds, xs => ∃ x r, xs = (k, x) :: r ∧ Rp d x ∧ RpK ds r
def RpF : List (Str × D) → List (Str × V) → Prop
  | [], xs => xs = []
  | (k, d) :: ds, xs => ∃ x r, xs = (k, x) :: r ∧ Rp d x ∧ RpF ds r
end
end
/-- a heap goes on -/
def Ex (H H' : Hp) : Prop := ∀ a o, H a = some o → H' a = some o
theorem Ex.refl (H : Hp) : Ex H H := fun _ _ h => h
theorem Ex.trans {H H1 H2 : Hp} (a : Ex H H1) (b : Ex H1 H2) : Ex H H2 := fun x o h => b x o (a x o h)
theorem Ex.new {H : Hp} {p : Addr} {o : HO} (h : H p = none) : Ex H (upd H p o) := fun a u e => by
  rw [upd_ne (ne_of_none e h)]; exact e
section
variable {K : PySem.W.Frag} {mg : Str → Option Value} {I J : Hp}
theorem ex_rd {a : Addr} {u : HO} (e : Ex I J) (h : Rd I a u) : Rd J a u := by
  rcases h with h | ⟨o, h⟩
  · exact Or.inl (e a _ h)
  · exact Or.inr ⟨o, e a _ h⟩
theorem ex_l {a : Addr} {xs : List V} (e : Ex I J) (h : SqL K I a xs) : SqL K J a xs := by
  rcases h with h | h
  · exact Or.inl (ex_rd e h)
  · exact Or.inr h
theorem ex_t {a : Addr} {xs : List V} (e : Ex I J) (h : SqT K I a xs) : SqT K J a xs := by
  rcases h with h | h
  · exact Or.inl (ex_rd e h)
  · exact Or.inr h
mutual
theorem Rp.mono (e : Ex I J) : ∀ (d : D) (v : V), Rp K mg I d v → Rp K mg J d v
  | .none, v, h => by simp only [Rp] at h ⊢; exact h
  | .bool b, v, h => by simp only [Rp] at h ⊢; exact h
  | .int i, v, h => by simp only [Rp] at h ⊢; exact h
  | .str x, v, h => by simp only [Rp] at h ⊢; exact h
  | .lst ds, v, h => by
    simp only [Rp] at h ⊢
    obtain ⟨a, xs, e1, h1, h2⟩ := h
    exact ⟨a, xs, e1, e _ _ h1, RpL.mono e ds xs h2⟩
  | .fl ds, v, h => by
    simp only [Rp] at h ⊢
    obtain ⟨a, xs, e1, h1, h2⟩ := h
    exact ⟨a, xs, e1, ex_l e h1, RpL.mono e ds xs h2⟩
  | .tup ds, v, h => by
    simp only [Rp] at h ⊢
    obtain ⟨a, xs, e1, h1, h2⟩ := h
    exact ⟨a, xs, e1, ex_t e h1, RpL.mono e ds xs h2⟩
  | .ft ds, v, h => by
    simp only [Rp] at h ⊢
    obtain ⟨a, o, xs, e1, h1, c, dn, h2⟩ := h
    exact ⟨a, o, xs, e1, e _ _ h1, c, dn, RpL.mono e ds xs h2⟩
  | .dict es, v, h => by
    simp only [Rp] at h ⊢
    obtain ⟨a, o, xs, e1, h1, h2⟩ := h
    exact ⟨a, o, xs, e1, e _ _ h1, RpK.mono e es xs h2⟩
  | .exc a dx c gs, v, h => by
    simp only [Rp] at h ⊢
    obtain ⟨e1, C, fs, h1, h2, h3⟩ := h
    exact ⟨e1, C, fs, h1, e _ _ h2, RpF.mono e gs fs h3⟩
  | .inst c gs, v, h => by
    simp only [Rp] at h ⊢
    obtain ⟨a, C, dx, fs, e1, h1, h2, h3⟩ := h
    exact ⟨a, C, dx, fs, e1, h1, e _ _ h2, RpF.mono e gs fs h3⟩
theorem RpL.mono (e : Ex I J) : ∀ (ds : List D) (xs : List V), RpL K mg I ds xs → RpL K mg J ds xs
  | [], xs, h => by simp only [RpL] at h ⊢; exact h
  | d :: ds, xs, h => by
    simp only [RpL] at h ⊢
    obtain ⟨x, r, e1, h1, h2⟩ := h
    exact ⟨x, r, e1, Rp.mono e d x h1, RpL.mono e ds r h2⟩
theorem RpK.mono (e : Ex I J) : ∀ (ds : List (Key × D)) (xs : List (Key × V)), RpK K mg I ds xs → RpK K mg J ds xs
  | [], xs, h => by simp only [RpK] at h ⊢; exact h
  | (k, d) :: ds, xs, h => by
    simp only [RpK] at h ⊢
    obtain ⟨x, r, e1, h1, h2⟩ := h
    exact ⟨x, r, e1, Rp.mono e d x h1, RpK.mono e ds r h2⟩
theorem RpF.mono (e : Ex I J) : ∀ (ds : List (Str × D)) (xs : List (Str × V)), RpF K mg I ds xs → RpF K mg J ds xs
  | [], xs, h => by simp only [RpF] at h ⊢; exact h
  | (k, d) :: ds, xs, h => by
    simp only [RpF] at h ⊢
    obtain ⟨x, r, e1, h1, h2⟩ := h
    exact ⟨x, r, e1, Rp.mono e d x h1, RpF.mono e ds r h2⟩
end
theorem RpL.length : ∀ {ds : List D} {xs : List V}, RpL K mg I ds xs → ds.length = xs.length
  | [], xs, h => by simp only [RpL] at h; rw [h]; rfl
  | d :: ds, xs, h => by
    simp only [RpL] at h
    obtain ⟨x, r, e1, h1, h2⟩ := h
    rw [e1, List.length_cons, List.length_cons, RpL.length h2]
theorem RpL.get : ∀ {ds : List D} {xs : List V} {i : Nat} {d : D}, RpL K mg I ds xs → ds[i]? = some d → ∃ x, xs[i]? = some x ∧ Rp K mg I d x
  | [], xs, i, d, h, e => by simp at e
  | d :: ds, xs, 0, d', h, e => by
    simp only [RpL] at h
    obtain ⟨x, r, e1, h1, h2⟩ := h
    simp at e
    subst e e1
    exact ⟨x, rfl, h1⟩
  | d :: ds, xs, i + 1, d', h, e => by
    simp only [RpL] at h
    obtain ⟨x, r, e1, h1, h2⟩ := h
    simp at e
    subst e1
    obtain ⟨y, e2, h3⟩ := RpL.get h2 e
    exact ⟨y, by simpa using e2, h3⟩
theorem RpL.nil : RpL K mg I [] [] := by simp only [RpL]
theorem RpL.cons {d : D} {ds : List D} {x : V} {xs : List V} (h : Rp K mg I d x) (t : RpL K mg I ds xs) : RpL K mg I (d :: ds) (x :: xs) := by
  simp only [RpL]; exact ⟨x, xs, rfl, h, t⟩
theorem RpL.append : ∀ {ds es : List D} {xs ys : List V}, RpL K mg I ds xs → RpL K mg I es ys → RpL K mg I (ds ++ es) (xs ++ ys)
  | [], es, xs, ys, h, t => by simp only [RpL] at h; subst h; exact t
  | d :: ds, es, xs, ys, h, t => by
    simp only [RpL] at h
    obtain ⟨x, r, e1, h1, h2⟩ := h
    subst e1
    exact RpL.cons h1 (RpL.append h2 t)
end
end MV

namespace MV
open PySem L2
variable [TB]

/-- no table, no code object stands at p -/
def NX (H : Hp) (p : Addr) : Prop := ∀ o, H p = some o → NT o ∧ ∀ φ, o ≠ .ext φ
theorem NX.none {H : Hp} {p : Addr} (h : H p = none) : NX H p := fun o e => by rw [h] at e; cases e
theorem NX.lst {H : Hp} {p : Addr} {xs : List V} (h : H p = some (.lst xs)) : NX H p := fun o e => by
  rw [h] at e; cases e; exact ⟨fun _ z => (by cases z), fun _ z => (by cases z)⟩
theorem NX.tup {H : Hp} {p : Addr} {xs : List V} (h : H p = some (.tup xs)) : NX H p := fun o e => by
  rw [h] at e; cases e; exact ⟨fun _ z => (by cases z), fun _ z => (by cases z)⟩
theorem NX.dk {H : Hp} {p : Addr} {xs : List (Key × V)} (h : H p = some (.dK xs)) : NX H p := fun o e => by
  rw [h] at e; cases e; exact ⟨fun _ z => (by cases z), fun _ z => (by cases z)⟩
theorem NX.ins {H : Hp} {p : Addr} {C dx : Addr} {fs : List (Str × V)} (h : H p = some (.ins C dx fs)) : NX H p := fun o e => by
  rw [h] at e; cases e; exact ⟨fun _ z => (by cases z), fun _ z => (by cases z)⟩
theorem tabs_upd {T : List (Addr × Str)} {H : Hp} {p : Addr} {o : HO} (t : LamX.Tabs T H) (n : NX H p) : LamX.Tabs T (upd H p o) := fun q hq => by
  obtain ⟨ps, h1, h2, h3⟩ := t q hq
  have e1 : q.1 ≠ p := fun z => (n _ (z ▸ h1)).1 ps rfl
  refine ⟨ps, by rw [upd_ne e1]; exact h1, h2, fun pos cv hc => ?_⟩
  obtain ⟨c, ec, hc'⟩ := h3 pos cv hc
  refine ⟨c, ec, ?_⟩
  rw [upd_ne]
  · exact hc'
  · intro z
    subst z
    exact (n _ hc').2 _ rfl
theorem tabs_off {T : List (Addr × Str)} {H H' : Hp} {G : List Addr} (t : LamX.Tabs T H) (off : ∀ b, b ∉ G → H' b = H b) (n : ∀ b ∈ G, NX H b) : LamX.Tabs T H' := fun q hq => by
  obtain ⟨ps, h1, h2, h3⟩ := t q hq
  have e1 : q.1 ∉ G := fun z => (n _ z _ h1).1 ps rfl
  refine ⟨ps, (off _ e1).trans h1, h2, fun pos cv hc => ?_⟩
  obtain ⟨c, ec, hc'⟩ := h3 pos cv hc
  exact ⟨c, ec, (off _ fun z => (n _ z _ hc').2 _ rfl).trans hc'⟩
/-- the tables stand, no one of them is frozen -/
def TbR (I H : Hp) : Prop := LamX.Tabs TB.T H ∧ ∀ p ∈ TB.T, I p.1 = none
section
variable {I I' H H' : Hp} {p : Addr} {o : HO}
theorem TbR.ext (t : TbR I H) (e : ∀ b o, H b = some o → H' b = some o) : TbR I H' := ⟨t.1.ext e, t.2⟩
theorem TbR.at_ (t : TbR I H) {q : Addr × Str} (hq : q ∈ TB.T) : ∃ ps, H q.1 = some (.tbl ps) := by
  obtain ⟨ps, h, _⟩ := t.1 q hq
  exact ⟨ps, h⟩
theorem TbR.frz (t : TbR I H) (n : NX H p) : TbR (upd I p o) H := ⟨t.1, fun q hq => by
  obtain ⟨ps, h⟩ := t.at_ hq
  have e1 : q.1 ≠ p := fun z => (n _ (z ▸ h)).1 ps rfl
  rw [upd_ne e1]
  exact t.2 q hq⟩
theorem TbR.new (t : TbR I H) (h : H p = none) : TbR (upd I p o) (upd H p o) := ⟨t.1.ext (Ex.new h), (t.frz (.none h)).2⟩
theorem tbR_upd (t : TbR I H) (n : NX H p) : TbR I (upd H p o) := ⟨tabs_upd t.1 n, t.2⟩
theorem TbR.off {G : List Addr} (t : TbR I H) (off : ∀ b, b ∉ G → I' b = I b ∧ H' b = H b) (n : ∀ b ∈ G, NX H b) : TbR I' H' := ⟨tabs_off t.1 (fun b hb => (off b hb).2) n, fun q hq => by
  obtain ⟨ps, h⟩ := t.at_ hq
  rw [(off _ fun z => (n _ z _ h).1 ps rfl).1]
  exact t.2 q hq⟩
theorem TbR.keep (t : TbR I H) (k : ∀ a, H a ≠ none → ¬ NX H a → I' a = I a) : TbR I' H := ⟨t.1, fun q hq => by
  obtain ⟨ps, h⟩ := t.at_ hq
  rw [k _ (by rw [h]; exact fun z => by cases z) fun n => (n _ h).1 ps rfl]
  exact t.2 q hq⟩
end
/-! ### owned things -/
inductive W where
  | p (d : D) | ol (ws : List W) | ot (ws : List W) | od (es : List (Key × W)) | oi (c : Str) (fs : List (Str × W)) | ex (x : D)
abbrev Env := List (Option W)
abbrev Fp := Nat → List Addr

section
variable (K : PySem.W.Frag) (mg : Str → Option Value) (I H : Hp)
mutual
def Ro : W → V → List Addr → Prop
  | .p d, v, F => Rp K mg I d v ∧ F = []
  | .ol ws, v, F => ∃ a xs G, v = .ref a ∧ H a = some (.lst xs) ∧ F = a :: G ∧ RoL ws xs G
  | .ot ws, v, F => ∃ a xs G, v = .ref a ∧ H a = some (.tup xs) ∧ F = a :: G ∧ RoL ws xs G
  | .od es, v, F => ∃ a kvs G, v = .ref a ∧ H a = some (.dK kvs) ∧ F = a :: G ∧ RoK es kvs G
  | .oi c gs, v, F => ∃ a C dx fs G, v = .ref a ∧ mg c = some (.ref C) ∧ H a = some (.ins C dx fs) ∧ F = a :: G ∧ RoF gs fs G
  | .ex _, _, _ => False
def RoL : List W → List V → List Addr → Prop
  | [], xs, F => xs = [] ∧ F = []
  | w :: ws, xs, F => ∃ x r F1 F2, xs = x :: r ∧ F = F1 ++ F2 ∧ Ro w x F1 ∧ RoL ws r F2
def RoK : List (Key × W) → List (Key × V) → List Addr → Prop
  | [], xs, F => xs = [] ∧ F = []
  | (k, w) :: ws, xs, F => ∃ x r F1 F2, xs = (k, x) :: r ∧ F = F1 ++ F2 ∧ Ro w x F1 ∧ RoK ws r F2
def RoF : List (Str × W) → List (Str × V) → List Addr → Prop
  | [], xs, F => xs = [] ∧ F = []
  | (k, w) :: ws, xs, F => ∃ x r F1 F2, xs = (k, x) :: r ∧ F = F1 ++ F2 ∧ Ro w x F1 ∧ RoF ws r F2
end
end
section
variable {K : PySem.W.Frag} {mg : Str → Option Value} {I I' H H' : Hp}
mutual
theorem Ro.frame (e : Ex I I') : ∀ (w : W) (v : V) (F : List Addr), (∀ a ∈ F, ∀ o, H a = some o → NT o → H' a = some o) → Ro K mg I H w v F → Ro K mg I' H' w v F
  | .p d, v, F, k, h => by
    simp only [Ro] at h ⊢
    exact ⟨h.1.mono e, h.2⟩
  | .ol ws, v, F, k, h => by
    simp only [Ro] at h ⊢
    obtain ⟨a, xs, G, e1, h1, e2, h2⟩ := h
    subst e2
    exact ⟨a, xs, G, e1, k a (by simp) _ h1 (fun _ z => by cases z), rfl, RoL.frame e ws xs G (fun b hb => k b (by simp [hb])) h2⟩
  | .ot ws, v, F, k, h => by
    simp only [Ro] at h ⊢
    obtain ⟨a, xs, G, e1, h1, e2, h2⟩ := h
    subst e2
    exact ⟨a, xs, G, e1, k a (by simp) _ h1 (fun _ z => by cases z), rfl, RoL.frame e ws xs G (fun b hb => k b (by simp [hb])) h2⟩
  | .od ws, v, F, k, h => by
    simp only [Ro] at h ⊢
    obtain ⟨a, xs, G, e1, h1, e2, h2⟩ := h
    subst e2
    exact ⟨a, xs, G, e1, k a (by simp) _ h1 (fun _ z => by cases z), rfl, RoK.frame e ws xs G (fun b hb => k b (by simp [hb])) h2⟩
  | .oi c gs, v, F, k, h => by
    simp only [Ro] at h ⊢
    obtain ⟨a, C, dx, fs, G, e1, e3, h1, e2, h2⟩ := h
    subst e2
    exact ⟨a, C, dx, fs, G, e1, e3, k a (by simp) _ h1 (fun _ z => by cases z), rfl, RoF.frame e gs fs G (fun b hb => k b (by simp [hb])) h2⟩
  | .ex x, v, F, k, h => by simp only [Ro] at h
theorem RoL.frame (e : Ex I I') : ∀ (ws : List W) (xs : List V) (F : List Addr), (∀ a ∈ F, ∀ o, H a = some o → NT o → H' a = some o) → RoL K mg I H ws xs F → RoL K mg I' H' ws xs F
  | [], xs, F, k, h => by simp only [RoL] at h ⊢; exact h
  | w :: ws, xs, F, k, h => by
    simp only [RoL] at h ⊢
    obtain ⟨x, r, F1, F2, e1, e2, h1, h2⟩ := h
    subst e2
    exact ⟨x, r, F1, F2, e1, rfl, Ro.frame e w x F1 (fun b hb => k b (by simp [hb])) h1, RoL.frame e ws r F2 (fun b hb => k b (by simp [hb])) h2⟩
theorem RoK.frame (e : Ex I I') : ∀ (ws : List (Key × W)) (xs : List (Key × V)) (F : List Addr), (∀ a ∈ F, ∀ o, H a = some o → NT o → H' a = some o) → RoK K mg I H ws xs F → RoK K mg I' H' ws xs F
  | [], xs, F, k, h => by simp only [RoK] at h ⊢; exact h
  | (q, w) :: ws, xs, F, k, h => by
    simp only [RoK] at h ⊢
    obtain ⟨x, r, F1, F2, e1, e2, h1, h2⟩ := h
    subst e2
    exact ⟨x, r, F1, F2, e1, rfl, Ro.frame e w x F1 (fun b hb => k b (by simp [hb])) h1, RoK.frame e ws r F2 (fun b hb => k b (by simp [hb])) h2⟩
theorem RoF.frame (e : Ex I I') : ∀ (ws : List (Str × W)) (xs : List (Str × V)) (F : List Addr), (∀ a ∈ F, ∀ o, H a = some o → NT o → H' a = some o) → RoF K mg I H ws xs F → RoF K mg I' H' ws xs F
  | [], xs, F, k, h => by simp only [RoF] at h ⊢; exact h
  | (q, w) :: ws, xs, F, k, h => by
    simp only [RoF] at h ⊢
    obtain ⟨x, r, F1, F2, e1, e2, h1, h2⟩ := h
    subst e2
    exact ⟨x, r, F1, F2, e1, rfl, Ro.frame e w x F1 (fun b hb => k b (by simp [hb])) h1, RoF.frame e ws r F2 (fun b hb => k b (by simp [hb])) h2⟩
end
mutual
theorem Ro.live : ∀ (w : W) (v : V) (F : List Addr), Ro K mg I H w v F → ∀ a ∈ F, ∃ o, H a = some o
  | .p d, v, F, h => by simp only [Ro] at h; rw [h.2]; simp
  | .ol ws, v, F, h => by
    simp only [Ro] at h
    obtain ⟨a, xs, G, e1, h1, e2, h2⟩ := h
    subst e2
    intro b hb
    rcases List.mem_cons.mp hb with rfl | hb
    · exact ⟨_, h1⟩
    · exact RoL.live ws xs G h2 b hb
  | .ot ws, v, F, h => by
    simp only [Ro] at h
    obtain ⟨a, xs, G, e1, h1, e2, h2⟩ := h
    subst e2
    intro b hb
    rcases List.mem_cons.mp hb with rfl | hb
    · exact ⟨_, h1⟩
    · exact RoL.live ws xs G h2 b hb
  | .od ws, v, F, h => by
    simp only [Ro] at h
    obtain ⟨a, xs, G, e1, h1, e2, h2⟩ := h
    subst e2
    intro b hb
    rcases List.mem_cons.mp hb with rfl | hb
    · exact ⟨_, h1⟩
    · exact RoK.live ws xs G h2 b hb
  | .oi c gs, v, F, h => by
    simp only [Ro] at h
    obtain ⟨a, C, dx, fs, G, e1, e3, h1, e2, h2⟩ := h
    subst e2
    intro b hb
    rcases List.mem_cons.mp hb with rfl | hb
    · exact ⟨_, h1⟩
    · exact RoF.live gs fs G h2 b hb
  | .ex x, v, F, h => by simp only [Ro] at h
theorem RoL.live : ∀ (ws : List W) (xs : List V) (F : List Addr), RoL K mg I H ws xs F → ∀ a ∈ F, ∃ o, H a = some o
  | [], xs, F, h => by simp only [RoL] at h; rw [h.2]; simp
  | w :: ws, xs, F, h => by
    simp only [RoL] at h
    obtain ⟨x, r, F1, F2, e1, e2, h1, h2⟩ := h
    subst e2
    intro b hb
    rcases List.mem_append.mp hb with hb | hb
    · exact Ro.live w x F1 h1 b hb
    · exact RoL.live ws r F2 h2 b hb
theorem RoK.live : ∀ (ws : List (Key × W)) (xs : List (Key × V)) (F : List Addr), RoK K mg I H ws xs F → ∀ a ∈ F, ∃ o, H a = some o
  | [], xs, F, h => by simp only [RoK] at h; rw [h.2]; simp
  | (q, w) :: ws, xs, F, h => by
    simp only [RoK] at h
    obtain ⟨x, r, F1, F2, e1, e2, h1, h2⟩ := h
    subst e2
    intro b hb
    rcases List.mem_append.mp hb with hb | hb
    · exact Ro.live w x F1 h1 b hb
    · exact RoK.live ws r F2 h2 b hb
theorem RoF.live : ∀ (ws : List (Str × W)) (xs : List (Str × V)) (F : List Addr), RoF K mg I H ws xs F → ∀ a ∈ F, ∃ o, H a = some o
  | [], xs, F, h => by simp only [RoF] at h; rw [h.2]; simp
  | (q, w) :: ws, xs, F, h => by
    simp only [RoF] at h
    obtain ⟨x, r, F1, F2, e1, e2, h1, h2⟩ := h
    subst e2
    intro b hb
    rcases List.mem_append.mp hb with hb | hb
    · exact Ro.live w x F1 h1 b hb
    · exact RoF.live ws r F2 h2 b hb
end
mutual
theorem Ro.nx : ∀ (w : W) (v : V) (F : List Addr), Ro K mg I H w v F → ∀ a ∈ F, NX H a
  | .p d, v, F, h => by simp only [Ro] at h; rw [h.2]; simp
  | .ol ws, v, F, h => by
    simp only [Ro] at h
    obtain ⟨a, xs, G, e1, h1, e2, h2⟩ := h
    subst e2
    intro b hb
    rcases List.mem_cons.mp hb with rfl | hb
    · exact NX.lst h1
    · exact RoL.nx ws xs G h2 b hb
  | .ot ws, v, F, h => by
    simp only [Ro] at h
    obtain ⟨a, xs, G, e1, h1, e2, h2⟩ := h
    subst e2
    intro b hb
    rcases List.mem_cons.mp hb with rfl | hb
    · exact NX.tup h1
    · exact RoL.nx ws xs G h2 b hb
  | .od ws, v, F, h => by
    simp only [Ro] at h
    obtain ⟨a, xs, G, e1, h1, e2, h2⟩ := h
    subst e2
    intro b hb
    rcases List.mem_cons.mp hb with rfl | hb
    · exact NX.dk h1
    · exact RoK.nx ws xs G h2 b hb
  | .oi c gs, v, F, h => by
    simp only [Ro] at h
    obtain ⟨a, C, dx, fs, G, e1, e3, h1, e2, h2⟩ := h
    subst e2
    intro b hb
    rcases List.mem_cons.mp hb with rfl | hb
    · exact NX.ins h1
    · exact RoF.nx gs fs G h2 b hb
  | .ex x, v, F, h => by simp only [Ro] at h
theorem RoL.nx : ∀ (ws : List W) (xs : List V) (F : List Addr), RoL K mg I H ws xs F → ∀ a ∈ F, NX H a
  | [], xs, F, h => by simp only [RoL] at h; rw [h.2]; simp
  | w :: ws, xs, F, h => by
    simp only [RoL] at h
    obtain ⟨x, r, F1, F2, e1, e2, h1, h2⟩ := h
    subst e2
    intro b hb
    rcases List.mem_append.mp hb with hb | hb
    · exact Ro.nx w x F1 h1 b hb
    · exact RoL.nx ws r F2 h2 b hb
theorem RoK.nx : ∀ (ws : List (Key × W)) (xs : List (Key × V)) (F : List Addr), RoK K mg I H ws xs F → ∀ a ∈ F, NX H a
  | [], xs, F, h => by simp only [RoK] at h; rw [h.2]; simp
  | (q, w) :: ws, xs, F, h => by
    simp only [RoK] at h
    obtain ⟨x, r, F1, F2, e1, e2, h1, h2⟩ := h
    subst e2
    intro b hb
    rcases List.mem_append.mp hb with hb | hb
    · exact Ro.nx w x F1 h1 b hb
    · exact RoK.nx ws r F2 h2 b hb
theorem RoF.nx : ∀ (ws : List (Str × W)) (xs : List (Str × V)) (F : List Addr), RoF K mg I H ws xs F → ∀ a ∈ F, NX H a
  | [], xs, F, h => by simp only [RoF] at h; rw [h.2]; simp
  | (q, w) :: ws, xs, F, h => by
    simp only [RoF] at h
    obtain ⟨x, r, F1, F2, e1, e2, h1, h2⟩ := h
    subst e2
    intro b hb
    rcases List.mem_append.mp hb with hb | hb
    · exact Ro.nx w x F1 h1 b hb
    · exact RoF.nx ws r F2 h2 b hb
end
end

/-! ### the state: frozen things in I, owned ones at the footprints -/
structure Rel (K : PySem.W.Frag) (mg : Str → Option Value) (I : Hp) (e : Env) (Fs : Fp) (σ : L2.St) (H : Hp) : Prop where
  sub : Ex I H
  len : e.length = σ.length
  at_ : ∀ i w, e[i]? = some (some w) → ∃ x, σ[i]? = some (some x) ∧ Ro K mg I H w x (Fs i)
  nd : ∀ i, (Fs i).Nodup
  dj : ∀ i j a, a ∈ Fs i → a ∈ Fs j → i = j
  out : ∀ i a, a ∈ Fs i → I a = none
  live : ∀ i a, a ∈ Fs i → H a ≠ none
  tb : TbR I H
/-- what a step may do: M may change, the frozen part grows by what is new or of M -/
structure Gx (M : Addr → Prop) (I H I' H' : Hp) : Prop where
  ex : Ex I I'
  fr : ∀ a o, H a = some o → ¬ M a → NT o → H' a = some o
  new : ∀ a, I' a ≠ none → I a ≠ none ∨ H a = none ∨ M a
  tb : TbR I H → TbR I' H'
  tl : ∀ a ps, H a = some (.tbl ps) → ¬ M a → ∃ ps', H' a = some (.tbl ps')
def MF (Fs : Fp) : Addr → Prop := fun a => ∃ i, a ∈ Fs i
structure Ext (Fs : Fp) (I H : Hp) (Fs' : Fp) (I' H' : Hp) : Prop where
  g : Gx (MF Fs) I H I' H'
  fp : ∀ a, MF Fs' a → MF Fs a ∨ H a = none
theorem Gx.refl {M : Addr → Prop} {I H : Hp} : Gx M I H I H := ⟨Ex.refl _, fun _ _ h _ _ => h, fun _ h => .inl h, id, fun _ ps h _ => ⟨ps, h⟩⟩
theorem nt_or (o : HO) : NT o ∨ ∃ ps, o = .tbl ps := by
  cases o with
  | tbl ps => exact .inr ⟨ps, rfl⟩
  | _ => exact .inl fun _ z => by cases z
theorem Gx.back {M : Addr → Prop} {I H I' H' : Hp} (g : Gx M I H I' H') {x : Addr} (m : ¬ M x) (hx : H' x = none) : H x = none := by
  cases e : H x with
  | none => rfl
  | some o =>
    rcases nt_or o with n | ⟨ps, rfl⟩
    · rw [g.fr x o e m n] at hx; cases hx
    · obtain ⟨ps', h⟩ := g.tl x ps e m
      rw [h] at hx; cases hx
theorem Gx.set {M : Addr → Prop} {I H I' H' : Hp} {p : Addr} {o : HO} (g : Gx M I H I' H') (hp : M p ∨ H p = none) (n : NX H' p) : Gx M I H I' (upd H' p o) := by
  have np : ∀ {a : Addr} {u : HO}, H a = some u → ¬ M a → a ≠ p := fun {a u} h m z => by
    subst z
    rcases hp with w | w
    · exact m w
    · rw [h] at w; cases w
  refine ⟨g.ex, fun a u h m nt => ?_, g.new, fun t => tbR_upd (g.tb t) n, fun a ps h m => ?_⟩
  · rw [upd_ne (np h m)]; exact g.fr a u h m nt
  · rw [upd_ne (np h m)]; exact g.tl a ps h m
theorem Ext.refl {Fs : Fp} {I H : Hp} : Ext Fs I H Fs I H := ⟨Gx.refl, fun _ h => .inl h⟩
theorem Ext.trans {F1 F2 F3 : Fp} {I1 H1 I2 H2 I3 H3 : Hp} (a : Ext F1 I1 H1 F2 I2 H2) (b : Ext F2 I2 H2 F3 I3 H3) : Ext F1 I1 H1 F3 I3 H3 := by
  have back : ∀ x, H2 x = none → H1 x = none ∨ MF F1 x := fun x hx => by
    by_cases m : MF F1 x
    · exact .inr m
    · exact .inl (a.g.back m hx)
  refine ⟨⟨a.g.ex.trans b.g.ex, fun x o h m n => b.g.fr x o (a.g.fr x o h m n) (fun m2 => ?_) n, fun x h => ?_, fun t => b.g.tb (a.g.tb t), fun x ps h m => ?_⟩, fun x m => ?_⟩
  · rcases a.fp x m2 with q | q
    · exact m q
    · rw [h] at q; cases q
  rotate_left
  · obtain ⟨ps1, h1⟩ := a.g.tl x ps h m
    refine b.g.tl x ps1 h1 fun m2 => ?_
    rcases a.fp x m2 with q | q
    · exact m q
    · rw [h] at q; cases q
  rotate_right
  · rcases b.g.new x h with q | q | q
    · exact a.g.new x q
    · rcases back x q with z | z
      · exact .inr (.inl z)
      · exact .inr (.inr z)
    · rcases a.fp x q with z | z
      · exact .inr (.inr z)
      · exact .inr (.inl z)
  · rcases b.fp x m with q | q
    · exact a.fp x q
    · rcases back x q with z | z
      · exact .inr z
      · exact .inl z
/-- a new frozen object -/
theorem Rel.laid {K : PySem.W.Frag} {mg : Str → Option Value} {I H : Hp} {e : Env} {Fs : Fp} {σ : L2.St} {p : Addr} {o : HO} (R : Rel K mg I e Fs σ H) (h : H p = none) :
    Rel K mg (upd I p o) e Fs σ (upd H p o) ∧ Ext Fs I H Fs (upd I p o) (upd H p o) := by
  have hI : I p = none := by
    cases q : I p with
    | none => rfl
    | some u => rw [R.sub p u q] at h; cases h
  have np : ∀ i a, a ∈ Fs i → a ≠ p := fun i a ha z => by subst z; exact R.live i a ha h
  refine ⟨⟨fun a u q => ?_, R.len, fun i w q => ?_, R.nd, R.dj, fun i a ha => ?_, fun i a ha => ?_, R.tb.new h⟩, ⟨⟨Ex.new hI, fun a u q _ _ => Ex.new h a u q, fun a q => ?_, fun t => t.new h, fun a ps q _ => ⟨ps, Ex.new h a _ q⟩⟩, fun a m => .inl m⟩⟩
  · by_cases z : a = p
    · subst z; rw [upd_same] at q ⊢; exact q
    · rw [upd_ne z] at q ⊢; exact R.sub a u q
  · obtain ⟨x, hx, hr⟩ := R.at_ i w q
    exact ⟨x, hx, hr.frame (Ex.new hI) w x (Fs i) fun a ha u hu _ => Ex.new h a u hu⟩
  · rw [upd_ne (np i a ha)]; exact R.out i a ha
  · rw [upd_ne (np i a ha)]; exact R.live i a ha
  · by_cases z : a = p
    · subst z; exact .inr (.inl h)
    · rw [upd_ne z] at q; exact .inl q

/-! ### expressions -/
abbrev M (α : Type) := Env → Option (α × Env)
def tE (K : PySem.W.Frag) (mg : Str → Option Value) (m : M D) : TE := fun σ H Q => ∃ I e Fs, Rel K mg I e Fs σ H ∧ ∃ d e', m e = some (d, e') ∧
  ∀ v I' Fs' H', Rel K mg I' e' Fs' σ H' → Ext Fs I H Fs' I' H' → Rp K mg I' d v → Q v H'
def SE (X : Cx) (a : Expr) (m : M D) : Prop := PE X a (tE X.K X.mg m)
theorem PE.imp {X : Cx} {a : Expr} {t t' : TE} (h : PE X a t) (i : ∀ σ H Q, t' σ H Q → t σ H Q) : PE X a t' := ⟨fun pins s σ H Q I hq => h.run pins s σ H Q I (i σ H Q hq)⟩

def mC (d : D) : M D := fun e => some (d, e)
def mVar (i : Nat) : M D := fun e => match e[i]? with
  | some (some (.p d)) => some (d, e)
  | _ => none
def mOp (f : D → D → Option D) (a b : M D) : M D := fun e => (a e).bind fun x => (b x.2).bind fun y => (f x.1 y.1).map fun z => (z, y.2)
def mUn (f : D → Option D) (a : M D) : M D := fun e => (a e).bind fun x => (f x.1).map fun z => (z, x.2)

/-- what a pure operation gives: a value of the frozen part, as it is or by one new object -/
inductive Gr : Hp → Hp → Hp → Hp → Prop where
  | same {I H : Hp} : Gr I H I H
  | new {I H : Hp} (p : Addr) (o : HO) (h : H p = none) : Gr I H (upd I p o) (upd H p o)
  | more {I H J G J' G' : Hp} : Gr I H J G → Gr J G J' G' → Gr I H J' G'
theorem Gr.rel {K : PySem.W.Frag} {mg : Str → Option Value} {e : Env} {Fs : Fp} {σ : L2.St} {I H J G : Hp} (g : Gr I H J G) : Rel K mg I e Fs σ H → Rel K mg J e Fs σ G ∧ Ext Fs I H Fs J G := by
  induction g with
  | same => exact fun R => ⟨R, Ext.refl⟩
  | new p o h => exact fun R => R.laid h
  | more g1 g2 i1 i2 =>
    intro R
    obtain ⟨R1, x1⟩ := i1 R
    obtain ⟨R2, x2⟩ := i2 R1
    exact ⟨R2, x1.trans x2⟩
theorem Gr.ex {I H J G : Hp} (g : Gr I H J G) : Ex I H → Ex I J ∧ Ex J G := by
  induction g with
  | same => exact fun h => ⟨Ex.refl _, h⟩
  | @new I H p o h =>
    intro s
    have hI : I p = none := by
      cases q : I p with
      | none => rfl
      | some u => rw [s p u q] at h; cases h
    refine ⟨Ex.new hI, fun a u q => ?_⟩
    by_cases z : a = p
    · subst z; rw [upd_same] at q ⊢; exact q
    · rw [upd_ne z] at q ⊢; exact s a u q
  | more g1 g2 i1 i2 =>
    intro s
    obtain ⟨a, b⟩ := i1 s
    obtain ⟨c, d⟩ := i2 b
    exact ⟨a.trans c, d⟩
/-- a two-place operation's data -/
def OpD (K : PySem.W.Frag) (mg : Str → Option Value) (r : R2) (f : D → D → Option D) : Prop :=
  ∀ (I H : Hp) (x y z : D) (v u : V) (Q : VK), Ex I H → Rp K mg I x v → Rp K mg I y u → f x y = some z → (∀ v' I' H', Gr I H I' H' → Rp K mg I' z v' → Q v' H') → r v u H Q
def UnD (K : PySem.W.Frag) (mg : Str → Option Value) (r : V → Hp → VK → Prop) (f : D → Option D) : Prop :=
  ∀ (I H : Hp) (x z : D) (v : V) (Q : VK), Ex I H → Rp K mg I x v → f x = some z → (∀ v' I' H', Gr I H I' H' → Rp K mg I' z v' → Q v' H') → r v H Q
section
variable {X : Cx} {a b c : Expr} {ma mb mc : M D} {pos : Pos}
theorem SE.val {t : TE} (h : PE X a t) {d : D} (hd : ∀ σ H Q, (∀ v, Rp X.K X.mg (fun _ => none) d v → Q v H) → t σ H Q) : SE X a (mC d) := by
  refine PE.imp h fun σ H Q ⟨I, e, Fs, R, d', e', hm, k⟩ => hd σ H Q fun v hv => ?_
  have q : d = d' ∧ e = e' := by simpa [mC] using hm
  obtain ⟨rfl, rfl⟩ := q
  exact k v I Fs H R Ext.refl (hv.mono (fun _ _ z => by cases z) _ _)
theorem se_int {i : Int} {j : Nat} : SE X (.Constant (.int i) j pos) (mC (.int i)) := SE.val pe_int fun σ H Q k => k (.int i) (by simp only [Rp])
theorem se_bl {i : Bool} {j : Nat} : SE X (.Constant (.bool i) j pos) (mC (.bool i)) := SE.val pe_bl fun σ H Q k => k (.bl i) (by simp only [Rp])
theorem se_non {j : Nat} : SE X (.Constant .none j pos) (mC .none) := SE.val pe_non fun σ H Q k => k .non (by simp only [Rp])
theorem se_str {x : Str} {j : Nat} : SE X (.Constant (.str x) j pos) (mC (.str x)) := SE.val pe_str fun σ H Q k => k (.str x) (by simp only [Rp])
theorem se_var {i : Nat} {x : Str} (h : PE X (.Name x pos) (tVar i)) : SE X (.Name x pos) (mVar i) := by
  refine PE.imp h fun σ H Q ⟨I, e, Fs, R, d', e', hm, k⟩ => ?_
  unfold mVar at hm
  split at hm
  · rename_i d hd
    cases hm
    obtain ⟨v, hv, hr⟩ := R.at_ i _ hd
    simp only [Ro] at hr
    exact ⟨v, hv, k v I Fs H R Ext.refl hr.1⟩
  · cases hm
theorem se_op {op : Operator} {r : R2} {f : D → D → Option D} (ho : OpR X (binaryOp op) r) (hf : OpD X.K X.mg r f) (ha : SE X a ma) (hb : SE X b mb) : SE X (.BinOp a op b pos) (mOp f ma mb) := by
  refine PE.imp (pe_op ho ha hb) fun σ H Q ⟨I, e, Fs, R, d', e', hm, k⟩ => ?_
  obtain ⟨⟨x, e1⟩, h1, hm⟩ := Option.bind_eq_some_iff.mp hm
  obtain ⟨⟨y, e2⟩, h2, hm⟩ := Option.bind_eq_some_iff.mp hm
  obtain ⟨z, h3, hm⟩ := Option.map_eq_some_iff.mp hm
  cases hm
  refine ⟨I, e, Fs, R, x, e1, h1, fun v I1 F1 H1 R1 x1 r1 => ⟨I1, e1, F1, R1, y, e2, h2, fun u I2 F2 H2 R2 x2 r2 => ?_⟩⟩
  refine hf I2 H2 x y _ v u Q R2.sub (r1.mono x2.g.ex _ _) r2 h3 fun v' I3 H3 g r3 => ?_
  obtain ⟨R3, x3⟩ := g.rel R2
  exact k v' I3 F2 H3 R3 ((x1.trans x2).trans x3) r3
theorem se_cmp {op : CmpOp} {r : R2} {f : D → D → Option D} (ho : OpR X (compareOp op) r) (hf : OpD X.K X.mg r f) (ha : SE X a ma) (hb : SE X b mb) (hm : behindInMarks op b = false) : SE X (.Compare a [op] [b] pos) (mOp f ma mb) := by
  refine PE.imp (pe_cmpR ho ha hb hm) fun σ H Q ⟨I, e, Fs, R, d', e', hm, k⟩ => ?_
  obtain ⟨⟨x, e1⟩, h1, hm⟩ := Option.bind_eq_some_iff.mp hm
  obtain ⟨⟨y, e2⟩, h2, hm⟩ := Option.bind_eq_some_iff.mp hm
  obtain ⟨z, h3, hm⟩ := Option.map_eq_some_iff.mp hm
  cases hm
  refine ⟨I, e, Fs, R, x, e1, h1, fun v I1 F1 H1 R1 x1 r1 => ⟨I1, e1, F1, R1, y, e2, h2, fun u I2 F2 H2 R2 x2 r2 => ?_⟩⟩
  refine hf I2 H2 x y _ v u Q R2.sub (r1.mono x2.g.ex _ _) r2 h3 fun v' I3 H3 g r3 => ?_
  obtain ⟨R3, x3⟩ := g.rel R2
  exact k v' I3 F2 H3 R3 ((x1.trans x2).trans x3) r3
end
end MV

namespace MV
open PySem L2
variable [TB]

/-! ### ownership goes from hand to hand -/
structure Own (K : PySem.W.Frag) (mg : Str → Option Value) (I H : Hp) (Fs : Fp) (w : W) (v : V) (F : List Addr) : Prop where
  ro : Ro K mg I H w v F
  nd : F.Nodup
  out : ∀ a, a ∈ F → I a = none
  dj : ∀ a, a ∈ F → ¬ MF Fs a
def putF (Fs : Fp) (i : Nat) (F : List Addr) : Fp := fun j => if j = i then F else Fs j
theorem putF_same {Fs : Fp} {i : Nat} {F : List Addr} : putF Fs i F i = F := by simp [putF]
theorem putF_ne {Fs : Fp} {i j : Nat} {F : List Addr} (h : j ≠ i) : putF Fs i F j = Fs j := by simp [putF, h]
theorem MF.put {Fs : Fp} {i : Nat} {F : List Addr} {a : Addr} (h : MF (putF Fs i F) a) : a ∈ F ∨ MF Fs a := by
  obtain ⟨j, hj⟩ := h
  by_cases z : j = i
  · subst z; rw [putF_same] at hj; exact .inl hj
  · rw [putF_ne z] at hj; exact .inr ⟨j, hj⟩
theorem MF.nil {Fs : Fp} {i : Nat} {a : Addr} (h : MF (putF Fs i []) a) : MF Fs a := by
  rcases h.put with z | z
  · cases z
  · exact z
section
variable {K : PySem.W.Frag} {mg : Str → Option Value} {I H I' H' : Hp} {e : Env} {Fs : Fp} {σ : L2.St}
theorem Own.pure {d : D} {v : V} (h : Rp K mg I d v) : Own K mg I H Fs (.p d) v [] := ⟨by unfold Ro; exact ⟨h, rfl⟩, List.nodup_nil, fun _ z => (by cases z), fun _ z => (by cases z)⟩
theorem Rel.put {w : W} {v : V} {F : List Addr} {i : Nat} (R : Rel K mg I e Fs σ H) (o : Own K mg I H Fs w v F) : Rel K mg I (e.set i (some w)) (putF Fs i F) (σ.set i (some v)) H := by
  refine ⟨R.sub, by simp [R.len], fun j u q => ?_, fun j => ?_, fun j k a h1 h2 => ?_, fun j a h => ?_, fun j a h => ?_, R.tb⟩
  · by_cases z : j = i
    · subst z
      rw [putF_same]
      have hl : j < e.length := by
        obtain ⟨h1, _⟩ := List.getElem?_eq_some_iff.mp q
        simpa using h1
      rw [List.getElem?_set_self hl] at q
      cases q
      exact ⟨v, by rw [List.getElem?_set_self (by rw [← R.len]; exact hl)], o.ro⟩
    · rw [putF_ne z, List.getElem?_set_ne (Ne.symm z)]
      rw [List.getElem?_set_ne (Ne.symm z)] at q
      exact R.at_ j u q
  · by_cases z : j = i
    · subst z; rw [putF_same]; exact o.nd
    · rw [putF_ne z]; exact R.nd j
  · by_cases z : j = i
    · subst z
      rw [putF_same] at h1
      by_cases y : k = j
      · exact y.symm
      · rw [putF_ne y] at h2; exact absurd ⟨k, h2⟩ (o.dj a h1)
    · rw [putF_ne z] at h1
      by_cases y : k = i
      · subst y; rw [putF_same] at h2; exact absurd ⟨j, h1⟩ (o.dj a h2)
      · rw [putF_ne y] at h2; exact R.dj j k a h1 h2
  · by_cases z : j = i
    · subst z; rw [putF_same] at h; exact o.out a h
    · rw [putF_ne z] at h; exact R.out j a h
  · by_cases z : j = i
    · subst z; rw [putF_same] at h
      obtain ⟨u, hu⟩ := o.ro.live _ _ _ a h
      rw [hu]; exact fun q => by cases q
    · rw [putF_ne z] at h; exact R.live j a h
/-- a slot is given up -/
theorem Rel.drop {i : Nat} (R : Rel K mg I e Fs σ H) : Rel K mg I (e.set i none) (putF Fs i []) σ H := by
  refine ⟨R.sub, by simp [R.len], fun j u q => ?_, fun j => ?_, fun j k a h1 h2 => ?_, fun j a h => ?_, fun j a h => ?_, R.tb⟩
  · by_cases z : j = i
    · subst z
      have hl : j < e.length := by
        obtain ⟨h1, _⟩ := List.getElem?_eq_some_iff.mp q
        simpa using h1
      rw [List.getElem?_set_self hl] at q
      cases q
    · rw [putF_ne z]
      rw [List.getElem?_set_ne (Ne.symm z)] at q
      exact R.at_ j u q
  · by_cases z : j = i
    · subst z; rw [putF_same]; exact List.nodup_nil
    · rw [putF_ne z]; exact R.nd j
  · by_cases z : j = i
    · subst z; rw [putF_same] at h1; cases h1
    · rw [putF_ne z] at h1
      by_cases y : k = i
      · subst y; rw [putF_same] at h2; cases h2
      · rw [putF_ne y] at h2; exact R.dj j k a h1 h2
  · exact let ⟨k, hk⟩ := MF.nil ⟨j, h⟩; R.out k a hk
  · exact let ⟨k, hk⟩ := MF.nil ⟨j, h⟩; R.live k a hk
theorem Rel.own {i : Nat} {w : W} (R : Rel K mg I e Fs σ H) (h : e[i]? = some (some w)) : ∃ v, σ[i]? = some (some v) ∧ Own K mg I H (putF Fs i []) w v (Fs i) := by
  obtain ⟨v, h1, h2⟩ := R.at_ i w h
  refine ⟨v, h1, h2, R.nd i, R.out i, fun a ha ⟨j, hj⟩ => ?_⟩
  by_cases z : j = i
  · subst z; rw [putF_same] at hj; cases hj
  · rw [putF_ne z] at hj; exact z (R.dj j i a hj ha)
theorem Ext.drop {i : Nat} {F1 : Fp} {I1 H1 : Hp} (x : Ext F1 I1 H1 Fs I H) : Ext F1 I1 H1 (putF Fs i []) I H := ⟨x.g, fun a h => x.fp a h.nil⟩
theorem Ext.put {i : Nat} {F : List Addr} {F1 : Fp} {I1 H1 : Hp} (x : Ext F1 I1 H1 Fs I H) (h : ∀ a ∈ F, MF F1 a ∨ H1 a = none) : Ext F1 I1 H1 (putF Fs i F) I H := ⟨x.g, fun a m => by
  rcases m.put with z | z
  · exact h a z
  · exact x.fp a z⟩
theorem Rel.nx {i : Nat} {w : W} {a : Addr} (R : Rel K mg I e Fs σ H) (h : e[i]? = some (some w)) (ha : a ∈ Fs i) : NX H a := by
  obtain ⟨v, _, h2⟩ := R.at_ i w h
  exact h2.nx _ _ _ a ha
/-- another's step leaves this state as it is -/
theorem Rel.frame (R : Rel K mg I e Fs σ H) {M : Addr → Prop} (x : Gx M I H I' H') (hs : Ex I' H') (hM : ∀ a, MF Fs a → ¬ M a) : Rel K mg I' e Fs σ H' := by
  refine ⟨hs, R.len, fun i w q => ?_, R.nd, R.dj, fun i a h => ?_, fun i a h z => ?_, x.tb R.tb⟩
  · obtain ⟨v, h1, h2⟩ := R.at_ i w q
    exact ⟨v, h1, h2.frame x.ex w v (Fs i) fun a ha o ho nt => x.fr a o ho (hM a ⟨i, ha⟩) nt⟩
  · cases q : I' a with
    | none => rfl
    | some o =>
      rcases x.new a (by rw [q]; exact fun z => by cases z) with z | z | z
      · exact absurd (R.out i a h) z
      · exact absurd z (R.live i a h)
      · exact absurd z (hM a ⟨i, h⟩)
  · exact R.live i a h (x.back (hM a ⟨i, h⟩) z)
theorem Own.frame {F2 : Fp} {w : W} {v : V} {F : List Addr} (o : Own K mg I H Fs w v F) {M : Addr → Prop} (x : Gx M I H I' H') (hM : ∀ a, a ∈ F → ¬ M a) (h2 : ∀ a, a ∈ F → ¬ MF F2 a) : Own K mg I' H' F2 w v F := by
  refine ⟨o.ro.frame x.ex w v F fun a ha u hu nt => x.fr a u hu (hM a ha) nt, o.nd, fun a ha => ?_, h2⟩
  obtain ⟨u, hu⟩ := o.ro.live _ _ _ a ha
  cases q : I' a with
  | none => rfl
  | some o' =>
    rcases x.new a (by rw [q]; exact fun z => by cases z) with z | z | z
    · exact absurd (o.out a ha) z
    · rw [hu] at z; cases z
    · exact absurd z (hM a ha)
end

/-! ### owned results, what is raised -/
/-- an exception: the datum of its class and its fields -/
def XR (K : PySem.W.Frag) (mg : Str → Option Value) (I : Hp) : D → Value → Option Addr → Prop
  | .inst c gs, cls, d => ∃ C dx fs, cls = .ref C ∧ mg c = some (.ref C) ∧ d = some dx ∧ I dx = some (.xd fs) ∧ RpF K mg I gs fs
  | _, _, _ => False
/-- nothing is let out -/
abbrev W0 : WX := fun _ _ _ _ => False
def tO (K : PySem.W.Frag) (mg : Str → Option Value) (Wx : WX) (m : M W) : TE := fun σ H Q => ∃ I e Fs, Rel K mg I e Fs σ H ∧ ∃ w e', m e = some (w, e') ∧
  (∀ v I' Fs' H' F, Rel K mg I' e' Fs' σ H' → Ext Fs I H Fs' I' H' → Own K mg I' H' Fs' w v F → (∀ a ∈ F, MF Fs a ∨ H a = none) → Q v H') ∧
  ∀ x, w = .ex x → ∀ cls d I' Fs' H', Rel K mg I' e' Fs' σ H' → Ext Fs I H Fs' I' H' → XR K mg I' x cls d → Wx cls d σ H'
def SO (X : Cx) (Wx : WX) (a : Expr) (m : M W) : Prop := PE X a (tO X.K X.mg Wx m)
def mP (m : M D) : M W := fun e => (m e).map fun x => (.p x.1, x.2)
theorem so_p {X : Cx} {Wx : WX} {a : Expr} {m : M D} (h : SE X a m) : SO X Wx a (mP m) := by
  refine PE.imp h fun σ H Q ⟨I, e, Fs, R, w, e', hm, k, _⟩ => ?_
  obtain ⟨⟨d, e1⟩, h1, hm⟩ := Option.map_eq_some_iff.mp hm
  cases hm
  exact ⟨I, e, Fs, R, d, e1, h1, fun v I' Fs' H' R' x r => k v I' Fs' H' [] R' x (.pure r) fun _ z => by cases z⟩
def mGetP (m : M W) : M D := fun e => (m e).bind fun x => match x.1 with
  | .p d => some (d, x.2)
  | _ => none
theorem se_o {X : Cx} {Wx : WX} {a : Expr} {m : M W} (h : SO X Wx a m) : SE X a (mGetP m) := by
  refine PE.imp h fun σ H Q ⟨I, e, Fs, R, d, e', hm, k⟩ => ?_
  obtain ⟨⟨w, e1⟩, h1, hm⟩ := Option.bind_eq_some_iff.mp hm
  cases w with
  | p d' =>
    cases hm
    refine ⟨I, e, Fs, R, .p d, e1, h1, fun v I' Fs' H' F R' x o _ => k v I' Fs' H' R' x ?_, fun x z => by cases z⟩
    have q := o.ro
    simp only [Ro] at q
    exact q.1
  | _ => cases hm
def mMove (i : Nat) : M W := fun e => match e[i]? with
  | some (some w) => some (w, e.set i none)
  | _ => none
theorem so_move {X : Cx} {Wx : WX} {i : Nat} {x : Str} {pos : Pos} (h : PE X (.Name x pos) (tVar i)) : SO X Wx (.Name x pos) (mMove i) := by
  refine PE.imp h fun σ H Q ⟨I, e, Fs, R, w, e', hm, k, _⟩ => ?_
  unfold mMove at hm
  split at hm
  · rename_i u hu
    cases hm
    obtain ⟨v, h1, o⟩ := R.own hu
    exact ⟨v, h1, k v I _ H (Fs i) R.drop Ext.refl.drop o fun a ha => .inl ⟨i, ha⟩⟩
  · cases hm

/-! ### argument lists -/
inductive Arg where
  | d (d : D) | io (i : Nat)
section
variable (K : PySem.W.Frag) (mg : Str → Option Value) (I : Hp) (σ : L2.St)
def ArgR : List Arg → List V → Prop
  | [], vs => vs = []
  | .d d :: r, vs => ∃ v t, vs = v :: t ∧ Rp K mg I d v ∧ ArgR r t
  | .io i :: r, vs => ∃ v t, vs = v :: t ∧ σ[i]? = some (some v) ∧ ArgR r t
end
theorem ArgR.mono {K : PySem.W.Frag} {mg : Str → Option Value} {I J : Hp} {σ : L2.St} (x : Ex I J) : ∀ {as : List Arg} {vs : List V}, ArgR K mg I σ as vs → ArgR K mg J σ as vs
  | [], vs, h => h
  | .d d :: r, vs, h => by
    obtain ⟨v, t, e, h1, h2⟩ := h
    exact ⟨v, t, e, h1.mono x _ _, ArgR.mono x h2⟩
  | .io i :: r, vs, h => by
    obtain ⟨v, t, e, h1, h2⟩ := h
    exact ⟨v, t, e, h1, ArgR.mono x h2⟩
def tAr (K : PySem.W.Frag) (mg : Str → Option Value) (m : M (List Arg)) : TA := fun σ H Q => ∃ I e Fs, Rel K mg I e Fs σ H ∧ ∃ as e', m e = some (as, e') ∧
  ∀ vs I' Fs' H', Rel K mg I' e' Fs' σ H' → Ext Fs I H Fs' I' H' → ArgR K mg I' σ as vs → Q vs H'
def SA (X : Cx) (es : List Expr) (m : M (List Arg)) : Prop := PA X es (tAr X.K X.mg m)
theorem PA.imp {X : Cx} {a : List Expr} {t t' : TA} (h : PA X a t) (i : ∀ σ H Q, t' σ H Q → t σ H Q) : PA X a t' := ⟨fun pos pins s σ H Q I hq => h.run pos pins s σ H Q I (i σ H Q hq)⟩
def aNil : M (List Arg) := fun e => some ([], e)
def aD (m : M D) (r : M (List Arg)) : M (List Arg) := fun e => (m e).bind fun x => (r x.2).map fun y => (.d x.1 :: y.1, y.2)
def aIO (i : Nat) (r : M (List Arg)) : M (List Arg) := fun e => match e[i]? with
  | some (some _) => (r e).map fun y => (.io i :: y.1, y.2)
  | _ => none
section
variable {X : Cx} {a : Expr} {es : List Expr} {pos : Pos}
theorem sa_nil : SA X [] aNil := PA.imp pa_nil fun σ H Q ⟨I, e, Fs, R, as, e', hm, k⟩ => by
  cases hm
  exact k [] I Fs H R Ext.refl rfl
theorem sa_d {m : M D} {r : M (List Arg)} (h : SE X a m) (hr : SA X es r) (hs : starEach (a :: es) X.env = (false, eval a X.env) :: starEach es X.env := by rfl) : SA X (a :: es) (aD m r) := by
  refine PA.imp (pa_cons h hr hs) fun σ H Q ⟨I, e, Fs, R, as, e', hm, k⟩ => ?_
  obtain ⟨⟨x, e1⟩, h1, hm⟩ := Option.bind_eq_some_iff.mp hm
  obtain ⟨⟨y, e2⟩, h2, hm⟩ := Option.map_eq_some_iff.mp hm
  cases hm
  refine ⟨I, e, Fs, R, x, e1, h1, fun v I1 F1 H1 R1 x1 r1 => ⟨I1, e1, F1, R1, y, e2, h2, fun vs I2 F2 H2 R2 x2 r2 => ?_⟩⟩
  exact k (v :: vs) I2 F2 H2 R2 (x1.trans x2) ⟨v, vs, rfl, r1.mono x2.g.ex _ _, r2⟩
theorem sa_io {i : Nat} {x : Str} {r : M (List Arg)} (h : PE X (.Name x pos) (tVar i)) (hr : SA X es r) (hs : starEach (.Name x pos :: es) X.env = (false, eval (.Name x pos) X.env) :: starEach es X.env := by rfl) : SA X (.Name x pos :: es) (aIO i r) := by
  refine PA.imp (pa_cons h hr hs) fun σ H Q ⟨I, e, Fs, R, as, e', hm, k⟩ => ?_
  unfold aIO at hm
  split at hm
  · rename_i w hw
    obtain ⟨⟨y, e2⟩, h2, hm⟩ := Option.map_eq_some_iff.mp hm
    cases hm
    obtain ⟨v, h1, _⟩ := R.at_ i w hw
    refine ⟨v, h1, I, e, Fs, R, y, e2, h2, fun vs I2 F2 H2 R2 x2 r2 => ?_⟩
    exact k (v :: vs) I2 F2 H2 R2 x2 ⟨v, vs, rfl, h1, r2⟩
  · cases hm
end

/-! ### a def's meaning, its promise -/
abbrev FSem := List W → Option (W × Env)
/-- f: the arguments to the result and what the parameters that are handed back hold then -/
def spF (K : PySem.W.Frag) (mg : Str → Option Value) (n : Nat) (f : FSem) : Sp := fun vs H Q E => ∃ I ws Fa, ws.length = n ∧ Rel K mg I (ws.map some) Fa (vs.map some) H ∧ ∃ w oe, f ws = some (w, oe) ∧
  (∀ v I' Fo H' F, Rel K mg I' oe Fo (vs.map some) H' → Ext Fa I H Fo I' H' → Own K mg I' H' Fo w v F → (∀ a ∈ F, MF Fa a ∨ H a = none) → Q v H') ∧
  ∀ x, w = .ex x → ∀ cls d I' Fo H', Rel K mg I' oe Fo (vs.map some) H' → Ext Fa I H Fo I' H' → XR K mg I' x cls d → E cls d H'
theorem spF_len {K : PySem.W.Frag} {mg : Str → Option Value} {n : Nat} {f : FSem} {vs : List V} {H : Hp} {Q : VK} {E : XK} (h : spF K mg n f vs H Q E) : vs.length = n := by
  obtain ⟨I, ws, Fa, hl, R, _⟩ := h
  have := R.len
  simp at this
  omega
def gather : List Arg → Env → Option (List W × Env)
  | [], e => some ([], e)
  | .d d :: r, e => (gather r e).map fun x => (.p d :: x.1, x.2)
  | .io i :: r, e => match e[i]? with
    | some (some w) => (gather r (e.set i none)).map fun x => (w :: x.1, x.2)
    | _ => none
def scatter : List Arg → Env → Env → Env
  | [], _, e => e
  | .d _ :: r, oe, e => scatter r oe.tail e
  | .io i :: r, oe, e => scatter r oe.tail (match oe.head? with
    | some (some w) => e.set i (some w)
    | _ => e)
def consF (F : List Addr) (Fa : Fp) : Fp := fun j => match j with
  | 0 => F
  | k + 1 => Fa k
section
variable {K : PySem.W.Frag} {mg : Str → Option Value} {I H : Hp} {σ : L2.St}
theorem Rel.cons {w : W} {v : V} {F : List Addr} {e : Env} {Fa : Fp} {τ : L2.St} (R : Rel K mg I e Fa τ H) (o : Own K mg I H Fa w v F) : Rel K mg I (some w :: e) (consF F Fa) (some v :: τ) H := by
  refine ⟨R.sub, by simp [R.len], fun i u q => ?_, fun i => ?_, fun i j a h1 h2 => ?_, fun i a h => ?_, fun i a h => ?_, R.tb⟩
  · cases i with
    | zero => simp at q; subst q; exact ⟨v, rfl, o.ro⟩
    | succ i => exact R.at_ i u (by simpa using q)
  · cases i with
    | zero => exact o.nd
    | succ i => exact R.nd i
  · cases i with
    | zero =>
      cases j with
      | zero => rfl
      | succ j => exact absurd ⟨j, h2⟩ (o.dj a h1)
    | succ i =>
      cases j with
      | zero => exact absurd ⟨i, h1⟩ (o.dj a h2)
      | succ j => rw [R.dj i j a h1 h2]
  · cases i with
    | zero => exact o.out a h
    | succ i => exact R.out i a h
  · cases i with
    | zero =>
      obtain ⟨u, hu⟩ := o.ro.live _ _ _ a h
      rw [hu]; exact fun q => by cases q
    | succ i => exact R.live i a h
theorem Rel.nil (s : Ex I H) (t : TbR I H) : Rel K mg I [] (fun _ => []) [] H := ⟨s, rfl, fun i w q => by simp at q, fun _ => List.nodup_nil, fun _ _ _ h => (by cases h), fun _ _ h => (by cases h), fun _ _ h => (by cases h), t⟩
theorem MF.cons {F : List Addr} {Fa : Fp} {a : Addr} (h : MF (consF F Fa) a) : a ∈ F ∨ MF Fa a := by
  obtain ⟨j, hj⟩ := h
  cases j with
  | zero => exact .inl hj
  | succ j => exact .inr ⟨j, hj⟩
theorem gather_ok : ∀ {as : List Arg} {e e2 : Env} {Fs : Fp} {vs : List V} {ws : List W}, Rel K mg I e Fs σ H → ArgR K mg I σ as vs → gather as e = some (ws, e2) →
    ∃ Fa F2, Rel K mg I (ws.map some) Fa (vs.map some) H ∧ Rel K mg I e2 F2 σ H ∧ (∀ a, MF Fa a → MF Fs a) ∧ (∀ a, MF F2 a → MF Fs a) ∧ (∀ a, MF Fa a → ¬ MF F2 a)
  | [], e, e2, Fs, vs, ws, R, h, g => by
    cases g
    simp only [ArgR] at h
    subst h
    exact ⟨fun _ => [], Fs, Rel.nil R.sub R.tb, R, fun a ⟨_, z⟩ => (by cases z), fun _ z => z, fun a ⟨_, z⟩ => (by cases z)⟩
  | .d d :: r, e, e2, Fs, vs, ws, R, h, g => by
    obtain ⟨v, t, rfl, h1, h2⟩ := h
    obtain ⟨⟨ws', e'⟩, g1, g2⟩ := Option.map_eq_some_iff.mp (show (gather r e).map (fun x => (W.p d :: x.1, x.2)) = some (ws, e2) from g)
    cases g2
    obtain ⟨Fa, F2, Ra, R2, i1, i2, i3⟩ := gather_ok R h2 g1
    refine ⟨consF [] Fa, F2, Ra.cons (.pure h1), R2, fun a m => ?_, i2, fun a m => ?_⟩
    · rcases m.cons with z | z
      · cases z
      · exact i1 a z
    · rcases m.cons with z | z
      · cases z
      · exact i3 a z
  | .io i :: r, e, e2, Fs, vs, ws, R, h, g => by
    obtain ⟨v, t, rfl, h1, h2⟩ := h
    have g' : (match e[i]? with
      | some (some w) => (gather r (e.set i none)).map fun x => (w :: x.1, x.2)
      | _ => none) = some (ws, e2) := g
    split at g'
    · rename_i w hw
      obtain ⟨⟨ws', e'⟩, g1, g2⟩ := Option.map_eq_some_iff.mp g'
      cases g2
      obtain ⟨v', hv, o⟩ := R.own hw
      rw [h1] at hv; cases hv
      obtain ⟨Fa, F2, Ra, R2, i1, i2, i3⟩ := gather_ok R.drop h2 g1
      have oa : Own K mg I H Fa w v (Fs i) := ⟨o.ro, o.nd, o.out, fun a ha m => o.dj a ha (i1 a m)⟩
      refine ⟨consF (Fs i) Fa, F2, Ra.cons oa, R2, fun a m => ?_, fun a m => (i2 a m).nil, fun a m => ?_⟩
      · rcases m.cons with z | z
        · exact ⟨i, z⟩
        · exact (i1 a z).nil
      · rcases m.cons with z | z
        · exact fun q => o.dj a z (i2 a q)
        · exact i3 a z
    · cases g'
theorem Rel.tail {o : Option W} {v : Option V} {e : Env} {Fa : Fp} {τ : L2.St} (R : Rel K mg I (o :: e) Fa (v :: τ) H) : Rel K mg I e (fun j => Fa (j + 1)) τ H :=
  ⟨R.sub, by simpa using R.len, fun i w q => by simpa using R.at_ (i + 1) w (by simpa using q), fun i => R.nd (i + 1), fun i j a h1 h2 => by have := R.dj _ _ a h1 h2; omega, fun i a h => R.out (i + 1) a h, fun i a h => R.live (i + 1) a h, R.tb⟩
theorem scatter_ok : ∀ {as : List Arg} {e oe : Env} {Fs Fo : Fp} {vs : List V}, Rel K mg I e Fs σ H → ArgR K mg I σ as vs → Rel K mg I oe Fo (vs.map some) H → (∀ a, MF Fo a → ¬ MF Fs a) →
    ∃ F', Rel K mg I (scatter as oe e) F' σ H ∧ (∀ a, MF F' a → MF Fo a ∨ MF Fs a)
  | [], e, oe, Fs, Fo, vs, R, h, Ro, dj => ⟨Fs, R, fun a m => .inr m⟩
  | .d d :: r, e, oe, Fs, Fo, vs, R, h, Ro, dj => by
    obtain ⟨v, t, rfl, h1, h2⟩ := h
    cases oe with
    | nil => have := Ro.len; simp at this
    | cons o oe =>
      obtain ⟨F', R', m⟩ := scatter_ok R h2 Ro.tail fun a ⟨j, hj⟩ => dj a ⟨j + 1, hj⟩
      refine ⟨F', R', fun a ha => ?_⟩
      rcases m a ha with ⟨j, hj⟩ | z
      · exact .inl ⟨j + 1, hj⟩
      · exact .inr z
  | .io i :: r, e, oe, Fs, Fo, vs, R, h, Ro, dj => by
    obtain ⟨v, t, rfl, h1, h2⟩ := h
    cases oe with
    | nil => have := Ro.len; simp at this
    | cons o oe =>
      cases o with
      | none =>
        obtain ⟨F', R', m⟩ := scatter_ok R h2 Ro.tail fun a ⟨j, hj⟩ => dj a ⟨j + 1, hj⟩
        refine ⟨F', R', fun a ha => ?_⟩
        rcases m a ha with ⟨j, hj⟩ | z
        · exact .inl ⟨j + 1, hj⟩
        · exact .inr z
      | some w =>
        obtain ⟨v', hv, ro⟩ := Ro.at_ 0 w rfl
        have ev : v = v' := by simpa using hv
        subst ev
        have ow : Own K mg I H Fs w v (Fo 0) := ⟨ro, Ro.nd 0, Ro.out 0, fun a ha => dj a ⟨0, ha⟩⟩
        have R1 := R.put (i := i) ow
        have es : σ.set i (some v) = σ := by
          obtain ⟨hl, e⟩ := List.getElem?_eq_some_iff.mp h1
          exact List.ext_getElem? fun j => by
            by_cases z : i = j
            · subst z; rw [List.getElem?_set_self hl, h1]
            · rw [List.getElem?_set_ne z]
        rw [es] at R1
        obtain ⟨F', R', m⟩ := scatter_ok R1 h2 Ro.tail fun a ⟨j, hj⟩ q => by
          rcases q.put with z | z
          · have := Ro.dj _ _ a hj z; omega
          · exact dj a ⟨j + 1, hj⟩ z
        refine ⟨F', R', fun a ha => ?_⟩
        rcases m a ha with ⟨j, hj⟩ | z
        · exact .inl ⟨j + 1, hj⟩
        · rcases z.put with q | q
          · exact .inl ⟨0, q⟩
          · exact .inr q
end
def mCall (f : FSem) (ma : M (List Arg)) : M W := fun e => (ma e).bind fun x => (gather x.1 x.2).bind fun y => (f y.1).map fun z => (z.1, scatter x.1 z.2 y.2)
/-- how an argument list's meaning meets a promise -/
theorem call_step {K : PySem.W.Frag} {mg : Str → Option Value} {n : Nat} {f : FSem} {ma : M (List Arg)} {σ : L2.St} {H : Hp} {Q : VK} {Wx : WX} (hn : ∀ as e e', ma e = some (as, e') → as.length = n) (h : tO K mg Wx (mCall f ma) σ H Q) : tAr K mg ma σ H fun vs H1 => spF K mg n f vs H1 Q (fun cls d H' => Wx cls d σ H') := by
  obtain ⟨I, e, Fs, R, w, e', hm, k, kx⟩ := h
  obtain ⟨⟨as, e1⟩, h1, hm⟩ := Option.bind_eq_some_iff.mp hm
  obtain ⟨⟨ws, e2⟩, h2, hm⟩ := Option.bind_eq_some_iff.mp hm
  obtain ⟨⟨w', oe⟩, h3, hm⟩ := Option.map_eq_some_iff.mp hm
  cases hm
  refine ⟨I, e, Fs, R, as, e1, h1, fun vs I1 F1 H1 R1 x1 ha => ?_⟩
  obtain ⟨Fa, F2, Ra, R2, i1, i2, i3⟩ := gather_ok R1 ha h2
  have hl : ws.length = n := by
    rw [← hn as e e1 h1]
    have : ∀ {as : List Arg} {e e2 : Env} {ws : List W}, gather as e = some (ws, e2) → ws.length = as.length := by
      intro as
      induction as with
      | nil => intro e e2 ws g; cases g; rfl
      | cons a r ih =>
        intro e e2 ws g
        cases a with
        | d d =>
          obtain ⟨⟨ws', e'⟩, g1, g2⟩ := Option.map_eq_some_iff.mp (show (gather r e).map (fun x => (W.p d :: x.1, x.2)) = some (ws, e2) from g)
          cases g2
          rw [List.length_cons, List.length_cons, ih g1]
        | io i =>
          have g' : (match e[i]? with
            | some (some w) => (gather r (e.set i none)).map fun x => (w :: x.1, x.2)
            | _ => none) = some (ws, e2) := g
          split at g'
          · obtain ⟨⟨ws', e'⟩, g1, g2⟩ := Option.map_eq_some_iff.mp g'
            cases g2
            rw [List.length_cons, List.length_cons, ih g1]
          · cases g'
    exact this h2
  have dead : ∀ a, MF F2 a → ¬ MF Fa a := fun a m q => i3 a q m
  have fin : ∀ I' Fo H', Rel K mg I' oe Fo (vs.map some) H' → Ext Fa I1 H1 Fo I' H' → ∃ F', Rel K mg I' (scatter as oe e2) F' σ H' ∧ (∀ a, MF F' a → MF Fo a ∨ MF F2 a) ∧ Ext F1 I1 H1 F' I' H' := fun I' Fo H' Ro x => by
    have R2' := R2.frame x.g Ro.sub dead
    have djo : ∀ a, MF Fo a → ¬ MF F2 a := fun a m q => by
      rcases x.fp a m with z | z
      · exact i3 a z q
      · obtain ⟨j, hj⟩ := q
        exact R2.live j a hj z
    obtain ⟨F', R', m'⟩ := scatter_ok R2' (ha.mono x.g.ex) Ro djo
    refine ⟨F', R', m', ⟨⟨x.g.ex, fun a u hu m nt => x.g.fr a u hu (fun q => m (i1 a q)) nt, fun a q => ?_, x.g.tb, fun a ps hu m => x.g.tl a ps hu fun q => m (i1 a q)⟩, fun a q => ?_⟩⟩
    · rcases x.g.new a q with z | z | z
      · exact .inl z
      · exact .inr (.inl z)
      · exact .inr (.inr (i1 a z))
    · rcases m' a q with z | z
      · rcases x.fp a z with y | y
        · exact .inl (i1 a y)
        · exact .inr y
      · exact .inl (i2 a z)
  refine ⟨I1, ws, Fa, hl, Ra, w', oe, h3, fun v I' Fo H' F Ro x o hF => ?_, fun y hy cls d I' Fo H' Ro x xr => ?_⟩
  · obtain ⟨F', R', m', xx⟩ := fin I' Fo H' Ro x
    refine k v I' F' H' F R' (x1.trans xx) ⟨o.ro, o.nd, o.out, fun a ha q => ?_⟩ fun a ha => ?_
    · rcases m' a q with z | z
      · exact o.dj a ha z
      · rcases hF a ha with y | y
        · exact i3 a y z
        · obtain ⟨j, hj⟩ := z
          exact R2.live j a hj y
    · rcases hF a ha with y | y
      · rcases x1.fp a (i1 a y) with z | z
        · exact .inl z
        · exact .inr z
      · cases q : H a with
        | none => exact .inr rfl
        | some u =>
          by_cases m : MF Fs a
          · exact .inl m
          · rw [x1.g.back m y] at q; cases q
  · obtain ⟨F', R', m', xx⟩ := fin I' Fo H' Ro x
    exact kx y hy cls d I' F' H' R' (x1.trans xx) xr
end MV

namespace MV
open PySem L2
variable [TB]

/-! ### tests -/
def tT (K : PySem.W.Frag) (mg : Str → Option Value) (m : M Bool) : TT := fun σ H Q => ∃ I e Fs, Rel K mg I e Fs σ H ∧ ∃ b e', m e = some (b, e') ∧
  ∀ I' Fs' H', Rel K mg I' e' Fs' σ H' → Ext Fs I H Fs' I' H' → Q b H'
def ST (X : Cx) (a : Expr) (m : M Bool) : Prop := PT X a (tT X.K X.mg m)
theorem PT.imp {X : Cx} {a : Expr} {t t' : TT} (h : PT X a t) (i : ∀ σ H Q, t' σ H Q → t σ H Q) : PT X a t' := ⟨fun pins s σ H Q I hq => h.run pins s σ H Q I (i σ H Q hq)⟩
theorem PW.imp {X : Cx} {a : Expr} {t t' : TT} (h : PW X a t) (i : ∀ σ H Q, t' σ H Q → t σ H Q) : PW X a t' := ⟨fun wh pins s σ H Q I hq => h.run wh pins s σ H Q I (i σ H Q hq)⟩
def SW (X : Cx) (a : Expr) (m : M Bool) : Prop := PW X a (tT X.K X.mg m)
/-- a value's truth -/
def dTru : D → Option Bool
  | .none => some false
  | .bool b => some b
  | .int i => some (i != 0)
  | .str x => if x.length ≤ 1000000 then some ((x.length : Int) != 0) else none
  | .lst ds => some (!ds.isEmpty)
  | .fl ds => some (!ds.isEmpty)
  | .tup ds => some (!ds.isEmpty)
  | _ => none
def mTru (m : M D) : M Bool := fun e => (m e).bind fun x => (dTru x.1).map fun b => (b, x.2)
/-- a value that is a bool -/
def mBool (m : M D) : M Bool := fun e => (m e).bind fun x => match x.1 with
  | .bool b => some (b, x.2)
  | _ => none
def mAnd (a b : M Bool) : M Bool := fun e => (a e).bind fun x => if x.1 = true then b x.2 else some (false, x.2)
def mOr (a b : M Bool) : M Bool := fun e => (a e).bind fun x => if x.1 = true then some (true, x.2) else b x.2
def mNot (a : M Bool) : M Bool := fun e => (a e).map fun x => (!x.1, x.2)
def mB (m : M Bool) : M D := fun e => (m e).map fun x => (.bool x.1, x.2)
def mIf {α : Type} (c : M Bool) (a b : M α) : M α := fun e => (c e).bind fun x => if x.1 = true then a x.2 else b x.2
theorem RpL.isEmpty {K : PySem.W.Frag} {mg : Str → Option Value} {I : Hp} {ds : List D} {xs : List V} (h : RpL K mg I ds xs) : xs.isEmpty = ds.isEmpty := by
  have := h.length
  cases ds <;> cases xs <;> simp_all
theorem RpK.isEmpty {K : PySem.W.Frag} {mg : Str → Option Value} {I : Hp} {ds : List (Key × D)} {xs : List (Key × V)} (h : RpK K mg I ds xs) : xs.isEmpty = ds.isEmpty := by
  cases ds with
  | nil => simp only [RpK] at h; subst h; rfl
  | cons d r =>
    obtain ⟨k, d⟩ := d
    simp only [RpK] at h
    obtain ⟨x, t, rfl, _⟩ := h
    rfl
theorem tru_of {K : PySem.W.Frag} {mg : Str → Option Value} {I H : Hp} {d : D} {v : V} {b : Bool} (s : Ex I H) (h : Rp K mg I d v) (e : dTru d = some b) : TruV K v H b := by
  have hs : sizeLine = 16777216 := sizeLine_eq
  cases d with
  | none => simp only [Rp] at h; subst h; cases e; exact rfl
  | bool c => simp only [Rp] at h; subst h; cases e; exact rfl
  | int i => simp only [Rp] at h; subst h; cases e; exact rfl
  | str x =>
    simp only [Rp] at h; subst h
    simp only [dTru] at e
    split at e
    · cases e; exact ⟨by omega, rfl⟩
    · cases e
  | lst ds =>
    simp only [Rp] at h; obtain ⟨a, xs, rfl, h1, h2⟩ := h
    cases e
    exact .inl ⟨xs, .of (s _ _ h1), by rw [h2.isEmpty]⟩
  | fl ds =>
    simp only [Rp] at h; obtain ⟨a, xs, rfl, h1, h2⟩ := h
    cases e
    exact .inl ⟨xs, ex_l s h1, by rw [h2.isEmpty]⟩
  | tup ds =>
    simp only [Rp] at h; obtain ⟨a, xs, rfl, h1, h2⟩ := h
    cases e
    exact .inr (.inl ⟨xs, ex_t s h1, by rw [h2.isEmpty]⟩)
  | dict ds => cases e
  | ft ds => cases e
  | exc _ _ _ _ => cases e
  | inst c fs => cases e
section
variable {X : Cx} {a b c : Expr} {rest : List Expr} {ma mb mc : M D} {ta tb : M Bool} {pos : Pos}
theorem st_tru (h : SE X a ma) (he : ∀ whole, isTrue a X.env whole = (do let v ← whole; standAt a.pos; holding [v] (truthy v))) : ST X a (mTru ma) := by
  refine PT.imp (pt_truth h he) fun σ H Q ⟨I, e, Fs, R, b, e', hm, k⟩ => ?_
  obtain ⟨⟨d, e1⟩, h1, hm⟩ := Option.bind_eq_some_iff.mp hm
  obtain ⟨b', h2, hm⟩ := Option.map_eq_some_iff.mp hm
  cases hm
  exact ⟨I, e, Fs, R, d, e1, h1, fun v I' Fs' H' R' x r => ⟨b, tru_of R'.sub r h2, k I' Fs' H' R' x⟩⟩
theorem st_cmp {op : CmpOp} {r : R2} {f : D → D → Option D} (ho : OpR X (compareOp op) r) (hf : OpD X.K X.mg r f) (ha : SE X a ma) (hb : SE X b mb) (hm : behindInMarks op b = false) : ST X (.Compare a [op] [b] pos) (mBool (mOp f ma mb)) := by
  refine PT.imp (pt_cmpR ho ha hb hm) fun σ H Q ⟨I, e, Fs, R, bb, e', hm, k⟩ => ?_
  obtain ⟨⟨d, e3⟩, h0, hm⟩ := Option.bind_eq_some_iff.mp hm
  obtain ⟨⟨x, e1⟩, h1, h0⟩ := Option.bind_eq_some_iff.mp h0
  obtain ⟨⟨y, e2⟩, h2, h0⟩ := Option.bind_eq_some_iff.mp h0
  obtain ⟨z, h3, h0⟩ := Option.map_eq_some_iff.mp h0
  cases h0
  refine ⟨I, e, Fs, R, x, e1, h1, fun v I1 F1 H1 R1 x1 r1 => ⟨I1, e1, F1, R1, y, e2, h2, fun u I2 F2 H2 R2 x2 r2 => ?_⟩⟩
  refine hf I2 H2 x y _ v u _ R2.sub (r1.mono x2.g.ex _ _) r2 h3 fun v' I3 H3 g r3 => ?_
  obtain ⟨R3, x3⟩ := g.rel R2
  cases d with
  | bool b0 =>
    cases hm
    simp only [Rp] at r3
    exact ⟨_, r3, k I3 F2 H3 R3 ((x1.trans x2).trans x3)⟩
  | _ => cases hm
/-- a op1 b op2 c -/
def mChain (f g : D → D → Option D) (a b c : M D) : M D := fun e => (a e).bind fun x => (b x.2).bind fun y => (f x.1 y.1).bind fun z => match z with
  | .bool true => (c y.2).bind fun w => (g y.1 w.1).map fun r => (r, w.2)
  | .bool false => some (.bool false, y.2)
  | _ => none
theorem chain_run {K : PySem.W.Frag} {mg : Str → Option Value} {r r' : R2} {f g : D → D → Option D} (hf : OpD K mg r f) (hg : OpD K mg r' g) {σ : L2.St} {H : Hp} {Q : VK} (h : tE K mg (mChain f g ma mb mc) σ H Q) : tChain r r' (tE K mg ma) (tE K mg mb) (tE K mg mc) σ H Q := by
  obtain ⟨I, e, Fs, R, d, e', hm, k⟩ := h
  obtain ⟨⟨x, e1⟩, h1, hm⟩ := Option.bind_eq_some_iff.mp hm
  obtain ⟨⟨y, e2⟩, h2, hm⟩ := Option.bind_eq_some_iff.mp hm
  obtain ⟨z, h3, hm⟩ := Option.bind_eq_some_iff.mp hm
  refine ⟨I, e, Fs, R, x, e1, h1, fun v I1 F1 H1 R1 x1 r1 => ⟨I1, e1, F1, R1, y, e2, h2, fun u I2 F2 H2 R2 x2 r2 => ?_⟩⟩
  refine hf I2 H2 x y _ v u _ R2.sub (r1.mono x2.g.ex _ _) r2 h3 fun v' I3 H3 g3 r3 => ?_
  obtain ⟨R3, x3⟩ := g3.rel R2
  have g0 := g3.ex R2.sub
  cases z with
  | bool b =>
    simp only [Rp] at r3
    refine ⟨b, r3, ?_⟩
    cases b with
    | true =>
      obtain ⟨⟨w, e4⟩, h4, hm⟩ := Option.bind_eq_some_iff.mp (show ((mc e2).bind fun w => (g y w.1).map fun r => (r, w.2)) = some (d, e') from hm)
      obtain ⟨q, h5, hm⟩ := Option.map_eq_some_iff.mp hm
      cases hm
      rw [if_pos rfl]
      refine ⟨I3, e2, F2, R3, w, e4, h4, fun t I4 F4 H4 R4 x4 r4 => ?_⟩
      refine hg I4 H4 y w _ u t _ R4.sub ((r2.mono g0.1 _ _).mono x4.g.ex _ _) r4 h5 fun v5 I5 H5 g5 r5 => ?_
      obtain ⟨R5, x5⟩ := g5.rel R4
      exact k v5 I5 F4 H5 R5 ((((x1.trans x2).trans x3).trans x4).trans x5) r5
    | false =>
      have hm : some (D.bool false, e2) = some (d, e') := hm
      cases hm
      rw [if_neg Bool.false_ne_true]
      exact k _ I3 F2 H3 R3 ((x1.trans x2).trans x3) (by simp only [Rp])
  | _ => cases hm
theorem se_chain {op op' : CmpOp} {r r' : R2} {f g : D → D → Option D} (ho : OpR X (compareOp op) r) (hf : OpD X.K X.mg r f) (ho' : OpR X (compareOp op') r') (hg : OpD X.K X.mg r' g) (ha : SE X a ma) (hb : SE X b mb) (hc : SE X c mc)
    (hm : lastMarks [op, op'] [b, c] = false := by with_unfolding_all rfl) : SE X (.Compare a [op, op'] [b, c] pos) (mChain f g ma mb mc) := PE.imp (pe_chain ho ho' ha hb hc hm) fun σ H Q h => chain_run hf hg h
theorem st_chain {op op' : CmpOp} {r r' : R2} {f g : D → D → Option D} (ho : OpR X (compareOp op) r) (hf : OpD X.K X.mg r f) (ho' : OpR X (compareOp op') r') (hg : OpD X.K X.mg r' g) (ha : SE X a ma) (hb : SE X b mb) (hc : SE X c mc)
    (hm : lastMarks [op, op'] [b, c] = false := by with_unfolding_all rfl) : ST X (.Compare a [op, op'] [b, c] pos) (mBool (mChain f g ma mb mc)) := by
  refine PT.imp (pt_chain ho ho' ha hb hc hm) fun σ H Q ⟨I, e, Fs, R, bb, e', hm, k⟩ => ?_
  obtain ⟨⟨d, e3⟩, h0, hm⟩ := Option.bind_eq_some_iff.mp hm
  refine chain_run hf hg ⟨I, e, Fs, R, d, e3, h0, fun v I' Fs' H' R' x r => ?_⟩
  cases d with
  | bool b0 =>
    cases hm
    simp only [Rp] at r
    exact ⟨_, r, k I' Fs' H' R' x⟩
  | _ => cases hm
theorem st_not (h : ST X a ta) : ST X (.UnaryOp .Not a pos) (mNot ta) := by
  refine PT.imp (pt_not h) fun σ H Q ⟨I, e, Fs, R, b, e', hm, k⟩ => ?_
  obtain ⟨⟨b', e1⟩, h1, hm⟩ := Option.map_eq_some_iff.mp hm
  cases hm
  exact ⟨I, e, Fs, R, b', e1, h1, k⟩
theorem and_run {K : PySem.W.Frag} {mg : Str → Option Value} {σ : L2.St} {H : Hp} {Q : Bool → Hp → Prop} (h : tT K mg (mAnd ta tb) σ H Q) : tAnd (tT K mg ta) (tT K mg tb) σ H Q := by
  obtain ⟨I, e, Fs, R, b, e', hm, k⟩ := h
  obtain ⟨⟨b1, e1⟩, h1, hm⟩ := Option.bind_eq_some_iff.mp hm
  refine ⟨I, e, Fs, R, b1, e1, h1, fun I1 F1 H1 R1 x1 => ?_⟩
  cases b1 with
  | true =>
    rw [if_pos rfl]
    have hm : tb e1 = some (b, e') := hm
    exact ⟨I1, e1, F1, R1, b, e', hm, fun I2 F2 H2 R2 x2 => k I2 F2 H2 R2 (x1.trans x2)⟩
  | false =>
    rw [if_neg Bool.false_ne_true]
    have hm : some (false, e1) = some (b, e') := hm
    cases hm
    exact k I1 F1 H1 R1 x1
theorem or_run {K : PySem.W.Frag} {mg : Str → Option Value} {σ : L2.St} {H : Hp} {Q : Bool → Hp → Prop} (h : tT K mg (mOr ta tb) σ H Q) : tOr (tT K mg ta) (tT K mg tb) σ H Q := by
  obtain ⟨I, e, Fs, R, b, e', hm, k⟩ := h
  obtain ⟨⟨b1, e1⟩, h1, hm⟩ := Option.bind_eq_some_iff.mp hm
  refine ⟨I, e, Fs, R, b1, e1, h1, fun I1 F1 H1 R1 x1 => ?_⟩
  cases b1 with
  | false =>
    rw [if_neg Bool.false_ne_true]
    have hm : tb e1 = some (b, e') := hm
    exact ⟨I1, e1, F1, R1, b, e', hm, fun I2 F2 H2 R2 x2 => k I2 F2 H2 R2 (x1.trans x2)⟩
  | true =>
    rw [if_pos rfl]
    have hm : some (true, e1) = some (b, e') := hm
    cases hm
    exact k I1 F1 H1 R1 x1
theorem sw_and1 (h : ST X a ta) : SW X (.BoolOp .And [a] pos) ta := pw_and1 h
theorem sw_or1 (h : ST X a ta) : SW X (.BoolOp .Or [a] pos) ta := pw_or1 h
theorem sw_and (h : ST X a ta) (hb : SW X (.BoolOp .And (b :: rest) pos) tb) : SW X (.BoolOp .And (a :: b :: rest) pos) (mAnd ta tb) := PW.imp (pw_and h hb) fun σ H Q z => and_run z
theorem sw_or (h : ST X a ta) (hb : SW X (.BoolOp .Or (b :: rest) pos) tb) : SW X (.BoolOp .Or (a :: b :: rest) pos) (mOr ta tb) := PW.imp (pw_or h hb) fun σ H Q z => or_run z
theorem SW.st (h : SW X a ta) : ST X a ta := PW.pt h
/-- and, or, not as values: bools -/
theorem bool_run {K : PySem.W.Frag} {mg : Str → Option Value} {m : M D} {σ : L2.St} {H : Hp} (P : Bool → Hp → Prop) (h : tT K mg (mBool m) σ H P) : tE K mg m σ H fun x H1 => ∃ c, x = .bl c ∧ P c H1 := by
  obtain ⟨I, e, Fs, R, b, e', hm, k⟩ := h
  obtain ⟨⟨d, e1⟩, h1, hm⟩ := Option.bind_eq_some_iff.mp hm
  refine ⟨I, e, Fs, R, d, e1, h1, fun v I' Fs' H' R' x r => ?_⟩
  cases d with
  | bool b0 =>
    cases hm
    simp only [Rp] at r
    exact ⟨_, r, k I' Fs' H' R' x⟩
  | _ => cases hm
def mAndV (a b : M D) : M D := fun e => (mBool a e).bind fun x => if x.1 = true then b x.2 else some (.bool false, x.2)
def mOrV (a b : M D) : M D := fun e => (mBool a e).bind fun x => if x.1 = true then some (.bool true, x.2) else b x.2
theorem se_one {op : BoolOp} (h : SE X a ma) : SE X (.BoolOp op [a] pos) ma := pe_one h
theorem se_and (ha : SE X a ma) (hb : SE X (.BoolOp .And (b :: rest) pos) mb) : SE X (.BoolOp .And (a :: b :: rest) pos) (mAndV ma mb) := by
  refine PE.imp (pe_and ha hb) fun σ H Q ⟨I, e, Fs, R, d, e', hm, k⟩ => ?_
  obtain ⟨⟨b1, e1⟩, h1, hm⟩ := Option.bind_eq_some_iff.mp hm
  refine bool_run (fun c H1 => if c = true then tE X.K X.mg mb σ H1 Q else Q (.bl false) H1) ⟨I, e, Fs, R, b1, e1, h1, fun I1 F1 H1 R1 x1 => ?_⟩
  cases b1 with
  | true =>
    rw [if_pos rfl]
    have hm : mb e1 = some (d, e') := hm
    exact ⟨I1, e1, F1, R1, d, e', hm, fun v I2 F2 H2 R2 x2 r2 => k v I2 F2 H2 R2 (x1.trans x2) r2⟩
  | false =>
    rw [if_neg Bool.false_ne_true]
    have hm : some (D.bool false, e1) = some (d, e') := hm
    cases hm
    exact k _ I1 F1 H1 R1 x1 (by simp only [Rp])
theorem se_or (ha : SE X a ma) (hb : SE X (.BoolOp .Or (b :: rest) pos) mb) : SE X (.BoolOp .Or (a :: b :: rest) pos) (mOrV ma mb) := by
  refine PE.imp (pe_or ha hb) fun σ H Q ⟨I, e, Fs, R, d, e', hm, k⟩ => ?_
  obtain ⟨⟨b1, e1⟩, h1, hm⟩ := Option.bind_eq_some_iff.mp hm
  refine bool_run (fun c H1 => if c = true then Q (.bl true) H1 else tE X.K X.mg mb σ H1 Q) ⟨I, e, Fs, R, b1, e1, h1, fun I1 F1 H1 R1 x1 => ?_⟩
  cases b1 with
  | false =>
    rw [if_neg Bool.false_ne_true]
    have hm : mb e1 = some (d, e') := hm
    exact ⟨I1, e1, F1, R1, d, e', hm, fun v I2 F2 H2 R2 x2 r2 => k v I2 F2 H2 R2 (x1.trans x2) r2⟩
  | true =>
    rw [if_pos rfl]
    have hm : some (D.bool true, e1) = some (d, e') := hm
    cases hm
    exact k _ I1 F1 H1 R1 x1 (by simp only [Rp])
def mNotV (a : M D) : M D := fun e => (mBool a e).map fun x => (.bool !x.1, x.2)
theorem se_not (ha : SE X a ma) : SE X (.UnaryOp .Not a pos) (mNotV ma) := by
  refine PE.imp (pe_not ha) fun σ H Q ⟨I, e, Fs, R, d, e', hm, k⟩ => ?_
  obtain ⟨⟨b1, e1⟩, h1, hm⟩ := Option.map_eq_some_iff.mp hm
  cases hm
  exact bool_run (fun c H1 => Q (.bl (!c)) H1) ⟨I, e, Fs, R, b1, e1, h1, fun I1 F1 H1 R1 x1 => k _ I1 F1 H1 R1 x1 (by simp only [Rp])⟩
theorem se_if (hc : ST X c ta) (ha : SE X a ma) (hb : SE X b mb) : SE X (.IfExp c a b pos) (mIf ta ma mb) := by
  refine PE.imp (pe_ifExp hc ha hb) fun σ H Q ⟨I, e, Fs, R, d, e', hm, k⟩ => ?_
  obtain ⟨⟨b1, e1⟩, h1, hm⟩ := Option.bind_eq_some_iff.mp hm
  refine ⟨I, e, Fs, R, b1, e1, h1, fun I1 F1 H1 R1 x1 => ?_⟩
  cases b1 with
  | true =>
    rw [if_pos rfl]
    have hm : ma e1 = some (d, e') := hm
    exact ⟨I1, e1, F1, R1, d, e', hm, fun v I2 F2 H2 R2 x2 r2 => k v I2 F2 H2 R2 (x1.trans x2) r2⟩
  | false =>
    rw [if_neg Bool.false_ne_true]
    have hm : mb e1 = some (d, e') := hm
    exact ⟨I1, e1, F1, R1, d, e', hm, fun v I2 F2 H2 R2 x2 r2 => k v I2 F2 H2 R2 (x1.trans x2) r2⟩
end

/-! ### statements -/
inductive SR where
  | nx (e : Env) | rt (w : W) (e : Env) | bk (e : Env) | ct (e : Env) | ex (x : D) (e : Env)
abbrev S := Env → Option SR
/-- the slots outside A stay -/
def Agr (A : Nat → Bool) (σ σ' : L2.St) : Prop := ∀ i, A i = false → σ'[i]? = σ[i]?
theorem Agr.refl {A : Nat → Bool} {σ : L2.St} : Agr A σ σ := fun _ _ => rfl
theorem Agr.trans {A : Nat → Bool} {σ σ1 σ2 : L2.St} (a : Agr A σ σ1) (b : Agr A σ1 σ2) : Agr A σ σ2 := fun i h => (b i h).trans (a i h)
theorem Agr.set {A : Nat → Bool} {σ σ1 : L2.St} {i : Nat} {v : Option V} (a : Agr A σ σ1) (h : A i = true) : Agr A σ (σ1.set i v) := fun j hj => by
  rw [List.getElem?_set_ne (fun z => by subst z; rw [h] at hj; cases hj)]
  exact a j hj
def endS (K : PySem.W.Frag) (mg : Str → Option Value) (A : Nat → Bool) (Wx : WX) (σ : L2.St) (Fs : Fp) (I H : Hp) (Dd : Ends) : SR → Prop
  | .nx e' => ∀ σ' I' Fs' H', Rel K mg I' e' Fs' σ' H' → Ext Fs I H Fs' I' H' → Agr A σ σ' → Dd.nx σ' H'
  | .rt w e' => ∀ v σ' I' Fs' H' F, Rel K mg I' e' Fs' σ' H' → Ext Fs I H Fs' I' H' → Agr A σ σ' → Own K mg I' H' Fs' w v F → (∀ a ∈ F, MF Fs a ∨ H a = none) → Dd.rt v H'
  | .bk e' => ∀ σ' I' Fs' H', Rel K mg I' e' Fs' σ' H' → Ext Fs I H Fs' I' H' → Agr A σ σ' → Dd.bk σ' H'
  | .ct e' => ∀ σ' I' Fs' H', Rel K mg I' e' Fs' σ' H' → Ext Fs I H Fs' I' H' → Agr A σ σ' → Dd.ct σ' H'
  | .ex x e' => ∀ cls d σ' I' Fs' H', Rel K mg I' e' Fs' σ' H' → Ext Fs I H Fs' I' H' → Agr A σ σ' → XR K mg I' x cls d → Wx cls d σ' H'
def tS (K : PySem.W.Frag) (mg : Str → Option Value) (A : Nat → Bool) (Wx : WX) (m : S) : TS := fun Dd σ H => ∃ I e Fs, Rel K mg I e Fs σ H ∧ ∃ r, m e = some r ∧ endS K mg A Wx σ Fs I H Dd r
def SS (X : Cx) (A : Nat → Bool) (Wx : WX) (st : Stmt) (m : S) : Prop := PS X st (tS X.K X.mg A Wx m)
def SB (X : Cx) (A : Nat → Bool) (Wx : WX) (st : List Stmt) (m : S) : Prop := PSs X st (tS X.K X.mg A Wx m)
theorem PS.imp {X : Cx} {a : Stmt} {t t' : TS} (h : PS X a t) (i : ∀ D σ H, t' D σ H → t D σ H) : PS X a t' := ⟨fun pins s σ H D I hq => h.run pins s σ H D I (i D σ H hq)⟩
theorem PSs.imp {X : Cx} {a : List Stmt} {t t' : TS} (h : PSs X a t) (i : ∀ D σ H, t' D σ H → t D σ H) : PSs X a t' := ⟨fun pins s σ H D I hq => h.run pins s σ H D I (i D σ H hq)⟩
/-- from a state behind the start -/
theorem endS.from {K : PySem.W.Frag} {mg : Str → Option Value} {A : Nat → Bool} {Wx : WX} {σ σ1 : L2.St} {Fs F1 : Fp} {I H I1 H1 : Hp} {Dd : Ends} {r : SR} (x : Ext Fs I H F1 I1 H1) (a : Agr A σ σ1) (h : endS K mg A Wx σ Fs I H Dd r) : endS K mg A Wx σ1 F1 I1 H1 Dd r := by
  cases r with
  | nx e => exact fun σ' I' Fs' H' R' x' a' => h σ' I' Fs' H' R' (x.trans x') (a.trans a')
  | bk e => exact fun σ' I' Fs' H' R' x' a' => h σ' I' Fs' H' R' (x.trans x') (a.trans a')
  | ct e => exact fun σ' I' Fs' H' R' x' a' => h σ' I' Fs' H' R' (x.trans x') (a.trans a')
  | ex y e => exact fun cls d σ' I' Fs' H' R' x' a' xr => h cls d σ' I' Fs' H' R' (x.trans x') (a.trans a') xr
  | rt w e =>
    refine fun v σ' I' Fs' H' F R' x' a' o hF => h v σ' I' Fs' H' F R' (x.trans x') (a.trans a') o fun b hb => ?_
    rcases hF b hb with y | y
    · exact x.fp b y
    · cases q : H b with
      | none => exact .inr rfl
      | some u =>
        by_cases m : MF Fs b
        · exact .inl m
        · rw [x.g.back m y] at q; cases q
def sNext : S := fun e => some (.nx e)
def sSeq (a b : S) : S := fun e => (a e).bind fun r => match r with
  | .nx e' => b e'
  | r => some r
/-- a value, or what is raised -/
def orX (w : W) (e : Env) (r : SR) : SR := match w with
  | .ex x => .ex x e
  | _ => r
def sRet (m : M W) : S := fun e => (m e).map fun x => orX x.1 x.2 (.rt x.1 x.2)
def sRetN : S := fun e => some (.rt (.p .none) e)
def sSet (i : Nat) (m : M W) : S := fun e => (m e).map fun x => orX x.1 x.2 (.nx (x.2.set i (some x.1)))
def sIf (c : M Bool) (a b : S) : S := fun e => (c e).bind fun x => if x.1 = true then a x.2 else b x.2
def sBrk : S := fun e => some (.bk e)
def sCont : S := fun e => some (.ct e)
def sNever : S := fun _ => none
def sDrop (m : M W) : S := fun e => (m e).map fun x => orX x.1 x.2 (.nx x.2)
section
variable {X : Cx} {A : Nat → Bool} {Wx : WX} {st : Stmt} {rest : List Stmt} {a : Expr} {mw : M W} {s1 s2 : S} {pos : Pos}
theorem sb_nil : SB X A Wx [] sNext := PSs.imp pss_nil fun Dd σ H ⟨I, e, Fs, R, r, hm, k⟩ => by
  cases hm
  exact k σ I Fs H R Ext.refl Agr.refl
theorem sb_cons (h1 : SS X A Wx st s1) (h2 : SB X A Wx rest s2) : SB X A Wx (st :: rest) (sSeq s1 s2) := by
  refine PSs.imp (pss_cons h1 h2) fun Dd σ H ⟨I, e, Fs, R, r, hm, k⟩ => ?_
  obtain ⟨r1, h1, hm⟩ := Option.bind_eq_some_iff.mp hm
  refine ⟨I, e, Fs, R, r1, h1, ?_⟩
  cases r1 with
  | nx e1 => exact fun σ' I' Fs' H' R' x a => ⟨I', e1, Fs', R', r, hm, k.from x a⟩
  | rt w e1 => cases hm; exact k
  | bk e1 => cases hm; exact k
  | ct e1 => cases hm; exact k
  | ex x1 e1 => cases hm; exact k
theorem sb_one (h : SS X A Wx st s1) : SB X A Wx [st] s1 := pss_one h
theorem sb_never : SB X A Wx rest sNever := PSs.imp pss_never fun Dd σ H ⟨I, e, Fs, R, r, hm, k⟩ => by cases hm
theorem ss_never : SS X A Wx st sNever := PS.imp ps_never fun Dd σ H ⟨I, e, Fs, R, r, hm, k⟩ => by cases hm
theorem ss_pass : SS X A Wx (.Pass pos) sNext := PS.imp ps_pass fun Dd σ H ⟨I, e, Fs, R, r, hm, k⟩ => by
  cases hm
  exact k σ I Fs H R Ext.refl Agr.refl
theorem ss_brk : SS X A Wx (.Break pos) sBrk := PS.imp ps_break fun Dd σ H ⟨I, e, Fs, R, r, hm, k⟩ => by
  cases hm
  exact k σ I Fs H R Ext.refl Agr.refl
theorem ss_cont : SS X A Wx (.Continue pos) sCont := PS.imp ps_continue fun Dd σ H ⟨I, e, Fs, R, r, hm, k⟩ => by
  cases hm
  exact k σ I Fs H R Ext.refl Agr.refl
theorem orX_run {K : PySem.W.Frag} {mg : Str → Option Value} {σ : L2.St} {Fs : Fp} {I H : Hp} {Dd : Ends} {w : W} {e1 : Env} {r : SR} {Q : VK} (h : endS K mg A Wx σ Fs I H Dd (orX w e1 r))
    (k : endS K mg A Wx σ Fs I H Dd r → ∀ v I' Fs' H' F, Rel K mg I' e1 Fs' σ H' → Ext Fs I H Fs' I' H' → Own K mg I' H' Fs' w v F → (∀ a ∈ F, MF Fs a ∨ H a = none) → Q v H') :
    (∀ v I' Fs' H' F, Rel K mg I' e1 Fs' σ H' → Ext Fs I H Fs' I' H' → Own K mg I' H' Fs' w v F → (∀ a ∈ F, MF Fs a ∨ H a = none) → Q v H') ∧
    ∀ x, w = .ex x → ∀ cls d I' Fs' H', Rel K mg I' e1 Fs' σ H' → Ext Fs I H Fs' I' H' → XR K mg I' x cls d → Wx cls d σ H' := by
  cases w with
  | ex x =>
    refine ⟨fun v I' Fs' H' F _ _ o _ => ?_, fun y hy cls d I' Fs' H' R x' xr => ?_⟩
    · have q := o.ro
      simp only [Ro] at q
    · cases hy
      exact h cls d σ I' Fs' H' R x' Agr.refl xr
  | _ => exact ⟨k h, fun y hy => by cases hy⟩
theorem ss_ret (h : SO X Wx a mw) : SS X A Wx (.Return (some a) pos) (sRet mw) := by
  refine PS.imp (ps_ret h) fun Dd σ H ⟨I, e, Fs, R, r, hm, k⟩ => ?_
  obtain ⟨⟨w, e1⟩, h1, hm⟩ := Option.map_eq_some_iff.mp hm
  cases hm
  exact ⟨I, e, Fs, R, w, e1, h1, orX_run k fun k v I' Fs' H' F R' x o hF => k v σ I' Fs' H' F R' x Agr.refl o hF⟩
theorem ss_retN : SS X A Wx (.Return none pos) sRetN := by
  refine PS.imp ps_retN fun Dd σ H ⟨I, e, Fs, R, r, hm, k⟩ => ?_
  cases hm
  exact k .non σ I Fs H [] R Ext.refl Agr.refl (.pure (by simp only [Rp])) fun _ z => by cases z
theorem ss_if {c : Expr} {as bs : List Stmt} {tc : M Bool} (hc : ST X c tc) (ha : SB X A Wx as s1) (hb : SB X A Wx bs s2) : SS X A Wx (.If c as bs pos) (sIf tc s1 s2) := by
  refine PS.imp (ps_if hc ha hb) fun Dd σ H ⟨I, e, Fs, R, r, hm, k⟩ => ?_
  obtain ⟨⟨b1, e1⟩, h1, hm⟩ := Option.bind_eq_some_iff.mp hm
  refine ⟨I, e, Fs, R, b1, e1, h1, fun I1 F1 H1 R1 x1 => ?_⟩
  cases b1 with
  | true =>
    rw [if_pos rfl]
    have hm : s1 e1 = some r := hm
    exact ⟨I1, e1, F1, R1, r, hm, k.from x1 Agr.refl⟩
  | false =>
    rw [if_neg Bool.false_ne_true]
    have hm : s2 e1 = some r := hm
    exact ⟨I1, e1, F1, R1, r, hm, k.from x1 Agr.refl⟩
theorem ss_drop (h : SO X Wx a mw) (hs : swapsWith a none pos.line X.env = pure false := by rfl) : SS X A Wx (.Expr a pos) (sDrop mw) := by
  refine PS.imp (ps_expr h hs) fun Dd σ H ⟨I, e, Fs, R, r, hm, k⟩ => ?_
  obtain ⟨⟨w, e1⟩, h1, hm⟩ := Option.map_eq_some_iff.mp hm
  cases hm
  exact ⟨I, e, Fs, R, w, e1, h1, orX_run k fun k v I' Fs' H' F R' x o hF => k σ I' Fs' H' R' x Agr.refl⟩
theorem set_run {K : PySem.W.Frag} {mg : Str → Option Value} {Dd : Ends} {σ : L2.St} {H : Hp} {i : Nat} (hA : A i = true) (h : tS K mg A Wx (sSet i mw) Dd σ H) : tAsg (tO K mg Wx mw) (gName i) Dd σ H := by
  obtain ⟨I, e, Fs, R, r, hm, k⟩ := h
  obtain ⟨⟨w, e1⟩, h1, hm⟩ := Option.map_eq_some_iff.mp hm
  cases hm
  exact ⟨I, e, Fs, R, w, e1, h1, orX_run k fun k v I' Fs' H' F R' x o hF => k _ I' _ H' (R'.put o) (x.put hF) (Agr.refl.set hA)⟩
theorem ss_set {i : Nat} {x : Str} {pos' : Pos} (hA : A i = true) (hN : X.N.Nodup) (hi : X.N[i]? = some x) (hx : Loc X.env.scope x) (he : SO X Wx a mw) (hs : swapsWith a (some (.Name x pos')) pos.line X.env = pure false := by rfl) (hf : X.fn x = true ∨ X.env.scope.names.lookup x = some .local := by first | exact .inl rfl | exact .inr rfl | assumption) :
    SS X A Wx (.Assign [.Name x pos'] a pos) (sSet i mw) := PS.imp (ps_set hN hi hx he hs hf) fun Dd σ H h => set_run hA h
end
end MV

namespace MV
open PySem L2
variable [TB]

/-! ### targets -/
abbrev Tg := D → Env → Option Env
def tG (K : PySem.W.Frag) (mg : Str → Option Value) (A : Nat → Bool) (t : Tg) : TG := fun v σ H Q => ∃ I e Fs d, Rel K mg I e Fs σ H ∧ Rp K mg I d v ∧ ∃ e', t d e = some e' ∧
  ∀ σ' Fs', Rel K mg I e' Fs' σ' H → (∀ a, MF Fs' a → MF Fs a) → Agr A σ σ' → σ'.length = σ.length → Q σ' H
def SG (X : Cx) (A : Nat → Bool) (tg : Expr) (t : Tg) : Prop := PG X tg (tG X.K X.mg A t)
theorem PG.imp {X : Cx} {a : Expr} {t t' : TG} (h : PG X a t) (i : ∀ v σ H Q, t' v σ H Q → t v σ H Q) : PG X a t' := ⟨fun pins s σ H v u Q I r hq => h.run pins s σ H v u Q I r (i v σ H Q hq)⟩
theorem PGs.imp {X : Cx} {a : List Expr} {t t' : TGs} (h : PGs X a t) (i : ∀ v σ H Q, t' v σ H Q → t v σ H Q) : PGs X a t' := ⟨fun pins s σ H v u Q I r hq => h.run pins s σ H v u Q I r (i v σ H Q hq)⟩
def gN (i : Nat) : Tg := fun d e => some (e.set i (some (.p d)))
abbrev Tgs := List D → Env → Option Env
def tGs (K : PySem.W.Frag) (mg : Str → Option Value) (A : Nat → Bool) (t : Tgs) : TGs := fun vs σ H Q => ∃ I e Fs ds, Rel K mg I e Fs σ H ∧ RpL K mg I ds vs ∧ ∃ e', t ds e = some e' ∧
  ∀ σ' Fs', Rel K mg I e' Fs' σ' H → (∀ a, MF Fs' a → MF Fs a) → Agr A σ σ' → σ'.length = σ.length → Q σ' H
def SGs (X : Cx) (A : Nat → Bool) (tg : List Expr) (t : Tgs) : Prop := PGs X tg (tGs X.K X.mg A t)
def gsNil : Tgs := fun ds e => match ds with
  | [] => some e
  | _ => none
def gsCons (t : Tg) (r : Tgs) : Tgs := fun ds e => match ds with
  | d :: ds => (t d e).bind (r ds)
  | [] => none
def gT (n : Nat) (r : Tgs) : Tg := fun d e => match d with
  | .tup ds => if ds.length = n then r ds e else none
  | _ => none
section
variable {X : Cx} {A : Nat → Bool} {Wx : WX} {pos : Pos}
theorem Rel.putD {K : PySem.W.Frag} {mg : Str → Option Value} {I H : Hp} {e : Env} {Fs : Fp} {σ : L2.St} {i : Nat} {d : D} {v : V} (R : Rel K mg I e Fs σ H) (h : Rp K mg I d v) : Rel K mg I (e.set i (some (.p d))) (putF Fs i []) (σ.set i (some v)) H := R.put (.pure h)
theorem sg_name {i : Nat} {x : Str} (hA : A i = true) (hN : X.N.Nodup) (hi : X.N[i]? = some x) (hx : Loc X.env.scope x) (hf : X.fn x = true ∨ X.env.scope.names.lookup x = some .local := by first | exact .inl rfl | exact .inr rfl | assumption) : SG X A (.Name x pos) (gN i) :=
  PG.imp (pg_name hN hi hx hf) fun v σ H Q ⟨I, e, Fs, d, R, r, e', hm, k⟩ => by
    cases hm
    exact k _ _ (R.putD r) (fun a m => m.nil) (Agr.refl.set hA) (by simp)
theorem sgs_nil : SGs X A [] gsNil := PGs.imp pgs_nil fun vs σ H Q ⟨I, e, Fs, ds, R, r, e', hm, k⟩ => by
  cases ds with
  | nil =>
    simp only [RpL] at r
    cases hm
    exact ⟨r, k σ Fs R (fun _ m => m) Agr.refl rfl⟩
  | cons d ds => cases hm
theorem sgs_cons {a : Expr} {es : List Expr} {t : Tg} {u : Tgs} (h1 : SG X A a t) (h2 : SGs X A es u)
    (hs : (assignEach (a :: es) X.env).map (·.2) = assign a X.env :: (assignEach es X.env).map (·.2) := by rfl) : SGs X A (a :: es) (gsCons t u) := PGs.imp (pgs_cons h1 h2 hs) fun vs σ H Q ⟨I, e, Fs, ds, R, r, e', hm, k⟩ => by
  cases ds with
  | nil => cases hm
  | cons d ds =>
    simp only [RpL] at r
    obtain ⟨x, rr, rfl, r1, r2⟩ := r
    obtain ⟨e1, h1, hm⟩ := Option.bind_eq_some_iff.mp (show (t d e).bind (u ds) = some e' from hm)
    exact ⟨x, rr, rfl, I, e, Fs, d, R, r1, e1, h1, fun σ1 F1 R1 m1 a1 l1 => ⟨I, e1, F1, ds, R1, r2, e', hm, fun σ2 F2 R2 m2 a2 l2 => k σ2 F2 R2 (fun a m => m1 a (m2 a m)) (a1.trans a2) (l2.trans l1)⟩⟩
theorem sg_tup {es : List Expr} {k : Nat} {t : Tgs} {n : Nat} (hc : X.calm = true) (h : SGs X A es t)
    (hn : (assignEach es X.env).length = n := by rfl) (hst : (assignEach es X.env).findIdx? (·.1) = none := by rfl) : SG X A (.Tuple es k pos) (gT n t) := PG.imp (pg_tup hc h hn hst) fun v σ H Q ⟨I, e, Fs, d, R, r, e', hm, kk⟩ => by
  cases d with
  | tup ds =>
    have hm : (if ds.length = n then t ds e else none) = some e' := hm
    split at hm
    · rename_i hl
      simp only [Rp] at r
      obtain ⟨a, xs, rfl, h1, h2⟩ := r
      exact ⟨a, xs, rfl, ex_t R.sub h1, by rw [← h2.length]; exact hl, I, e, Fs, ds, R, h2, e', hm, kk⟩
    · cases hm
  | _ => cases hm
/-- target = value -/
def sAsg (t : Tg) (m : M D) : S := fun e => (m e).bind fun x => (t x.1 x.2).map .nx
theorem ss_asg {tg a : Expr} {m : M D} {t : Tg} (he : SE X a m) (hg : SG X A tg t) (hs : swapsWithSole [tg] a pos.line X.env = pure false := by rfl) (hw : swappedStores [tg] a X.env = pure none := by rfl)
    (h1 : (assignEach [tg] X.env).map (·.2) = [assign tg X.env] := by rfl) : SS X A Wx (.Assign [tg] a pos) (sAsg t m) := PS.imp (ps_asg he hg hs hw h1) fun Dd σ H ⟨I, e, Fs, R, r, hm, k⟩ => by
  obtain ⟨⟨d, e1⟩, h1, hm⟩ := Option.bind_eq_some_iff.mp hm
  obtain ⟨e2, h2, hm⟩ := Option.map_eq_some_iff.mp hm
  cases hm
  exact ⟨I, e, Fs, R, d, e1, h1, fun v I1 F1 H1 R1 x1 r1 => ⟨I1, e1, F1, d, R1, r1, e2, h2, fun σ' F2 R2 m a _ => k σ' I1 F2 H1 R2 ⟨x1.g, fun b q => x1.fp b (m b q)⟩ a⟩⟩
end

/-! ### what is walked -/
def ItR (K : PySem.W.Frag) (mg : Str → Option Value) (I : Hp) (J : It) (ds : List D) : Prop := ∀ (i : Nat) (I1 H1 : Hp), Ex I I1 → Ex I1 H1 →
  (∀ d, ds[i]? = some d → J.go i H1 ∧ ∀ x H2, J.yld i H1 x H2 → ∃ I2, Gr I1 H1 I2 H2 ∧ Rp K mg I2 d x) ∧ (ds.length ≤ i → J.stop i H1)
def tI (K : PySem.W.Frag) (mg : Str → Option Value) (m : M (List D)) : TI := fun σ H R => ∃ I e Fs, Rel K mg I e Fs σ H ∧ ∃ ds e', m e = some (ds, e') ∧
  ∀ J I' Fs' H', Rel K mg I' e' Fs' σ H' → Ext Fs I H Fs' I' H' → ItR K mg I' J ds → R J H'
def SI (X : Cx) (tg it : Expr) (m : M (List D)) : Prop := PI X tg it (tI X.K X.mg m)
theorem PI.imp {X : Cx} {tg a : Expr} {t t' : TI} (h : PI X tg a t) (i : ∀ σ H Q, t' σ H Q → t σ H Q) : PI X tg a t' := ⟨fun pins s σ H R I hq => h.run pins s σ H R I (i σ H R hq)⟩
def iLst (m : M D) : M (List D) := fun e => (m e).bind fun x => match x.1 with
  | .lst ds => some (ds, x.2)
  | .fl ds => some (ds, x.2)
  | _ => none
def iTpl (m : M D) : M (List D) := fun e => (m e).bind fun x => match x.1 with
  | .tup ds => some (ds, x.2)
  | _ => none
def iTxt (m : M D) : M (List D) := fun e => (m e).bind fun x => match x.1 with
  | .str y => some (y.cps.toList.map fun c => .str ⟨#[c]⟩, x.2)
  | _ => none
theorem itl_r {K : PySem.W.Frag} {mg : Str → Option Value} {I : Hp} {a : Addr} {xs : List V} {ds : List D} (h : SqL K I a xs) (r : RpL K mg I ds xs) : ItR K mg I (Itl K a) ds := fun i I1 H1 e1 e2 => by
  have h1 := ex_l (e1.trans e2) h
  refine ⟨fun d hd => ?_, fun hl => ⟨xs, h1, by rw [← r.length]; exact hl⟩⟩
  obtain ⟨x, hx, rx⟩ := r.get hd
  refine ⟨⟨xs, x, h1, hx⟩, fun y H2 hy => ?_⟩
  obtain ⟨rfl, q⟩ := hy
  have := q xs h1
  rw [hx] at this
  cases this
  exact ⟨I1, .same, rx.mono e1 _ _⟩
theorem itt_r {K : PySem.W.Frag} {mg : Str → Option Value} {I : Hp} {a : Addr} {xs : List V} {ds : List D} (h : SqT K I a xs) (r : RpL K mg I ds xs) : ItR K mg I (Itt K a) ds := fun i I1 H1 e1 e2 => by
  have h1 := ex_t (e1.trans e2) h
  refine ⟨fun d hd => ?_, fun hl => ⟨xs, h1, by rw [← r.length]; exact hl⟩⟩
  obtain ⟨x, hx, rx⟩ := r.get hd
  refine ⟨⟨xs, x, h1, hx⟩, fun y H2 hy => ?_⟩
  obtain ⟨rfl, q⟩ := hy
  have := q xs h1
  rw [hx] at this
  cases this
  exact ⟨I1, .same, rx.mono e1 _ _⟩
def rngD (lo : Int) (n : Nat) : List D := (List.range n).map fun (i : Nat) => .int (lo + (i : Int))
theorem itr_r {K : PySem.W.Frag} {mg : Str → Option Value} {I : Hp} {lo : Int} {n : Nat} : ItR K mg I (Itr lo n) (rngD lo n) := fun i I1 H1 e1 e2 => by
  refine ⟨fun d hd => ?_, fun hl => by simpa [rngD, Itr] using hl⟩
  unfold rngD at hd
  rw [List.getElem?_map] at hd
  by_cases hi : i < n
  · rw [List.getElem?_range hi] at hd
    cases hd
    refine ⟨hi, fun y H2 hy => ?_⟩
    obtain ⟨rfl, rfl⟩ := hy
    exact ⟨I1, .same, by unfold Rp; rfl⟩
  · rw [List.getElem?_eq_none (by simpa using hi)] at hd
    cases hd
theorem its_r {K : PySem.W.Frag} {mg : Str → Option Value} {I : Hp} {x : Str} : ItR K mg I (Its x) (x.cps.toList.map fun c => D.str ⟨#[c]⟩) := fun i I1 H1 e1 e2 => by
  refine ⟨fun d hd => ?_, fun hl => by simpa [Its] using hl⟩
  rw [List.getElem?_map] at hd
  cases e : x.cps.toList[i]? with
  | none => rw [e] at hd; cases hd
  | some c =>
    rw [e] at hd
    cases hd
    have e' : x.cps[i]? = some c := by simpa using e
    refine ⟨by
      show i < x.cps.size
      exact (Array.getElem?_eq_some_iff.mp e').1, fun y H2 hy => ?_⟩
    obtain ⟨rfl, c', h1, rfl⟩ := hy
    rw [e'] at h1
    cases h1
    exact ⟨I1, .same, by simp only [Rp]⟩
def enD (ds : List D) : List D := ds.mapIdx fun i d => .tup [.int (i : Int), d]
theorem ite_r {K : PySem.W.Frag} {mg : Str → Option Value} {I : Hp} {a : Addr} {xs : List V} {ds : List D} (h : SqL K I a xs) (r : RpL K mg I ds xs) : ItR K mg I (Ite K a) (enD ds) := fun i I1 H1 e1 e2 => by
  have h1 := ex_l (e1.trans e2) h
  refine ⟨fun d hd => ?_, fun hl => ⟨xs, h1, by rw [← r.length]; simpa [enD] using hl⟩⟩
  unfold enD at hd
  rw [List.getElem?_mapIdx] at hd
  cases e : ds[i]? with
  | none => rw [e] at hd; cases hd
  | some d0 =>
    rw [e] at hd
    cases hd
    obtain ⟨x, hx, rx⟩ := r.get e
    refine ⟨⟨xs, x, h1, hx⟩, fun y H2 hy => ?_⟩
    obtain ⟨T, z, rfl, hT, rfl, q⟩ := hy
    have := q xs h1
    rw [hx] at this
    cases this
    have hI : I1 T = none := by
      cases q : I1 T with
      | none => rfl
      | some u => rw [e2 T u q] at hT; cases hT
    refine ⟨_, .new T _ hT, ?_⟩
    simp only [Rp]
    exact ⟨T, _, rfl, .inl (.inl upd_same), RpL.cons (by unfold Rp; rfl) (RpL.cons (rx.mono (e1.trans (Ex.new hI)) _ _) RpL.nil)⟩
def zipD : List D → List D → List D
  | a :: as, b :: bs => .tup [a, b] :: zipD as bs
  | _, _ => []
theorem zipD_get : ∀ {as bs : List D} {i : Nat} {d : D}, (zipD as bs)[i]? = some d → ∃ a b, as[i]? = some a ∧ bs[i]? = some b ∧ d = .tup [a, b]
  | [], _, i, d, h => by simp [zipD] at h
  | a :: as, [], i, d, h => by simp [zipD] at h
  | a :: as, b :: bs, 0, d, h => by simp [zipD] at h; exact ⟨a, b, rfl, rfl, h.symm⟩
  | a :: as, b :: bs, i + 1, d, h => by
    have h' : (zipD as bs)[i]? = some d := by simpa [zipD] using h
    simpa using zipD_get h'
theorem zipD_len : ∀ {as bs : List D}, (zipD as bs).length = min as.length bs.length
  | [], _ => by simp [zipD]
  | a :: as, [] => by simp [zipD]
  | a :: as, b :: bs => by simp [zipD, zipD_len (as := as) (bs := bs)]
theorem itz_r {K : PySem.W.Frag} {mg : Str → Option Value} {I : Hp} {a b : Addr} {xs ys : List V} {ds es : List D} (h : SqL K I a xs) (r : RpL K mg I ds xs) (h' : SqL K I b ys) (r' : RpL K mg I es ys) : ItR K mg I (Itz K a b) (zipD ds es) := fun i I1 H1 e1 e2 => by
  have h1 := ex_l (e1.trans e2) h
  have h1' := ex_l (e1.trans e2) h'
  refine ⟨fun d hd => ?_, fun hl => ⟨xs, ys, h1, h1', by rw [← r.length, ← r'.length]; rw [zipD_len] at hl; omega⟩⟩
  obtain ⟨d1, d2, g1, g2, rfl⟩ := zipD_get hd
  obtain ⟨x, hx, rx⟩ := r.get g1
  obtain ⟨y, hy, ry⟩ := r'.get g2
  refine ⟨⟨xs, ys, x, y, h1, h1', hx, hy⟩, fun v H2 hv => ?_⟩
  obtain ⟨T, z, z', rfl, hT, rfl, q, q'⟩ := hv
  have e3 := q xs h1
  rw [hx] at e3
  cases e3
  have e4 := q' ys h1'
  rw [hy] at e4
  cases e4
  have hI : I1 T = none := by
    cases q : I1 T with
    | none => rfl
    | some u => rw [e2 T u q] at hT; cases hT
  refine ⟨_, .new T _ hT, ?_⟩
  simp only [Rp]
  exact ⟨T, _, rfl, .inl (.inl upd_same), RpL.cons (rx.mono (e1.trans (Ex.new hI)) _ _) (RpL.cons (ry.mono (e1.trans (Ex.new hI)) _ _) RpL.nil)⟩
theorem itzt_r {K : PySem.W.Frag} {mg : Str → Option Value} {I : Hp} {a b : Addr} {xs ys : List V} {ds es : List D} (h : SqT K I a xs) (r : RpL K mg I ds xs) (h' : SqT K I b ys) (r' : RpL K mg I es ys) : ItR K mg I (RZ.ItzT K a b) (zipD ds es) := fun i I1 H1 e1 e2 => by
  have h1 := ex_t (e1.trans e2) h
  have h1' := ex_t (e1.trans e2) h'
  refine ⟨fun d hd => ?_, fun hl => ⟨xs, ys, h1, h1', by rw [← r.length, ← r'.length]; rw [zipD_len] at hl; omega⟩⟩
  obtain ⟨d1, d2, g1, g2, rfl⟩ := zipD_get hd
  obtain ⟨x, hx, rx⟩ := r.get g1
  obtain ⟨y, hy, ry⟩ := r'.get g2
  refine ⟨⟨xs, ys, x, y, h1, h1', hx, hy⟩, fun v H2 hv => ?_⟩
  obtain ⟨T, z, z', rfl, hT, rfl, q, q'⟩ := hv
  have e3 := q xs h1
  rw [hx] at e3
  cases e3
  have e4 := q' ys h1'
  rw [hy] at e4
  cases e4
  have hI : I1 T = none := by
    cases q : I1 T with
    | none => rfl
    | some u => rw [e2 T u q] at hT; cases hT
  refine ⟨_, .new T _ hT, ?_⟩
  simp only [Rp]
  exact ⟨T, _, rfl, .inl (.inl upd_same), RpL.cons (rx.mono (e1.trans (Ex.new hI)) _ _) (RpL.cons (ry.mono (e1.trans (Ex.new hI)) _ _) RpL.nil)⟩
/-- the arguments of a built-in are data -/
def allD : List Arg → Option (List D)
  | [] => some []
  | .d d :: r => (allD r).map (d :: ·)
  | _ => none
theorem allD_rp {K : PySem.W.Frag} {mg : Str → Option Value} {I : Hp} {σ : L2.St} : ∀ {as : List Arg} {ds : List D} {vs : List V}, allD as = some ds → ArgR K mg I σ as vs → RpL K mg I ds vs
  | [], ds, vs, h, r => by cases h; simp only [ArgR] at r; subst r; exact RpL.nil
  | .d d :: as, ds, vs, h, r => by
    obtain ⟨v, t, rfl, r1, r2⟩ := r
    obtain ⟨ds', h1, h2⟩ := Option.map_eq_some_iff.mp (show (allD as).map (d :: ·) = some ds from h)
    subst h2
    exact RpL.cons r1 (allD_rp h1 r2)
  | .io i :: as, ds, vs, h, r => by cases h
/-- an iterator of values of the arguments -/
def iArgs (f : List D → Option (List D)) (ma : M (List Arg)) : M (List D) := fun e => (ma e).bind fun x => (allD x.1).bind fun ds => (f ds).map fun r => (r, x.2)
def fRange1 : List D → Option (List D)
  | [.int j] => if -1000000 ≤ j ∧ j ≤ 1000000 then some (rngD 0 j.toNat) else none
  | _ => none
def fRange2 : List D → Option (List D)
  | [.int i, .int j] => if -1000000 ≤ i ∧ i ≤ 1000000 ∧ -1000000 ≤ j ∧ j ≤ 1000000 then some (rngD i (j - i).toNat) else none
  | _ => none
def fEnum : List D → Option (List D)
  | [.lst ds] => some (enD ds)
  | [.fl ds] => some (enD ds)
  | _ => none
def fZip : List D → Option (List D)
  | [.lst a, .lst b] => some (zipD a b)
  | [.tup a, .tup b] => some (zipD a b)
  | _ => none
theorem RpL.one {K : PySem.W.Frag} {mg : Str → Option Value} {I : Hp} {d : D} {vs : List V} (h : RpL K mg I [d] vs) : ∃ v, vs = [v] ∧ Rp K mg I d v := by
  simp only [RpL] at h
  obtain ⟨x, r, rfl, h1, h2⟩ := h
  subst h2
  exact ⟨x, rfl, h1⟩
theorem RpL.two {K : PySem.W.Frag} {mg : Str → Option Value} {I : Hp} {d d' : D} {vs : List V} (h : RpL K mg I [d, d'] vs) : ∃ v v', vs = [v, v'] ∧ Rp K mg I d v ∧ Rp K mg I d' v' := by
  simp only [RpL] at h
  obtain ⟨x, r, rfl, h1, y, r2, rfl, h2, rfl⟩ := h
  exact ⟨x, y, rfl, h1, h2⟩
section
variable {X : Cx} {tg a b : Expr} {m : M D} {ma : M (List Arg)} {p pos tpos : Pos} {elts : List Expr} {kk : Nat}
theorem si_list (h : SE X a m) : SI X tg a (iLst m) := PI.imp (pi_list h) fun σ H Q ⟨I, e, Fs, R, ds, e', hm, k⟩ => by
  obtain ⟨⟨d, e1⟩, h1, hm⟩ := Option.bind_eq_some_iff.mp hm
  refine ⟨I, e, Fs, R, d, e1, h1, fun v I' Fs' H' R' x r => ?_⟩
  cases d with
  | lst es =>
    cases hm
    simp only [Rp] at r
    obtain ⟨l, xs, rfl, h2, h3⟩ := r
    exact ⟨l, rfl, ⟨xs, .of (R'.sub _ _ h2)⟩, k _ I' Fs' H' R' x (itl_r (.of h2) h3)⟩
  | fl es =>
    cases hm
    simp only [Rp] at r
    obtain ⟨l, xs, rfl, h2, h3⟩ := r
    exact ⟨l, rfl, ⟨xs, ex_l R'.sub h2⟩, k _ I' Fs' H' R' x (itl_r h2 h3)⟩
  | _ => cases hm
theorem si_tup (h : SE X a m) : SI X tg a (iTpl m) := PI.imp (pi_tup h) fun σ H Q ⟨I, e, Fs, R, ds, e', hm, k⟩ => by
  obtain ⟨⟨d, e1⟩, h1, hm⟩ := Option.bind_eq_some_iff.mp hm
  refine ⟨I, e, Fs, R, d, e1, h1, fun v I' Fs' H' R' x r => ?_⟩
  cases d with
  | tup es =>
    cases hm
    simp only [Rp] at r
    obtain ⟨l, xs, rfl, h2, h3⟩ := r
    exact ⟨l, rfl, ⟨xs, ex_t R'.sub h2⟩, k _ I' Fs' H' R' x (itt_r h2 h3)⟩
  | _ => cases hm
theorem si_txt (h : SE X a m) : SI X tg a (iTxt m) := PI.imp (pi_str h) fun σ H Q ⟨I, e, Fs, R, ds, e', hm, k⟩ => by
  obtain ⟨⟨d, e1⟩, h1, hm⟩ := Option.bind_eq_some_iff.mp hm
  refine ⟨I, e, Fs, R, d, e1, h1, fun v I' Fs' H' R' x r => ?_⟩
  cases d with
  | str y =>
    cases hm
    simp only [Rp] at r
    subst r
    exact ⟨y, rfl, k _ I' Fs' H' R' x its_r⟩
  | _ => cases hm
theorem iargs_run {K : PySem.W.Frag} {mg : Str → Option Value} {f : List D → Option (List D)} {σ : L2.St} {H : Hp} {Q : It → Hp → Prop} {P : List V → Hp → Prop} (hf : ∀ I' H' ds rs vs, Ex I' H' → f ds = some rs → RpL K mg I' ds vs → (∀ J, ItR K mg I' J rs → Q J H') → P vs H')
    (h : tI K mg (iArgs f ma) σ H Q) : tAr K mg ma σ H P := by
  obtain ⟨I, e, Fs, R, ds, e', hm, k⟩ := h
  obtain ⟨⟨as, e1⟩, h1, hm⟩ := Option.bind_eq_some_iff.mp hm
  obtain ⟨bs, h2, hm⟩ := Option.bind_eq_some_iff.mp hm
  obtain ⟨rs, h3, hm⟩ := Option.map_eq_some_iff.mp hm
  cases hm
  refine ⟨I, e, Fs, R, as, e1, h1, fun vs I' Fs' H' R' x r => hf I' H' bs _ vs R'.sub h3 (allD_rp h2 r) fun J hJ => k J I' Fs' H' R' x hJ⟩
theorem si_range1 (hg : Gl X "range") (hm : X.mg "range" = none) (ha : SA X [a] ma) (hs : starEach [a] X.env = [(false, eval a X.env)] := by rfl) : SI X tg (.Call (.Name "range" p) [a] [] pos) (iArgs fRange1 ma) :=
  PI.imp (pi_range1 hg hm ha hs) fun σ H Q h => by
    refine iargs_run (P := fun vs H1 => ∃ j : Int, vs = [.int j] ∧ -(2 ^ 62) ≤ j ∧ j < 2 ^ 62 ∧ Q (Itr 0 j.toNat) H1) (fun I' H' ds rs vs s hf r k => ?_) h
    unfold fRange1 at hf
    split at hf
    · split at hf
      · rename_i j hj
        cases hf
        obtain ⟨v, rfl, h1⟩ := r.one
        simp only [Rp] at h1
        subst h1
        exact ⟨j, rfl, by omega, by omega, k _ itr_r⟩
      · cases hf
    · cases hf
theorem si_range2 (hg : Gl X "range") (hm : X.mg "range" = none) (ha : SA X [a, b] ma) (hs : starEach [a, b] X.env = [(false, eval a X.env), (false, eval b X.env)] := by rfl) (hs2 : starEach [b] X.env = [(false, eval b X.env)] := by rfl) : SI X tg (.Call (.Name "range" p) [a, b] [] pos) (iArgs fRange2 ma) :=
  PI.imp (pi_range2 hg hm ha hs hs2) fun σ H Q h => by
    refine iargs_run (P := fun vs H1 => ∃ i j : Int, vs = [.int i, .int j] ∧ (-(2 ^ 62) ≤ i ∧ i < 2 ^ 62 ∧ -(2 ^ 62) ≤ j ∧ j < 2 ^ 62) ∧ Q (Itr i (j - i).toNat) H1) (fun I' H' ds rs vs s hf r k => ?_) h
    unfold fRange2 at hf
    split at hf
    · split at hf
      · rename_i i j hj
        cases hf
        obtain ⟨v, v', rfl, h1, h2⟩ := r.two
        simp only [Rp] at h1 h2
        subst h1 h2
        exact ⟨i, j, rfl, by omega, k _ itr_r⟩
      · cases hf
    · cases hf
theorem si_enum (hg : Gl X "enumerate") (hm : X.mg "enumerate" = none) (ha : SA X [a] ma) (hs : starEach [a] X.env = [(false, eval a X.env)] := by rfl) : SI X (.Tuple elts kk tpos) (.Call (.Name "enumerate" p) [a] [] pos) (iArgs fEnum ma) :=
  PI.imp (pi_enum hg hm ha hs) fun σ H Q h => by
    refine iargs_run (P := fun vs H1 => ∃ a xs, vs = [.ref a] ∧ SqL X.K H1 a xs ∧ Q (Ite X.K a) H1) (fun I' H' ds rs vs s hf r k => ?_) h
    unfold fEnum at hf
    split at hf
    · cases hf
      obtain ⟨v, rfl, h1⟩ := r.one
      simp only [Rp] at h1
      obtain ⟨l, xs, rfl, h2, h3⟩ := h1
      exact ⟨l, xs, rfl, .of (s _ _ h2), k _ (ite_r (.of h2) h3)⟩
    · cases hf
      obtain ⟨v, rfl, h1⟩ := r.one
      simp only [Rp] at h1
      obtain ⟨l, xs, rfl, h2, h3⟩ := h1
      exact ⟨l, xs, rfl, ex_l s h2, k _ (ite_r h2 h3)⟩
    · cases hf
theorem si_zip (hg : Gl X "zip") (hm : X.mg "zip" = none) (ha : SA X [a, b] ma)
    (hs : starEach [a, b] X.env = (false, eval a X.env) :: starEach [b] X.env := by rfl) (hpl : (backTo pos (starEach [b] X.env)).any (·.1) = false := by rfl) : SI X (.Tuple elts kk tpos) (.Call (.Name "zip" p) [a, b] [] pos) (iArgs fZip ma) :=
  PI.imp (RZ.pi_zipA hg hm ha hs hpl) fun σ H Q h => by
    refine iargs_run (P := fun vs H1 => ∃ a b xs ys, vs = [.ref a, .ref b] ∧ ((SqL X.K H1 a xs ∧ SqL X.K H1 b ys ∧ Q (Itz X.K a b) H1) ∨ (SqT X.K H1 a xs ∧ SqT X.K H1 b ys ∧ Q (RZ.ItzT X.K a b) H1))) (fun I' H' ds rs vs s hf r k => ?_) h
    unfold fZip at hf
    split at hf
    · cases hf
      obtain ⟨v, v', rfl, h1, h2⟩ := r.two
      simp only [Rp] at h1 h2
      obtain ⟨l, xs, rfl, h3, h4⟩ := h1
      obtain ⟨l', xs', rfl, h3', h4'⟩ := h2
      exact ⟨l, l', xs, xs', rfl, .inl ⟨.of (s _ _ h3), .of (s _ _ h3'), k _ (itz_r (.of h3) h4 (.of h3') h4')⟩⟩
    · cases hf
      obtain ⟨v, v', rfl, h1, h2⟩ := r.two
      simp only [Rp] at h1 h2
      obtain ⟨l, xs, rfl, h3, h4⟩ := h1
      obtain ⟨l', xs', rfl, h3', h4'⟩ := h2
      exact ⟨l, l', xs, xs', rfl, .inr ⟨ex_t s h3, ex_t s h3', k _ (itzt_r h3 h4 h3' h4')⟩⟩
    · cases hf
end
end MV

namespace MV
open PySem L2
variable [TB]

/-! ### comprehensions -/
def wipeE (e : Env) : List Nat → Env
  | [] => e
  | v :: vs => (wipeE e vs).set v none
def lcRun (own : List Nat) (t : Tg) (c : M Bool) (m : M D) : List D → Env → Option (List D × Env)
  | [], e => some ([], e)
  | d :: ds, e => (t d e).bind fun e1 => (c e1).bind fun b => if b.1 = true then (m b.2).bind fun y => (lcRun own t c m ds (wipeE y.2 own)).map fun r => (y.1 :: r.1, r.2) else lcRun own t c m ds (wipeE b.2 own)
def mLc (own : List Nat) (mi : M (List D)) (t : Tg) (c : M Bool) (m : M D) : M D := fun e => (mi e).bind fun x => if x.1.length ≤ 1000000 then (lcRun own t c m x.1 (wipeE x.2 own)).map fun r => (.lst r.1, r.2) else none
section
variable {K : PySem.W.Frag} {mg : Str → Option Value} {I H : Hp} {e : Env} {Fs : Fp} {σ : L2.St}
theorem Rel.wiped (R : Rel K mg I e Fs σ H) : ∀ own : List Nat, ∃ F', Rel K mg I (wipeE e own) F' (L2.wipe σ own) H ∧ ∀ a, MF F' a → MF Fs a
  | [] => ⟨Fs, R, fun _ m => m⟩
  | v :: vs => by
    obtain ⟨F1, R1, m1⟩ := R.wiped vs
    refine ⟨putF F1 v [], ?_, fun a m => m1 a m.nil⟩
    have R2 := R1.drop (i := v)
    refine ⟨R2.sub, ?_, fun i w q => ?_, R2.nd, R2.dj, R2.out, R2.live, R2.tb⟩
    · have := R2.len
      show ((wipeE e vs).set v none).length = ((L2.wipe σ vs).set v none).length
      simp at this ⊢
      exact this
    · have q : ((wipeE e vs).set v none)[i]? = some (some w) := q
      by_cases z : i = v
      · subst z
        by_cases hl : i < (wipeE e vs).length
        · rw [List.getElem?_set_self hl] at q; cases q
        · rw [List.getElem?_eq_none (by simpa using hl)] at q; cases q
      · obtain ⟨x, hx, hr⟩ := R2.at_ i w q
        refine ⟨x, ?_, hr⟩
        show ((L2.wipe σ vs).set v none)[i]? = _
        rw [List.getElem?_set_ne (Ne.symm z)]
        exact hx
/-- back to the slots that were not wiped -/
theorem Rel.unwiped {own : List Nat} (R : Rel K mg I e Fs (L2.wipe σ own) H) : Rel K mg I e Fs σ H :=
  ⟨R.sub, by rw [R.len, wipe_length], fun i w q => by
    obtain ⟨x, hx, hr⟩ := R.at_ i w q
    exact ⟨x, (wipe_some hx).1, hr⟩, R.nd, R.dj, R.out, R.live, R.tb⟩
/-- an object that nobody holds -/
theorem Rel.loose {p : Addr} {o : HO} (R : Rel K mg I e Fs σ H) (h : H p = none) : Rel K mg I e Fs σ (upd H p o) :=
  R.frame (M := fun a => a = p) (Gx.refl.set (.inl rfl) (.none h)) (fun a u q => Ex.new h a u (R.sub a u q)) fun a ⟨i, hi⟩ z => by subst z; exact R.live i a hi h
theorem Rel.loose2 {p : Addr} {o : HO} (R : Rel K mg I e Fs σ H) (h : I p = none) (hF : ¬ MF Fs p) (n : NX H p) : Rel K mg I e Fs σ (upd H p o) :=
  R.frame (M := fun a => a = p) (Gx.refl.set (.inl rfl) n) (fun a u q => by
    rw [upd_ne (fun z => by subst z; rw [h] at q; cases q)]
    exact R.sub a u q) fun a m z => by subst z; exact hF m
/-- it is frozen -/
theorem Rel.freeze {p : Addr} {o : HO} (R : Rel K mg I e Fs σ H) (h : H p = some o) (hI : I p = none) (hF : ¬ MF Fs p) (n : NX H p) : Rel K mg (upd I p o) e Fs σ H := by
  refine ⟨fun a u q => ?_, R.len, fun i w q => ?_, R.nd, R.dj, fun i a ha => ?_, R.live, R.tb.frz n⟩
  · by_cases z : a = p
    · subst z; rw [upd_same] at q; cases q; exact h
    · rw [upd_ne z] at q; exact R.sub a u q
  · obtain ⟨x, hx, hr⟩ := R.at_ i w q
    exact ⟨x, hx, hr.frame (Ex.new hI) w x (Fs i) fun a _ u hu _ => hu⟩
  · rw [upd_ne (fun z => by subst z; exact hF ⟨i, ha⟩)]
    exact R.out i a ha
end
def ownA (own : List Nat) : Nat → Bool := fun i => own.contains i
theorem wipe_get {σ : L2.St} : ∀ {own : List Nat} {i : Nat}, (wipe σ own)[i]? = if i ∈ own then (σ[i]?).map (fun _ => none) else σ[i]?
  | [], i => by simp [wipe]
  | v :: vs, i => by
    show ((L2.wipe σ vs).set v none)[i]? = _
    by_cases z : v = i
    · subst z
      rw [if_pos (by simp)]
      by_cases hl : v < σ.length
      · rw [List.getElem?_set_self (by rw [wipe_length]; exact hl), List.getElem?_eq_getElem hl]; rfl
      · rw [List.getElem?_eq_none (by simpa [wipe_length] using hl), List.getElem?_eq_none (by simpa using hl)]; rfl
    · rw [List.getElem?_set_ne z, wipe_get (own := vs)]
      by_cases y : i ∈ vs
      · rw [if_pos y, if_pos (by simp [y])]
      · rw [if_neg y, if_neg (by simp [y, Ne.symm z])]
theorem wipe_agr {σ σ' : L2.St} {own : List Nat} (hl : σ'.length = σ.length) (a : Agr (ownA own) (wipe σ own) σ') : wipe σ' own = wipe σ own := by
  refine List.ext_getElem? fun i => ?_
  rw [wipe_get, wipe_get]
  by_cases y : i ∈ own
  · rw [if_pos y, if_pos y]
    by_cases h : i < σ.length
    · rw [List.getElem?_eq_getElem h, List.getElem?_eq_getElem (by rw [hl]; exact h)]; rfl
    · rw [List.getElem?_eq_none (by omega), List.getElem?_eq_none (by omega)]
  · rw [if_neg y, if_neg y]
    have := a i (by simp [ownA, y])
    rw [wipe_get, if_neg y] at this
    exact this
def STs (X : Cx) (ifs : List Expr) (m : M Bool) : Prop := PTs X ifs (tT X.K X.mg m)
theorem sts_nil {X : Cx} : STs X [] (fun e => some (true, e)) := ⟨fun pins s σ H Q I ⟨J, e, Fs, R, b, e', hm, k⟩ => by
  cases hm
  exact pts_nil.run pins s σ H Q I (k J Fs H R Ext.refl)⟩
theorem sts_one {X : Cx} {c : Expr} {m : M Bool} (h : ST X c m) : STs X [c] m := pts_one h
/-- how a comprehension's list is made; what then becomes of it is left open -/
def tLcG (K : PySem.W.Frag) (mg : Str → Option Value) (own : List Nat) (mi : M (List D)) (t : Tg) (c : M Bool) (m : M D) : TE := fun σ H Q => ∃ I e Fs, Rel K mg I e Fs σ H ∧ ∃ ds e1 ys e2, mi e = some (ds, e1) ∧ ds.length ≤ 1000000 ∧ lcRun own t c m ds (wipeE e1 own) = some (ys, e2) ∧
  ∀ I2 F2 Hc D acc, Rel K mg I2 e2 F2 σ Hc → Ext Fs I H F2 I2 Hc → Hc D = some (.lst acc) → I2 D = none → ¬ MF F2 D → (MF Fs D ∨ H D = none) → RpL K mg I2 ys acc → Q (.ref D) Hc
theorem lc_gen {K : PySem.W.Frag} {mg : Str → Option Value} {own : List Nat} {mi : M (List D)} {t : Tg} {c : M Bool} {m : M D} {σ : L2.St} {H : Hp} {Q : VK} (h : tLcG K mg own mi t c m σ H Q) :
    tLc (tI K mg mi) (tG K mg (ownA own) t) (tT K mg c) (tE K mg m) own σ H Q := by
  obtain ⟨I, e, Fs, R, ds, e1, ys, e2, h1, hlen, h2, k⟩ := h
  refine ⟨I, e, Fs, R, ds, e1, h1, fun J I1 F1 H1 R1 x1 hJ D hD => ?_⟩
  have hsz : sizeLine = 16777216 := sizeLine_eq
  refine ⟨fun i n Hc => n = ds.length - i ∧ i ≤ ds.length ∧ ∃ I2 ec F2 acc dacc rest, Rel K mg I2 ec F2 (wipe σ own) Hc ∧ Ext Fs I H F2 I2 Hc ∧ Ex I1 I2 ∧ Hc D = some (.lst acc) ∧ I2 D = none ∧ ¬ MF F2 D ∧ RpL K mg I2 dacc acc ∧ dacc.length ≤ i ∧
    lcRun own t c m (ds.drop i) ec = some (rest, e2) ∧ ys = dacc ++ rest, ⟨ds.length, ?_⟩, ?_⟩
  · obtain ⟨F2, R2, m2⟩ := R1.wiped own
    have R3 := R2.loose (o := .lst []) hD
    have hI : I1 D = none := by
      cases q : I1 D with
      | none => rfl
      | some u => rw [R1.sub D u q] at hD; cases hD
    have hF : ¬ MF F2 D := fun ⟨i, hi⟩ => R2.live i D hi hD
    refine ⟨by simp, Nat.zero_le _, I1, wipeE e1 own, F2, [], [], ys, R3, ?_, Ex.refl _, upd_same, hI, hF, RpL.nil, Nat.zero_le _, by rw [List.drop_zero]; exact h2, rfl⟩
    exact ⟨⟨x1.g.ex, fun a u q mm nt => Ex.new hD a u (x1.g.fr a u q mm nt), x1.g.new, fun t => (x1.g.tb t).ext (Ex.new hD), fun a ps q mm => let ⟨p', h'⟩ := x1.g.tl a ps q mm; ⟨p', Ex.new hD a _ h'⟩⟩, fun a mm => x1.fp a (m2 a mm)⟩
  · rintro i n Hc ⟨rfl, hi, I2, ec, F2, acc, dacc, rest, R2, x2, ex2, hDc, hI2, hF2, racc, hl, hrun, hys⟩
    have it := hJ i I2 Hc ex2 R2.sub
    have keepD : ∀ {Fa : Fp} {Ia Ha : Hp} {Fb : Fp} {Ib Hb : Hp} {o : HO}, Ext Fa Ia Ha Fb Ib Hb → Ha D = some o → Ia D = none → ¬ MF Fa D → NT o → Hb D = some o ∧ Ib D = none ∧ ¬ MF Fb D := fun {Fa Ia Ha Fb Ib Hb o} x h1 h2 h3 n => by
      refine ⟨x.g.fr D o h1 h3 n, ?_, fun q => ?_⟩
      · cases q : Ib D with
        | none => rfl
        | some u =>
          rcases x.g.new D (by rw [q]; exact fun z => by cases z) with z | z | z
          · exact absurd h2 z
          · rw [h1] at z; cases z
          · exact absurd z h3
      · rcases x.fp D q with z | z
        · exact h3 z
        · rw [h1] at z; cases z
    by_cases hlt : i < ds.length
    · refine .inr ?_
      obtain ⟨hgo, hy⟩ := it.1 _ (List.getElem?_eq_getElem hlt)
      refine ⟨hgo, fun H' => ∃ I2 ec F2 acc dacc rest, Rel K mg I2 ec F2 (wipe σ own) H' ∧ Ext Fs I H F2 I2 H' ∧ Ex I1 I2 ∧ H' D = some (.lst acc) ∧ I2 D = none ∧ ¬ MF F2 D ∧ RpL K mg I2 dacc acc ∧ dacc.length ≤ i + 1 ∧
        lcRun own t c m (ds.drop (i + 1)) ec = some (rest, e2) ∧ ys = dacc ++ rest, fun H' h => ⟨ds.length - (i + 1), by omega, rfl, hlt, h⟩, fun v H3 hv => ?_⟩
      obtain ⟨I3, g3, r3⟩ := hy v H3 hv
      obtain ⟨R3, x3⟩ := g3.rel R2
      rw [List.drop_eq_getElem_cons hlt] at hrun
      simp only [lcRun] at hrun
      obtain ⟨e4, h4, hrun⟩ := Option.bind_eq_some_iff.mp hrun
      obtain ⟨⟨b, e5⟩, h5, hrun⟩ := Option.bind_eq_some_iff.mp hrun
      obtain ⟨hD3, hI3, hF3⟩ := keepD x3 hDc hI2 hF2 (fun _ z => by cases z)
      refine ⟨I3, ec, F2, ds[i], R3, r3, e4, h4, fun σ4 F4 R4 m4 a4 hl4 => ?_⟩
      have hw : wipe σ4 own = wipe σ own := by
        have q := wipe_agr (σ := wipe σ own) hl4 (by
          intro j hj
          rw [a4 j hj]
          rw [wipe_get (σ := wipe σ own), if_neg (by simpa [ownA] using hj)])
        rw [q]
        refine List.ext_getElem? fun j => ?_
        rw [wipe_get, wipe_get]
        by_cases y : j ∈ own
        · rw [if_pos y, if_pos y]
          cases σ[j]? <;> rfl
        · rw [if_neg y, if_neg y]
      have x4 : Ext F2 I3 H3 F4 I3 H3 := ⟨Gx.refl, fun a q => .inl (m4 a q)⟩
      obtain ⟨hD4, hI4, hF4⟩ := keepD x4 hD3 hI3 hF3 (fun _ z => by cases z)
      refine ⟨hw, I3, e4, F4, R4, b, e5, h5, fun I5 F5 H5 R5 x5 => ?_⟩
      obtain ⟨hD5, hI5, hF5⟩ := keepD x5 hD4 hI4 hF4 (fun _ z => by cases z)
      have xs5 := ((x2.trans x3).trans x4).trans x5
      have ex5 : Ex I1 I5 := (ex2.trans x3.g.ex).trans x5.g.ex
      cases b with
      | false =>
        rw [if_neg Bool.false_ne_true]
        rw [if_neg Bool.false_ne_true] at hrun
        obtain ⟨F6, R6, m6⟩ := R5.wiped own
        rw [hw] at R6
        exact ⟨I5, wipeE e5 own, F6, acc, dacc, rest, R6, ⟨xs5.g, fun a q => xs5.fp a (m6 a q)⟩, ex5, hD5, hI5, fun q => hF5 (m6 D q), racc.mono (x3.g.ex.trans x5.g.ex) _ _, by omega, hrun, hys⟩
      | true =>
        rw [if_pos rfl]
        rw [if_pos rfl] at hrun
        obtain ⟨⟨y, e6⟩, h6, hrun⟩ := Option.bind_eq_some_iff.mp hrun
        obtain ⟨⟨rs, e7⟩, h7, hrun⟩ := Option.map_eq_some_iff.mp hrun
        cases hrun
        refine ⟨I5, e5, F5, R5, y, e6, h6, fun z I6 F6 H6 R6 x6 r6 => ?_⟩
        obtain ⟨hD6, hI6, hF6⟩ := keepD x6 hD5 hI5 hF5 (fun _ z => by cases z)
        have racc' := racc.mono ((x3.g.ex.trans x5.g.ex).trans x6.g.ex) _ _
        refine ⟨acc, hD6, by rw [← racc'.length]; omega, ?_⟩
        obtain ⟨F7, R7, m7⟩ := R6.wiped own
        rw [hw] at R7
        have hF7 : ¬ MF F7 D := fun q => hF6 (m7 D q)
        have R8 := R7.loose2 (o := .lst (acc ++ [z])) hI6 hF7 (.lst hD6)
        have xs6 := xs5.trans x6
        have hDH : MF Fs D ∨ H D = none := by
          cases q : H D with
          | none => exact .inr rfl
          | some u =>
            by_cases mm : MF Fs D
            · exact .inl mm
            · exfalso
              rw [x1.g.back mm hD] at q
              cases q
        refine ⟨I6, wipeE e6 own, F7, acc ++ [z], dacc ++ [y], rs, R8, ⟨xs6.g.set hDH (.lst hD6), fun a q => xs6.fp a (m7 a q)⟩, ex5.trans x6.g.ex, upd_same, hI6, hF7, racc'.append (RpL.cons r6 RpL.nil), by simp; omega, h7, by rw [hys]; simp⟩
    · have hie : i = ds.length := by omega
      subst hie
      refine .inl ⟨it.2 (Nat.le_refl _), ?_⟩
      rw [List.drop_length] at hrun
      simp only [lcRun] at hrun
      cases hrun
      rw [List.append_nil] at hys
      subst hys
      have hDH : MF Fs D ∨ H D = none := by
        cases q : H D with
        | none => exact .inr rfl
        | some u =>
          by_cases mm : MF Fs D
          · exact .inl mm
          · exfalso
            rw [x1.g.back mm hD] at q
            cases q
      exact k I2 F2 Hc D acc R2.unwiped x2 hDc hI2 hF2 hDH racc
theorem lc_run {K : PySem.W.Frag} {mg : Str → Option Value} {own : List Nat} {mi : M (List D)} {t : Tg} {c : M Bool} {m : M D} {σ : L2.St} {H : Hp} {Q : VK} (h : tE K mg (mLc own mi t c m) σ H Q) :
    tLc (tI K mg mi) (tG K mg (ownA own) t) (tT K mg c) (tE K mg m) own σ H Q := by
  obtain ⟨I, e, Fs, R, d, e', hm, k⟩ := h
  obtain ⟨⟨ds, e1⟩, h1, hm⟩ := Option.bind_eq_some_iff.mp hm
  have hm : (if ds.length ≤ 1000000 then (lcRun own t c m ds (wipeE e1 own)).map fun r => (D.lst r.1, r.2) else none) = some (d, e') := hm
  split at hm
  case isFalse => cases hm
  rename_i hlen
  obtain ⟨⟨ys, e2⟩, h2, hm⟩ := Option.map_eq_some_iff.mp hm
  cases hm
  refine lc_gen ⟨I, e, Fs, R, ds, e1, ys, _, h1, hlen, h2, fun I2 F2 Hc D acc R2 x2 hDc hI2 hF2 hDH racc => ?_⟩
  have R3 := R2.freeze hDc hI2 hF2 (.lst hDc)
  refine k (.ref D) (upd I2 D (.lst acc)) F2 Hc R3 ⟨⟨fun a u q => ?_, x2.g.fr, fun a q => ?_, fun t => (x2.g.tb t).frz (.lst hDc), x2.g.tl⟩, x2.fp⟩ ?_
  · rw [upd_ne (fun z => by subst z; rw [x2.g.ex a u q] at hI2; cases hI2)]
    exact x2.g.ex a u q
  · by_cases z : a = D
    · subst z
      rcases hDH with y | y
      · exact .inr (.inr y)
      · exact .inr (.inl y)
    · rw [upd_ne z] at q
      exact x2.g.new a q
  · simp only [Rp]
    exact ⟨D, acc, rfl, upd_same, racc.mono (Ex.new hI2) _ _⟩
/-- a comprehension's list, owned -/
def mLcW (own : List Nat) (mi : M (List D)) (t : Tg) (c : M Bool) (m : M D) : M W := fun e => (mi e).bind fun x => if x.1.length ≤ 1000000 then (lcRun own t c m x.1 (wipeE x.2 own)).map fun r => (.ol (r.1.map .p), r.2) else none
theorem roL_p {K : PySem.W.Frag} {mg : Str → Option Value} {I H : Hp} : ∀ {ds : List D} {xs : List V}, RpL K mg I ds xs → RoL K mg I H (ds.map .p) xs []
  | [], xs, h => by simp only [RpL] at h; subst h; simp [RoL]
  | d :: ds, xs, h => by
    simp only [RpL] at h
    obtain ⟨x, r, rfl, h1, h2⟩ := h
    simp only [List.map_cons, RoL]
    exact ⟨x, r, [], [], rfl, rfl, by simp only [Ro]; exact ⟨h1, trivial⟩, roL_p h2⟩
theorem lcW_run {K : PySem.W.Frag} {mg : Str → Option Value} {Wx : WX} {own : List Nat} {mi : M (List D)} {t : Tg} {c : M Bool} {m : M D} {σ : L2.St} {H : Hp} {Q : VK} (h : tO K mg Wx (mLcW own mi t c m) σ H Q) :
    tLc (tI K mg mi) (tG K mg (ownA own) t) (tT K mg c) (tE K mg m) own σ H Q := by
  obtain ⟨I, e, Fs, R, d, e', hm, k, _⟩ := h
  obtain ⟨⟨ds, e1⟩, h1, hm⟩ := Option.bind_eq_some_iff.mp hm
  have hm : (if ds.length ≤ 1000000 then (lcRun own t c m ds (wipeE e1 own)).map fun r => (W.ol (r.1.map .p), r.2) else none) = some (d, e') := hm
  split at hm
  case isFalse => cases hm
  rename_i hlen
  obtain ⟨⟨ys, e2⟩, h2, hm⟩ := Option.map_eq_some_iff.mp hm
  cases hm
  refine lc_gen ⟨I, e, Fs, R, ds, e1, ys, _, h1, hlen, h2, fun I2 F2 Hc D acc R2 x2 hDc hI2 hF2 hDH racc => ?_⟩
  refine k (.ref D) I2 F2 Hc [D] R2 x2 ⟨?_, by simp, fun a h => by rw [List.mem_singleton.mp h]; exact hI2, fun a h m => by rw [List.mem_singleton.mp h] at m; exact hF2 m⟩ fun a h => by rw [List.mem_singleton.mp h]; exact hDH
  simp only [Ro]
  exact ⟨D, acc, [], rfl, hDc, rfl, roL_p racc⟩
theorem se_lc {X : Cx} {elt tg iter : Expr} {ifs : List Expr} {scope : Scope} {own : List (Str × Nat)} {pos : Pos} {mi : M (List D)} {t : Tg} {c : M Bool} {m : M D} (hc : X.calm = true) (hN : X.N.Nodup) (ok : BlkOk X.N X.env.scope scope own) (hi : SI X tg iter mi)
    (hg : ∀ (s : Shared) (H : Hp) (C : Addr) (cl : List (Str × Addr)) (fp : List Addr), SG (X.blk s H scope (compEnvC scope cl C X.env) fp) (ownA (own.map (·.2))) tg t) (ht : ∀ (s : Shared) (H : Hp) (C : Addr) (cl : List (Str × Addr)) (fp : List Addr), STs (X.blk s H scope (compEnvC scope cl C X.env) fp) ifs c)
    (he : ∀ (s : Shared) (H : Hp) (C : Addr) (cl : List (Str × Addr)) (fp : List Addr), SE (X.blk s H scope (compEnvC scope cl C X.env) fp) elt m) (hs : ∀ x, foldedSetIterable iter X.env x = pure x := by intro _; rfl) :
    SE X (.ListComp elt [⟨tg, iter, ifs, 0⟩] scope pos) (mLc (own.map (·.2)) mi t c m) := PE.imp (pe_lc (g := tG X.K X.mg (ownA (List.map (fun (x : Str × Nat) => x.2) own)) t) (tt := tT X.K X.mg c) (te := tE X.K X.mg m) hc hN hi ok hg ht he hs) fun σ H Q h => lc_run h
theorem so_lcW {X : Cx} {Wx : WX} {elt tg iter : Expr} {ifs : List Expr} {scope : Scope} {own : List (Str × Nat)} {pos : Pos} {mi : M (List D)} {t : Tg} {c : M Bool} {m : M D} (hc : X.calm = true) (hN : X.N.Nodup) (ok : BlkOk X.N X.env.scope scope own) (hi : SI X tg iter mi)
    (hg : ∀ (s : Shared) (H : Hp) (C : Addr) (cl : List (Str × Addr)) (fp : List Addr), SG (X.blk s H scope (compEnvC scope cl C X.env) fp) (ownA (own.map (·.2))) tg t) (ht : ∀ (s : Shared) (H : Hp) (C : Addr) (cl : List (Str × Addr)) (fp : List Addr), STs (X.blk s H scope (compEnvC scope cl C X.env) fp) ifs c)
    (he : ∀ (s : Shared) (H : Hp) (C : Addr) (cl : List (Str × Addr)) (fp : List Addr), SE (X.blk s H scope (compEnvC scope cl C X.env) fp) elt m) (hs : ∀ x, foldedSetIterable iter X.env x = pure x := by intro _; rfl) :
    SO X Wx (.ListComp elt [⟨tg, iter, ifs, 0⟩] scope pos) (mLcW (own.map (·.2)) mi t c m) := PE.imp (pe_lc (g := tG X.K X.mg (ownA (List.map (fun (x : Str × Nat) => x.2) own)) t) (tt := tT X.K X.mg c) (te := tE X.K X.mg m) hc hN hi ok hg ht he hs) fun σ H Q h => lcW_run h
end MV

namespace MV
open PySem L2
variable [TB]

/-! ### loops -/
def forRun (t : Tg) (b : S) : List D → Env → Option SR
  | [], e => some (.nx e)
  | d :: ds, e => (t d e).bind fun e1 => (b e1).bind fun r => match r with
    | .nx e2 => forRun t b ds e2
    | .ct e2 => forRun t b ds e2
    | .bk e2 => some (.nx e2)
    | .rt w e2 => some (.rt w e2)
    | .ex x e2 => some (.ex x e2)
def sFor (mi : M (List D)) (t : Tg) (b : S) : S := fun e => (mi e).bind fun x => forRun t b x.1 x.2
theorem for_run {K : PySem.W.Frag} {mg : Str → Option Value} {A : Nat → Bool} {Wx : WX} {mi : M (List D)} {t : Tg} {b : S} {Dd : Ends} {σ : L2.St} {H : Hp} (h : tS K mg A Wx (sFor mi t b) Dd σ H) : tFor (tI K mg mi) (tG K mg A t) (tS K mg A Wx b) Dd σ H := by
  obtain ⟨I, e, Fs, R, r, hm, k⟩ := h
  obtain ⟨⟨ds, e1⟩, h1, hm⟩ := Option.bind_eq_some_iff.mp hm
  refine ⟨I, e, Fs, R, ds, e1, h1, fun J I1 F1 H1 R1 x1 hJ => ?_⟩
  refine ⟨fun i n σc Hc => n = ds.length - i ∧ i ≤ ds.length ∧ ∃ I2 ec F2, Rel K mg I2 ec F2 σc Hc ∧ Ext Fs I H F2 I2 Hc ∧ Ex I1 I2 ∧ Agr A σ σc ∧ forRun t b (ds.drop i) ec = some r, ⟨ds.length, by simp, Nat.zero_le _, I1, e1, F1, R1, x1, Ex.refl _, Agr.refl, by rw [List.drop_zero]; exact hm⟩, ?_⟩
  rintro i n σc Hc ⟨rfl, hi, I2, ec, F2, R2, x2, ex2, ag, hrun⟩
  have it := hJ i I2 Hc ex2 R2.sub
  by_cases hlt : i < ds.length
  · refine .inr ?_
    obtain ⟨hgo, hy⟩ := it.1 _ (List.getElem?_eq_getElem hlt)
    refine ⟨hgo, fun σ' H' => ∃ I2 ec F2, Rel K mg I2 ec F2 σ' H' ∧ Ext Fs I H F2 I2 H' ∧ Ex I1 I2 ∧ Agr A σ σ' ∧ forRun t b (ds.drop (i + 1)) ec = some r, fun σ' H' h => ⟨ds.length - (i + 1), by omega, rfl, hlt, h⟩, fun v H3 hv => ?_⟩
    obtain ⟨I3, g3, r3⟩ := hy v H3 hv
    obtain ⟨R3, x3⟩ := g3.rel R2
    rw [List.drop_eq_getElem_cons hlt] at hrun
    simp only [forRun] at hrun
    obtain ⟨e4, h4, hrun⟩ := Option.bind_eq_some_iff.mp hrun
    obtain ⟨r5, h5, hrun⟩ := Option.bind_eq_some_iff.mp hrun
    refine ⟨I3, ec, F2, ds[i], R3, r3, e4, h4, fun σ4 F4 R4 m4 a4 _ => ⟨I3, e4, F4, R4, r5, h5, ?_⟩⟩
    have x4 : Ext F2 I3 H3 F4 I3 H3 := ⟨Gx.refl, fun a q => .inl (m4 a q)⟩
    have xs := (x2.trans x3).trans x4
    have ex3 := ex2.trans x3.g.ex
    have ag4 := ag.trans a4
    cases r5 with
    | nx e2 => exact fun σ' I' Fs' H' R' x' a' => ⟨I', e2, Fs', R', xs.trans x', ex3.trans x'.g.ex, ag4.trans a', hrun⟩
    | ct e2 => exact fun σ' I' Fs' H' R' x' a' => ⟨I', e2, Fs', R', xs.trans x', ex3.trans x'.g.ex, ag4.trans a', hrun⟩
    | bk e2 =>
      cases hrun
      exact k.from xs ag4
    | rt w e2 =>
      cases hrun
      exact k.from xs ag4
    | ex w e2 =>
      cases hrun
      exact k.from xs ag4
  · have hie : i = ds.length := by omega
    subst hie
    rw [List.drop_length] at hrun
    cases hrun
    exact .inl ⟨it.2 (Nat.le_refl _), k σc I2 F2 Hc R2 x2 ag⟩
def whRun (c : M Bool) (b : S) : Nat → Env → Option SR
  | 0, _ => none
  | n + 1, e => (c e).bind fun x => if x.1 = true then (b x.2).bind fun r => match r with
    | .nx e2 => whRun c b n e2
    | .ct e2 => whRun c b n e2
    | .bk e2 => some (.nx e2)
    | .rt w e2 => some (.rt w e2)
    | .ex x e2 => some (.ex x e2)
    else some (.nx x.2)
def sWh (n : Nat) (c : M Bool) (b : S) : S := whRun c b n
theorem wh_run {K : PySem.W.Frag} {mg : Str → Option Value} {A : Nat → Bool} {Wx : WX} {n : Nat} {c : M Bool} {b : S} {Dd : Ends} {σ : L2.St} {H : Hp} (h : tS K mg A Wx (sWh n c b) Dd σ H) : tWhile (tT K mg c) (tS K mg A Wx b) Dd σ H := by
  obtain ⟨I, e, Fs, R, r, hm, k⟩ := h
  refine ⟨fun i σc Hc => ∃ I2 ec F2, Rel K mg I2 ec F2 σc Hc ∧ Ext Fs I H F2 I2 Hc ∧ Agr A σ σc ∧ whRun c b i ec = some r, ⟨n, I, e, Fs, R, Ext.refl, Agr.refl, hm⟩, ?_⟩
  rintro i σc Hc ⟨I2, ec, F2, R2, x2, ag, hrun⟩
  cases i with
  | zero => cases hrun
  | succ i =>
    simp only [whRun] at hrun
    obtain ⟨⟨bb, e3⟩, h3, hrun⟩ := Option.bind_eq_some_iff.mp hrun
    refine ⟨I2, ec, F2, R2, bb, e3, h3, fun I3 F3 H3 R3 x3 => ?_⟩
    have xs := x2.trans x3
    cases bb with
    | false =>
      show Dd.nx σc H3
      rw [if_neg Bool.false_ne_true] at hrun
      cases hrun
      exact k σc I3 F3 H3 R3 xs ag
    | true =>
      rw [if_pos rfl] at hrun
      obtain ⟨r5, h5, hrun⟩ := Option.bind_eq_some_iff.mp hrun
      refine iteT ?_
      refine ⟨fun σ' H' => ∃ I2 ec F2, Rel K mg I2 ec F2 σ' H' ∧ Ext Fs I H F2 I2 H' ∧ Agr A σ σ' ∧ whRun c b i ec = some r, fun σ' H' h => ⟨i, Nat.lt_succ_self _, h⟩, I3, e3, F3, R3, r5, h5, ?_⟩
      cases r5 with
      | nx e2 => exact fun σ' I' Fs' H' R' x' a' => ⟨I', e2, Fs', R', xs.trans x', ag.trans a', hrun⟩
      | ct e2 => exact fun σ' I' Fs' H' R' x' a' => ⟨I', e2, Fs', R', xs.trans x', ag.trans a', hrun⟩
      | bk e2 =>
        cases hrun
        exact k.from xs ag
      | rt w e2 =>
        cases hrun
        exact k.from xs ag
      | ex w e2 =>
        cases hrun
        exact k.from xs ag
section
variable {X : Cx} {A : Nat → Bool} {Wx : WX} {tg iter c : Expr} {body : List Stmt} {mi : M (List D)} {t : Tg} {b : S} {mc : M Bool} {pos : Pos}
theorem ss_for (hp : PassesOwn (model X.prog X.w) X.A X.env X.xe) (hc : X.calm = true) (hi : SI X tg iter mi) (hg : SG X A tg t) (hb : SB X A Wx body b)
    (hs : ∀ x, foldedSetIterable iter X.env x = pure x := by intro _; rfl) : SS X A Wx (.For tg iter body [] pos) (sFor mi t b) := PS.imp (ps_for hp hc hi hg hb hs) fun D σ H h => for_run h
theorem ss_while {n : Nat} (hp : PassesOwn (model X.prog X.w) X.A X.env X.xe) (hc : ST X c mc) (hb : SB X A Wx body b) : SS X A Wx (.While c body [] pos) (sWh n mc b) := PS.imp (ps_while hp hc hb) fun D σ H h => wh_run h
end

/-! ### a def by its body -/
def outs : List Bool → Env → Env
  | [], _ => []
  | b :: bs, e => (if b = true then (e.head?).join else none) :: outs bs e.tail
def ioA (io : List Bool) : Nat → Bool := fun i => !(io.getD i false)
def fsem (n : Nat) (io : List Bool) (m : S) : FSem := fun ws => match m (ws.map some ++ List.replicate (n - ws.length) none) with
  | some (.nx e) => some (.p .none, outs io e)
  | some (.rt w e) => some (w, outs io e)
  | some (.ex x e) => some (.ex x, outs io e)
  | _ => none
section
variable {K : PySem.W.Frag} {mg : Str → Option Value} {I H : Hp} {e : Env} {Fs : Fp} {σ : L2.St}
theorem Rel.pad (R : Rel K mg I e Fs σ H) (k : Nat) : ∃ F', Rel K mg I (e ++ List.replicate k none) F' (σ ++ List.replicate k none) H ∧ ∀ a, MF F' a → MF Fs a := by
  refine ⟨fun i => if i < e.length then Fs i else [], ⟨R.sub, by simp [R.len], fun i w q => ?_, fun i => ?_, fun i j a h1 h2 => ?_, fun i a h => ?_, fun i a h => ?_, R.tb⟩, fun a ⟨i, h⟩ => ?_⟩
  · by_cases hi : i < e.length
    · rw [List.getElem?_append_left hi] at q
      rw [if_pos hi, List.getElem?_append_left (by rw [← R.len]; exact hi)]
      exact R.at_ i w q
    · rw [List.getElem?_append_right (by omega), List.getElem?_replicate] at q
      split at q <;> cases q
  · split
    · exact R.nd i
    · exact List.nodup_nil
  · split at h1
    · split at h2
      · exact R.dj i j a h1 h2
      · cases h2
    · cases h1
  · split at h
    · exact R.out i a h
    · cases h
  · split at h
    · exact R.live i a h
    · cases h
  · have h : a ∈ (if i < e.length then Fs i else []) := h
    split at h
    · exact ⟨i, h⟩
    · cases h
theorem outs_get : ∀ {io : List Bool} {e : Env} {i : Nat} {w : W}, (outs io e)[i]? = some (some w) → io[i]? = some true ∧ e[i]? = some (some w)
  | [], e, i, w, h => by simp [outs] at h
  | b :: bs, e, 0, w, h => by
    have h : some (if b = true then (e.head?).join else none) = some (some w) := by simpa [outs] using h
    cases b with
    | false => simp at h
    | true =>
      refine ⟨rfl, ?_⟩
      cases e with
      | nil => simp at h
      | cons x e => simpa using h
  | b :: bs, e, i + 1, w, h => by
    have h : (outs bs e.tail)[i]? = some (some w) := by simpa [outs] using h
    obtain ⟨h1, h2⟩ := outs_get h
    refine ⟨by simpa using h1, ?_⟩
    cases e with
    | nil => simp at h2
    | cons x e => simpa using h2
theorem outs_len : ∀ {io : List Bool} {e : Env}, (outs io e).length = io.length
  | [], e => rfl
  | b :: bs, e => by simp [outs, outs_len (io := bs)]
theorem Rel.outsR {io : List Bool} {τ : L2.St} (R : Rel K mg I e Fs σ H) (hl : io.length = τ.length) (h : ∀ i : Nat, io[i]? = some true → σ[i]? = τ[i]?) : ∃ Fo, Rel K mg I (outs io e) Fo τ H ∧ ∀ a, MF Fo a → MF Fs a := by
  refine ⟨fun (i : Nat) => if io[i]? = some true then Fs i else [], ⟨R.sub, by rw [outs_len, hl], fun i w q => ?_, fun i => ?_, fun i j a h1 h2 => ?_, fun i a h => ?_, fun i a h => ?_, R.tb⟩, fun a ⟨i, h⟩ => ?_⟩
  · obtain ⟨h1, h2⟩ := outs_get q
    rw [if_pos h1, ← h i h1]
    exact R.at_ i w h2
  · split
    · exact R.nd i
    · exact List.nodup_nil
  · split at h1
    · split at h2
      · exact R.dj i j a h1 h2
      · cases h2
    · cases h1
  · split at h
    · exact R.out i a h
    · cases h
  · split at h
    · exact R.live i a h
    · cases h
  · have h : a ∈ (if io[i]? = some true then Fs i else []) := h
    split at h
    · exact ⟨i, h⟩
    · cases h
end
theorem fsem_run {K : PySem.W.Frag} {mg : Str → Option Value} {N : List Str} {n : Nat} {io : List Bool} {m : S} {vs : List V} {H : Hp} {Q : VK} {E : XK} (hio : io.length = n) (hn : n ≤ N.length) (h : spF K mg n (fsem N.length io m) vs H Q E) :
    tS K mg (ioA io) (fun c d _ H' => E c d H') m { nx := fun _ H' => Q .non H', rt := Q } (L2.start N vs) H := by
  obtain ⟨I, ws, Fa, hl, R, w, oe, hf, k, kx⟩ := h
  have hvl : vs.length = n := by have := R.len; simp at this; omega
  obtain ⟨F1, R1, m1⟩ := R.pad (N.length - vs.length)
  have es : L2.start N vs = vs.map some ++ List.replicate (N.length - vs.length) none := rfl
  rw [es]
  have x0 : Ext Fa I H F1 I H := ⟨Gx.refl, fun a q => .inl (m1 a q)⟩
  unfold fsem at hf
  rw [show N.length - ws.length = N.length - vs.length by omega] at hf
  have keep : ∀ σ' : L2.St, Agr (ioA io) (vs.map some ++ List.replicate (N.length - vs.length) none) σ' → ∀ i : Nat, io[i]? = some true → σ'[i]? = (vs.map some)[i]? := fun σ' ag i hi => by
    have hlt : i < vs.length := by
      have := (List.getElem?_eq_some_iff.mp hi).1
      omega
    rw [ag i (by simp [ioA, List.getD, hi]), List.getElem?_append_left (by simpa using hlt)]
  split at hf
  · rename_i e' hr
    cases hf
    refine ⟨I, _, F1, R1, .nx e', hr, fun σ' I' Fs' H' R' x' ag => ?_⟩
    obtain ⟨Fo, Ro', mo⟩ := R'.outsR (io := io) (τ := vs.map some) (by simp; omega) (keep σ' ag)
    have xx := x0.trans x'
    exact k .non I' Fo H' [] Ro' ⟨⟨xx.g.ex, fun a u q mm nt => xx.g.fr a u q (fun z => mm z) nt, xx.g.new, xx.g.tb, fun a ps q mm => xx.g.tl a ps q fun z => mm z⟩, fun a q => xx.fp a (mo a q)⟩ (.pure (by simp only [Rp])) fun _ z => by cases z
  · rename_i w' e' hr
    cases hf
    refine ⟨I, _, F1, R1, .rt w e', hr, fun v σ' I' Fs' H' F R' x' ag o hF => ?_⟩
    obtain ⟨Fo, Ro', mo⟩ := R'.outsR (io := io) (τ := vs.map some) (by simp; omega) (keep σ' ag)
    have xx := x0.trans x'
    refine k v I' Fo H' F Ro' ⟨⟨xx.g.ex, fun a u q mm nt => xx.g.fr a u q (fun z => mm z) nt, xx.g.new, xx.g.tb, fun a ps q mm => xx.g.tl a ps q fun z => mm z⟩, fun a q => xx.fp a (mo a q)⟩ ⟨o.ro, o.nd, o.out, fun a ha q => o.dj a ha (mo a q)⟩ fun a ha => ?_
    rcases hF a ha with z | z
    · exact .inl (m1 a z)
    · exact .inr z
  · rename_i y e' hr
    cases hf
    refine ⟨I, _, F1, R1, .ex y e', hr, fun cls d σ' I' Fs' H' R' x' ag xr => ?_⟩
    obtain ⟨Fo, Ro', mo⟩ := R'.outsR (io := io) (τ := vs.map some) (by simp; omega) (keep σ' ag)
    have xx := x0.trans x'
    exact kx y rfl cls d I' Fo H' Ro' ⟨⟨xx.g.ex, fun a u q mm nt => xx.g.fr a u q (fun z => mm z) nt, xx.g.new, xx.g.tb, fun a ps q mm => xx.g.tl a ps q fun z => mm z⟩, fun a q => xx.fp a (mo a q)⟩ xr
  · cases hf
theorem takesN0 {X : Cx} : L2N.Takes X (fun _ _ _ _ => False) := fun _ _ ⟨_, _, _, _, _, _, _, _, _, _, _, _, _, _, _, _, z⟩ => z.elim
/-- where one stands: what is raised is taken, loops let it pass -/
structure Ctz (X : Cx) (Wx : WX) : Prop where
  tk : L2N.Takes X Wx
  po : PassesOwn (model X.prog X.w) X.A X.env X.xe
abbrev WB (E : XK) : WX := fun c d _ H' => E c d H'
theorem Ctz.body {P : Program} {w : World} {K : PySem.W.Frag} {mg : Str → Option Value} {base : Heap} {N : List Str} {qual : Str} {scope : Scope} {f : Addr} {cdv : Value} {A : Around} {outer : List PySem.Env} {s : Shared} {H : Hp} {E : XK} : Ctz (cxOf (L2N.CX P w) P w K mg base N qual scope f cdv A outer s H E) (WB E) :=
  ⟨L2N.takes_of rfl rfl rfl rfl, passes_of rfl⟩
section
variable {P : Program} {w : World} {K : PySem.W.Frag} {mg : Str → Option Value} {base : Heap}
theorem fn_sem {x qual : Str} {params : Arguments} {body : List Stmt} {scope : Scope} {dvs : List V} {kws : List (Str × V)} {f : Addr} {fd : FuncData} {N ps : List Str} {k : Nat} {io : List Bool} {m : S} (F : FunD K x qual params body scope dvs kws f fd) (Sc : FnScope N ps scope) (hio : io.length = ps.length)
    (hb : ∀ (cdv : Value) (A : Around) (outer : List PySem.Env) (s : Shared) (H : Hp) (E : XK), Room k (A.deeper (PyProof.Rows.envOfC qual scope s.heap.objs.size f cdv)) → Ctz (cxOf (L2N.CX P w) P w K mg base N qual scope f cdv A outer s H E) (WB E) → SB (cxOf (L2N.CX P w) P w K mg base N qual scope f cdv A outer s H E) (ioA io) (WB E) body m) :
    FnOk P w K mg base (L2N.CX P w) (k + 1) f fd ps (spF K mg ps.length (fsem N.length io m)) := by
  have hpl : ps.length ≤ N.length := by have := congrArg List.length Sc.pre; rw [List.length_take] at this; omega
  refine F.ok Sc (fun vs H Q E h => spF_len h) fun cdv A outer s H vs Q E hr h => ?_
  exact ⟨tS K mg (ioA io) (WB E) m, hb cdv A outer s H E hr Ctz.body, fsem_run hio hpl h⟩
end
section
variable {X : Cx} {Wx : WX} {k : Nat} {f C : Addr} {fd : FuncData} {ps : List Str} {n : Nat} {g : FSem} {x mth : Str} {p pos apos : Pos} {a o : Expr} {es : List Expr} {ma : M (List Arg)}
/-- f(a, ..) -/
theorem so_call (tk : L2N.Takes X Wx) (F : FnOk X.prog X.w X.K X.mg X.base (L2N.CX X.prog X.w) k f fd ps (spF X.K X.mg n g)) (hr : Room k X.A) (hg : Gl X x) (hm : X.mg x = some (.ref f)) (hk : PySem.W.keepIn X.K (.ref f) = true) (hb : Binds X.K fd ps [])
    (ha : SA X (a :: es) ma) (hn : ∀ as e e', ma e = some (as, e') → as.length = n) (hdb : (x == ("__debug__" : Str)) = false := by decide) (he : starEach (a :: es) X.env = (false, eval a X.env) :: starEach es X.env := by rfl) (hpl : (backTo pos (starEach es X.env)).any (·.1) = false := by rfl) :
    SO X Wx (.Call (.Name x p) (a :: es) [] pos) (mCall g ma) := PE.imp (pe_callS (E := WE Wx) F hr hg hm hk hb (L2N.passAt tk) ha hdb he hpl) fun σ H Q h => call_step hn h
end
theorem len_nil : ∀ (as : List Arg) (e e' : Env), aNil e = some (as, e') → as.length = 0 := fun as e e' h => by cases h; rfl
theorem len_d {m : M D} {r : M (List Arg)} {n : Nat} (hr : ∀ (as : List Arg) (e e' : Env), r e = some (as, e') → as.length = n) : ∀ (as : List Arg) (e e' : Env), aD m r e = some (as, e') → as.length = n + 1 := fun as e e' h => by
  obtain ⟨⟨x, e1⟩, h1, h⟩ := Option.bind_eq_some_iff.mp h
  obtain ⟨⟨y, e2⟩, h2, h⟩ := Option.map_eq_some_iff.mp h
  cases h
  rw [List.length_cons, hr _ _ _ h2]
theorem len_io {i : Nat} {r : M (List Arg)} {n : Nat} (hr : ∀ (as : List Arg) (e e' : Env), r e = some (as, e') → as.length = n) : ∀ (as : List Arg) (e e' : Env), aIO i r e = some (as, e') → as.length = n + 1 := fun as e e' h => by
  unfold aIO at h
  split at h
  · obtain ⟨⟨y, e2⟩, h2, h⟩ := Option.map_eq_some_iff.mp h
    cases h
    rw [List.length_cons, hr _ _ _ h2]
  · cases h
end MV

namespace MV
open PySem L2
variable [TB]

def LIM : Nat := 1000000
theorem lim_le {n : Nat} (h : n ≤ LIM) : n ≤ sizeLine := Nat.le_trans h (by rw [sizeLine_eq]; decide)
theorem lim_lt {n : Nat} (h : n < LIM) : n < sizeLine := Nat.lt_of_lt_of_le h (by rw [sizeLine_eq]; decide)
section
variable {K : PySem.W.Frag} {mg : Str → Option Value} {I H : Hp}
theorem sub_none {p : Addr} (s : Ex I H) (h : H p = none) : I p = none := by
  cases q : I p with
  | none => rfl
  | some u => rw [s p u q] at h; cases h
theorem Rp.new {p : Addr} {o : HO} {d : D} {v : V} (s : Ex I H) (h : H p = none) (r : Rp K mg I d v) : Rp K mg (upd I p o) d v := r.mono (Ex.new (sub_none s h)) _ _
theorem RpL.new {p : Addr} {o : HO} {ds : List D} {xs : List V} (s : Ex I H) (h : H p = none) (r : RpL K mg I ds xs) : RpL K mg (upd I p o) ds xs := r.mono (Ex.new (sub_none s h)) _ _
theorem rp_lst {p : Addr} {ds : List D} {xs : List V} (s : Ex I H) (h : H p = none) (r : RpL K mg I ds xs) : Rp K mg (upd I p (.lst xs)) (.lst ds) (.ref p) := by
  simp only [Rp]; exact ⟨p, xs, rfl, upd_same, r.new s h⟩
theorem rp_tup {p : Addr} {ds : List D} {xs : List V} (s : Ex I H) (h : H p = none) (r : RpL K mg I ds xs) : Rp K mg (upd I p (.tup xs)) (.tup ds) (.ref p) := by
  simp only [Rp]; exact ⟨p, xs, rfl, .inl (.inl upd_same), r.new s h⟩
theorem rp_int {i : Int} : Rp K mg I (.int i) (.int i) := by unfold Rp; rfl
theorem rp_bool {i : Bool} : Rp K mg I (.bool i) (.bl i) := by unfold Rp; rfl
theorem rp_str {i : Str} : Rp K mg I (.str i) (.str i) := by unfold Rp; rfl
theorem rp_none : Rp K mg I .none .non := by unfold Rp; rfl

/-! ### arithmetic -/
def dAdd : D → D → Option D
  | .int i, .int j => some (.int (i + j))
  | .str a, .str b => if a.length + b.length ≤ LIM then some (.str (a ++ b)) else none
  | .lst a, .lst b => if a.length + b.length ≤ LIM then some (.lst (a ++ b)) else none
  | .tup a, .tup b => if a.length + b.length ≤ LIM then some (.tup (a ++ b)) else none
  | _, _ => none
def rAddS : R2 := fun x y H Q => ∃ i j, x = .str i ∧ y = .str j ∧ i.length + j.length ≤ sizeLine ∧ Q (.str (i ++ j)) H
def rAddD (K : PySem.W.Frag) : R2 := fun x y H Q => rI0 (fun i j => .int (i + j)) x y H Q ∨ rAddS x y H Q ∨ rCat x y H Q ∨ rCatA K x y H Q
theorem op_addD {X : Cx} : OpR X (binaryOp .Add) (rAddD X.K) := op_add.or (OpR.or (r := rAddS) op_add_str (op_cat.or op_catA))
theorem od_add : OpD K mg (rAddD K) dAdd := by
  intro I H x y z v u Q s rx ry e k
  unfold dAdd at e
  split at e
  · cases e
    simp only [Rp] at rx ry
    subst rx ry
    exact .inl ⟨_, _, rfl, rfl, k _ I H .same rp_int⟩
  · split at e
    · rename_i hz
      cases e
      simp only [Rp] at rx ry
      subst rx ry
      exact .inr (.inl ⟨_, _, rfl, rfl, lim_le hz, k _ I H .same rp_str⟩)
    · cases e
  · split at e
    · rename_i hz
      cases e
      simp only [Rp] at rx ry
      obtain ⟨a, xs, rfl, h1, h2⟩ := rx
      obtain ⟨b, ys, rfl, h3, h4⟩ := ry
      refine .inr (.inr (.inl ⟨a, b, xs, ys, rfl, rfl, s _ _ h1, s _ _ h3, by rw [← h2.length, ← h4.length]; exact lim_le hz, fun p hp => ?_⟩))
      exact k _ _ _ (.new p _ hp) (rp_lst s hp (h2.append h4))
    · cases e
  · split at e
    · rename_i xs0 ys0 hz
      cases e
      have rx' := rx
      have ry' := ry
      simp only [Rp] at rx ry
      obtain ⟨a, xs, rfl, h1, h2⟩ := rx
      obtain ⟨b, ys, rfl, h3, h4⟩ := ry
      refine .inr (.inr (.inr ⟨a, b, xs, ys, rfl, rfl, ex_t s h1, ex_t s h3, by rw [← h2.length, ← h4.length]; exact lim_le hz, fun hx => ?_, fun _ hy => ?_, fun _ _ p hp => ?_⟩))
      · subst hx
        have e0 := h2.length
        cases xs0 with
        | nil => exact k _ I H .same (by simpa using ry')
        | cons d ds => simp at e0
      · subst hy
        have e0 := h4.length
        cases ys0 with
        | nil => exact k _ I H .same (by simpa using rx')
        | cons d ds => simp at e0
      · exact k _ _ _ (.new p _ hp) (rp_tup s hp (h2.append h4))
    · cases e
  · cases e
/-- ints in, a value out -/
def dI (f : Int → Int → Option D) : D → D → Option D
  | .int i, .int j => f i j
  | _, _ => none
theorem od_I0 {g : Int → Int → V} {f : Int → Int → D} (h : ∀ i j I, Rp K mg I (f i j) (g i j)) : OpD K mg (rI0 g) (dI fun i j => some (f i j)) := by
  intro I H x y z v u Q s rx ry e k
  unfold dI at e
  split at e
  · cases e
    simp only [Rp] at rx ry
    subst rx ry
    exact ⟨_, _, rfl, rfl, k _ I H .same (h _ _ _)⟩
  · cases e
theorem od_I {C : Int → Int → Prop} [∀ i j, Decidable (C i j)] {g : Int → Int → V} {f : Int → Int → D} (h : ∀ i j I, Rp K mg I (f i j) (g i j)) : OpD K mg (rI C g) (dI fun i j => if C i j then some (f i j) else none) := by
  intro I H x y z v u Q s rx ry e k
  unfold dI at e
  split at e
  · rename_i i j
    have e : (if C i j then some (f i j) else none) = some z := e
    split at e
    · rename_i hc
      cases e
      simp only [Rp] at rx ry
      subst rx ry
      exact ⟨_, _, rfl, rfl, hc, k _ I H .same (h _ _ _)⟩
    · cases e
  · cases e
instance (i j : Int) : Decidable (CMul i j) := by unfold CMul; exact inferInstance
instance (i j : Int) : Decidable (CDiv i j) := by unfold CDiv; exact inferInstance
instance (i j : Int) : Decidable (CPow i j) := by unfold CPow; exact inferInstance
abbrev dSub : D → D → Option D := dI fun i j => some (.int (i - j))
theorem od_sub : OpD K mg (rI0 fun i j => .int (i - j)) dSub := od_I0 fun _ _ _ => rp_int
abbrev dMod : D → D → Option D := dI fun i j => if 0 < j then some (.int (i % j)) else none
theorem od_mod : OpD K mg (rI (fun _ j => 0 < j) fun i j => .int (i % j)) dMod := od_I (C := fun _ j => 0 < j) fun _ _ _ => rp_int
abbrev dDiv : D → D → Option D := dI fun i j => if CDiv i j then some (.int (i / j)) else none
theorem od_div : OpD K mg (rI CDiv fun i j => .int (i / j)) dDiv := od_I fun _ _ _ => rp_int
abbrev dPow : D → D → Option D := dI fun i j => if CPow i j then some (.int (i ^ j.toNat)) else none
theorem od_pow : OpD K mg (rI CPow fun i j => .int (i ^ j.toNat)) dPow := od_I fun _ _ _ => rp_int
abbrev dLt : D → D → Option D := dI fun i j => some (.bool (decide (i < j)))
theorem od_lt : OpD K mg (rI0 fun i j => .bl (decide (i < j))) dLt := od_I0 fun _ _ _ => rp_bool
abbrev dLe : D → D → Option D := dI fun i j => some (.bool (decide (i ≤ j)))
theorem od_le : OpD K mg (rI0 fun i j => .bl (decide (i ≤ j))) dLe := od_I0 fun _ _ _ => rp_bool
abbrev dGt : D → D → Option D := dI fun i j => some (.bool (decide (j < i)))
theorem od_gt : OpD K mg (rI0 fun i j => .bl (decide (j < i))) dGt := od_I0 fun _ _ _ => rp_bool
abbrev dGe : D → D → Option D := dI fun i j => some (.bool (decide (j ≤ i)))
theorem od_ge : OpD K mg (rI0 fun i j => .bl (decide (j ≤ i))) dGe := od_I0 fun _ _ _ => rp_bool
/-- a text times a number -/
def repS (x : Str) (n : Int) : Str := Txt.mul x n
def dMul : D → D → Option D
  | .int i, .int j => if CMul i j then some (.int (i * j)) else none
  | .str x, .int j => if 0 ≤ j ∧ x.length * j.toNat ≤ LIM ∧ x.length ≤ LIM ∧ j ≤ 1000000 then some (.str (Txt.mul x j)) else none
  | .lst ds, .int j => if 0 ≤ j ∧ ds.length * j.toNat ≤ LIM ∧ j ≤ 1000000 then some (.lst (List.replicate j.toNat ds).flatten) else none
  | _, _ => none
def rMulS : R2 := fun x y H Q => ∃ i j, x = .str i ∧ y = .int j ∧ MulOk i j ∧ Q (.str (Txt.mul i j)) H
theorem op_mulS {X : Cx} : OpR X (binaryOp .Mult) rMulS := by
  intro pins s σ H x y v u Q I rx ry h
  obtain ⟨i, j, rfl, rfl, hz, q⟩ := h
  obtain ⟨t, rfl⟩ := rx
  obtain ⟨t', rfl⟩ := ry
  exact SB.mul hz fun t' k => ⟨.str _, H, I.tok k, ⟨_, rfl⟩, q⟩
def rMulD : R2 := fun x y H Q => rI CMul (fun i j => .int (i * j)) x y H Q ∨ rMulS x y H Q ∨ rRep x y H Q
theorem op_mulD {X : Cx} : OpR X (binaryOp .Mult) rMulD := op_mul.or (op_mulS.or op_rep)
theorem RpL.rep {ds : List D} {xs : List V} (h : RpL K mg I ds xs) : ∀ k : Nat, RpL K mg I (List.replicate k ds).flatten (List.replicate k xs).flatten
  | 0 => RpL.nil
  | k + 1 => by
    rw [List.replicate_succ, List.flatten_cons, List.replicate_succ, List.flatten_cons]
    exact h.append (RpL.rep h k)
theorem od_mul : OpD K mg rMulD dMul := by
  intro I H x y z v u Q s rx ry e k
  unfold dMul at e
  split at e
  · split at e
    · rename_i hc
      cases e
      simp only [Rp] at rx ry
      subst rx ry
      exact .inl ⟨_, _, rfl, rfl, hc, k _ I H .same rp_int⟩
    · cases e
  · rename_i x0 j
    split at e
    · rename_i hc
      cases e
      simp only [Rp] at rx ry
      subst rx ry
      obtain ⟨h0, h1, h2, h3⟩ := hc
      refine .inr (.inl ⟨_, _, rfl, rfl, ⟨by simp; omega, fun hn _ => ?_, fun hn _ => ?_⟩, k _ I H .same rp_str⟩)
      · have hj : 0 < j := by omega
        have h4 : (x0.length : Int) * j ≤ 1000000 := by
          have : ((x0.length * j.toNat : Nat) : Int) ≤ 1000000 := by
            have := h1; unfold LIM at this; omega
          rw [Int.natCast_mul] at this
          rwa [Int.toNat_of_nonneg h0] at this
        intro hgt
        have h5 : (x0.length : Int) ≤ (2 ^ 63 - 1) / j := (Int.le_ediv_iff_mul_le hj).mpr (by omega)
        omega
      · have := lim_le h1
        rw [sizeLine_eq] at this
        unfold LIM at h1
        unfold Builtin.Str.tooLong
        simp
        rw [sizeLine_eq]
        omega
    · cases e
  · split at e
    · rename_i hc
      cases e
      simp only [Rp] at rx ry
      obtain ⟨a, xs, rfl, h1, h2⟩ := rx
      subst ry
      refine .inr (.inr ⟨a, _, xs, rfl, rfl, s _ _ h1, by omega, by omega, by rw [← h2.length]; exact lim_le hc.2.1, fun p hp => ?_⟩)
      exact k _ _ _ (.new p _ hp) (rp_lst s hp (h2.rep _))
    · cases e
  · cases e
def dNeg : D → Option D
  | .int i => some (.int (-i))
  | _ => none
theorem ud_neg : UnD K mg (rU fun i => .int (-i)) dNeg := by
  intro I H x z v Q s rx e k
  unfold dNeg at e
  split at e
  · cases e
    simp only [Rp] at rx
    subst rx
    exact ⟨_, rfl, k _ I H .same rp_int⟩
  · cases e

/-! ### == -/
mutual
def toPy : D → Option PyData
  | .none => some .none
  | .bool b => some (.bool b)
  | .int i => some (.int i)
  | .str x => some (.str x)
  | .lst ds => (toPys ds).map .list
  | .fl ds => (toPys ds).map .list
  | .tup ds => (toPys ds).map .tuple
  | .ft ds => (toPys ds).map .tuple
  | _ => none
def toPys : List D → Option (List PyData)
  | [] => some []
  | d :: ds => (toPy d).bind fun x => (toPys ds).map (x :: ·)
end
mutual
theorem toPy_dp (s : Ex I H) : ∀ (d : D) (v : V) (p : PyData), Rp K mg I d v → toPy d = some p → Dp K H v p
  | .none, v, p, h, e => by simp only [Rp] at h; subst h; cases e; exact .non
  | .bool b, v, p, h, e => by simp only [Rp] at h; subst h; cases e; exact .bl b
  | .int b, v, p, h, e => by simp only [Rp] at h; subst h; cases e; exact .int b
  | .str b, v, p, h, e => by simp only [Rp] at h; subst h; cases e; exact .str b
  | .lst ds, v, p, h, e => by
    simp only [Rp] at h
    obtain ⟨a, xs, rfl, h1, h2⟩ := h
    obtain ⟨q, e1, rfl⟩ := Option.map_eq_some_iff.mp (show (toPys ds).map .list = some p from e)
    exact .lst (.of (s _ _ h1)) (toPys_dp s ds xs q h2 e1)
  | .fl ds, v, p, h, e => by
    simp only [Rp] at h
    obtain ⟨a, xs, rfl, h1, h2⟩ := h
    obtain ⟨q, e1, rfl⟩ := Option.map_eq_some_iff.mp (show (toPys ds).map .list = some p from e)
    exact .lst (ex_l s h1) (toPys_dp s ds xs q h2 e1)
  | .tup ds, v, p, h, e => by
    simp only [Rp] at h
    obtain ⟨a, xs, rfl, h1, h2⟩ := h
    obtain ⟨q, e1, rfl⟩ := Option.map_eq_some_iff.mp (show (toPys ds).map .tuple = some p from e)
    exact .tup (ex_t s h1) (toPys_dp s ds xs q h2 e1)
  | .ft ds, v, p, h, e => by
    simp only [Rp] at h
    obtain ⟨a, o, xs, rfl, h1, _, _, h2⟩ := h
    obtain ⟨q, e1, rfl⟩ := Option.map_eq_some_iff.mp (show (toPys ds).map .tuple = some p from e)
    exact .tup (.inl (.inr ⟨o, s _ _ h1⟩)) (toPys_dp s ds xs q h2 e1)
  | .dict _, v, p, h, e => by cases e
  | .inst _ _, v, p, h, e => by cases e
  | .exc _ _ _ _, v, p, h, e => by cases e
theorem toPys_dp (s : Ex I H) : ∀ (ds : List D) (xs : List V) (ps : List PyData), RpL K mg I ds xs → toPys ds = some ps → DpAll K H xs ps
  | [], xs, ps, h, e => by simp only [RpL] at h; subst h; cases e; exact .nil
  | d :: ds, xs, ps, h, e => by
    simp only [RpL] at h
    obtain ⟨x, r, rfl, h1, h2⟩ := h
    obtain ⟨p, e1, e2⟩ := Option.bind_eq_some_iff.mp (show ((toPy d).bind fun x => (toPys ds).map (x :: ·)) = some ps from e)
    obtain ⟨q, e3, rfl⟩ := Option.map_eq_some_iff.mp e2
    exact .cons (toPy_dp s d x p h1 e1) (toPys_dp s ds r q h2 e3)
end
def eqDeep (x y : D) : Option Bool := (toPy x).bind fun p => (toPy y).bind fun q => if (SeqAt.shaped p && SeqAt.shaped q) = true then some (PyData.eqv p q) else none
def eqB : D → D → Option Bool
  | .int i, .int j => some (decide (i = j))
  | .str i, .str j => some (decide (i = j))
  | .bool i, .bool j => some (decide (i = j))
  | x, y => eqDeep x y
def dEq (x y : D) : Option D := (eqB x y).map .bool
def dNe (x y : D) : Option D := (eqB x y).map fun b => .bool !b
def rEq2 (K : PySem.W.Frag) : R2 := fun x y H Q => rEq x y H Q ∨ rEqD K x y H Q
def rNe2 (K : PySem.W.Frag) : R2 := fun x y H Q => rNe x y H Q ∨ rNeD K x y H Q
theorem op_eq2 {X : Cx} (hu : X.A.units + 64 < cLine) : OpR X (compareOp .Eq) (rEq2 X.K) := op_eq.or (op_eqD hu)
theorem op_ne2 {X : Cx} (hu : X.A.units + 64 < cLine) : OpR X (compareOp .NotEq) (rNe2 X.K) := op_ne.or (op_neD hu)
theorem od_eq : OpD K mg (rEq2 K) dEq := by
  intro I H x y z v u Q s rx ry e k
  obtain ⟨b, e', rfl⟩ := Option.map_eq_some_iff.mp e
  clear e
  have e := e'
  clear e'
  unfold eqB at e
  split at e
  · cases e
    simp only [Rp] at rx ry
    subst rx ry
    exact .inl ⟨rfl, by rw [dec_int, Bool.beq_eq_decide_eq]; exact k _ I H .same rp_bool⟩
  · cases e
    simp only [Rp] at rx ry
    subst rx ry
    exact .inl ⟨rfl, by rw [dec_str, Bool.beq_eq_decide_eq]; exact k _ I H .same rp_bool⟩
  · cases e
    simp only [Rp] at rx ry
    subst rx ry
    exact .inl ⟨rfl, by rw [dec_bl, Bool.beq_eq_decide_eq]; exact k _ I H .same rp_bool⟩
  · unfold eqDeep at e
    obtain ⟨p, e1, e⟩ := Option.bind_eq_some_iff.mp e
    obtain ⟨q, e2, e⟩ := Option.bind_eq_some_iff.mp e
    split at e
    · rename_i hs
      cases e
      rw [Bool.and_eq_true] at hs
      exact .inr ⟨p, q, toPy_dp s _ _ _ rx e1, toPy_dp s _ _ _ ry e2, hs.1, hs.2, k _ I H .same rp_bool⟩
    · cases e
theorem od_ne : OpD K mg (rNe2 K) dNe := by
  intro I H x y z v u Q s rx ry e k
  obtain ⟨b, e', rfl⟩ := Option.map_eq_some_iff.mp e
  clear e
  have e := e'
  clear e'
  unfold eqB at e
  split at e
  · cases e
    simp only [Rp] at rx ry
    subst rx ry
    exact .inl ⟨rfl, by rw [dec_int, Bool.beq_eq_decide_eq]; exact k _ I H .same rp_bool⟩
  · cases e
    simp only [Rp] at rx ry
    subst rx ry
    exact .inl ⟨rfl, by rw [dec_str, Bool.beq_eq_decide_eq]; exact k _ I H .same rp_bool⟩
  · cases e
    simp only [Rp] at rx ry
    subst rx ry
    exact .inl ⟨rfl, by rw [dec_bl, Bool.beq_eq_decide_eq]; exact k _ I H .same rp_bool⟩
  · unfold eqDeep at e
    obtain ⟨p, e1, e⟩ := Option.bind_eq_some_iff.mp e
    obtain ⟨q, e2, e⟩ := Option.bind_eq_some_iff.mp e
    split at e
    · rename_i hs
      cases e
      rw [Bool.and_eq_true] at hs
      exact .inr ⟨p, q, toPy_dp s _ _ _ rx e1, toPy_dp s _ _ _ ry e2, hs.1, hs.2, k _ I H .same rp_bool⟩
    · cases e

/-! ### is None, in -/
def isNone : D → Bool
  | .none => true
  | _ => false
theorem isNone_v {d : D} {v : V} (h : Rp K mg I d v) : decide (v = .non) = isNone d := by
  cases d with
  | none => simp only [Rp] at h; subst h; rfl
  | bool b => simp only [Rp] at h; subst h; rfl
  | int b => simp only [Rp] at h; subst h; rfl
  | str b => simp only [Rp] at h; subst h; rfl
  | lst b => simp only [Rp] at h; obtain ⟨a, _, rfl, _⟩ := h; rfl
  | fl b => simp only [Rp] at h; obtain ⟨a, _, rfl, _⟩ := h; rfl
  | tup b => simp only [Rp] at h; obtain ⟨a, _, rfl, _⟩ := h; rfl
  | ft b => simp only [Rp] at h; obtain ⟨a, _, _, rfl, _⟩ := h; rfl
  | dict b => simp only [Rp] at h; obtain ⟨a, _, _, rfl, _⟩ := h; rfl
  | inst c b => simp only [Rp] at h; obtain ⟨a, _, _, _, rfl, _⟩ := h; rfl
  | exc a dx c gs => simp only [Rp] at h; obtain ⟨rfl, _⟩ := h; rfl
def dIsN (x y : D) : Option D := if isNone y = true then some (.bool (isNone x)) else none
def dNotN (x y : D) : Option D := if isNone y = true then some (.bool (!isNone x)) else none
def rIsN : R2 := fun x y H Q => y = .non ∧ Q (.bl (decide (x = .non))) H
def rNotN : R2 := fun x y H Q => y = .non ∧ Q (.bl (!decide (x = .non))) H
theorem op_isN1 {X : Cx} : OpR X (compareOp .Is) rIsN := op_isN
theorem op_notN1 {X : Cx} : OpR X (compareOp .IsNot) rNotN := op_notN
theorem od_isN : OpD K mg rIsN dIsN := by
  intro I H x y z v u Q s rx ry e k
  unfold dIsN at e
  split at e
  · rename_i hn
    cases e
    refine ⟨of_decide_eq_true ((isNone_v ry).trans hn), ?_⟩
    rw [isNone_v rx]
    exact k _ I H .same rp_bool
  · cases e
theorem od_notN : OpD K mg rNotN dNotN := by
  intro I H x y z v u Q s rx ry e k
  unfold dNotN at e
  split at e
  · rename_i hn
    cases e
    refine ⟨of_decide_eq_true ((isNone_v ry).trans hn), ?_⟩
    rw [isNone_v rx]
    exact k _ I H .same rp_bool
  · cases e
def flatD : D → Bool
  | .none => true
  | .bool _ => true
  | .int _ => true
  | .str _ => true
  | _ => false
def eqF : D → D → Bool
  | .none, .none => true
  | .bool a, .bool b => a == b
  | .bool a, .int b => (if a then 1 else 0) == b
  | .int a, .bool b => a == (if b then 1 else 0)
  | .int a, .int b => a == b
  | .str a, .str b => a == b
  | _, _ => false
theorem flat_v {d : D} {v : V} (h : Rp K mg I d v) (f : flatD d = true) : flatV v = true := by
  cases d with
  | none => simp only [Rp] at h; subst h; rfl
  | bool b => simp only [Rp] at h; subst h; rfl
  | int b => simp only [Rp] at h; subst h; rfl
  | str b => simp only [Rp] at h; subst h; rfl
  | _ => cases f
theorem eqF_v {d e : D} {v u : V} (h : Rp K mg I d v) (h' : Rp K mg I e u) (f : flatD d = true) (f' : flatD e = true) : eqV v u = eqF d e := by
  cases d with
  | none =>
    simp only [Rp] at h; subst h
    cases e <;> first | (simp only [Rp] at h'; subst h'; rfl) | cases f'
  | bool b =>
    simp only [Rp] at h; subst h
    cases e <;> first | (simp only [Rp] at h'; subst h'; rfl) | cases f'
  | int b =>
    simp only [Rp] at h; subst h
    cases e <;> first | (simp only [Rp] at h'; subst h'; rfl) | cases f'
  | str b =>
    simp only [Rp] at h; subst h
    cases e <;> first | (simp only [Rp] at h'; subst h'; rfl) | cases f'
  | _ => cases f
theorem flats_v : ∀ {ds : List D} {xs : List V}, RpL K mg I ds xs → ds.all flatD = true → xs.all flatV = true
  | [], xs, h, f => by simp only [RpL] at h; subst h; rfl
  | d :: ds, xs, h, f => by
    simp only [RpL] at h
    obtain ⟨x, r, rfl, h1, h2⟩ := h
    rw [List.all_cons, Bool.and_eq_true] at f ⊢
    exact ⟨flat_v h1 f.1, flats_v h2 f.2⟩
theorem inF_v {dd : D} {vv : V} (h : Rp K mg I dd vv) (f0 : flatD dd = true) : ∀ {ds : List D} {xs : List V}, RpL K mg I ds xs → ds.all flatD = true → inV vv xs = ds.any fun y => eqF y dd
  | [], xs, h, f => by simp only [RpL] at h; subst h; rfl
  | d :: ds, xs, h, f => by
    simp only [RpL] at h
    obtain ⟨x, r, rfl, h1, h2⟩ := h
    rw [List.all_cons, Bool.and_eq_true] at f
    have ih := inF_v h f0 h2 f.2
    unfold inV at ih ⊢
    rw [List.any_cons, List.any_cons, eqF_v h1 h f.1 f0, ih]
def sign? (a : Str) : Option Nat := match a.cps.toList with
  | [c] => some c
  | _ => none
theorem sign_of {a : Str} {c : Nat} (h : sign? a = some c) : a = ⟨#[c]⟩ := by
  unfold sign? at h
  split at h
  · rename_i c' e
    cases h
    obtain ⟨l⟩ := a
    have : l = #[c] := by
      apply Array.ext'
      simpa using e
    rw [this]
  · cases h
def inB : D → D → Option Bool
  | .str a, .str b => (sign? a).map fun c => decide (c ∈ b.cps.toList)
  | x, .lst ds => if (flatD x && ds.all flatD) = true then some (ds.any fun y => eqF y x) else (toPy x).bind fun p => (toPys ds).bind fun qs => if (SeqAt.shaped p && SeqAt.shaped (.list qs)) = true then some (qs.any fun z => PyData.eqv z p) else none
  | x, .fl ds => if (flatD x && ds.all flatD) = true then some (ds.any fun y => eqF y x) else none
  | x, .tup ds => if (flatD x && ds.all flatD) = true then some (ds.any fun y => eqF y x) else none
  | _, _ => none
def dIn (x y : D) : Option D := (inB x y).map .bool
def dNotIn (x y : D) : Option D := (inB x y).map fun b => .bool !b
def rInG (K : PySem.W.Frag) (neg : Bool) : R2 := fun x y H Q => (∃ (c : Nat) (z : Str), x = .str ⟨#[c]⟩ ∧ y = .str z ∧ Q (.bl (if neg then !decide (c ∈ z.cps.toList) else decide (c ∈ z.cps.toList))) H) ∨ rIn K neg x y H Q ∨
  ∃ d ds, Dp K H x d ∧ Dp K H y (.list ds) ∧ SeqAt.shaped d = true ∧ SeqAt.shaped (.list ds) = true ∧ Q (.bl (if neg then !(ds.any fun z => PyData.eqv z d) else ds.any fun z => PyData.eqv z d)) H
theorem op_inG {X : Cx} (hu : X.A.units + 65 < cLine) : OpR X (compareOp .In) (rInG X.K false) := by
  intro pins s σ H x y v u Q I rx ry h
  rcases h with h | h | h
  · exact op_in_sign pins s σ H x y v u Q I rx ry h
  · exact op_in_seq pins s σ H x y v u Q I rx ry h
  · exact op_inD hu pins s σ H x y v u Q I rx ry h
theorem op_ninG {X : Cx} (hu : X.A.units + 65 < cLine) : OpR X (compareOp .NotIn) (rInG X.K true) := by
  intro pins s σ H x y v u Q I rx ry h
  rcases h with h | h | h
  · exact op_notIn_sign pins s σ H x y v u Q I rx ry h
  · exact op_notIn_seq pins s σ H x y v u Q I rx ry h
  · exact op_notInD hu pins s σ H x y v u Q I rx ry h
theorem in_run {neg : Bool} {x y : D} {b : Bool} {v u : V} {Q : VK} (s : Ex I H) (rx : Rp K mg I x v) (ry : Rp K mg I y u) (e : inB x y = some b) (k : Q (.bl (if neg then !b else b)) H) : rInG K neg v u H Q := by
  unfold inB at e
  split at e
  · obtain ⟨c, h1, rfl⟩ := Option.map_eq_some_iff.mp e
    simp only [Rp] at rx ry
    subst rx ry
    rw [sign_of h1]
    exact .inl ⟨c, _, rfl, rfl, k⟩
  · rename_i ds
    have ry' := ry
    simp only [Rp] at ry
    obtain ⟨a, xs, rfl, h1, h2⟩ := ry
    split at e
    · rename_i hf
      rw [Bool.and_eq_true] at hf
      cases e
      exact .inr (.inl ⟨a, xs, rfl, .inl (.of (s _ _ h1)), flat_v rx hf.1, flats_v h2 hf.2, by rw [inF_v rx hf.1 h2 hf.2]; exact k⟩)
    · obtain ⟨p, e1, e⟩ := Option.bind_eq_some_iff.mp e
      obtain ⟨q, e2, e⟩ := Option.bind_eq_some_iff.mp e
      split at e
      · rename_i hs
        rw [Bool.and_eq_true] at hs
        cases e
        exact .inr (.inr ⟨p, q, toPy_dp s _ _ _ rx e1, .lst (.of (s _ _ h1)) (toPys_dp s _ _ _ h2 e2), hs.1, hs.2, k⟩)
      · cases e
  · simp only [Rp] at ry
    obtain ⟨a, xs, rfl, h1, h2⟩ := ry
    split at e
    · rename_i hf
      rw [Bool.and_eq_true] at hf
      cases e
      exact .inr (.inl ⟨a, xs, rfl, .inl (ex_l s h1), flat_v rx hf.1, flats_v h2 hf.2, by rw [inF_v rx hf.1 h2 hf.2]; exact k⟩)
    · cases e
  · simp only [Rp] at ry
    obtain ⟨a, xs, rfl, h1, h2⟩ := ry
    split at e
    · rename_i hf
      rw [Bool.and_eq_true] at hf
      cases e
      exact .inr (.inl ⟨a, xs, rfl, .inr (ex_t s h1), flat_v rx hf.1, flats_v h2 hf.2, by rw [inF_v rx hf.1 h2 hf.2]; exact k⟩)
    · cases e
  · cases e
theorem od_in : OpD K mg (rInG K false) dIn := by
  intro I H x y z v u Q s rx ry e k
  obtain ⟨b, e', rfl⟩ := Option.map_eq_some_iff.mp e
  clear e
  have e := e'
  clear e'
  exact in_run s rx ry e (k _ I H .same rp_bool)
theorem od_notIn : OpD K mg (rInG K true) dNotIn := by
  intro I H x y z v u Q s rx ry e k
  obtain ⟨b, e', rfl⟩ := Option.map_eq_some_iff.mp e
  clear e
  have e := e'
  clear e'
  exact in_run s rx ry e (k _ I H .same rp_bool)
end
end MV

namespace MV
open PySem L2
variable [TB]

/-! ### subscripts, slices -/
def dIx : D → D → Option D
  | .lst ds, .int i => atI ds i
  | .fl ds, .int i => atI ds i
  | .tup ds, .int i => atI ds i
  | .str x, .int i => if x.length ≤ LIM then (atI x.cps.toList i).map fun c => .str ⟨#[c]⟩ else none
  | _, _ => none
section
variable {K : PySem.W.Frag} {mg : Str → Option Value} {I H : Hp}
theorem RpL.atI {ds : List D} {xs : List V} {i : Int} {d : D} (h : RpL K mg I ds xs) (e : L2.atI ds i = some d) : ∃ v, L2.atI xs i = some v ∧ Rp K mg I d v := by
  unfold L2.atI at e ⊢
  obtain ⟨j, h1, h2⟩ := Option.bind_eq_some_iff.mp e
  obtain ⟨v, h3, h4⟩ := h.get h2
  rw [← h.length, h1]
  exact ⟨v, h3, h4⟩
theorem od_ix : OpD K mg (rIx K) dIx := by
  intro I H x y z v u Q s rx ry e k
  unfold dIx at e
  split at e
  · simp only [Rp] at rx ry
    obtain ⟨a, xs, rfl, h1, h2⟩ := rx
    subst ry
    obtain ⟨v, h3, h4⟩ := h2.atI e
    exact .inl ⟨a, xs, _, v, rfl, rfl, .of (s _ _ h1), h3, k _ I H .same h4⟩
  · simp only [Rp] at rx ry
    obtain ⟨a, xs, rfl, h1, h2⟩ := rx
    subst ry
    obtain ⟨v, h3, h4⟩ := h2.atI e
    exact .inl ⟨a, xs, _, v, rfl, rfl, ex_l s h1, h3, k _ I H .same h4⟩
  · simp only [Rp] at rx ry
    obtain ⟨a, xs, rfl, h1, h2⟩ := rx
    subst ry
    obtain ⟨v, h3, h4⟩ := h2.atI e
    exact .inr (.inl ⟨a, xs, _, v, rfl, rfl, ex_t s h1, h3, k _ I H .same h4⟩)
  · split at e
    · rename_i hz
      obtain ⟨c, h1, rfl⟩ := Option.map_eq_some_iff.mp e
      simp only [Rp] at rx ry
      subst rx ry
      exact .inr (.inr ⟨_, _, c, rfl, rfl, lim_le hz, h1, k _ I H .same rp_str⟩)
    · cases e
  · cases e
def cutD (ds : List D) (lo hi : Option Int) : List D := (ds.drop (HT.sIx ds.length 0 lo)).take (HT.sIx ds.length ds.length hi - HT.sIx ds.length 0 lo)
theorem RpL.drop : ∀ {ds : List D} {xs : List V} (n : Nat), RpL K mg I ds xs → RpL K mg I (ds.drop n) (xs.drop n)
  | ds, xs, 0, h => h
  | [], xs, n + 1, h => by simp only [RpL] at h; subst h; exact RpL.nil
  | d :: ds, xs, n + 1, h => by
    simp only [RpL] at h
    obtain ⟨x, r, rfl, h1, h2⟩ := h
    exact RpL.drop n h2
theorem RpL.take : ∀ {ds : List D} {xs : List V} (n : Nat), RpL K mg I ds xs → RpL K mg I (ds.take n) (xs.take n)
  | ds, xs, 0, h => RpL.nil
  | [], xs, n + 1, h => by simp only [RpL] at h; subst h; exact RpL.nil
  | d :: ds, xs, n + 1, h => by
    simp only [RpL] at h
    obtain ⟨x, r, rfl, h1, h2⟩ := h
    exact RpL.cons h1 (RpL.take n h2)
theorem RpL.cut {ds : List D} {xs : List V} {lo hi : Option Int} (h : RpL K mg I ds xs) : RpL K mg I (cutD ds lo hi) (cutV xs lo hi) := by
  unfold cutD cutV
  rw [h.length]
  exact (h.drop _).take _
def dSl : D → Option Int → Option Int → Option D
  | .lst ds, lo, hi => some (.lst (cutD ds lo hi))
  | .fl ds, lo, hi => some (.lst (cutD ds lo hi))
  | .tup ds, lo, hi => some (.tup (cutD ds lo hi))
  | .str x, lo, hi => if x.length ≤ LIM then some (.str (cutS x lo hi)) else none
  | _, _, _ => none
end
def rSlD (K : PySem.W.Frag) : V → Option Int → Option Int → Hp → VK → Prop := fun x lo hi H Q => rSlL K x lo hi H Q ∨ rSlA K x lo hi H Q ∨ rSlS x lo hi H Q
theorem sl_all {X : Cx} : SlR X (rSlD X.K) := sl_list.or (sl_tupA.or sl_str)
theorem sl_run {K : PySem.W.Frag} {mg : Str → Option Value} {I H : Hp} {x z : D} {v : V} {lo hi : Option Int} {Q : VK} (s : Ex I H) (rx : Rp K mg I x v) (e : dSl x lo hi = some z) (k : ∀ v' I' H', Gr I H I' H' → Rp K mg I' z v' → Q v' H') : rSlD K v lo hi H Q := by
  unfold dSl at e
  split at e
  · cases e
    simp only [Rp] at rx
    obtain ⟨a, xs, rfl, h1, h2⟩ := rx
    exact .inl ⟨a, xs, rfl, .of (s _ _ h1), fun p hp => k _ _ _ (.new p _ hp) (rp_lst s hp h2.cut)⟩
  · cases e
    simp only [Rp] at rx
    obtain ⟨a, xs, rfl, h1, h2⟩ := rx
    exact .inl ⟨a, xs, rfl, ex_l s h1, fun p hp => k _ _ _ (.new p _ hp) (rp_lst s hp h2.cut)⟩
  · rename_i ds
    cases e
    have rx' := rx
    simp only [Rp] at rx
    obtain ⟨a, xs, rfl, h1, h2⟩ := rx
    refine .inr (.inl ⟨a, xs, rfl, ex_t s h1, fun hw => k _ I H .same ?_, fun _ p hp => k _ _ _ (.new p _ hp) (rp_tup s hp h2.cut)⟩)
    have e0 : cutD ds lo hi = ds := by
      unfold cutD
      rw [h2.length, hw.1, hw.2, Nat.sub_zero, List.drop_zero, ← h2.length, List.take_length]
    rw [e0]
    exact rx'
  · split at e
    · rename_i hz
      cases e
      simp only [Rp] at rx
      subst rx
      exact .inr (.inr ⟨_, rfl, lim_le hz, k _ I H .same rp_str⟩)
    · cases e
  · cases e
def mOptI (m : M D) : M (Option Int) := fun e => (m e).bind fun x => match x.1 with
  | .int i => some (some i, x.2)
  | _ => none
def mNoI : M (Option Int) := fun e => some (none, e)
def tPo (K : PySem.W.Frag) (mg : Str → Option Value) (m : M (Option Int)) : TO := fun σ H Q => ∃ I e Fs, Rel K mg I e Fs σ H ∧ ∃ o e', m e = some (o, e') ∧ ∀ I' Fs' H', Rel K mg I' e' Fs' σ H' → Ext Fs I H Fs' I' H' → Q o H'
def SPo (X : Cx) (a : Option Expr) (m : M (Option Int)) : Prop := PO X a (tPo X.K X.mg m)
theorem PO.imp {X : Cx} {a : Option Expr} {t t' : TO} (h : PO X a t) (i : ∀ σ H Q, t' σ H Q → t σ H Q) : PO X a t' := ⟨fun pins s σ H Q I hq => h.run pins s σ H Q I (i σ H Q hq)⟩
def mSl (f : D → Option Int → Option Int → Option D) (a : M D) (lo hi : M (Option Int)) : M D := fun e => (a e).bind fun x => (lo x.2).bind fun l => (hi l.2).bind fun h => (f x.1 l.1 h.1).map fun z => (z, h.2)
section
variable {X : Cx} {a b c : Expr} {lo hi : Option Expr} {ma mb mc : M D} {ml mh : M (Option Int)} {pos p p2 : Pos}
theorem spo_none : SPo X none mNoI := PO.imp po_none fun σ H Q ⟨I, e, Fs, R, o, e', hm, k⟩ => by
  cases hm
  exact k I Fs H R Ext.refl
theorem spo_some (h : SE X a ma) : SPo X (some a) (mOptI ma) := PO.imp (po_some h) fun σ H Q ⟨I, e, Fs, R, o, e', hm, k⟩ => by
  obtain ⟨⟨d, e1⟩, h1, hm⟩ := Option.bind_eq_some_iff.mp hm
  refine ⟨I, e, Fs, R, d, e1, h1, fun v I' Fs' H' R' x r => ?_⟩
  cases d with
  | int i =>
    cases hm
    simp only [Rp] at r
    exact ⟨i, r, k I' Fs' H' R' x⟩
  | _ => cases hm
theorem se_slice (ha : SE X a ma) (hl : SPo X lo ml) (hh : SPo X hi mh) : SE X (.Subscript a (.Slice lo hi none p2) pos) (mSl dSl ma ml mh) := PE.imp (pe_slice sl_all ha hl hh) fun σ H Q ⟨I, e, Fs, R, d, e', hm, k⟩ => by
  obtain ⟨⟨x, e1⟩, h1, hm⟩ := Option.bind_eq_some_iff.mp hm
  obtain ⟨⟨l, e2⟩, h2, hm⟩ := Option.bind_eq_some_iff.mp hm
  obtain ⟨⟨h, e3⟩, h3, hm⟩ := Option.bind_eq_some_iff.mp hm
  obtain ⟨z, h4, hm⟩ := Option.map_eq_some_iff.mp hm
  cases hm
  refine ⟨I, e, Fs, R, x, e1, h1, fun v I1 F1 H1 R1 x1 r1 => ⟨I1, e1, F1, R1, l, e2, h2, fun I2 F2 H2 R2 x2 => ⟨I2, e2, F2, R2, h, e3, h3, fun I3 F3 H3 R3 x3 => ?_⟩⟩⟩
  refine sl_run R3.sub (r1.mono (x2.g.ex.trans x3.g.ex) _ _) h4 fun v' I4 H4 g r4 => ?_
  obtain ⟨R4, x4⟩ := g.rel R3
  exact k v' I4 F3 H4 R4 (((x1.trans x2).trans x3).trans x4) r4
theorem se_ix (ha : SE X a ma) (hb : SE X b mb) (hs : PlainIx b) : SE X (.Subscript a b pos) (mOp dIx ma mb) := by
  refine PE.imp (pe_ix ix_seq ha hb hs) fun σ H Q ⟨I, e, Fs, R, d', e', hm, k⟩ => ?_
  obtain ⟨⟨x, e1⟩, h1, hm⟩ := Option.bind_eq_some_iff.mp hm
  obtain ⟨⟨y, e2⟩, h2, hm⟩ := Option.bind_eq_some_iff.mp hm
  obtain ⟨z, h3, hm⟩ := Option.map_eq_some_iff.mp hm
  cases hm
  refine ⟨I, e, Fs, R, x, e1, h1, fun v I1 F1 H1 R1 x1 r1 => ⟨I1, e1, F1, R1, y, e2, h2, fun u I2 F2 H2 R2 x2 r2 => ?_⟩⟩
  refine od_ix I2 H2 x y _ v u Q R2.sub (r1.mono x2.g.ex _ _) r2 h3 fun v' I3 H3 g r3 => ?_
  obtain ⟨R3, x3⟩ := g.rel R2
  exact k v' I3 F2 H3 R3 ((x1.trans x2).trans x3) r3
theorem se_neg (ha : SE X a ma) : SE X (.UnaryOp .USub a pos) (mUn dNeg ma) := by
  refine PE.imp (pe_un un_neg ha) fun σ H Q ⟨I, e, Fs, R, d', e', hm, k⟩ => ?_
  obtain ⟨⟨x, e1⟩, h1, hm⟩ := Option.bind_eq_some_iff.mp hm
  obtain ⟨z, h3, hm⟩ := Option.map_eq_some_iff.mp hm
  cases hm
  refine ⟨I, e, Fs, R, x, e1, h1, fun v I1 F1 H1 R1 x1 r1 => ?_⟩
  refine ud_neg I1 H1 x _ v Q R1.sub r1 h3 fun v' I3 H3 g r3 => ?_
  obtain ⟨R3, x3⟩ := g.rel R1
  exact k v' I3 F1 H3 R3 (x1.trans x3) r3

/-! ### displays -/
def mDisp (f : List D → Option D) (ma : M (List Arg)) : M D := fun e => (ma e).bind fun x => (allD x.1).bind fun ds => (f ds).map fun d => (d, x.2)
def fLst : List D → Option D := fun ds => if ds.length ≤ LIM then some (.lst ds) else none
def fTup : List D → Option D := fun ds => if ds.length ≤ LIM then some (.tup ds) else none
/-- a built-in call's data -/
def CallD (K : PySem.W.Frag) (mg : Str → Option Value) (r : List V → Hp → VK → Prop) (f : List D → Option D) : Prop :=
  ∀ (I H : Hp) (ds : List D) (z : D) (vs : List V) (Q : VK), Ex I H → RpL K mg I ds vs → f ds = some z → (∀ v' I' H', Gr I H I' H' → Rp K mg I' z v' → Q v' H') → r vs H Q
theorem disp_run {K : PySem.W.Frag} {mg : Str → Option Value} {r : List V → Hp → VK → Prop} {f : List D → Option D} {ma : M (List Arg)} {σ : L2.St} {H : Hp} {Q : VK} (hf : CallD K mg r f) (h : tE K mg (mDisp f ma) σ H Q) : tAr K mg ma σ H fun vs H1 => r vs H1 Q := by
  obtain ⟨I, e, Fs, R, d, e', hm, k⟩ := h
  obtain ⟨⟨as, e1⟩, h1, hm⟩ := Option.bind_eq_some_iff.mp hm
  obtain ⟨bs, h2, hm⟩ := Option.bind_eq_some_iff.mp hm
  obtain ⟨rs, h3, hm⟩ := Option.map_eq_some_iff.mp hm
  cases hm
  refine ⟨I, e, Fs, R, as, e1, h1, fun vs I1 F1 H1 R1 x1 r1 => ?_⟩
  refine hf I1 H1 bs _ vs Q R1.sub (allD_rp h2 r1) h3 fun v' I2 H2 g r2 => ?_
  obtain ⟨R2, x2⟩ := g.rel R1
  exact k v' I2 F1 H2 R2 (x1.trans x2) r2
theorem se_lst {es : List Expr} {m : M (List Arg)} (h : SA X es m) : SE X (.List es pos) (mDisp fLst m) := PE.imp (pe_lst h) fun σ H Q q => disp_run (r := fun xs H1 Q => xs.length ≤ sizeLine ∧ ∀ p, H1 p = none → Q (.ref p) (upd H1 p (.lst xs))) (fun I H ds z vs Q s r e k => by
  unfold fLst at e
  split at e
  · rename_i hz
    cases e
    exact ⟨by rw [← r.length]; exact lim_le hz, fun p hp => k _ _ _ (.new p _ hp) (rp_lst s hp r)⟩
  · cases e) q
theorem se_tup {es : List Expr} {m : M (List Arg)} {x1 : Nat} (h : SA X es m) : SE X (.Tuple es x1 pos) (mDisp fTup m) := PE.imp (pe_tup h) fun σ H Q q => disp_run (r := fun xs H1 Q => xs.length ≤ sizeLine ∧ ∀ p, H1 p = none → Q (.ref p) (upd H1 p (.tup xs))) (fun I H ds z vs Q s r e k => by
  unfold fTup at e
  split at e
  · rename_i hz
    cases e
    exact ⟨by rw [← r.length]; exact lim_le hz, fun p hp => k _ _ _ (.new p _ hp) (rp_tup s hp r)⟩
  · cases e) q
theorem se_callB {id : String} {x : Str} {es : List Expr} {r : List V → Hp → VK → Prop} {f : List D → Option D} {m : M (List Arg)} (hc : CallR X (.builtin id) r) (hf : CallD X.K X.mg r f) (hg : Gl X x) (hm : X.mg x = none) (hv : bootBuiltins x = some (.builtin id)) (ha : SA X (a :: es) m) (hn : x ≠ "__name__" := by decide) (hdb : (x == ("__debug__" : Str)) = false := by decide)
    (he : starEach (a :: es) X.env = (false, eval a X.env) :: starEach es X.env := by rfl) (hpl : (backTo pos (starEach es X.env)).any (·.1) = false := by rfl) : SE X (.Call (.Name x p) (a :: es) [] pos) (mDisp f m) := PE.imp (pe_callB hc hg hm hv ha hn hdb he hpl) fun σ H Q q => disp_run hf q
theorem se_callTy {T : String} {x : Str} {es : List Expr} {r : List V → Hp → VK → Prop} {f : List D → Option D} {m : M (List Arg)} (hc : CallR X (.type T) r) (hf : CallD X.K X.mg r f) (hg : Gl X x) (hm : X.mg x = none) (hv : bootBuiltins x = some (.type T)) (ha : SA X (a :: es) m) (hn : x ≠ "__name__" := by decide) (hdb : (x == ("__debug__" : Str)) = false := by decide)
    (he : starEach (a :: es) X.env = (false, eval a X.env) :: starEach es X.env := by rfl) (hpl : (backTo pos (starEach es X.env)).any (·.1) = false := by rfl) : SE X (.Call (.Name x p) (a :: es) [] pos) (mDisp f m) := PE.imp (pe_callTy hc hg hm hv ha hn hdb he hpl) fun σ H Q q => disp_run hf q
theorem se_glob {x : Str} {v : V} {u : Value} {d : D} (hg : Gl X x) (hm : X.mg x = some u) (r : RelV v u) (hd : Rp X.K X.mg (fun _ => none) d v) (hdb : (x == ("__debug__" : Str)) = false := by decide) : SE X (.Name x pos) (mC d) := by
  refine PE.imp (pe_glob hg hm r hdb) fun σ H Q ⟨I, e, Fs, R, d', e', hm, k⟩ => ?_
  have q : d = d' ∧ e = e' := by simpa [mC] using hm
  obtain ⟨rfl, rfl⟩ := q
  exact k v I Fs H R Ext.refl (hd.mono (fun _ _ z => by cases z) _ _)
end

/-! ### built-ins -/
section
variable {K : PySem.W.Frag} {mg : Str → Option Value}
def fLen : List D → Option D
  | [.str x] => if x.length ≤ LIM then some (.int x.length) else none
  | [.lst ds] => some (.int ds.length)
  | [.fl ds] => some (.int ds.length)
  | [.tup ds] => some (.int ds.length)
  | _ => none
theorem cd_len : CallD K mg (fun xs H Q => ∃ x n, xs = [x] ∧ LenV K x H n ∧ Q (.int n) H) fLen := by
  intro I H ds z vs Q s r e k
  unfold fLen at e
  split at e
  · obtain ⟨v, rfl, h⟩ := r.one
    split at e
    · rename_i hz
      cases e
      simp only [Rp] at h
      subst h
      exact ⟨_, _, rfl, ⟨lim_le hz, rfl⟩, k _ I H .same rp_int⟩
    · cases e
  · obtain ⟨v, rfl, h⟩ := r.one
    cases e
    simp only [Rp] at h
    obtain ⟨a, xs, rfl, h1, h2⟩ := h
    exact ⟨_, _, rfl, .inl ⟨xs, .of (s _ _ h1), h2.length⟩, k _ I H .same rp_int⟩
  · obtain ⟨v, rfl, h⟩ := r.one
    cases e
    simp only [Rp] at h
    obtain ⟨a, xs, rfl, h1, h2⟩ := h
    exact ⟨_, _, rfl, .inl ⟨xs, ex_l s h1, h2.length⟩, k _ I H .same rp_int⟩
  · obtain ⟨v, rfl, h⟩ := r.one
    cases e
    simp only [Rp] at h
    obtain ⟨a, xs, rfl, h1, h2⟩ := h
    exact ⟨_, _, rfl, .inr ⟨xs, ex_t s h1, h2.length⟩, k _ I H .same rp_int⟩
  · cases e
def fAbs : List D → Option D
  | [.int i] => some (.int (if i < 0 then -i else i))
  | _ => none
theorem cd_abs : CallD K mg (fun xs H Q => ∃ i, xs = [.int i] ∧ Q (.int (if i < 0 then -i else i)) H) fAbs := by
  intro I H ds z vs Q s r e k
  unfold fAbs at e
  split at e
  · obtain ⟨v, rfl, h⟩ := r.one
    cases e
    simp only [Rp] at h
    subst h
    exact ⟨_, rfl, k _ I H .same rp_int⟩
  · cases e
def fList : List D → Option D
  | [.lst ds] => some (.lst ds)
  | [.fl ds] => some (.lst ds)
  | [.tup ds] => some (.lst ds)
  | _ => none
theorem cd_list : CallD K mg (fun xs H Q => ∃ p ys, xs = [.ref p] ∧ (SqL K H p ys ∨ SqT K H p ys) ∧ ∀ l, H l = none → Q (.ref l) (upd H l (.lst ys))) fList := by
  intro I H ds z vs Q s r e k
  unfold fList at e
  split at e
  · obtain ⟨v, rfl, h⟩ := r.one
    cases e
    simp only [Rp] at h
    obtain ⟨a, xs, rfl, h1, h2⟩ := h
    exact ⟨_, _, rfl, .inl (.of (s _ _ h1)), fun p hp => k _ _ _ (.new p _ hp) (rp_lst s hp h2)⟩
  · obtain ⟨v, rfl, h⟩ := r.one
    cases e
    simp only [Rp] at h
    obtain ⟨a, xs, rfl, h1, h2⟩ := h
    exact ⟨_, _, rfl, .inl (ex_l s h1), fun p hp => k _ _ _ (.new p _ hp) (rp_lst s hp h2)⟩
  · obtain ⟨v, rfl, h⟩ := r.one
    cases e
    simp only [Rp] at h
    obtain ⟨a, xs, rfl, h1, h2⟩ := h
    exact ⟨_, _, rfl, .inr (ex_t s h1), fun p hp => k _ _ _ (.new p _ hp) (rp_lst s hp h2)⟩
  · cases e
def boolsD : List D → Option (List Bool)
  | [] => some []
  | .bool b :: r => (boolsD r).map (b :: ·)
  | _ => none
theorem bools_v {I : Hp} : ∀ {ds : List D} {bs : List Bool} {xs : List V}, boolsD ds = some bs → RpL K mg I ds xs → xs = bs.map V.bl
  | [], bs, xs, h, r => by cases h; simp only [RpL] at r; exact r
  | .bool b :: ds, bs, xs, h, r => by
    simp only [RpL] at r
    obtain ⟨x, t, rfl, h1, h2⟩ := r
    obtain ⟨cs, h3, rfl⟩ := Option.map_eq_some_iff.mp (show (boolsD ds).map (b :: ·) = some bs from h)
    simp only [Rp] at h1
    rw [h1, bools_v h3 h2]
    rfl
  | .none :: _, _, _, h, _ => by cases h
  | .int _ :: _, _, _, h, _ => by cases h
  | .str _ :: _, _, _, h, _ => by cases h
  | .lst _ :: _, _, _, h, _ => by cases h
  | .fl _ :: _, _, _, h, _ => by cases h
  | .tup _ :: _, _, _, h, _ => by cases h
  | .dict _ :: _, _, _, h, _ => by cases h
  | .inst _ _ :: _, _, _, h, _ => by cases h
def fAll : List D → Option D
  | [.lst ds] => (boolsD ds).map fun bs => .bool (bs.all id)
  | _ => none
def fAny : List D → Option D
  | [.lst ds] => (boolsD ds).map fun bs => .bool (bs.any id)
  | _ => none
theorem cd_all : CallD K mg (rAll K) fAll := by
  intro I H ds z vs Q s r e k
  unfold fAll at e
  split at e
  · obtain ⟨v, rfl, h⟩ := r.one
    obtain ⟨bs, h3, rfl⟩ := Option.map_eq_some_iff.mp e
    simp only [Rp] at h
    obtain ⟨a, xs, rfl, h1, h2⟩ := h
    exact ⟨a, bs, rfl, by rw [← bools_v h3 h2]; exact .of (s _ _ h1), k _ I H .same rp_bool⟩
  · cases e
theorem cd_any : CallD K mg (rAny K) fAny := by
  intro I H ds z vs Q s r e k
  unfold fAny at e
  split at e
  · obtain ⟨v, rfl, h⟩ := r.one
    obtain ⟨bs, h3, rfl⟩ := Option.map_eq_some_iff.mp e
    simp only [Rp] at h
    obtain ⟨a, xs, rfl, h1, h2⟩ := h
    exact ⟨a, bs, rfl, by rw [← bools_v h3 h2]; exact .of (s _ _ h1), k _ I H .same rp_bool⟩
  · cases e
/-- isinstance(x, T), T a built-in type -/
def tyD : D → Option String
  | .none => some "NoneType"
  | .bool _ => some "bool"
  | .int _ => some "int"
  | .str _ => some "str"
  | .lst _ => some "list"
  | .tup _ => some "tuple"
  | _ => none
def isiT (a b : String) : Bool := a == b || (a == "bool" && b == "int")
def tyNames : List String := ["NoneType", "bool", "int", "str", "list", "tuple", "dict"]
theorem kit_all : (tyNames.all fun a => tyNames.all fun b => b == "NoneType" || decide (kitB a b = some (isiT a b))) = true := by decide +kernel
theorem kit_isi {a b : String} (ha : a ∈ tyNames) (hb : b ∈ tyNames) (h : b ≠ "NoneType") : kitB a b = some (isiT a b) := by
  have := List.all_eq_true.mp (List.all_eq_true.mp kit_all a ha) b hb
  rw [Bool.or_eq_true] at this
  rcases this with q | q
  · exact absurd (eq_of_beq q) h
  · exact of_decide_eq_true q
theorem ty_v {I H : Hp} {d : D} {v : V} {T : String} (s : Ex I H) (h : Rp K mg I d v) (e : tyD d = some T) : TyX K H v (.type T) ∧ T ∈ tyNames := by
  cases d with
  | none => simp only [Rp] at h; subst h; cases e; exact ⟨.base .non, by decide⟩
  | bool b => simp only [Rp] at h; subst h; cases e; exact ⟨.base (.bl b), by decide⟩
  | int b => simp only [Rp] at h; subst h; cases e; exact ⟨.base (.int b), by decide⟩
  | str b => simp only [Rp] at h; subst h; cases e; exact ⟨.base (.str b), by decide⟩
  | lst b => simp only [Rp] at h; obtain ⟨a, _, rfl, h1, _⟩ := h; cases e; exact ⟨.base (.lst (s _ _ h1)), by decide⟩
  | tup b =>
    simp only [Rp] at h; obtain ⟨a, _, rfl, h1, _⟩ := h; cases e
    refine ⟨?_, by decide⟩
    rcases h1 with (h1 | ⟨o, h1⟩) | ⟨o, its, n, h1, h2, _⟩
    · exact .base (.tup (s _ _ h1))
    · exact .fTuple (s _ _ h1)
    · exact .kTuple h1 h2
  | _ => cases e
end
def dIsi (T : String) (d : D) : Option D := (tyD d).map fun U => .bool (isiT U T)
theorem se_isi {X : Cx} {a : Expr} {m : M D} {p p2 pos : Pos} {x : Str} {T : String} (hT : T ∈ tyNames) (hT2 : T ≠ "NoneType") (hg : Gl X "isinstance") (hm : X.mg "isinstance" = none) (hg2 : Gl X x) (hm2 : X.mg x = none) (hv2 : bootBuiltins x = some (.type T)) (ha : SE X a m)
    (hn2 : x ≠ "__name__" := by decide) (hd2 : (x == ("__debug__" : Str)) = false := by decide)
    (hs : starEach [a, .Name x p2] X.env = (false, eval a X.env) :: starEach [.Name x p2] X.env := by rfl) (hs2 : starEach [.Name x p2] X.env = (false, eval (.Name x p2) X.env) :: starEach [] X.env := by rfl) (hpl : (backTo pos (starEach [.Name x p2] X.env)).any (·.1) = false := by rfl) (hv : bootBuiltins "isinstance" = some (.builtin "isinstance") := by rfl) :
    SE X (.Call (.Name "isinstance" p) [a, .Name x p2] [] pos) (mUn (dIsi T) m) := by
  refine PE.imp (pe_callB (call_isi) hg hm hv (pa_cons ha (pa_cons (pe_bltn (v := .ty T) hg2 hm2 hv2 rfl hn2 hd2) pa_nil hs2) hs) (by decide) (by decide) hs hpl) fun σ H Q ⟨I, e, Fs, R, d', e', hm, k⟩ => ?_
  obtain ⟨⟨d, e1⟩, h1, hm⟩ := Option.bind_eq_some_iff.mp hm
  obtain ⟨z, h3, hm⟩ := Option.map_eq_some_iff.mp hm
  cases hm
  obtain ⟨U, h4, rfl⟩ := Option.map_eq_some_iff.mp h3
  refine ⟨I, e, Fs, R, d, e1, h1, fun v I1 F1 H1 R1 x1 r1 => ?_⟩
  obtain ⟨t1, t2⟩ := ty_v R1.sub r1 h4
  exact ⟨v, .ty T, _, _, _, rfl, .ty T, t1, kit_ty (kit_isi t2 hT hT2), k _ I1 F1 H1 R1 x1 rp_bool⟩
end MV

namespace MV
open PySem L2
variable [TB]

/-! ### owned lists -/
section
variable {K : PySem.W.Frag} {mg : Str → Option Value} {I H : Hp}
theorem RoL.get : ∀ {ws : List W} {xs : List V} {F : List Addr} {j : Nat} {w : W}, RoL K mg I H ws xs F → ws[j]? = some w → ∃ x F1, xs[j]? = some x ∧ Ro K mg I H w x F1 ∧ ∀ a ∈ F1, a ∈ F
  | [], xs, F, j, w, h, e => by simp at e
  | u :: ws, xs, F, 0, w, h, e => by
    simp only [RoL] at h
    obtain ⟨x, r, F1, F2, rfl, rfl, h1, h2⟩ := h
    simp at e
    subst e
    exact ⟨x, F1, rfl, h1, fun a ha => by simp [ha]⟩
  | u :: ws, xs, F, j + 1, w, h, e => by
    simp only [RoL] at h
    obtain ⟨x, r, F1, F2, rfl, rfl, h1, h2⟩ := h
    simp at e
    obtain ⟨y, G, h3, h4, h5⟩ := RoL.get h2 e
    exact ⟨y, G, by simpa using h3, h4, fun a ha => by simp [h5 a ha]⟩
theorem RoL.len : ∀ {ws : List W} {xs : List V} {F : List Addr}, RoL K mg I H ws xs F → ws.length = xs.length
  | [], xs, F, h => by simp only [RoL] at h; rw [h.1]; rfl
  | u :: ws, xs, F, h => by
    simp only [RoL] at h
    obtain ⟨x, r, F1, F2, rfl, rfl, h1, h2⟩ := h
    rw [List.length_cons, List.length_cons, RoL.len h2]
theorem RoL.setP {d : D} {v : V} (hd : Rp K mg I d v) : ∀ {ws : List W} {xs : List V} {F : List Addr} (j : Nat), RoL K mg I H ws xs F → ∃ F', RoL K mg I H (ws.set j (.p d)) (xs.set j v) F' ∧ F'.Sublist F
  | [], xs, F, j, h => by
    simp only [RoL] at h
    obtain ⟨rfl, rfl⟩ := h
    exact ⟨[], by simp [RoL], List.Sublist.refl _⟩
  | u :: ws, xs, F, 0, h => by
    simp only [RoL] at h
    obtain ⟨x, r, F1, F2, rfl, rfl, h1, h2⟩ := h
    refine ⟨F2, ?_, List.sublist_append_right _ _⟩
    show RoL K mg I H (W.p d :: ws) (v :: r) F2
    simp only [RoL]
    exact ⟨v, r, [], F2, rfl, rfl, by simp only [Ro]; exact ⟨hd, trivial⟩, h2⟩
  | u :: ws, xs, F, j + 1, h => by
    simp only [RoL] at h
    obtain ⟨x, r, F1, F2, rfl, rfl, h1, h2⟩ := h
    obtain ⟨G, h3, h4⟩ := RoL.setP hd j h2
    refine ⟨F1 ++ G, ?_, List.Sublist.append (List.Sublist.refl _) h4⟩
    show RoL K mg I H (u :: ws.set j (.p d)) (x :: r.set j v) (F1 ++ G)
    simp only [RoL]
    exact ⟨x, _, F1, G, rfl, rfl, h1, h3⟩
theorem RoL.ofP : ∀ {ds : List D} {xs : List V}, RpL K mg I ds xs → RoL K mg I H (ds.map .p) xs []
  | [], xs, h => by simp only [RpL] at h; subst h; simp [RoL]
  | d :: ds, xs, h => by
    simp only [RpL] at h
    obtain ⟨x, r, rfl, h1, h2⟩ := h
    show RoL K mg I H (.p d :: ds.map .p) (x :: r) []
    simp only [RoL]
    exact ⟨x, r, [], [], rfl, rfl, by simp only [Ro]; exact ⟨h1, trivial⟩, RoL.ofP h2⟩
end
/-- [a, ..], a list of one's own -/
def mOl (ma : M (List Arg)) : M W := fun e => (ma e).bind fun x => (allD x.1).bind fun ds => if ds.length ≤ LIM then some (.ol (ds.map .p), x.2) else none
/-- x[i], x a list of one's own in slot k -/
def mIxO (k : Nat) (m : M D) : M D := fun e => match e[k]? with
  | some (some _) => (m e).bind fun x => match x.1, x.2[k]? with
    | .int i, some (some (.ol ws)) => match atI ws i with
      | some (.p d) => some (d, x.2)
      | _ => none
    | _, _ => none
  | _ => none
/-- x[i] = v -/
def sSetIx (k : Nat) (mi mv : M D) : S := fun e => (mv e).bind fun y => match y.2[k]? with
  | some (some _) => (mi y.2).bind fun x => match x.1, x.2[k]? with
    | .int i, some (some (.ol ws)) => (ixN ws.length i).map fun j => .nx (x.2.set k (some (.ol (ws.set j (.p y.1)))))
    | _, _ => none
  | _ => none
section
variable {X : Cx} {A : Nat → Bool} {Wx : WX} {a b : Expr} {es : List Expr} {ma : M (List Arg)} {mi mv : M D} {k : Nat} {x : Str} {pos p tpos : Pos}
theorem so_lst (h : SA X es ma) : SO X Wx (.List es pos) (mOl ma) := PE.imp (pe_lst h) fun σ H Q ⟨I, e, Fs, R, w, e', hm, kk, _⟩ => by
  obtain ⟨⟨as, e1⟩, h1, hm⟩ := Option.bind_eq_some_iff.mp hm
  obtain ⟨ds, h2, hm⟩ := Option.bind_eq_some_iff.mp hm
  have hm : (if ds.length ≤ LIM then some (W.ol (ds.map .p), e1) else none) = some (w, e') := hm
  split at hm
  · rename_i hz
    cases hm
    refine ⟨I, e, Fs, R, as, _, h1, fun vs I1 F1 H1 R1 x1 r1 => ?_⟩
    have r := allD_rp h2 r1
    refine ⟨by rw [← r.length]; exact lim_le hz, fun q hq => ?_⟩
    have R2 := R1.loose (o := .lst vs) hq
    have hI : I1 q = none := sub_none R1.sub hq
    have dq : ∀ i, q ∉ F1 i := fun i hi => R1.live i q hi hq
    have hH : MF Fs q ∨ H q = none := by
      cases e0 : H q with
      | none => exact .inr rfl
      | some u =>
        by_cases mm : MF Fs q
        · exact .inl mm
        · rw [x1.g.back mm hq] at e0; cases e0
    refine kk (.ref q) I1 F1 _ [q] R2 ⟨⟨x1.g.ex, fun c u q' mm nt => Ex.new hq c u (x1.g.fr c u q' mm nt), x1.g.new, fun t => (x1.g.tb t).ext (Ex.new hq), fun a ps q mm => let ⟨p', h'⟩ := x1.g.tl a ps q mm; ⟨p', Ex.new hq a _ h'⟩⟩, x1.fp⟩ ⟨?_, by simp, fun c hc => ?_, fun c hc ⟨i, hi⟩ => ?_⟩ fun c hc => ?_
    · simp only [Ro]
      exact ⟨q, vs, [], rfl, upd_same, rfl, RoL.ofP r⟩
    · rw [List.mem_singleton.mp hc]; exact hI
    · rw [List.mem_singleton.mp hc] at hi; exact dq i hi
    · rw [List.mem_singleton.mp hc]; exact hH
  · cases hm
theorem se_ixO (hx : PE X (.Name x p) (tVar k)) (hi : SE X b mi) (hs : PlainIx b) : SE X (.Subscript (.Name x p) b pos) (mIxO k mi) := PE.imp (pe_ix ix_list hx hi hs) fun σ H Q ⟨I, e, Fs, R, d, e', hm, kk⟩ => by
  unfold mIxO at hm
  split at hm
  · rename_i w0 hw
    obtain ⟨⟨y, e1⟩, h1, hm⟩ := Option.bind_eq_some_iff.mp hm
    obtain ⟨v0, hv0, _⟩ := R.at_ k _ hw
    refine ⟨v0, hv0, I, e, Fs, R, y, e1, h1, fun u I1 F1 H1 R1 x1 r1 => ?_⟩
    split at hm
    · rename_i i ws h2 h3
      obtain ⟨v1, hv1, ro⟩ := R1.at_ k _ h3
      rw [hv0] at hv1
      cases hv1
      simp only [Ro] at ro
      obtain ⟨l, xs, G, rfl, g1, g2, g3⟩ := ro
      split at hm
      · rename_i d' hd
        cases hm
        have h2' : y = .int i := h2
        subst h2'
        simp only [Rp] at r1
        subst r1
        unfold atI at hd
        obtain ⟨j, h4, h5⟩ := Option.bind_eq_some_iff.mp hd
        obtain ⟨z, F2, h6, h7, _⟩ := g3.get h5
        simp only [Ro] at h7
        exact ⟨l, xs, i, z, rfl, rfl, .of g1, by unfold atI; rw [← g3.len, h4]; exact h6, kk z I1 F1 H1 R1 x1 h7.1⟩
      · cases hm
    · cases hm
  · cases hm
theorem ss_setIx (hv : SE X a mv) (hx : PE X (.Name x p) (tVar k)) (hi : SE X b mi) (hs : swapsWithSole [.Subscript (.Name x p) b tpos] a pos.line X.env = pure false := by rfl) (hw : swappedStores [.Subscript (.Name x p) b tpos] a X.env = pure none := by rfl)
    (h1 : (assignEach [.Subscript (.Name x p) b tpos] X.env).map (·.2) = [assign (.Subscript (.Name x p) b tpos) X.env] := by rfl)
    (ha : ∀ v, assign (.Subscript (.Name x p) b tpos) X.env v = (do
      let ov ← holding [v] (eval (.Name x p) X.env)
      let iv ← holding [v, ov] (eval b X.env)
      standAt tpos
      holding [v, ov, iv] (setItem ov iv v)
      release [v, ov, iv] []) := by intro _; rfl) : SS X A Wx (.Assign [.Subscript (.Name x p) b tpos] a pos) (sSetIx k mi mv) := PS.imp (ps_asg hv (pg_sub hx hi set_list ha) hs hw h1) fun Dd σ H ⟨I, e, Fs, R, r, hm, kk⟩ => by
  obtain ⟨⟨d, e1⟩, h1, hm⟩ := Option.bind_eq_some_iff.mp hm
  refine ⟨I, e, Fs, R, d, e1, h1, fun v I1 F1 H1 R1 x1 r1 => ?_⟩
  split at hm
  · rename_i w0 hw0
    obtain ⟨⟨y, e2⟩, h2, hm⟩ := Option.bind_eq_some_iff.mp hm
    obtain ⟨v0, hv0, _⟩ := R1.at_ k _ hw0
    refine ⟨v0, hv0, I1, e1, F1, R1, y, e2, h2, fun u I2 F2 H2 R2 x2 r2 => ?_⟩
    split at hm
    · rename_i i ws h3 h4
      obtain ⟨j, h5, hm⟩ := Option.map_eq_some_iff.mp hm
      cases hm
      obtain ⟨v1, hv1, ro⟩ := R2.at_ k _ h4
      rw [hv0] at hv1
      cases hv1
      simp only [Ro] at ro
      obtain ⟨l, xs, G, rfl, g1, g2, g3⟩ := ro
      have h3' : y = .int i := h3
      subst h3'
      simp only [Rp] at r2
      subst r2
      have nd := R2.nd k
      rw [g2, List.nodup_cons] at nd
      refine ⟨l, xs, i, j, rfl, rfl, g1, by rw [← g3.len]; exact h5, ?_⟩
      -- the state without the list, then with the new one
      have Rd := R2.drop (i := k)
      have hl : MF F2 l := ⟨k, by rw [g2]; simp⟩
      have hIl : I2 l = none := R2.out k l (by rw [g2]; simp)
      have hFl : ¬ MF (putF F2 k []) l := fun ⟨i', hi'⟩ => by
        by_cases z : i' = k
        · subst z; rw [putF_same] at hi'; cases hi'
        · rw [putF_ne z] at hi'; exact z (R2.dj i' k l hi' (by rw [g2]; simp))
      have R3 := Rd.loose2 (o := .lst (xs.set j v)) hIl hFl (.lst g1)
      obtain ⟨G', g4, g5⟩ := RoL.setP (r1.mono x2.g.ex _ _) j g3
      have fr : ∀ c ∈ G', ∀ o, H2 c = some o → NT o → upd H2 l (.lst (xs.set j v)) c = some o := fun c hc o ho _ => by
        rw [upd_ne (fun z => by subst z; exact nd.1 (g5.subset hc))]
        exact ho
      have ow : Own X.K X.mg I2 (upd H2 l (.lst (xs.set j v))) (putF F2 k []) (.ol (ws.set j (.p d))) (.ref l) (l :: G') := by
        refine ⟨?_, List.nodup_cons.mpr ⟨fun hc => nd.1 (g5.subset hc), nd.2.sublist g5⟩, fun c hc => ?_, fun c hc => ?_⟩
        · simp only [Ro]
          exact ⟨l, _, G', rfl, upd_same, rfl, g4.frame (Ex.refl _) _ _ _ fr⟩
        · rcases List.mem_cons.mp hc with rfl | hc
          · exact hIl
          · exact R2.out k c (by rw [g2]; exact List.mem_cons_of_mem _ (g5.subset hc))
        · rcases List.mem_cons.mp hc with rfl | hc
          · exact hFl
          · intro ⟨i', hi'⟩
            by_cases z : i' = k
            · subst z; rw [putF_same] at hi'; cases hi'
            · rw [putF_ne z] at hi'; exact z (R2.dj i' k c hi' (by rw [g2]; exact List.mem_cons_of_mem _ (g5.subset hc)))
      have R4 := R3.put (i := k) ow
      have es : σ.set k (some (.ref l)) = σ := by
        obtain ⟨hlt, e0⟩ := List.getElem?_eq_some_iff.mp hv0
        exact List.ext_getElem? fun j' => by
          by_cases z : k = j'
          · subst z; rw [List.getElem?_set_self hlt, hv0]
          · rw [List.getElem?_set_ne z]
      have ee : (e2.set k none).set k (some (.ol (ws.set j (.p d)))) = e2.set k (some (.ol (ws.set j (.p d)))) := List.set_set ..
      rw [es, ee] at R4
      have xx : Ext F1 I1 H1 (putF (putF F2 k []) k (l :: G')) I2 (upd H2 l (.lst (xs.set j v))) := by
        have keep : ∀ c, MF F2 c → MF F1 c ∨ H1 c = none := x2.fp
        refine ⟨x2.g.set (keep _ hl) (.lst g1), fun c hc => ?_⟩
        · rcases hc.put with q | q
          · refine keep c ⟨k, ?_⟩
            rw [g2]
            rcases List.mem_cons.mp q with rfl | q
            · simp
            · exact List.mem_cons_of_mem _ (g5.subset q)
          · exact keep c q.nil
      exact kk σ I2 _ _ R4 (x1.trans xx) Agr.refl
    · cases hm
  · cases hm
end

/-! ### "".join -/
def strsD : List D → Option (List Str)
  | [] => some []
  | .str b :: r => (strsD r).map (b :: ·)
  | _ => none
theorem strs_v {K : PySem.W.Frag} {mg : Str → Option Value} {I : Hp} : ∀ {ds : List D} {bs : List Str} {xs : List V}, strsD ds = some bs → RpL K mg I ds xs → xs = bs.map V.str
  | [], bs, xs, h, r => by cases h; simp only [RpL] at r; exact r
  | .str b :: ds, bs, xs, h, r => by
    simp only [RpL] at r
    obtain ⟨x, t, rfl, h1, h2⟩ := r
    obtain ⟨cs, h3, rfl⟩ := Option.map_eq_some_iff.mp (show (strsD ds).map (b :: ·) = some bs from h)
    simp only [Rp] at h1
    rw [h1, strs_v h3 h2]
    rfl
  | .none :: _, _, _, h, _ => by cases h
  | .int _ :: _, _, _, h, _ => by cases h
  | .bool _ :: _, _, _, h, _ => by cases h
  | .lst _ :: _, _, _, h, _ => by cases h
  | .fl _ :: _, _, _, h, _ => by cases h
  | .tup _ :: _, _, _, h, _ => by cases h
  | .dict _ :: _, _, _, h, _ => by cases h
  | .inst _ _ :: _, _, _, h, _ => by cases h
def joinD : D → D → Option D
  | .str a, .lst ds => (strsD ds).bind fun ys => if (ys.map (·.length)).sum + ys.length * a.length ≤ LIM then some (.str (Txt.join a ys)) else none
  | .str a, .tup ds => (strsD ds).bind fun ys => if (ys.map (·.length)).sum + ys.length * a.length ≤ LIM then some (.str (Txt.join a ys)) else none
  | _, _ => none
def mOp2 (f : D → D → Option D) (a : M D) (ma : M (List Arg)) : M D := fun e => (a e).bind fun x => (ma x.2).bind fun y => match allD y.1 with
  | some [d] => (f x.1 d).map fun z => (z, y.2)
  | _ => none
theorem se_join {X : Cx} {o b : Expr} {mo : M D} {ma : M (List Arg)} {apos pos : Pos} (ho : SE X o mo) (hb : SA X [b] ma) (hbase : attributeBase o "join" X.env (eval o X.env) = eval o X.env := by rfl)
    (hfew : ((backTo pos (starEach [b] X.env)).all (fun x => !x.1) && (backToKw pos (keywordEach [] X.env)).all (fun x => x.1.isSome)
      && decide ([b].length + ([] : List Keyword).length + (if ([] : List Keyword).isEmpty then 0 else 1) < 30)) = true := by rfl)
    (hline : (apos.endLine == pos.line) = true := by rfl) (hs : starEach [b] X.env = (false, eval b X.env) :: starEach [] X.env := by rfl) (hplain : (backTo pos (starEach [] X.env)).any (·.1) = false := by rfl) :
    SE X (.Call (.Attribute o "join" apos) [b] [] pos) (mOp2 joinD mo ma) := by
  refine PE.imp (pe_bm PySem.F.plainAttrs_str PySem.F.slot_str_join PySem.F.type_str_join mt_join ho hb hbase hfew hline hs hplain) fun σ H Q ⟨I, e, Fs, R, d, e', hm, kk⟩ => ?_
  obtain ⟨⟨x, e1⟩, h1, hm⟩ := Option.bind_eq_some_iff.mp hm
  obtain ⟨⟨as, e2⟩, h2, hm⟩ := Option.bind_eq_some_iff.mp hm
  refine ⟨I, e, Fs, R, x, e1, h1, fun v I1 F1 H1 R1 x1 r1 => ?_⟩
  split at hm
  · rename_i d0 hd0
    obtain ⟨z, h3, hm⟩ := Option.map_eq_some_iff.mp hm
    cases hm
    have isS : ∃ a, x = .str a := by
      cases x with
      | str a => exact ⟨a, rfl⟩
      | _ => cases h3
    obtain ⟨a, rfl⟩ := isS
    simp only [Rp] at r1
    subst r1
    refine ⟨rfl, I1, e1, F1, R1, as, e2, h2, fun vs I2 F2 H2 R2 x2 r2 => ?_⟩
    obtain ⟨u, rfl, r3⟩ := (allD_rp hd0 r2).one
    cases d0 with
    | lst ds =>
      obtain ⟨ys, h4, h5⟩ := Option.bind_eq_some_iff.mp h3
      have h5 : (if (ys.map (·.length)).sum + ys.length * a.length ≤ LIM then some (D.str (Txt.join a ys)) else none) = some d := h5
      split at h5
      · rename_i hz
        cases h5
        simp only [Rp] at r3
        obtain ⟨l, xs, rfl, g1, g2⟩ := r3
        exact ⟨a, l, ys, rfl, rfl, .inl (by rw [← strs_v h4 g2]; exact .of (R2.sub _ _ g1)), by unfold LIM at hz; omega, kk _ I2 F2 H2 R2 (x1.trans x2) rp_str⟩
      · cases h5
    | tup ds =>
      obtain ⟨ys, h4, h5⟩ := Option.bind_eq_some_iff.mp h3
      have h5 : (if (ys.map (·.length)).sum + ys.length * a.length ≤ LIM then some (D.str (Txt.join a ys)) else none) = some d := h5
      split at h5
      · rename_i hz
        cases h5
        simp only [Rp] at r3
        obtain ⟨l, xs, rfl, g1, g2⟩ := r3
        exact ⟨a, l, ys, rfl, rfl, .inr (by rw [← strs_v h4 g2]; exact ex_t R2.sub g1), by unfold LIM at hz; omega, kk _ I2 F2 H2 R2 (x1.trans x2) rp_str⟩
      · cases h5
    | _ => cases h3
  · cases hm

/-! ### keywords alone -/
def tKw (K : PySem.W.Frag) (mg : Str → Option Value) (m : M (List Arg)) : TA := tAr K mg m
def SK (X : Cx) (kws : List Keyword) (m : M (List Arg)) : Prop := PK X kws (tAr X.K X.mg m)
theorem PK.imp {X : Cx} {a : List Keyword} {t t' : TA} (h : PK X a t) (i : ∀ σ H Q, t' σ H Q → t σ H Q) : PK X a t' := ⟨fun pos pins s σ H Q I hq => h.run pos pins s σ H Q I (i σ H Q hq)⟩
section
variable {X : Cx} {a : Expr} {kws : List Keyword} {pos kpos p : Pos} {nm : Option Str}
theorem sk_nil : SK X [] aNil := PK.imp pk_nil fun σ H Q ⟨I, e, Fs, R, as, e', hm, k⟩ => by
  cases hm
  exact k [] I Fs H R Ext.refl rfl
theorem sk_d {m : M D} {r : M (List Arg)} (h : SE X a m) (hr : SK X kws r) : SK X (⟨nm, a, kpos⟩ :: kws) (aD m r) := PK.imp (pk_cons h hr) fun σ H Q ⟨I, e, Fs, R, as, e', hm, k⟩ => by
  obtain ⟨⟨x, e1⟩, h1, hm⟩ := Option.bind_eq_some_iff.mp hm
  obtain ⟨⟨y, e2⟩, h2, hm⟩ := Option.map_eq_some_iff.mp hm
  cases hm
  refine ⟨I, e, Fs, R, x, e1, h1, fun v I1 F1 H1 R1 x1 r1 => ⟨I1, e1, F1, R1, y, e2, h2, fun vs I2 F2 H2 R2 x2 r2 => ?_⟩⟩
  exact k (v :: vs) I2 F2 H2 R2 (x1.trans x2) ⟨v, vs, rfl, r1.mono x2.g.ex _ _, r2⟩
end
end MV

namespace MV
open PySem L2
variable [TB]

/-! ### a def of the module, by its name -/
def Fn (P : Program) (w : World) (K : PySem.W.Frag) (mg : Str → Option Value) (base : Heap) (k : Nat) (x : Str) (ps : List Str) (g : FSem) : Prop :=
  ∃ f fd, mg x = some (.ref f) ∧ PySem.W.keepIn K (.ref f) = true ∧ Binds K fd ps [] ∧ FnOk P w K mg base (L2N.CX P w) k f fd ps (spF K mg ps.length g)
/-- .. by its keywords ks, in the order ix -/
def FnK (P : Program) (w : World) (K : PySem.W.Frag) (mg : Str → Option Value) (base : Heap) (k : Nat) (x : Str) (ps ks : List Str) (ix : List Nat) (g : FSem) : Prop :=
  ∃ f fd, mg x = some (.ref f) ∧ PySem.W.keepIn K (.ref f) = true ∧ (∀ (s : Shared) (ws : List Value), ws.length = ks.length → BindsTo s fd ⟨[], ks.zip ws⟩ (ps.zip (ix.filterMap (ws[·]?)))) ∧ FnOk P w K mg base (L2N.CX P w) k f fd ps (spF K mg ps.length g)
theorem fn_none {P : Program} {w : World} {K : PySem.W.Frag} {mg : Str → Option Value} {base : Heap} {k : Nat} {f : Addr} {fd : FuncData} {ps : List Str} : FnOk P w K mg base (L2N.CX P w) k f fd ps (spF K mg ps.length fun _ => none) :=
  ⟨fun vs H Q E h => spF_len h, fun A outer s H args us vs Q E _ _ _ _ ⟨I, ws, Fa, _, _, w, oe, h, _, _⟩ => by cases h⟩
section
variable {P : Program} {w : World} {K : PySem.W.Frag} {mg : Str → Option Value} {base : Heap}
theorem FunD.kb {x qual : Str} {params : Arguments} {body : List Stmt} {scope : Scope} {kws : List (Str × V)} {f : Addr} {fd : FuncData} {ps ks : List Str} {ix : List Nat} (F : FunD K x qual params body scope [] kws f fd)
    (h : ∀ (kV doc pm : Value) (an : Option Addr) (cdv ct : Value) (ws : List Value), ws.length = ks.length → bindArgs (PySem.W.fnOf x qual params body scope .none kV doc pm an cdv ct) ⟨[], ks.zip ws⟩ = pure (ps.zip (ix.filterMap (ws[·]?)))) :
    ∀ (s : Shared) (ws : List Value), ws.length = ks.length → BindsTo s fd ⟨[], ks.zip ws⟩ (ps.zip (ix.filterMap (ws[·]?))) := by
  obtain ⟨oc, od, dV, kV, doc, pm, an, cdv, ct, osl, rfl, lk, hcd, hD, hK⟩ := F.ex
  rcases hD with ⟨_, rfl⟩ | ⟨e, _⟩
  · exact fun s ws hl => .of_eq (h kV doc pm an cdv ct ws hl)
  · exact absurd rfl e
end
def aPerm (ix : List Nat) (m : M (List Arg)) : M (List Arg) := fun e => (m e).map fun x => (ix.filterMap (x.1[·]?), x.2)
theorem ArgR.get {K : PySem.W.Frag} {mg : Str → Option Value} {I : Hp} {σ : L2.St} : ∀ {as : List Arg} {vs : List V} (i : Nat), ArgR K mg I σ as vs → (∃ a v, as[i]? = some a ∧ vs[i]? = some v ∧ ArgR K mg I σ [a] [v]) ∨ (as[i]? = none ∧ vs[i]? = none)
  | [], vs, i, h => by simp only [ArgR] at h; subst h; right; simp
  | a :: as, vs, i, h => by
    have hh : ∃ v t, vs = v :: t ∧ ArgR K mg I σ [a] [v] ∧ ArgR K mg I σ as t := by
      cases a with
      | d d => obtain ⟨v, t, e, h1, h2⟩ := h; exact ⟨v, t, e, ⟨v, [], rfl, h1, rfl⟩, h2⟩
      | io j => obtain ⟨v, t, e, h1, h2⟩ := h; exact ⟨v, t, e, ⟨v, [], rfl, h1, rfl⟩, h2⟩
    obtain ⟨v, t, rfl, h1, h2⟩ := hh
    cases i with
    | zero => exact .inl ⟨a, v, rfl, rfl, h1⟩
    | succ i => simpa using ArgR.get i h2
theorem ArgR.app {K : PySem.W.Frag} {mg : Str → Option Value} {I : Hp} {σ : L2.St} {a : Arg} {v : V} {as : List Arg} {vs : List V} (h : ArgR K mg I σ [a] [v]) (t : ArgR K mg I σ as vs) : ArgR K mg I σ (a :: as) (v :: vs) := by
  cases a with
  | d d => obtain ⟨v', t', e, h1, h2⟩ := h; cases e; exact ⟨_, _, rfl, h1, t⟩
  | io j => obtain ⟨v', t', e, h1, h2⟩ := h; cases e; exact ⟨_, _, rfl, h1, t⟩
theorem ArgR.perm {K : PySem.W.Frag} {mg : Str → Option Value} {I : Hp} {σ : L2.St} {as : List Arg} {vs : List V} (h : ArgR K mg I σ as vs) : ∀ ix : List Nat, ArgR K mg I σ (ix.filterMap (as[·]?)) (ix.filterMap (vs[·]?))
  | [] => rfl
  | i :: ix => by
    rw [List.filterMap_cons, List.filterMap_cons]
    rcases h.get i with ⟨a, v, e1, e2, q⟩ | ⟨e1, e2⟩
    · rw [e1, e2]; exact q.app (ArgR.perm h ix)
    · rw [e1, e2]; exact ArgR.perm h ix
theorem Vals.perm {xs : List V} {us : List Value} (h : Vals xs us) : ∀ ix : List Nat, Vals (ix.filterMap (xs[·]?)) (ix.filterMap (us[·]?))
  | [] => .nil
  | i :: ix => by
    rw [List.filterMap_cons, List.filterMap_cons]
    cases e : xs[i]? with
    | none => rw [h.none_of e]; exact Vals.perm h ix
    | some x =>
      obtain ⟨u, e2, r⟩ := h.get e
      rw [e2]
      exact .cons r (Vals.perm h ix)
theorem perm_run {K : PySem.W.Frag} {mg : Str → Option Value} {ix : List Nat} {ma : M (List Arg)} {σ : L2.St} {H : Hp} {Q : List V → Hp → Prop} (h : tAr K mg (aPerm ix ma) σ H Q) : tAr K mg ma σ H fun vs H1 => Q (ix.filterMap (vs[·]?)) H1 := by
  obtain ⟨I, e, Fs, R, as, e', hm, k⟩ := h
  obtain ⟨⟨as0, e1⟩, h1, hm⟩ := Option.map_eq_some_iff.mp hm
  cases hm
  exact ⟨I, e, Fs, R, as0, e1, h1, fun vs I' Fs' H' R' x r => k _ I' Fs' H' R' x (r.perm ix)⟩
section
variable {X : Cx} {Wx : WX} {k : Nat} {ps : List Str} {g : FSem} {x : Str} {p pos : Pos} {a : Expr} {es : List Expr} {ma : M (List Arg)}
theorem so_fn (tk : L2N.Takes X Wx) (F : Fn X.prog X.w X.K X.mg X.base k x ps g) (hr : Room k X.A) (hg : Gl X x) (ha : SA X (a :: es) ma) (hn : ∀ as e e', ma e = some (as, e') → as.length = ps.length)
    (hdb : (x == ("__debug__" : Str)) = false := by decide) (he : starEach (a :: es) X.env = (false, eval a X.env) :: starEach es X.env := by rfl) (hpl : (backTo pos (starEach es X.env)).any (·.1) = false := by rfl) :
    SO X Wx (.Call (.Name x p) (a :: es) [] pos) (mCall g ma) := by
  obtain ⟨f, fd, h1, h2, h3, h4⟩ := F
  exact so_call tk h4 hr hg h1 h2 h3 ha hn hdb he hpl
theorem so_fnK {ks : List Str} {ix : List Nat} {kws : List Keyword} (tk : L2N.Takes X Wx) (F : FnK X.prog X.w X.K X.mg X.base k x ps ks ix g) (hr : Room k X.A) (hg : Gl X x)
    (hkw : SK X kws ma) (hn : ∀ as e e', aPerm ix ma e = some (as, e') → as.length = ps.length) (hn2 : ∀ as e e', ma e = some (as, e') → as.length = ks.length) (hall : (backToKw pos (keywordEach kws X.env)).all (·.1.isSome) = true := by rfl) (hks : (backToKw pos (keywordEach kws X.env)).filterMap (·.1) = ks := by rfl)
    (hdb : (x == ("__debug__" : Str)) = false := by decide) (hplain : ((backTo pos (starEach [] X.env)).any (·.1) || (backToKw pos (keywordEach kws X.env)).any (·.1.isNone)) = false := by rfl) :
    SO X Wx (.Call (.Name x p) [] kws pos) (mCall g (aPerm ix ma)) := by
  obtain ⟨f, fd, hm, hk, hb, F⟩ := F
  refine ⟨fun pins s σ H Q I h => ?_⟩
  have h := perm_run (call_step hn h)
  have h : tAr X.K X.mg ma σ H fun vs H1 => vs.length = ks.length ∧ spF X.K X.mg ps.length g (ix.filterMap (vs[·]?)) H1 Q (WE Wx σ) := by
    obtain ⟨I, e, Fs, R, as, e', hm, kk⟩ := h
    refine ⟨I, e, Fs, R, as, e', hm, fun vs I' Fs' H' R' x r => ⟨?_, kk vs I' Fs' H' R' x r⟩⟩
    rw [← hn2 as e e' hm]
    have : ∀ {as : List Arg} {vs : List V}, ArgR X.K X.mg I' σ as vs → vs.length = as.length := by
      intro as
      induction as with
      | nil => intro vs h; simp only [ArgR] at h; subst h; rfl
      | cons a as ih =>
        intro vs h
        cases a with
        | d d => obtain ⟨v, t, rfl, _, h2⟩ := h; rw [List.length_cons, List.length_cons, ih h2]
        | io j => obtain ⟨v, t, rfl, _, h2⟩ := h; rw [List.length_cons, List.length_cons, ih h2]
    exact this r
  refine wpAny_Call_Name_kw (ld_glob I hg hm ?_ hdb)
  refine PySem.W.callWith_KW0 (h₀ := X.base) I.ok.mod.kin hk hall (thn (hkw.run pos pins s σ H _ I h) fun ws s2 ⟨zs, H2, I2, rz, l2, q2⟩ => ⟨I2.kIn, ?_⟩) hplain
  rw [hks]
  refine wpAny_call (codeAny_mono (F.run X.A X.stack s2 H2 ⟨[], ks.zip ws⟩ (ix.filterMap (ws[·]?)) (ix.filterMap (zs[·]?)) Q (WE Wx σ) hr I2.env0 (hb s2 ws (by rw [← rz.length]; exact l2)) (MV.Vals.perm rz ix) q2) fun r s' hq => ?_)
  cases r with
  | error e => exact L2N.passAt tk σ pins H2 s2 e s' I2 hq
  | ok fl =>
    cases fl with
    | ret u => exact I2.after hq
    | next => exact False.elim hq
    | brk => exact False.elim hq
    | cont => exact False.elim hq
theorem se_globI {i : Int} (hg : Gl X x) (hm : ∃ t, X.mg x = some (.int i t)) (hdb : (x == ("__debug__" : Str)) = false := by decide) : SE X (.Name x pos) (mC (.int i)) := by
  obtain ⟨t, hm⟩ := hm
  exact se_glob (v := .int i) hg hm ⟨t, rfl⟩ rp_int hdb
theorem se_globS {i : Str} (hg : Gl X x) (hm : ∃ t, X.mg x = some (.str i t)) (hdb : (x == ("__debug__" : Str)) = false := by decide) : SE X (.Name x pos) (mC (.str i)) := by
  obtain ⟨t, hm⟩ := hm
  exact se_glob (v := .str i) hg hm ⟨t, rfl⟩ rp_str hdb
end
theorem _root_.L2.Room.u64 {k : Nat} {A : Around} (r : Room k A) : A.units + 64 < cLine := r.units
theorem _root_.L2.Room.u65 {k : Nat} {A : Around} (r : Room k A) : A.units + 65 < cLine := by have := r.un; omega
theorem mp_lc {K : PySem.W.Frag} {mg : Str → Option Value} {m : M D} {σ : L2.St} {H : Hp} {Q : VK} {Wx : WX} (h : tO K mg Wx (mP m) σ H Q) : tE K mg m σ H Q := by
  obtain ⟨I, e, Fs, R, w, e', hm, k, _⟩ := h
  obtain ⟨⟨d, e1⟩, h1, hm⟩ := Option.map_eq_some_iff.mp hm
  cases hm
  exact ⟨I, e, Fs, R, d, e1, h1, fun v I' Fs' H' R' x r => k v I' Fs' H' [] R' x (.pure r) fun _ z => by cases z⟩
/-- name = [..] on one line, the name a local -/
theorem ss_setLc {X : Cx} {A : Nat → Bool} {Wx : WX} {i : Nat} {y : Str} {py : Pos} {elt tg iter : Expr} {ifs : List Expr} {scope : Scope} {own : List (Str × Nat)} {pos spos : Pos} {mi : M (List D)} {t : Tg} {c : M Bool} {m : M D} (hA : A i = true) (hc : X.calm = true) (hN : X.N.Nodup) (hy : X.N[i]? = some y) (hyl : X.env.scope.names.lookup y = some .local)
    (hsw : swapsWith (.ListComp elt [⟨tg, iter, ifs, 0⟩] scope pos) (some (.Name y py)) spos.line X.env = pure true) (ok : BlkOk X.N X.env.scope scope own) (hi : SI X tg iter mi)
    (hg : ∀ (s : Shared) (H : Hp) (C : Addr) (cl : List (Str × Addr)) (fp : List Addr), SG (X.blk s H scope (compEnvC scope cl C X.env) fp) (ownA (own.map (·.2))) tg t) (ht : ∀ (s : Shared) (H : Hp) (C : Addr) (cl : List (Str × Addr)) (fp : List Addr), STs (X.blk s H scope (compEnvC scope cl C X.env) fp) ifs c)
    (he : ∀ (s : Shared) (H : Hp) (C : Addr) (cl : List (Str × Addr)) (fp : List Addr), SE (X.blk s H scope (compEnvC scope cl C X.env) fp) elt m) (hs : ∀ x, foldedSetIterable iter X.env x = pure x := by intro _; rfl) :
    SS X A Wx (.Assign [.Name y py] (.ListComp elt [⟨tg, iter, ifs, 0⟩] scope pos) spos) (sSet i (mP (mLc (own.map (·.2)) mi t c m))) :=
  PS.imp (ps_setLc (g := tG X.K X.mg (ownA (List.map (fun (x : Str × Nat) => x.2) own)) t) (tt := tT X.K X.mg c) (te := tE X.K X.mg m) hc hN hy hyl hsw hi ok hg ht he hs) fun D σ H h => by
    have q : tO X.K X.mg Wx (mP (mLc (own.map (·.2)) mi t c m)) σ H fun x H1 => gName i x σ H1 D.nx := set_run hA h
    exact lc_run (mp_lc q)

theorem len_perm {ma : M (List Arg)} {n m : Nat} {ix : List Nat} (h1 : ix.all (fun i => decide (i < n)) = true) (h2 : ix.length = m) (h : ∀ (as : List Arg) (e e' : Env), ma e = some (as, e') → as.length = n) : ∀ (as : List Arg) (e e' : Env), aPerm ix ma e = some (as, e') → as.length = m := fun as e e' hm => by
  obtain ⟨⟨as0, e1⟩, h3, hm⟩ := Option.map_eq_some_iff.mp hm
  cases hm
  have hl := h as0 e e1 h3
  rw [← h2]
  have : ∀ ix : List Nat, ix.all (fun i => decide (i < n)) = true → (ix.filterMap (as0[·]?)).length = ix.length := by
    intro ix
    induction ix with
    | nil => intro _; rfl
    | cons i ix ih =>
      intro h
      rw [List.all_cons, Bool.and_eq_true, decide_eq_true_eq] at h
      rw [List.filterMap_cons, List.getElem?_eq_getElem (by omega), List.length_cons, List.length_cons, ih h.2]
  exact this ix h1
/-! ### the end of a row -/
abbrev sp0 (sp : Sp) : Sp := fun vs H Q _ => sp vs H Q fun _ _ _ => False
theorem fn0 {P : Program} {w : World} {K : PySem.W.Frag} {mg : Str → Option Value} {base : Heap} {k : Nat} {f : Addr} {fd : FuncData} {ps : List Str} {sp : Sp} (F : FnOk P w K mg base (L2N.CX P w) k f fd ps sp) : FnOk P w K mg base CX0 k f fd ps (sp0 sp) := by
  refine ⟨fun vs H Q E h => F.len vs H Q _ h, fun A outer s H args us vs Q E hr he hb hv hs => codeAny_mono (F.run A outer s H args us vs Q (fun _ _ _ => False) hr he hb hv hs) fun r s' hq => ?_⟩
  cases r with
  | ok fl => cases fl <;> exact hq
  | error e =>
    obtain ⟨_, _, _, _, _, _, _, _, _, _, _, _, z⟩ := hq
    exact z.elim
/-- the tables are left out -/
def noT (H : Hp) : Hp := fun a => match H a with
  | some (.tbl _) => none
  | o => o
theorem noT_some {H : Hp} {a : Addr} {o : HO} (h : H a = some o) (n : NT o) : noT H a = some o := by
  unfold noT
  rw [h]
  split
  · rename_i ps z
    cases z
    exact absurd rfl (n ps)
  · rfl
theorem noT_ex {H : Hp} : Ex (noT H) H := fun a o h => by
  unfold noT at h
  split at h
  · cases h
  · exact h
theorem law_sp {K : PySem.W.Frag} {mg : Str → Option Value} {g : FSem} (hg : ∀ ns : List Int, ns.length ≤ 63 → ∃ oe, g [.p (.fl (ns.map .int))] = some (.p (.bool true), oe)) (H : Hp) (a : Addr) (ns : List Int) (hl : ns.length ≤ 63) (hS : SqL K H a (ns.map V.int)) (hT : LamX.Tabs TB.T H) :
    spF K mg 1 g [.ref a] H (fun v _ => v = .bl true) fun _ _ _ => False := by
  obtain ⟨oe, h⟩ := hg ns hl
  have rl : ∀ ns : List Int, RpL K mg (noT H) (ns.map D.int) (ns.map V.int) := by
    intro ns
    induction ns with
    | nil => exact RpL.nil
    | cons n ns ih => exact RpL.cons rp_int ih
  have rp : Rp K mg (noT H) (.fl (ns.map .int)) (.ref a) := by
    simp only [Rp]
    refine ⟨a, _, rfl, ?_, rl ns⟩
    rcases hS with (q | ⟨o, q⟩) | q
    · exact .inl (.inl (noT_some q fun _ z => by cases z))
    · exact .inl (.inr ⟨o, noT_some q fun _ z => by cases z⟩)
    · exact .inr q
  refine ⟨noT H, [.p (.fl (ns.map .int))], consF [] (fun _ => []), rfl, (Rel.nil noT_ex ⟨hT, fun p hp => by
    obtain ⟨ps, h1, _⟩ := hT p hp
    unfold noT
    rw [h1]⟩).cons (.pure rp), _, oe, h, fun v I' Fo H' F R x o _ => ?_, fun x z => by cases z⟩
  have q := o.ro
  simp only [Ro, Rp] at q
  exact q.1
end MV

namespace MV
open PySem L2

/-! ### evaluation, a step at a time (no continuation is opened before its argument is known) -/
section
variable {α β γ : Type} {e e1 e2 : Env} {d x y z : D} {i j k : Nat} {m ma mb mc : M D} {f g : D → D → Option D} {b : Bool}
-- values
@[simp] theorem ev_C : mC d e = some (d, e) := rfl
def varK : Option (Option W) → Env → Option (D × Env)
  | some (some (.p d)), e => some (d, e)
  | _, _ => none
@[simp] theorem ev_var : mVar i e = varK e[i]? e := by unfold mVar varK; split <;> rename_i h <;> simp_all
@[simp] theorem varK_p : varK (some (some (.p d))) e = some (d, e) := rfl
def opK1 (f : D → D → Option D) (b : M D) : Option (D × Env) → Option (D × Env)
  | some x => (b x.2).bind fun y => (f x.1 y.1).map fun z => (z, y.2)
  | none => none
def opK2 (f : D → D → Option D) (x : D) : Option (D × Env) → Option (D × Env)
  | some y => (f x y.1).map fun z => (z, y.2)
  | none => none
def retK : Option D → Env → Option (D × Env)
  | some z, e => some (z, e)
  | none, _ => none
@[simp] theorem retK_s : retK (some d) e = some (d, e) := rfl
@[simp] theorem ev_op : mOp f ma mb e = opK1 f mb (ma e) := by unfold mOp opK1; cases ma e <;> rfl
@[simp] theorem opK1_s : opK1 f mb (some (x, e)) = opK2 f x (mb e) := by unfold opK1 opK2; cases h : mb e <;> simp [h]
@[simp] theorem opK2_s : opK2 f x (some (y, e)) = retK (f x y) e := by unfold opK2 retK; cases h : f x y <;> simp [h]
def unK (f : D → Option D) : Option (D × Env) → Option (D × Env)
  | some x => retK (f x.1) x.2
  | none => none
@[simp] theorem ev_un {f : D → Option D} : mUn f ma e = unK f (ma e) := by unfold mUn unK retK; cases ma e with
  | none => rfl
  | some x => cases h : f x.1 <;> simp [h]
@[simp] theorem unK_s {f : D → Option D} : unK f (some (x, e)) = retK (f x) e := rfl
-- tests
def bK {α : Type} : Option α → Env → Option (α × Env)
  | some b, e => some (b, e)
  | none, _ => none
@[simp] theorem bK_s {b : α} : bK (some b) e = some (b, e) := rfl
def truK : Option (D × Env) → Option (Bool × Env)
  | some x => bK (dTru x.1) x.2
  | none => none
@[simp] theorem ev_tru : mTru m e = truK (m e) := by unfold mTru truK bK; cases m e with
  | none => rfl
  | some x => cases h : dTru x.1 <;> simp [h]
@[simp] theorem truK_s : truK (some (d, e)) = bK (dTru d) e := rfl
def boolK : Option (D × Env) → Option (Bool × Env)
  | some (.bool b, e) => some (b, e)
  | _ => none
@[simp] theorem ev_bool : mBool m e = boolK (m e) := by unfold mBool boolK; cases h : m e with
  | none => rfl
  | some x => obtain ⟨d, e1⟩ := x; cases d <;> rfl
@[simp] theorem boolK_s : boolK (some (.bool b, e)) = some (b, e) := rfl
def andK (u : M Bool) : Option (Bool × Env) → Option (Bool × Env)
  | some (true, e) => u e
  | some (false, e) => some (false, e)
  | none => none
def orK (u : M Bool) : Option (Bool × Env) → Option (Bool × Env)
  | some (false, e) => u e
  | some (true, e) => some (true, e)
  | none => none
variable {t u : M Bool}
@[simp] theorem ev_and : mAnd t u e = andK u (t e) := by unfold mAnd andK; cases h : t e with
  | none => rfl
  | some x => obtain ⟨b, e1⟩ := x; cases b <;> rfl
@[simp] theorem ev_or : mOr t u e = orK u (t e) := by unfold mOr orK; cases h : t e with
  | none => rfl
  | some x => obtain ⟨b, e1⟩ := x; cases b <;> rfl
@[simp] theorem andK_t : andK u (some (true, e)) = u e := rfl
@[simp] theorem andK_f : andK u (some (false, e)) = some (false, e) := rfl
@[simp] theorem orK_f : orK u (some (false, e)) = u e := rfl
@[simp] theorem orK_t : orK u (some (true, e)) = some (true, e) := rfl
def notK : Option (Bool × Env) → Option (Bool × Env)
  | some (b, e) => some (!b, e)
  | none => none
@[simp] theorem ev_not : mNot t e = notK (t e) := by unfold mNot notK; cases t e <;> rfl
@[simp] theorem notK_s : notK (some (b, e)) = some (!b, e) := rfl
def ifK {α : Type} (a b : Env → Option α) : Option (Bool × Env) → Option α
  | some (true, e) => a e
  | some (false, e) => b e
  | none => none
@[simp] theorem ifK_t {a b : Env → Option α} : ifK a b (some (true, e)) = a e := rfl
@[simp] theorem ifK_f {a b : Env → Option α} : ifK a b (some (false, e)) = b e := rfl
@[simp] theorem ev_if {a b : M α} : mIf t a b e = ifK a b (t e) := by unfold mIf ifK; cases h : t e with
  | none => rfl
  | some x => obtain ⟨b, e1⟩ := x; cases b <;> rfl
@[simp] theorem ev_sif {a b : S} : sIf t a b e = ifK a b (t e) := by unfold sIf ifK; cases h : t e with
  | none => rfl
  | some x => obtain ⟨b, e1⟩ := x; cases b <;> rfl
@[simp] theorem ev_andV : mAndV ma mb e = ifK mb (fun e => some (.bool false, e)) (boolK (ma e)) := by
  unfold mAndV; rw [ev_bool]; cases h : boolK (ma e) with
  | none => rfl
  | some x => obtain ⟨b, e1⟩ := x; cases b <;> rfl
@[simp] theorem ev_orV : mOrV ma mb e = ifK (fun e => some (.bool true, e)) mb (boolK (ma e)) := by
  unfold mOrV; rw [ev_bool]; cases h : boolK (ma e) with
  | none => rfl
  | some x => obtain ⟨b, e1⟩ := x; cases b <;> rfl
def notVK : Option (Bool × Env) → Option (D × Env)
  | some (b, e) => some (.bool !b, e)
  | none => none
@[simp] theorem ev_notV : mNotV ma e = notVK (boolK (ma e)) := by unfold mNotV notVK; rw [ev_bool]; cases boolK (ma e) <;> rfl
@[simp] theorem notVK_s : notVK (some (b, e)) = some (.bool !b, e) := rfl
def chK1 (f g : D → D → Option D) (b c : M D) : Option (D × Env) → Option (D × Env)
  | some x => mChain f g (fun e => some (x.1, x.2)) b c x.2
  | none => none
def chK2 (f g : D → D → Option D) (c : M D) (x : D) : Option (D × Env) → Option (D × Env)
  | some y => mChain f g (fun e => some (x, y.2)) (fun e => some (y.1, e)) c y.2
  | none => none
def chK3 (g : D → D → Option D) (c : M D) (y : D) (e : Env) : Option D → Option (D × Env)
  | some (.bool true) => opK2 g y (c e)
  | some (.bool false) => some (.bool false, e)
  | _ => none
@[simp] theorem ev_chain : mChain f g ma mb mc e = chK1 f g mb mc (ma e) := by unfold mChain chK1; cases h : ma e <;> simp [mChain]
@[simp] theorem chK1_s : chK1 f g mb mc (some (x, e)) = chK2 f g mc x (mb e) := by unfold chK1 chK2; cases h : mb e <;> simp [mChain, h]
@[simp] theorem chK2_s : chK2 f g mc x (some (y, e)) = chK3 g mc y e (f x y) := by
  unfold chK2 chK3 opK2
  cases h : f x y with
  | none => simp [mChain, h]
  | some z => cases z with
    | bool b => cases b with
      | true => simp [mChain, h]; cases h2 : mc e <;> simp [h2]
      | false => simp [mChain, h]
    | _ => simp [mChain, h]
@[simp] theorem chK3_t : chK3 g mc y e (some (.bool true)) = opK2 g y (mc e) := rfl
@[simp] theorem chK3_f : chK3 g mc y e (some (.bool false)) = some (.bool false, e) := rfl
-- arguments, displays, calls
variable {r : M (List Arg)} {as : List Arg} {ds : List D}
@[simp] theorem ev_nil : aNil e = some ([], e) := rfl
def aK1 (r : M (List Arg)) : Option (D × Env) → Option (List Arg × Env)
  | some x => (r x.2).map fun y => (.d x.1 :: y.1, y.2)
  | none => none
def aK2 (a : Arg) : Option (List Arg × Env) → Option (List Arg × Env)
  | some y => some (a :: y.1, y.2)
  | none => none
@[simp] theorem ev_aD : aD m r e = aK1 r (m e) := by unfold aD aK1; cases m e <;> rfl
@[simp] theorem aK1_s : aK1 r (some (d, e)) = aK2 (.d d) (r e) := by unfold aK1 aK2; cases h : r e <;> simp [h]
@[simp] theorem aK2_s {a : Arg} : aK2 a (some (as, e)) = some (a :: as, e) := rfl
def aK3 (i : Nat) (r : M (List Arg)) : Option (Option W) → Env → Option (List Arg × Env)
  | some (some _), e => aK2 (.io i) (r e)
  | _, _ => none
@[simp] theorem ev_aIO : aIO i r e = aK3 i r e[i]? e := by unfold aIO aK3 aK2; split <;> rename_i h <;> simp_all; cases r e <;> rfl
@[simp] theorem aK3_s {w : W} : aK3 i r (some (some w)) e = aK2 (.io i) (r e) := rfl
@[simp] theorem allD_nil : allD [] = some [] := rfl
@[simp] theorem allD_d : allD (.d d :: as) = (allD as).map (d :: ·) := rfl
def dispK1 (f : List D → Option D) : Option (List Arg × Env) → Option (D × Env)
  | some x => dispK2 f (allD x.1) x.2
  | none => none
where dispK2 (f : List D → Option D) : Option (List D) → Env → Option (D × Env)
  | some ds, e => retK (f ds) e
  | none, _ => none
@[simp] theorem ev_disp {f : List D → Option D} : mDisp f r e = dispK1 f (r e) := by
  unfold mDisp dispK1; cases h : r e with
  | none => rfl
  | some x =>
    simp only [Option.bind_some]
    cases h2 : allD x.1 with
    | none => rfl
    | some ds => simp only [Option.bind_some, dispK1.dispK2, retK]; cases f ds <;> rfl
@[simp] theorem dispK1_s {f : List D → Option D} : dispK1 f (some (as, e)) = dispK1.dispK2 f (allD as) e := rfl
@[simp] theorem dispK2_s {f : List D → Option D} : dispK1.dispK2 f (some ds) e = retK (f ds) e := rfl
def callK1 (g : FSem) : Option (List Arg × Env) → Option (W × Env)
  | some x => callK2 g x.1 (gather x.1 x.2)
  | none => none
where
  callK2 (g : FSem) (as : List Arg) : Option (List W × Env) → Option (W × Env)
  | some y => callK3 as y.2 (g y.1)
  | none => none
  callK3 (as : List Arg) (e : Env) : Option (W × Env) → Option (W × Env)
  | some z => some (z.1, scatter as z.2 e)
  | none => none
variable {gg : FSem} {ws : List W} {w : W} {oe : Env}
@[simp] theorem ev_call : mCall gg r e = callK1 gg (r e) := by
  unfold mCall callK1; cases h : r e with
  | none => rfl
  | some x =>
    simp only [Option.bind_some]
    cases h2 : gather x.1 x.2 with
    | none => rfl
    | some y => simp only [Option.bind_some, callK1.callK2, callK1.callK3]; cases gg y.1 <;> rfl
@[simp] theorem callK1_s : callK1 gg (some (as, e)) = callK1.callK2 gg as (gather as e) := rfl
@[simp] theorem callK2_s : callK1.callK2 gg as (some (ws, e)) = callK1.callK3 as e (gg ws) := rfl
@[simp] theorem callK3_s : callK1.callK3 as e (some (w, oe)) = some (w, scatter as oe e) := rfl
def gatK (w : W) : Option (List W × Env) → Option (List W × Env)
  | some x => some (w :: x.1, x.2)
  | none => none
@[simp] theorem gatK_s : gatK w (some (ws, e)) = some (w :: ws, e) := rfl
@[simp] theorem gather_nil : gather [] e = some ([], e) := rfl
@[simp] theorem gather_d : gather (.d d :: as) e = gatK (.p d) (gather as e) := by unfold gatK; show (gather as e).map _ = _; cases gather as e <;> rfl
def gatI (as : List Arg) (e1 : Env) : Option (Option W) → Option (List W × Env)
  | some (some w) => gatK w (gather as e1)
  | _ => none
@[simp] theorem gather_io : gather (.io i :: as) e = gatI as (e.set i none) e[i]? := by
  show (match e[i]? with
    | some (some w) => (gather as (e.set i none)).map fun (x : List W × Env) => (w :: x.1, x.2)
    | _ => none) = _
  generalize e[i]? = q
  cases q with
  | none => rfl
  | some q => cases q with
    | none => rfl
    | some w => simp only [gatI, gatK]; cases gather as (e.set i none) <;> rfl
@[simp] theorem gatI_s : gatI as e (some (some w)) = gatK w (gather as e) := rfl
@[simp] theorem scatter_nil : scatter [] oe e = e := rfl
@[simp] theorem scatter_d {o : Option W} : scatter (.d d :: as) (o :: oe) e = scatter as oe e := rfl
@[simp] theorem scatter_io : scatter (.io i :: as) (some w :: oe) e = scatter as oe (e.set i (some w)) := rfl
@[simp] theorem scatter_ion : scatter (.io i :: as) (none :: oe) e = scatter as oe e := rfl
def permK (ix : List Nat) : Option (List Arg × Env) → Option (List Arg × Env)
  | some (as, e) => some (ix.filterMap (as[·]?), e)
  | none => none
@[simp] theorem ev_perm {ix : List Nat} : aPerm ix r e = permK ix (r e) := by unfold aPerm permK; cases r e <;> rfl
@[simp] theorem permK_s {ix : List Nat} : permK ix (some (as, e)) = some (ix.filterMap (as[·]?), e) := rfl
-- owned
variable {mw : M W}
def pK : Option (D × Env) → Option (W × Env)
  | some x => some (.p x.1, x.2)
  | none => none
@[simp] theorem ev_P : mP m e = pK (m e) := by unfold mP pK; cases m e <;> rfl
@[simp] theorem pK_s : pK (some (d, e)) = some (.p d, e) := rfl
def gpK : Option (W × Env) → Option (D × Env)
  | some (.p d, e) => some (d, e)
  | _ => none
@[simp] theorem ev_GetP : mGetP mw e = gpK (mw e) := by unfold mGetP gpK; cases h : mw e with
  | none => rfl
  | some x => obtain ⟨w, e1⟩ := x; cases w <;> rfl
@[simp] theorem gpK_s : gpK (some (.p d, e)) = some (d, e) := rfl
def moveK (i : Nat) (e : Env) : Option (Option W) → Option (W × Env)
  | some (some w) => some (w, e.set i none)
  | _ => none
@[simp] theorem ev_move : mMove i e = moveK i e e[i]? := by unfold mMove moveK; split <;> rename_i h <;> simp_all
@[simp] theorem moveK_s : moveK i e (some (some w)) = some (w, e.set i none) := rfl
def olK : Option (List Arg × Env) → Option (W × Env)
  | some x => olK2 (allD x.1) x.2
  | none => none
where olK2 : Option (List D) → Env → Option (W × Env)
  | some ds, e => if ds.length ≤ LIM then some (.ol (ds.map .p), e) else none
  | none, _ => none
@[simp] theorem ev_ol : mOl r e = olK (r e) := by
  unfold mOl olK; cases h : r e with
  | none => rfl
  | some x => simp only [Option.bind_some]; cases allD x.1 <;> rfl
@[simp] theorem olK_s : olK (some (as, e)) = olK.olK2 (allD as) e := rfl
@[simp] theorem olK2_s : olK.olK2 (some ds) e = if ds.length ≤ LIM then some (.ol (ds.map .p), e) else none := rfl
def ixoK1 (k : Nat) (m : M D) (e : Env) : Option (Option W) → Option (D × Env)
  | some (some _) => ixoK2 k (m e)
  | _ => none
where
  ixoK2 (k : Nat) : Option (D × Env) → Option (D × Env)
  | some (.int i, e) => ixoK3 i e e[k]?
  | _ => none
  ixoK3 (i : Int) (e : Env) : Option (Option W) → Option (D × Env)
  | some (some (.ol ws)) => ixoK4 e (L2.atI ws i)
  | _ => none
  ixoK4 (e : Env) : Option W → Option (D × Env)
  | some (.p d) => some (d, e)
  | _ => none
@[simp] theorem ev_ixO : mIxO k m e = ixoK1 k m e e[k]? := by
  unfold mIxO ixoK1
  generalize e[k]? = o
  rcases o with _ | _ | w0
  · rfl
  · rfl
  · rcases m e with _ | ⟨d, e1⟩
    · rfl
    · cases d with
      | int i =>
        simp only [Option.bind_some, ixoK1.ixoK2, ixoK1.ixoK3]
        generalize e1[k]? = o2
        rcases o2 with _ | _ | w2
        · rfl
        · rfl
        · cases w2 with
          | ol ws =>
            first
              | rfl
              | (simp only [ixoK1.ixoK4]; done)
              | (simp only [ixoK1.ixoK4]; generalize L2.atI ws i = o3; rcases o3 with _ | w3 <;> first | rfl | (cases w3 <;> rfl))
          | _ => rfl
      | _ => rfl
@[simp] theorem ixoK1_s : ixoK1 k m e (some (some w)) = ixoK1.ixoK2 k (m e) := rfl
@[simp] theorem ixoK2_s {i : Int} : ixoK1.ixoK2 k (some (.int i, e)) = ixoK1.ixoK3 i e e[k]? := rfl
@[simp] theorem ixoK3_s {i : Int} {ws : List W} : ixoK1.ixoK3 i e (some (some (.ol ws))) = ixoK1.ixoK4 e (L2.atI ws i) := rfl
@[simp] theorem ixoK4_s : ixoK1.ixoK4 e (some (.p d)) = some (d, e) := rfl
-- statements
variable {a c : S} {sr : SR}
def seqK (b : S) : Option SR → Option SR
  | some (.nx e) => b e
  | r => r
@[simp] theorem ev_seq : sSeq a c e = seqK c (a e) := by unfold sSeq seqK; cases h : a e with
  | none => rfl
  | some r => cases r <;> rfl
@[simp] theorem seqK_nx : seqK c (some (.nx e)) = c e := rfl
@[simp] theorem seqK_rt : seqK c (some (.rt w e)) = some (.rt w e) := rfl
@[simp] theorem seqK_bk : seqK c (some (.bk e)) = some (.bk e) := rfl
@[simp] theorem seqK_ct : seqK c (some (.ct e)) = some (.ct e) := rfl
@[simp] theorem seqK_ex {x : D} : seqK c (some (.ex x e)) = some (.ex x e) := rfl
@[simp] theorem orX_p {d : D} : orX (.p d) e sr = sr := rfl
@[simp] theorem orX_ol {ws : List W} : orX (.ol ws) e sr = sr := rfl
@[simp] theorem orX_od {ws : List (Key × W)} : orX (.od ws) e sr = sr := rfl
@[simp] theorem orX_oi {c : Str} {ws : List (Str × W)} : orX (.oi c ws) e sr = sr := rfl
@[simp] theorem orX_ex {x : D} : orX (.ex x) e sr = .ex x e := rfl
def nex : W → Bool
  | .ex _ => false
  | _ => true
theorem orX_ne {w : W} (h : nex w = true) : orX w e sr = sr := by cases w <;> first | rfl | cases h
@[simp] theorem ev_next : sNext e = some (.nx e) := rfl
@[simp] theorem ev_brk : sBrk e = some (.bk e) := rfl
@[simp] theorem ev_cont : sCont e = some (.ct e) := rfl
def rtK : Option (W × Env) → Option SR
  | some x => some (orX x.1 x.2 (.rt x.1 x.2))
  | none => none
@[simp] theorem ev_ret : sRet mw e = rtK (mw e) := by unfold sRet rtK; cases mw e <;> rfl
@[simp] theorem rtK_s : rtK (some (w, e)) = some (orX w e (.rt w e)) := rfl
@[simp] theorem ev_retN : sRetN e = some (.rt (.p .none) e) := rfl
def setK (i : Nat) : Option (W × Env) → Option SR
  | some x => some (orX x.1 x.2 (.nx (x.2.set i (some x.1))))
  | none => none
@[simp] theorem ev_set : sSet i mw e = setK i (mw e) := by unfold sSet setK; cases mw e <;> rfl
@[simp] theorem setK_s : setK i (some (w, e)) = some (orX w e (.nx (e.set i (some w)))) := rfl
def dropK : Option (W × Env) → Option SR
  | some x => some (orX x.1 x.2 (.nx x.2))
  | none => none
@[simp] theorem ev_drop : sDrop mw e = dropK (mw e) := by unfold sDrop dropK; cases mw e <;> rfl
@[simp] theorem dropK_s : dropK (some (w, e)) = some (orX w e (.nx e)) := rfl
def sixK1 (k : Nat) (mi : M D) : Option (D × Env) → Option SR
  | some y => sixK2 k mi y.1 y.2 y.2[k]?
  | none => none
where
  sixK2 (k : Nat) (mi : M D) (d : D) (e : Env) : Option (Option W) → Option SR
  | some (some _) => sixK3 k d (mi e)
  | _ => none
  sixK3 (k : Nat) (d : D) : Option (D × Env) → Option SR
  | some (.int i, e) => sixK4 k d i e e[k]?
  | _ => none
  sixK4 (k : Nat) (d : D) (i : Int) (e : Env) : Option (Option W) → Option SR
  | some (some (.ol ws)) => (ixN ws.length i).map fun j => .nx (e.set k (some (.ol (ws.set j (.p d)))))
  | _ => none
@[simp] theorem ev_setIx {mi mv : M D} : sSetIx k mi mv e = sixK1 k mi (mv e) := by
  unfold sSetIx sixK1
  rcases mv e with _ | ⟨d, e0⟩
  · rfl
  · simp only [Option.bind_some, sixK1.sixK2]
    generalize e0[k]? = o
    rcases o with _ | _ | w0
    · rfl
    · rfl
    · rcases mi e0 with _ | ⟨d1, e1⟩
      · rfl
      · cases d1 with
        | int i =>
          simp only [Option.bind_some, sixK1.sixK3, sixK1.sixK4]
          generalize e1[k]? = o2
          rcases o2 with _ | _ | w2
          · rfl
          · rfl
          · cases w2 <;> rfl
        | _ => rfl
@[simp] theorem sixK1_s {mi : M D} : sixK1 k mi (some (d, e)) = sixK1.sixK2 k mi d e e[k]? := rfl
@[simp] theorem sixK2_s {mi : M D} : sixK1.sixK2 k mi d e (some (some w)) = sixK1.sixK3 k d (mi e) := rfl
@[simp] theorem sixK3_s {i : Int} : sixK1.sixK3 k d (some (.int i, e)) = sixK1.sixK4 k d i e e[k]? := rfl
@[simp] theorem sixK4_s {i : Int} {ws : List W} : sixK1.sixK4 k d i e (some (some (.ol ws))) = (ixN ws.length i).map fun j => .nx (e.set k (some (.ol (ws.set j (.p d))))) := rfl
-- targets, loops
@[simp] theorem ev_gN : gN i d e = some (e.set i (some (.p d))) := rfl
@[simp] theorem ev_gsNil : gsNil [] e = some e := rfl
def gsK (r : Tgs) (ds : List D) : Option Env → Option Env
  | some e => r ds e
  | none => none
@[simp] theorem ev_gsCons {tg : Tg} {r : Tgs} : gsCons tg r (d :: ds) e = gsK r ds (tg d e) := by
  show (tg d e).bind (r ds) = _
  unfold gsK; cases tg d e <;> rfl
@[simp] theorem gsK_s {r : Tgs} : gsK r ds (some e) = r ds e := rfl
@[simp] theorem ev_gT {n : Nat} {r : Tgs} : gT n r (.tup ds) e = if ds.length = n then r ds e else none := rfl
def asgK (tg : Tg) : Option (D × Env) → Option SR
  | some x => asgK2 (tg x.1 x.2)
  | none => none
where asgK2 : Option Env → Option SR
  | some e => some (.nx e)
  | none => none
@[simp] theorem ev_asg {tg : Tg} : sAsg tg m e = asgK tg (m e) := by
  unfold sAsg asgK; cases h : m e with
  | none => rfl
  | some x => simp only [Option.bind_some]; cases tg x.1 x.2 <;> rfl
@[simp] theorem asgK_s {tg : Tg} : asgK tg (some (d, e)) = asgK.asgK2 (tg d e) := rfl
@[simp] theorem asgK2_s : asgK.asgK2 (some e) = some (.nx e) := rfl
def forK (tg : Tg) (b : S) : Option (List D × Env) → Option SR
  | some x => forRun tg b x.1 x.2
  | none => none
@[simp] theorem ev_for {mi : M (List D)} {tg : Tg} : sFor mi tg a e = forK tg a (mi e) := by unfold sFor forK; cases mi e <;> rfl
@[simp] theorem forK_s {tg : Tg} : forK tg a (some (ds, e)) = forRun tg a ds e := rfl
def iaK (f : List D → Option (List D)) : Option (List Arg × Env) → Option (List D × Env)
  | some x => iaK2 f (allD x.1) x.2
  | none => none
where iaK2 (f : List D → Option (List D)) : Option (List D) → Env → Option (List D × Env)
  | some ds, e => bK (f ds) e
  | none, _ => none
@[simp] theorem ev_iargs {f : List D → Option (List D)} : iArgs f r e = iaK f (r e) := by
  unfold iArgs iaK; cases h : r e with
  | none => rfl
  | some x =>
    simp only [Option.bind_some]
    cases allD x.1 with
    | none => rfl
    | some ds => simp only [Option.bind_some, iaK.iaK2, bK]; cases f ds <;> rfl
@[simp] theorem iaK_s {f : List D → Option (List D)} : iaK f (some (as, e)) = iaK.iaK2 f (allD as) e := rfl
@[simp] theorem iaK2_s {f : List D → Option (List D)} : iaK.iaK2 f (some ds) e = bK (f ds) e := rfl
def ilK : Option (D × Env) → Option (List D × Env)
  | some (.lst ds, e) => some (ds, e)
  | some (.fl ds, e) => some (ds, e)
  | _ => none
@[simp] theorem ev_iLst : iLst m e = ilK (m e) := by unfold iLst ilK; cases h : m e with
  | none => rfl
  | some x => obtain ⟨d, e1⟩ := x; cases d <;> rfl
@[simp] theorem ilK_l : ilK (some (.lst ds, e)) = some (ds, e) := rfl
@[simp] theorem ilK_f : ilK (some (.fl ds, e)) = some (ds, e) := rfl
def itK : Option (D × Env) → Option (List D × Env)
  | some (.tup ds, e) => some (ds, e)
  | _ => none
@[simp] theorem ev_iTpl : iTpl m e = itK (m e) := by unfold iTpl itK; cases h : m e with
  | none => rfl
  | some x => obtain ⟨d, e1⟩ := x; cases d <;> rfl
@[simp] theorem itK_l : itK (some (.tup ds, e)) = some (ds, e) := rfl
def ixK : Option (D × Env) → Option (List D × Env)
  | some (.str y, e) => some (y.cps.toList.map fun c => .str ⟨#[c]⟩, e)
  | _ => none
@[simp] theorem ev_iTxt : iTxt m e = ixK (m e) := by unfold iTxt ixK; cases h : m e with
  | none => rfl
  | some x => obtain ⟨d, e1⟩ := x; cases d <;> rfl
@[simp] theorem ixK_l {y : Str} : ixK (some (.str y, e)) = some (y.cps.toList.map fun c => .str ⟨#[c]⟩, e) := rfl
def lcK (own : List Nat) (tg : Tg) (c : M Bool) (m : M D) : Option (List D × Env) → Option (D × Env)
  | some x => if x.1.length ≤ 1000000 then lcK2 (lcRun own tg c m x.1 (wipeE x.2 own)) else none
  | none => none
where lcK2 : Option (List D × Env) → Option (D × Env)
  | some r => some (.lst r.1, r.2)
  | none => none
@[simp] theorem ev_lc {own : List Nat} {mi : M (List D)} {tg : Tg} : mLc own mi tg t m e = lcK own tg t m (mi e) := by
  unfold mLc lcK; cases h : mi e with
  | none => rfl
  | some x =>
    simp only [Option.bind_some]
    split
    · cases lcRun own tg t m x.1 (wipeE x.2 own) <;> rfl
    · rfl
@[simp] theorem lcK_s {own : List Nat} {tg : Tg} : lcK own tg t m (some (ds, e)) = if ds.length ≤ 1000000 then lcK.lcK2 (lcRun own tg t m ds (wipeE e own)) else none := rfl
@[simp] theorem lcK2_s : lcK.lcK2 (some (ds, e)) = some (.lst ds, e) := rfl
@[simp] theorem wipeE_nil : wipeE e [] = e := rfl
@[simp] theorem wipeE_cons {v : Nat} {vs : List Nat} : wipeE e (v :: vs) = (wipeE e vs).set v none := rfl
def slK1 (f : D → Option Int → Option Int → Option D) (lo hi : M (Option Int)) : Option (D × Env) → Option (D × Env)
  | some x => slK2 f hi x.1 (lo x.2)
  | none => none
where
  slK2 (f : D → Option Int → Option Int → Option D) (hi : M (Option Int)) (x : D) : Option (Option Int × Env) → Option (D × Env)
  | some l => slK3 f x l.1 (hi l.2)
  | none => none
  slK3 (f : D → Option Int → Option Int → Option D) (x : D) (l : Option Int) : Option (Option Int × Env) → Option (D × Env)
  | some h => retK (f x l h.1) h.2
  | none => none
variable {lo hi : M (Option Int)} {fs : D → Option Int → Option Int → Option D} {ol oh : Option Int}
@[simp] theorem ev_sl : mSl fs m lo hi e = slK1 fs lo hi (m e) := by
  unfold mSl slK1; cases h : m e with
  | none => rfl
  | some x =>
    simp only [Option.bind_some]
    cases h2 : lo x.2 with
    | none => rfl
    | some l =>
      simp only [Option.bind_some, slK1.slK2]
      cases h3 : hi l.2 with
      | none => rfl
      | some hh => simp only [Option.bind_some, slK1.slK3, retK]; cases fs x.1 l.1 hh.1 <;> rfl
@[simp] theorem slK1_s : slK1 fs lo hi (some (d, e)) = slK1.slK2 fs hi d (lo e) := rfl
@[simp] theorem slK2_s : slK1.slK2 fs hi d (some (ol, e)) = slK1.slK3 fs d ol (hi e) := rfl
@[simp] theorem slK3_s : slK1.slK3 fs d ol (some (oh, e)) = retK (fs d ol oh) e := rfl
@[simp] theorem ev_noI : mNoI e = some (none, e) := rfl
def optK : Option (D × Env) → Option (Option Int × Env)
  | some (.int i, e) => some (some i, e)
  | _ => none
@[simp] theorem ev_optI : mOptI m e = optK (m e) := by unfold mOptI optK; cases h : m e with
  | none => rfl
  | some x => obtain ⟨d, e1⟩ := x; cases d <;> rfl
@[simp] theorem optK_s {i : Int} : optK (some (.int i, e)) = some (some i, e) := rfl
def op2K1 (f : D → D → Option D) (r : M (List Arg)) : Option (D × Env) → Option (D × Env)
  | some x => op2K2 f x.1 (r x.2)
  | none => none
where
  op2K2 (f : D → D → Option D) (x : D) : Option (List Arg × Env) → Option (D × Env)
  | some y => op2K3 f x y.2 (allD y.1)
  | none => none
  op2K3 (f : D → D → Option D) (x : D) (e : Env) : Option (List D) → Option (D × Env)
  | some [d] => retK (f x d) e
  | _ => none
@[simp] theorem ev_op2 : mOp2 f m r e = op2K1 f r (m e) := by
  unfold mOp2 op2K1
  rcases m e with _ | ⟨x, e1⟩
  · rfl
  · simp only [Option.bind_some]
    rcases r e1 with _ | ⟨y, e2⟩
    · rfl
    · simp only [Option.bind_some, op2K1.op2K2, op2K1.op2K3]
      generalize allD y = o
      rcases o with _ | _ | ⟨d, _ | ⟨d2, l⟩⟩
      · rfl
      · rfl
      · simp only [retK]
        cases f x d <;> rfl
      · rfl
@[simp] theorem op2K1_s : op2K1 f r (some (d, e)) = op2K1.op2K2 f d (r e) := rfl
@[simp] theorem op2K2_s : op2K1.op2K2 f x (some (as, e)) = op2K1.op2K3 f x e (allD as) := rfl
@[simp] theorem op2K3_s : op2K1.op2K3 f x e (some [d]) = retK (f x d) e := rfl
end
/-- the loop as a fold over what its turns do to the state -/
theorem forRun_nil {tg : Tg} {b : S} {e : Env} : forRun tg b [] e = some (.nx e) := rfl
theorem forRun_cons {tg : Tg} {b : S} {d : D} {ds : List D} {e e1 e2 : Env} (h1 : tg d e = some e1) (h2 : b e1 = some (.nx e2)) : forRun tg b (d :: ds) e = forRun tg b ds e2 := by
  simp only [forRun, h1, h2, Option.bind_some]
/-- an invariant of a loop that runs through -/
theorem forRun_inv {tg : Tg} {b : S} (P : Nat → Env → Prop) : ∀ (ds : List D) (i : Nat) (e : Env), P i e → (∀ j d e, ds[j]? = some d → P (i + j) e → ∃ e1 e2, tg d e = some e1 ∧ b e1 = some (.nx e2) ∧ P (i + j + 1) e2) →
    ∃ e', forRun tg b ds e = some (.nx e') ∧ P (i + ds.length) e'
  | [], i, e, h, _ => ⟨e, rfl, h⟩
  | d :: ds, i, e, h, k => by
    obtain ⟨e1, e2, h1, h2, h3⟩ := k 0 d e rfl h
    obtain ⟨e', h4, h5⟩ := forRun_inv P ds (i + 1) e2 (by simpa using h3) fun j d e hd hp => by
      have := k (j + 1) d e (by simpa using hd) (by rw [show i + (j + 1) = i + 1 + j by omega]; exact hp)
      rw [show i + (j + 1) + 1 = i + 1 + j + 1 by omega] at this
      exact this
    refine ⟨e', by rw [forRun_cons h1 h2]; exact h4, ?_⟩
    rw [List.length_cons, show i + (ds.length + 1) = i + 1 + ds.length by omega]
    exact h5
/-- a comprehension whose turns all give something: the results by an invariant of the state -/
theorem lcRun_inv {own : List Nat} {tg : Tg} {c : M Bool} {m : M D} (P : Nat → Env → Prop) (T : D → Prop) : ∀ (ds : List D) (i : Nat) (e : Env), P i e →
    (∀ j d e, ds[j]? = some d → P (i + j) e → ∃ e1, tg d e = some e1 ∧ ((∃ e2, c e1 = some (false, e2) ∧ P (i + j + 1) (wipeE e2 own)) ∨ (∃ e2 y e3, c e1 = some (true, e2) ∧ m e2 = some (y, e3) ∧ T y ∧ P (i + j + 1) (wipeE e3 own)))) →
    ∃ ys e', lcRun own tg c m ds e = some (ys, e') ∧ P (i + ds.length) e' ∧ (∀ y ∈ ys, T y) ∧ ys.length ≤ ds.length
  | [], i, e, h, _ => ⟨[], e, rfl, h, (fun y hy => by cases hy), Nat.le_refl _⟩
  | d :: ds, i, e, h, k => by
    have next : ∀ e2, P (i + 1) e2 → ∃ ys e', lcRun own tg c m ds e2 = some (ys, e') ∧ P (i + (ds.length + 1)) e' ∧ (∀ y ∈ ys, T y) ∧ ys.length ≤ ds.length := fun e2 h2 => by
      obtain ⟨ys, e', h3, h4, h5, h6⟩ := lcRun_inv P T ds (i + 1) e2 h2 fun j d e hd hp => by
        have := k (j + 1) d e (by simpa using hd) (by rw [show i + (j + 1) = i + 1 + j by omega]; exact hp)
        rw [show i + (j + 1) + 1 = i + 1 + j + 1 by omega] at this
        exact this
      exact ⟨ys, e', h3, by rw [show i + (ds.length + 1) = i + 1 + ds.length by omega]; exact h4, h5, h6⟩
    obtain ⟨e1, h1, hh⟩ := k 0 d e rfl h
    rcases hh with ⟨e2, h2, h3⟩ | ⟨e2, y, e3, h2, h3, h4, h5⟩
    · obtain ⟨ys, e', q1, q2, q3, q4⟩ := next _ h3
      exact ⟨ys, e', by simp [lcRun, h1, h2, q1], q2, q3, by rw [List.length_cons]; omega⟩
    · obtain ⟨ys, e', q1, q2, q3, q4⟩ := next _ h5
      refine ⟨y :: ys, e', by simp [lcRun, h1, h2, h3, q1], q2, fun z hz => ?_, by rw [List.length_cons, List.length_cons]; omega⟩
      rcases List.mem_cons.mp hz with rfl | hz
      · exact h4
      · exact q3 z hz
/-- a comprehension that leaves the state: a map -/
theorem lcRun_map {own : List Nat} {tg : Tg} {c : M Bool} {m : M D} {e : Env} (f : D → D) : ∀ (ds : List D), (∀ d ∈ ds, ∃ e1 e2 e3, tg d e = some e1 ∧ c e1 = some (true, e2) ∧ m e2 = some (f d, e3) ∧ wipeE e3 own = e) → lcRun own tg c m ds e = some (ds.map f, e)
  | [], _ => rfl
  | d :: ds, k => by
    obtain ⟨e1, e2, e3, h1, h2, h3, h4⟩ := k d (by simp)
    simp [lcRun, h1, h2, h3, h4, lcRun_map f ds fun d hd => k d (by simp [hd])]
/-- .. with a test: a filter and a map -/
theorem lcRun_filter {own : List Nat} {tg : Tg} {c : M Bool} {m : M D} {e : Env} (p : D → Bool) (f : D → D) : ∀ (ds : List D), (∀ d ∈ ds, ∃ e1 e2, tg d e = some e1 ∧ c e1 = some (p d, e2) ∧ (p d = false → wipeE e2 own = e) ∧ (p d = true → ∃ e3, m e2 = some (f d, e3) ∧ wipeE e3 own = e)) → lcRun own tg c m ds e = some ((ds.filter p).map f, e)
  | [], _ => rfl
  | d :: ds, k => by
    obtain ⟨e1, e2, h1, h2, h3, h4⟩ := k d (by simp)
    have ih := lcRun_filter p f ds fun d hd => k d (by simp [hd])
    cases hp : p d with
    | false => simp [lcRun, h1, h2, hp, h3 hp, ih]
    | true =>
      obtain ⟨e3, h5, h6⟩ := h4 hp
      simp [lcRun, h1, h2, hp, h5, h6, ih]
/-- a def's meaning at its arguments -/
theorem fsem_rt {n : Nat} {io : List Bool} {m : S} {ws : List W} {w : W} {e : Env} (h : m (ws.map some ++ List.replicate (n - ws.length) none) = some (.rt w e)) : fsem n io m ws = some (w, outs io e) := by
  unfold fsem; rw [h]
theorem fsem_nx {n : Nat} {io : List Bool} {m : S} {ws : List W} {e : Env} (h : m (ws.map some ++ List.replicate (n - ws.length) none) = some (.nx e)) : fsem n io m ws = some (.p .none, outs io e) := by
  unfold fsem; rw [h]
end MV
namespace MV
open PySem L2
/-! ### items, numbers -/
section
variable {α : Type} {xs : List α} {i j : Int}
theorem atI_nn (h : 0 ≤ i) : L2.atI xs i = xs[i.toNat]? := by
  unfold L2.atI ixN
  rw [if_pos h]
  by_cases hl : i < (xs.length : Int)
  · rw [if_pos hl]; rfl
  · rw [if_neg hl, List.getElem?_eq_none (by omega)]; rfl
@[simp] theorem atI_0 : L2.atI xs 0 = xs[0]? := atI_nn (by decide)
@[simp] theorem atI_1 : L2.atI xs 1 = xs[1]? := atI_nn (by decide)
@[simp] theorem atI_2 : L2.atI xs 2 = xs[2]? := atI_nn (by decide)
@[simp] theorem atI_3 : L2.atI xs 3 = xs[3]? := atI_nn (by decide)
@[simp] theorem atI_cast {n : Nat} : L2.atI xs (n : Int) = xs[n]? := atI_nn (by omega)
theorem ixN_nn {n : Nat} (h : 0 ≤ i) (hl : i < (n : Int)) : ixN n i = some i.toNat := by unfold ixN; rw [if_pos h, if_pos hl]
@[simp] theorem ixN_0 {n : Nat} : ixN (n + 1) 0 = some 0 := ixN_nn (by decide) (by omega)
@[simp] theorem ixN_1 {n : Nat} : ixN (n + 2) 1 = some 1 := ixN_nn (by decide) (by omega)
@[simp] theorem ixN_2 {n : Nat} : ixN (n + 3) 2 = some 2 := ixN_nn (by decide) (by omega)
@[simp] theorem ixN_3 {n : Nat} : ixN (n + 4) 3 = some 3 := ixN_nn (by decide) (by omega)
end
section
variable {i j : Int} {ds es : List D} {x y : Str} {a b : Bool}
@[simp] theorem dAdd_i : dAdd (.int i) (.int j) = some (.int (i + j)) := rfl
@[simp] theorem dI_i {f : Int → Int → Option D} : dI f (.int i) (.int j) = f i j := rfl
@[simp] theorem dMul_i : dMul (.int i) (.int j) = if CMul i j then some (.int (i * j)) else none := rfl
@[simp] theorem dNeg_i : dNeg (.int i) = some (.int (-i)) := rfl
@[simp] theorem dEq_i : dEq (.int i) (.int j) = some (.bool (decide (i = j))) := rfl
@[simp] theorem dEq_s : dEq (.str x) (.str y) = some (.bool (decide (x = y))) := rfl
@[simp] theorem dEq_b : dEq (.bool a) (.bool b) = some (.bool (decide (a = b))) := rfl
@[simp] theorem dNe_i : dNe (.int i) (.int j) = some (.bool !decide (i = j)) := rfl
@[simp] theorem dNe_s : dNe (.str x) (.str y) = some (.bool !decide (x = y)) := rfl
@[simp] theorem dNe_b : dNe (.bool a) (.bool b) = some (.bool !decide (a = b)) := rfl
@[simp] theorem dIx_l : dIx (.lst ds) (.int i) = L2.atI ds i := rfl
@[simp] theorem dIx_f : dIx (.fl ds) (.int i) = L2.atI ds i := rfl
@[simp] theorem dIx_t : dIx (.tup ds) (.int i) = L2.atI ds i := rfl
@[simp] theorem dIx_s : dIx (.str x) (.int i) = if x.length ≤ LIM then (L2.atI x.cps.toList i).map fun c => .str ⟨#[c]⟩ else none := rfl
@[simp] theorem fLen_l : fLen [.lst ds] = some (.int ds.length) := rfl
@[simp] theorem fLen_f : fLen [.fl ds] = some (.int ds.length) := rfl
@[simp] theorem fLen_t : fLen [.tup ds] = some (.int ds.length) := rfl
@[simp] theorem fLen_s : fLen [.str x] = if x.length ≤ LIM then some (.int x.length) else none := rfl
@[simp] theorem fAbs_i : fAbs [.int i] = some (.int (if i < 0 then -i else i)) := rfl
@[simp] theorem fList_l : fList [.lst ds] = some (.lst ds) := rfl
@[simp] theorem fList_f : fList [.fl ds] = some (.lst ds) := rfl
@[simp] theorem fList_t : fList [.tup ds] = some (.lst ds) := rfl
@[simp] theorem dTru_b : dTru (.bool a) = some a := rfl
@[simp] theorem dTru_n : dTru .none = some false := rfl
@[simp] theorem dIsN_n {d : D} : dIsN d .none = some (.bool (isNone d)) := rfl
@[simp] theorem dNotN_n {d : D} : dNotN d .none = some (.bool !isNone d) := rfl
@[simp] theorem isNone_n : isNone .none = true := rfl
@[simp] theorem isNone_i : isNone (.int i) = false := rfl
@[simp] theorem isNone_b : isNone (.bool a) = false := rfl
@[simp] theorem isNone_s : isNone (.str x) = false := rfl
@[simp] theorem isNone_l : isNone (.lst ds) = false := rfl
@[simp] theorem isNone_t : isNone (.tup ds) = false := rfl
@[simp] theorem isNone_d {es : List (Key × D)} : isNone (.dict es) = false := rfl
@[simp] theorem fLst_e : fLst ds = if ds.length ≤ LIM then some (.lst ds) else none := rfl
@[simp] theorem fTup_e : fTup ds = if ds.length ≤ LIM then some (.tup ds) else none := rfl
@[simp] theorem fRange1_i : fRange1 [.int i] = if -1000000 ≤ i ∧ i ≤ 1000000 then some (rngD 0 i.toNat) else none := rfl
@[simp] theorem fRange2_i : fRange2 [.int i, .int j] = if -1000000 ≤ i ∧ i ≤ 1000000 ∧ -1000000 ≤ j ∧ j ≤ 1000000 then some (rngD i (j - i).toNat) else none := rfl
@[simp] theorem fEnum_l : fEnum [.lst ds] = some (enD ds) := rfl
@[simp] theorem fZip_l : fZip [.lst ds, .lst es] = some (zipD ds es) := rfl
@[simp] theorem fZip_t : fZip [.tup ds, .tup es] = some (zipD ds es) := rfl
@[simp] theorem fAll_l : fAll [.lst ds] = (boolsD ds).map fun bs => .bool (bs.all id) := rfl
@[simp] theorem fAny_l : fAny [.lst ds] = (boolsD ds).map fun bs => .bool (bs.any id) := rfl
theorem boolsD_map {α : Type} {xs : List α} {f : α → Bool} : boolsD (xs.map fun x => .bool (f x)) = some (xs.map f) := by
  induction xs with
  | nil => rfl
  | cons x xs ih => show (boolsD (xs.map fun x => .bool (f x))).map (f x :: ·) = _; rw [ih]; rfl
@[simp] theorem dIsi_i {T : String} : dIsi T (.int i) = some (.bool (isiT "int" T)) := rfl
@[simp] theorem dIsi_b {T : String} : dIsi T (.bool a) = some (.bool (isiT "bool" T)) := rfl
@[simp] theorem dIsi_s {T : String} : dIsi T (.str x) = some (.bool (isiT "str" T)) := rfl
@[simp] theorem dIsi_l {T : String} : dIsi T (.lst ds) = some (.bool (isiT "list" T)) := rfl
@[simp] theorem dIsi_t {T : String} : dIsi T (.tup ds) = some (.bool (isiT "tuple" T)) := rfl
@[simp] theorem dIsi_n {T : String} : dIsi T .none = some (.bool (isiT "NoneType" T)) := rfl
@[simp] theorem joinD_l : joinD (.str x) (.lst ds) = (strsD ds).bind fun ys => if (ys.map (·.length)).sum + ys.length * x.length ≤ LIM then some (.str (Txt.join x ys)) else none := rfl
end
end MV

namespace MV
open PySem L2
variable [TB]

/-! ### places in owned things -/
inductive Stp where
  | ix (j : Nat) | ky (k : Key) | fd (f : Str)
def valW (es : List (Key × W)) (k : Key) : Option W := (es.find? fun q => decide (q.1 = k)).map (·.2)
/-- in place, the first -/
def setW : List (Key × W) → Key → W → List (Key × W)
  | [], _, _ => []
  | (k', w') :: r, k, w => if k' = k then (k', w) :: r else (k', w') :: setW r k w
def setFW : List (Str × W) → Str → W → List (Str × W)
  | [], _, _ => []
  | (k', w') :: r, k, w => if k' = k then (k', w) :: r else (k', w') :: setFW r k w
def getFW : List (Str × W) → Str → Option W
  | [], _ => none
  | (k', w') :: r, k => if k' = k then some w' else getFW r k
def W.sub : W → List Stp → Option W
  | w, [] => some w
  | .ol ws, .ix j :: pt => ws[j]?.bind fun w => W.sub w pt
  | .ot ws, .ix j :: pt => ws[j]?.bind fun w => W.sub w pt
  | .od es, .ky k :: pt => (valW es k).bind fun w => W.sub w pt
  | .oi _ fs, .fd f :: pt => (getFW fs f).bind fun w => W.sub w pt
  | _, _ :: _ => none
def W.put : W → List Stp → W → W
  | _, [], u => u
  | .ol ws, .ix j :: pt, u => match ws[j]? with
    | some w => .ol (ws.set j (W.put w pt u))
    | none => .ol ws
  | .ot ws, .ix j :: pt, u => match ws[j]? with
    | some w => .ot (ws.set j (W.put w pt u))
    | none => .ot ws
  | .od es, .ky k :: pt, u => match valW es k with
    | some w => .od (setW es k (W.put w pt u))
    | none => .od es
  | .oi c fs, .fd f :: pt, u => match getFW fs f with
    | some w => .oi c (setFW fs f (W.put w pt u))
    | none => .oi c fs
  | w, _ :: _, _ => w
section
variable (mg : Str → Option Value) (H : Hp)
/-- the value at a place -/
def At : W → V → List Stp → W → V → Prop
  | w, v, [], u, x => u = w ∧ x = v
  | .ol ws, v, .ix j :: p, u, x => ∃ a xs w' x', v = .ref a ∧ H a = some (.lst xs) ∧ ws[j]? = some w' ∧ xs[j]? = some x' ∧ At w' x' p u x
  | .ot ws, v, .ix j :: p, u, x => ∃ a xs w' x', v = .ref a ∧ H a = some (.tup xs) ∧ ws[j]? = some w' ∧ xs[j]? = some x' ∧ At w' x' p u x
  | .od es, v, .ky k :: p, u, x => ∃ a kvs w' x', v = .ref a ∧ H a = some (.dK kvs) ∧ valW es k = some w' ∧ valV kvs k = some x' ∧ At w' x' p u x
  | .oi c fs, v, .fd f :: p, u, x => ∃ a C dx gs w' x', v = .ref a ∧ H a = some (.ins C dx gs) ∧ getFW fs f = some w' ∧ gs.lookup f = some x' ∧ At w' x' p u x
  | _, _, _ :: _, _, _ => False
end
section
variable {K : PySem.W.Frag} {mg : Str → Option Value} {I H : Hp}
theorem RoL.lens : ∀ {ws : List W} {xs : List V} {F : List Addr} {j : Nat} {w : W}, RoL K mg I H ws xs F → ws[j]? = some w →
    ∃ x A G B, xs[j]? = some x ∧ F = A ++ (G ++ B) ∧ Ro K mg I H w x G ∧ ∀ I' H' w' x' G', Ex I I' → (∀ a, a ∈ A ∨ a ∈ B → ∀ o, H a = some o → NT o → H' a = some o) → Ro K mg I' H' w' x' G' → RoL K mg I' H' (ws.set j w') (xs.set j x') (A ++ (G' ++ B))
  | [], xs, F, j, w, h, e => by simp at e
  | u :: ws, xs, F, 0, w, h, e => by
    simp only [RoL] at h
    obtain ⟨x, r, F1, F2, rfl, rfl, h1, h2⟩ := h
    simp at e
    subst e
    refine ⟨x, [], F1, F2, rfl, rfl, h1, fun I' H' w' x' G' ex fr h3 => ?_⟩
    show RoL K mg I' H' (w' :: ws) (x' :: r) (G' ++ F2)
    simp only [RoL]
    exact ⟨x', r, G', F2, rfl, rfl, h3, RoL.frame ex ws r F2 (fun a ha => fr a (.inr ha)) h2⟩
  | u :: ws, xs, F, j + 1, w, h, e => by
    simp only [RoL] at h
    obtain ⟨x, r, F1, F2, rfl, rfl, h1, h2⟩ := h
    simp at e
    obtain ⟨y, A, G, B, h3, rfl, h4, k⟩ := RoL.lens h2 e
    refine ⟨y, F1 ++ A, G, B, by simpa using h3, by simp, h4, fun I' H' w' x' G' ex fr h5 => ?_⟩
    show RoL K mg I' H' (u :: ws.set j w') (x :: r.set j x') (F1 ++ A ++ (G' ++ B))
    simp only [RoL]
    exact ⟨x, _, F1, A ++ (G' ++ B), rfl, by simp, Ro.frame ex u x F1 (fun a ha => fr a (.inl (by simp [ha]))) h1, k I' H' w' x' G' ex (fun a ha => fr a (by rcases ha with z | z <;> simp [z])) h5⟩
theorem RoK.lens : ∀ {ws : List (Key × W)} {xs : List (Key × V)} {F : List Addr} {j : Key} {w : W}, RoK K mg I H ws xs F → valW ws j = some w →
    ∃ x A G B, valV xs j = some x ∧ F = A ++ (G ++ B) ∧ Ro K mg I H w x G ∧ ∀ I' H' w' G', Ex I I' → (∀ a, a ∈ A ∨ a ∈ B → ∀ o, H a = some o → NT o → H' a = some o) → Ro K mg I' H' w' x G' → RoK K mg I' H' (setW ws j w') xs (A ++ (G' ++ B))
  | [], xs, F, j, w, h, e => by simp [valW] at e
  | (q, u) :: ws, xs, F, j, w, h, e => by
    simp only [RoK] at h
    obtain ⟨x, r, F1, F2, rfl, rfl, h1, h2⟩ := h
    by_cases hq : q = j
    · subst hq
      simp [valW] at e
      subst e
      refine ⟨x, [], F1, F2, valV_pos rfl, rfl, h1, fun I' H' w' G' ex fr h3 => ?_⟩
      unfold setW
      rw [if_pos rfl]
      simp only [RoK]
      exact ⟨x, r, G', F2, rfl, rfl, h3, RoK.frame ex ws r F2 (fun a ha => fr a (.inr ha)) h2⟩
    · have e' : valW ws j = some w := by simpa [valW, List.find?_cons, hq] using e
      obtain ⟨y, A, G, B, h3, rfl, h4, k⟩ := RoK.lens h2 e'
      refine ⟨y, F1 ++ A, G, B, (valV_neg (p := (q, x)) hq).trans h3, by simp, h4, fun I' H' w' G' ex fr h5 => ?_⟩
      unfold setW
      rw [if_neg hq]
      simp only [RoK]
      exact ⟨x, _, F1, A ++ (G' ++ B), rfl, by simp, Ro.frame ex u x F1 (fun a ha => fr a (.inl (by simp [ha]))) h1, k I' H' w' G' ex (fun a ha => fr a (by rcases ha with z | z <;> simp [z])) h5⟩
theorem RoF.lens : ∀ {ws : List (Str × W)} {xs : List (Str × V)} {F : List Addr} {j : Str} {w : W}, RoF K mg I H ws xs F → getFW ws j = some w →
    ∃ x A G B, xs.lookup j = some x ∧ F = A ++ (G ++ B) ∧ Ro K mg I H w x G ∧ ∀ I' H' w' x' G', Ex I I' → (∀ a, a ∈ A ∨ a ∈ B → ∀ o, H a = some o → NT o → H' a = some o) → Ro K mg I' H' w' x' G' → RoF K mg I' H' (setFW ws j w') (L2.putF j x' xs) (A ++ (G' ++ B))
  | [], xs, F, j, w, h, e => by simp [getFW] at e
  | (q, u) :: ws, xs, F, j, w, h, e => by
    simp only [RoF] at h
    obtain ⟨x, r, F1, F2, rfl, rfl, h1, h2⟩ := h
    unfold getFW at e
    split at e
    · rename_i hq
      subst hq
      cases e
      refine ⟨x, [], F1, F2, by simp, rfl, h1, fun I' H' w' x' G' ex fr h3 => ?_⟩
      unfold setFW L2.putF
      rw [if_pos rfl, if_pos rfl]
      simp only [RoF]
      exact ⟨x', r, G', F2, rfl, rfl, h3, RoF.frame ex ws r F2 (fun a ha => fr a (.inr ha)) h2⟩
    · rename_i hq
      obtain ⟨y, A, G, B, h3, rfl, h4, k⟩ := RoF.lens h2 e
      have hb : (j == q) = false := by
        rw [beq_eq_false_iff_ne]; exact Ne.symm hq
      refine ⟨y, F1 ++ A, G, B, by rw [List.lookup_cons, hb]; exact h3, by simp, h4, fun I' H' w' x' G' ex fr h5 => ?_⟩
      unfold setFW L2.putF
      rw [if_neg hq, if_neg hq]
      simp only [RoF]
      exact ⟨x, _, F1, A ++ (G' ++ B), rfl, by simp, Ro.frame ex u x F1 (fun a ha => fr a (.inl (by simp [ha]))) h1, k I' H' w' x' G' ex (fun a ha => fr a (by rcases ha with z | z <;> simp [z])) h5⟩
theorem putF_id : ∀ {xs : List (Str × V)} {f : Str} {x : V}, xs.lookup f = some x → L2.putF f x xs = xs
  | [], f, x, h => by simp at h
  | (g, y) :: r, f, x, h => by
    unfold L2.putF
    by_cases hg : g = f
    · subst hg
      simp at h
      subst h
      rw [if_pos rfl]
    · rw [if_neg hg]
      have hb : (f == g) = false := by
        rw [beq_eq_false_iff_ne]; exact Ne.symm hg
      rw [List.lookup_cons, hb] at h
      rw [putF_id h]
theorem set_id {α : Type} {xs : List α} {j : Nat} {x : α} (h : xs[j]? = some x) : xs.set j x = xs := by
  obtain ⟨hl, e⟩ := List.getElem?_eq_some_iff.mp h
  exact List.ext_getElem? fun i => by
    by_cases z : j = i
    · subst z; rw [List.getElem?_set_self hl, h]
    · rw [List.getElem?_set_ne z]
/-- a place in an owned thing: what stands there, the rest -/
theorem Ro.lens : ∀ (p : List Stp) {w : W} {v : V} {F : List Addr} {u : W} {x : V}, Ro K mg I H w v F → At H w v p u x →
    ∃ A G B, F = A ++ (G ++ B) ∧ Ro K mg I H u x G ∧ ∀ I' H' u' G', Ex I I' → (∀ a, a ∈ A ∨ a ∈ B → ∀ o, H a = some o → NT o → H' a = some o) → Ro K mg I' H' u' x G' → Ro K mg I' H' (w.put p u') v (A ++ (G' ++ B))
  | [], w, v, F, u, x, h, a => by
    cases w <;> (obtain ⟨rfl, rfl⟩ := a; exact ⟨[], F, [], by simp, h, fun I' H' u' G' _ _ h' => by simpa [W.put] using h'⟩)
  | s :: p, .p d, v, F, u, x, h, a => by cases s <;> exact a.elim
  | s :: p, .ex d, v, F, u, x, h, a => by cases s <;> exact a.elim
  | .ix j :: p, .ol ws, v, F, u, x, h, a => by
    obtain ⟨l, xs, w', x', rfl, h1, h2, h3, h4⟩ := a
    simp only [Ro] at h
    obtain ⟨l', xs', G, e, h1', rfl, h5⟩ := h
    cases e
    rw [h1] at h1'
    cases h1'
    obtain ⟨y, A, G1, B, e, rfl, h6, k⟩ := h5.lens h2
    rw [h3] at e
    cases e
    obtain ⟨A2, G2, B2, rfl, h7, k2⟩ := Ro.lens p h6 h4
    refine ⟨l :: (A ++ A2), G2, B2 ++ B, by simp, h7, fun I' H' u' G' ex fr h8 => ?_⟩
    have h9 := k2 I' H' u' G' ex (fun a ha => fr a (by rcases ha with z | z <;> simp [z])) h8
    have h10 := k I' H' _ x' _ ex (fun a ha => fr a (by rcases ha with z | z <;> simp [z])) h9
    simp only [W.put, h2]
    simp only [Ro]
    exact ⟨l, xs, A ++ ((A2 ++ (G' ++ B2)) ++ B), rfl, fr l (.inl (by simp)) _ h1 (fun _ z => by cases z), by simp, by rw [set_id h3] at h10; exact h10⟩
  | .ix j :: p, .ot ws, v, F, u, x, h, a => by
    obtain ⟨l, xs, w', x', rfl, h1, h2, h3, h4⟩ := a
    simp only [Ro] at h
    obtain ⟨l', xs', G, e, h1', rfl, h5⟩ := h
    cases e
    rw [h1] at h1'
    cases h1'
    obtain ⟨y, A, G1, B, e, rfl, h6, k⟩ := h5.lens h2
    rw [h3] at e
    cases e
    obtain ⟨A2, G2, B2, rfl, h7, k2⟩ := Ro.lens p h6 h4
    refine ⟨l :: (A ++ A2), G2, B2 ++ B, by simp, h7, fun I' H' u' G' ex fr h8 => ?_⟩
    have h9 := k2 I' H' u' G' ex (fun a ha => fr a (by rcases ha with z | z <;> simp [z])) h8
    have h10 := k I' H' _ x' _ ex (fun a ha => fr a (by rcases ha with z | z <;> simp [z])) h9
    simp only [W.put, h2]
    simp only [Ro]
    exact ⟨l, xs, A ++ ((A2 ++ (G' ++ B2)) ++ B), rfl, fr l (.inl (by simp)) _ h1 (fun _ z => by cases z), by simp, by rw [set_id h3] at h10; exact h10⟩
  | .ky j :: p, .od ws, v, F, u, x, h, a => by
    obtain ⟨l, xs, w', x', rfl, h1, h2, h3, h4⟩ := a
    simp only [Ro] at h
    obtain ⟨l', xs', G, e, h1', rfl, h5⟩ := h
    cases e
    rw [h1] at h1'
    cases h1'
    obtain ⟨y, A, G1, B, e, rfl, h6, k⟩ := h5.lens h2
    rw [h3] at e
    cases e
    obtain ⟨A2, G2, B2, rfl, h7, k2⟩ := Ro.lens p h6 h4
    refine ⟨l :: (A ++ A2), G2, B2 ++ B, by simp, h7, fun I' H' u' G' ex fr h8 => ?_⟩
    have h9 := k2 I' H' u' G' ex (fun a ha => fr a (by rcases ha with z | z <;> simp [z])) h8
    have h10 := k I' H' _ _ ex (fun a ha => fr a (by rcases ha with z | z <;> simp [z])) h9
    simp only [W.put, h2]
    simp only [Ro]
    exact ⟨l, xs, A ++ ((A2 ++ (G' ++ B2)) ++ B), rfl, fr l (.inl (by simp)) _ h1 (fun _ z => by cases z), by simp, h10⟩
  | .fd j :: p, .oi c ws, v, F, u, x, h, a => by
    obtain ⟨l, C, dx, xs, w', x', rfl, h1, h2, h3, h4⟩ := a
    simp only [Ro] at h
    obtain ⟨l', C', dx', xs', G, e, hc, h1', rfl, h5⟩ := h
    cases e
    rw [h1] at h1'
    cases h1'
    obtain ⟨y, A, G1, B, e, rfl, h6, k⟩ := h5.lens h2
    rw [h3] at e
    cases e
    obtain ⟨A2, G2, B2, rfl, h7, k2⟩ := Ro.lens p h6 h4
    refine ⟨l :: (A ++ A2), G2, B2 ++ B, by simp, h7, fun I' H' u' G' ex fr h8 => ?_⟩
    have h9 := k2 I' H' u' G' ex (fun a ha => fr a (by rcases ha with z | z <;> simp [z])) h8
    have h10 := k I' H' _ x' _ ex (fun a ha => fr a (by rcases ha with z | z <;> simp [z])) h9
    simp only [W.put, h2]
    simp only [Ro]
    exact ⟨l, C, dx, xs, A ++ ((A2 ++ (G' ++ B2)) ++ B), rfl, hc, fr l (.inl (by simp)) _ h1 (fun _ z => by cases z), by simp, by rw [putF_id h3] at h10; exact h10⟩
  | .ky _ :: p, .ol ws, v, F, u, x, h, a => a.elim
  | .ky _ :: p, .ot ws, v, F, u, x, h, a => a.elim
  | .fd _ :: p, .ol ws, v, F, u, x, h, a => a.elim
  | .fd _ :: p, .ot ws, v, F, u, x, h, a => a.elim
  | .ix _ :: p, .od ws, v, F, u, x, h, a => a.elim
  | .fd _ :: p, .od ws, v, F, u, x, h, a => a.elim
  | .ix _ :: p, .oi _ ws, v, F, u, x, h, a => a.elim
  | .ky _ :: p, .oi _ ws, v, F, u, x, h, a => a.elim
/-- a place exists -/
theorem At.of : ∀ (p : List Stp) {w : W} {v : V} {F : List Addr} {u : W}, Ro K mg I H w v F → w.sub p = some u → ∃ x, At H w v p u x
  | [], w, v, F, u, h, e => by
    cases w <;> (simp [W.sub] at e; subst e; exact ⟨v, rfl, rfl⟩)
  | s :: p, .p d, v, F, u, h, e => by cases s <;> simp [W.sub] at e
  | s :: p, .ex d, v, F, u, h, e => by cases s <;> simp [W.sub] at e
  | .ix j :: p, .ol ws, v, F, u, h, e => by
    simp only [Ro] at h
    obtain ⟨l, xs, G, rfl, h1, rfl, h2⟩ := h
    obtain ⟨w', e1, e2⟩ := Option.bind_eq_some_iff.mp (show (ws[j]?.bind fun w => W.sub w p) = some u from e)
    obtain ⟨y, A, G1, B, e3, rfl, h6, k⟩ := h2.lens e1
    obtain ⟨x, hx⟩ := At.of p h6 e2
    exact ⟨x, l, xs, w', y, rfl, h1, e1, e3, hx⟩
  | .ix j :: p, .ot ws, v, F, u, h, e => by
    simp only [Ro] at h
    obtain ⟨l, xs, G, rfl, h1, rfl, h2⟩ := h
    obtain ⟨w', e1, e2⟩ := Option.bind_eq_some_iff.mp (show (ws[j]?.bind fun w => W.sub w p) = some u from e)
    obtain ⟨y, A, G1, B, e3, rfl, h6, k⟩ := h2.lens e1
    obtain ⟨x, hx⟩ := At.of p h6 e2
    exact ⟨x, l, xs, w', y, rfl, h1, e1, e3, hx⟩
  | .ky j :: p, .od ws, v, F, u, h, e => by
    simp only [Ro] at h
    obtain ⟨l, xs, G, rfl, h1, rfl, h2⟩ := h
    obtain ⟨w', e1, e2⟩ := Option.bind_eq_some_iff.mp (show ((valW ws j).bind fun w => W.sub w p) = some u from e)
    obtain ⟨y, A, G1, B, e3, rfl, h6, k⟩ := h2.lens e1
    obtain ⟨x, hx⟩ := At.of p h6 e2
    exact ⟨x, l, xs, w', y, rfl, h1, e1, e3, hx⟩
  | .fd j :: p, .oi c ws, v, F, u, h, e => by
    simp only [Ro] at h
    obtain ⟨l, C, dx, xs, G, rfl, hc, h1, rfl, h2⟩ := h
    obtain ⟨w', e1, e2⟩ := Option.bind_eq_some_iff.mp (show ((getFW ws j).bind fun w => W.sub w p) = some u from e)
    obtain ⟨y, A, G1, B, e3, rfl, h6, k⟩ := h2.lens e1
    obtain ⟨x, hx⟩ := At.of p h6 e2
    exact ⟨x, l, C, dx, xs, w', y, rfl, h1, e1, e3, hx⟩
  | .ky _ :: p, .ol ws, v, F, u, h, e => by simp [W.sub] at e
  | .ky _ :: p, .ot ws, v, F, u, h, e => by simp [W.sub] at e
  | .fd _ :: p, .ol ws, v, F, u, h, e => by simp [W.sub] at e
  | .fd _ :: p, .ot ws, v, F, u, h, e => by simp [W.sub] at e
  | .ix _ :: p, .od ws, v, F, u, h, e => by simp [W.sub] at e
  | .fd _ :: p, .od ws, v, F, u, h, e => by simp [W.sub] at e
  | .ix _ :: p, .oi _ ws, v, F, u, h, e => by simp [W.sub] at e
  | .ky _ :: p, .oi _ ws, v, F, u, h, e => by simp [W.sub] at e
/-- one step more -/
theorem At.snoc : ∀ (p : List Stp) {w : W} {v : V} {u : W} {x : V} {q : List Stp} {u' : W} {x' : V}, At H w v p u x → At H u x q u' x' → At H w v (p ++ q) u' x'
  | [], w, v, u, x, q, u', x', a, b => by
    cases w <;> (obtain ⟨rfl, rfl⟩ := a; exact b)
  | s :: p, .p d, v, u, x, q, u', x', a, b => by cases s <;> exact a.elim
  | s :: p, .ex d, v, u, x, q, u', x', a, b => by cases s <;> exact a.elim
  | .ix j :: p, .ol ws, v, u, x, q, u', x', a, b => by
    obtain ⟨l, xs, w', y, rfl, h1, h2, h3, h4⟩ := a
    exact ⟨l, xs, w', y, rfl, h1, h2, h3, At.snoc p h4 b⟩
  | .ix j :: p, .ot ws, v, u, x, q, u', x', a, b => by
    obtain ⟨l, xs, w', y, rfl, h1, h2, h3, h4⟩ := a
    exact ⟨l, xs, w', y, rfl, h1, h2, h3, At.snoc p h4 b⟩
  | .ky j :: p, .od ws, v, u, x, q, u', x', a, b => by
    obtain ⟨l, xs, w', y, rfl, h1, h2, h3, h4⟩ := a
    exact ⟨l, xs, w', y, rfl, h1, h2, h3, At.snoc p h4 b⟩
  | .fd j :: p, .oi c ws, v, u, x, q, u', x', a, b => by
    obtain ⟨l, C, dx, xs, w', y, rfl, h1, h2, h3, h4⟩ := a
    exact ⟨l, C, dx, xs, w', y, rfl, h1, h2, h3, At.snoc p h4 b⟩
  | .ky _ :: p, .ol ws, v, u, x, q, u', x', a, b => a.elim
  | .ky _ :: p, .ot ws, v, u, x, q, u', x', a, b => a.elim
  | .fd _ :: p, .ol ws, v, u, x, q, u', x', a, b => a.elim
  | .fd _ :: p, .ot ws, v, u, x, q, u', x', a, b => a.elim
  | .ix _ :: p, .od ws, v, u, x, q, u', x', a, b => a.elim
  | .fd _ :: p, .od ws, v, u, x, q, u', x', a, b => a.elim
  | .ix _ :: p, .oi _ ws, v, u, x, q, u', x', a, b => a.elim
  | .ky _ :: p, .oi _ ws, v, u, x, q, u', x', a, b => a.elim
theorem At.mono {H' : Hp} (ex : Ex H H') : ∀ (p : List Stp) {w : W} {v : V} {u : W} {x : V}, At H w v p u x → At H' w v p u x
  | [], w, v, u, x, a => by cases w <;> exact a
  | s :: p, .p d, v, u, x, a => by cases s <;> exact a.elim
  | s :: p, .ex d, v, u, x, a => by cases s <;> exact a.elim
  | .ix j :: p, .ol ws, v, u, x, a => by
    obtain ⟨l, xs, w', y, rfl, h1, h2, h3, h4⟩ := a
    exact ⟨l, xs, w', y, rfl, ex _ _ h1, h2, h3, h4.mono ex p⟩
  | .ix j :: p, .ot ws, v, u, x, a => by
    obtain ⟨l, xs, w', y, rfl, h1, h2, h3, h4⟩ := a
    exact ⟨l, xs, w', y, rfl, ex _ _ h1, h2, h3, h4.mono ex p⟩
  | .ky j :: p, .od ws, v, u, x, a => by
    obtain ⟨l, xs, w', y, rfl, h1, h2, h3, h4⟩ := a
    exact ⟨l, xs, w', y, rfl, ex _ _ h1, h2, h3, h4.mono ex p⟩
  | .fd j :: p, .oi c ws, v, u, x, a => by
    obtain ⟨l, C, dx, xs, w', y, rfl, h1, h2, h3, h4⟩ := a
    exact ⟨l, C, dx, xs, w', y, rfl, ex _ _ h1, h2, h3, h4.mono ex p⟩
  | .ky _ :: p, .ol ws, v, u, x, a => a.elim
  | .ky _ :: p, .ot ws, v, u, x, a => a.elim
  | .fd _ :: p, .ol ws, v, u, x, a => a.elim
  | .fd _ :: p, .ot ws, v, u, x, a => a.elim
  | .ix _ :: p, .od ws, v, u, x, a => a.elim
  | .fd _ :: p, .od ws, v, u, x, a => a.elim
  | .ix _ :: p, .oi _ ws, v, u, x, a => a.elim
  | .ky _ :: p, .oi _ ws, v, u, x, a => a.elim
end
end MV

namespace MV
open PySem L2
variable [TB]

/-! ### a change at a place -/
section
variable {K : PySem.W.Frag} {mg : Str → Option Value} {I H : Hp} {e : Env} {Fs : Fp} {σ : L2.St}
theorem Rel.upd {i : Nat} {p : List Stp} {w u : W} {v0 : V} {a : Addr} (R : Rel K mg I e Fs σ H) (hw : e[i]? = some (some w)) (hv : σ[i]? = some (some v0)) (hA : At H w v0 p u (.ref a)) (hc : ∀ G, Ro K mg I H u (.ref a) G → a ∈ G) :
    ∃ G, Ro K mg I H u (.ref a) G ∧ G.Nodup ∧ (∀ b ∈ G, b ∈ Fs i) ∧ I a = none ∧ ∀ o' u' G', Ro K mg I (upd H a o') u' (.ref a) G' → G'.Nodup → (∀ b ∈ G', b ∈ G ∨ (I b = none ∧ ¬ MF Fs b)) →
      ∃ Fs', Rel K mg I (e.set i (some (w.put p u'))) Fs' σ (upd H a o') ∧ ∀ F1 I1 H1, Ext F1 I1 H1 Fs I H → (∀ b ∈ G', b ∈ G ∨ MF F1 b ∨ H1 b = none) → Ext F1 I1 H1 Fs' I (upd H a o') := by
  obtain ⟨v1, hv1, ro⟩ := R.at_ i w hw
  rw [hv] at hv1
  cases hv1
  obtain ⟨A, G, B, hF, hG, k⟩ := ro.lens p hA
  have nd := R.nd i
  rw [hF] at nd
  rw [List.nodup_append, List.nodup_append] at nd
  obtain ⟨ndA, ⟨ndG, ndB, dGB⟩, dA⟩ := nd
  have ha := hc G hG
  have haF : a ∈ Fs i := by rw [hF]; simp [ha]
  have hI : I a = none := R.out i a haF
  refine ⟨G, hG, ndG, fun b hb => by rw [hF]; simp [hb], hI, fun o' u' G' r' nd' sub => ?_⟩
  have Rd := R.drop (i := i)
  have hFa : ¬ MF (putF Fs i []) a := fun ⟨i', hi'⟩ => by
    by_cases z : i' = i
    · subst z; rw [putF_same] at hi'; cases hi'
    · rw [putF_ne z] at hi'; exact z (R.dj i' i a hi' haF)
  have R3 := Rd.loose2 (o := o') hI hFa (R.nx hw haF)
  have off : ∀ b, b ∈ A ∨ b ∈ B → b ≠ a := fun b hb z => by
    rcases hb with q | q
    · exact dA b q a (by simp [ha]) z
    · exact dGB a ha b q z.symm
  have r2 := k I (L2.upd H a o') u' G' (Ex.refl _) (fun b hb o ho _ => by rw [upd_ne (off b hb)]; exact ho) r'
  have inA : ∀ b, b ∈ A → b ∈ Fs i := fun b hb => by rw [hF]; simp [hb]
  have inG : ∀ b, b ∈ G → b ∈ Fs i := fun b hb => by rw [hF]; simp [hb]
  have inB : ∀ b, b ∈ B → b ∈ Fs i := fun b hb => by rw [hF]; simp [hb]
  have all : ∀ b, b ∈ A ++ (G' ++ B) → b ∈ Fs i ∨ (b ∈ G' ∧ I b = none ∧ ¬ MF Fs b) := fun b hb => by
    rcases List.mem_append.mp hb with q | q
    · exact .inl (inA b q)
    · rcases List.mem_append.mp q with q | q
      · rcases sub b q with z | z
        · exact .inl (inG b z)
        · exact .inr ⟨q, z⟩
      · exact .inl (inB b q)
  have ow : Own K mg I (L2.upd H a o') (putF Fs i []) (w.put p u') v0 (A ++ (G' ++ B)) := by
    refine ⟨r2, ?_, fun b hb => ?_, fun b hb m => ?_⟩
    · rw [List.nodup_append, List.nodup_append]
      refine ⟨ndA, ⟨nd', ndB, fun b hb c hc z => ?_⟩, fun b hb c hc z => ?_⟩
      · subst z
        rcases sub b hb with q | q
        · exact dGB b q b hc rfl
        · exact q.2 ⟨i, inB b hc⟩
      · subst z
        rcases List.mem_append.mp hc with q | q
        · rcases sub b q with z | z
          · exact dA b hb b (by simp [z]) rfl
          · exact z.2 ⟨i, inA b hb⟩
        · exact dA b hb b (by simp [q]) rfl
    · rcases all b hb with q | q
      · exact R.out i b q
      · exact q.2.1
    · rcases all b hb with q | q
      · obtain ⟨j, hj⟩ := m
        by_cases z : j = i
        · subst z; rw [putF_same] at hj; cases hj
        · rw [putF_ne z] at hj; exact z (R.dj j i b hj q)
      · exact q.2.2 m.nil
  have R4 := R3.put (i := i) ow
  rw [set_id hv, show (e.set i none).set i (some (w.put p u')) = e.set i (some (w.put p u')) from List.set_set ..] at R4
  refine ⟨_, R4, fun F1 I1 H1 x hx => ?_⟩
  have keep : ∀ c, MF Fs c → MF F1 c ∨ H1 c = none := x.fp
  refine ⟨x.g.set (keep a ⟨i, haF⟩) (R.nx hw haF), fun c hc => ?_⟩
  · rcases hc.put with q | q
    · rcases all c q with z | z
      · exact keep c ⟨i, z⟩
      · rcases hx c z.1 with y | y
        · exact keep c ⟨i, inG c y⟩
        · exact y
    · exact keep c q.nil
theorem Gr.heap {I' H' : Hp} (g : Gr I H I' H') : Ex H H' := by
  induction g with
  | same => exact Ex.refl _
  | new p o h => exact Ex.new h
  | more g1 g2 i1 i2 => exact i1.trans i2
theorem Gr.fz {I' H' : Hp} (g : Gr I H I' H') (s : Ex I H) : Ex I I' := (g.ex s).1
end

/-! ### pure expressions: the owned things stay -/
abbrev P (α : Type) := Env → Option α
def tV (K : PySem.W.Frag) (mg : Str → Option Value) (f : P D) : TE := fun σ H Q => ∃ I e Fs, Rel K mg I e Fs σ H ∧ ∃ d, f e = some d ∧ ∀ v I' H', Gr I H I' H' → Rp K mg I' d v → Q v H'
def SV (X : Cx) (a : Expr) (f : P D) : Prop := PE X a (tV X.K X.mg f)
def mV (f : P D) : M D := fun e => (f e).map fun d => (d, e)
theorem SV.se {X : Cx} {a : Expr} {f : P D} (h : SV X a f) : SE X a (mV f) := PE.imp h fun σ H Q ⟨I, e, Fs, R, d, e', hm, k⟩ => by
  obtain ⟨d', h1, hm⟩ := Option.map_eq_some_iff.mp hm
  cases hm
  refine ⟨I, e, Fs, R, d, h1, fun v I' H' g r => ?_⟩
  obtain ⟨R', x⟩ := g.rel R
  exact k v I' Fs H' R' x r
def tVA (K : PySem.W.Frag) (mg : Str → Option Value) (f : P (List D)) : TA := fun σ H Q => ∃ I e Fs, Rel K mg I e Fs σ H ∧ ∃ ds, f e = some ds ∧ ∀ vs I' H', Gr I H I' H' → RpL K mg I' ds vs → Q vs H'
def SVA (X : Cx) (es : List Expr) (f : P (List D)) : Prop := PA X es (tVA X.K X.mg f)
def vC (d : D) : P D := fun _ => some d
def vVar (i : Nat) : P D := fun e => match e[i]? with
  | some (some (.p d)) => some d
  | _ => none
def vOp (f : D → D → Option D) (a b : P D) : P D := fun e => (a e).bind fun x => (b e).bind fun y => f x y
def vUn (f : D → Option D) (a : P D) : P D := fun e => (a e).bind f
def vaNil : P (List D) := fun _ => some []
def vaCons (a : P D) (r : P (List D)) : P (List D) := fun e => (a e).bind fun x => (r e).map fun y => x :: y
def vDisp (f : List D → Option D) (a : P (List D)) : P D := fun e => (a e).bind f
section
variable {X : Cx} {a b c : Expr} {es : List Expr} {fa fb : P D} {pos : Pos}
theorem SV.val {t : TE} (h : PE X a t) {d : D} (hd : ∀ σ H Q, (∀ v, Rp X.K X.mg (fun _ => none) d v → Q v H) → t σ H Q) : SV X a (vC d) := by
  refine PE.imp h fun σ H Q ⟨I, e, Fs, R, d', hm, k⟩ => hd σ H Q fun v hv => ?_
  cases hm
  exact k v I H .same (hv.mono (fun _ _ z => by cases z) _ _)
theorem sv_int {i : Int} {j : Nat} : SV X (.Constant (.int i) j pos) (vC (.int i)) := SV.val pe_int fun σ H Q k => k (.int i) (by simp only [Rp])
theorem sv_bl {i : Bool} {j : Nat} : SV X (.Constant (.bool i) j pos) (vC (.bool i)) := SV.val pe_bl fun σ H Q k => k (.bl i) (by simp only [Rp])
theorem sv_non {j : Nat} : SV X (.Constant .none j pos) (vC .none) := SV.val pe_non fun σ H Q k => k .non (by simp only [Rp])
theorem sv_str {x : Str} {j : Nat} : SV X (.Constant (.str x) j pos) (vC (.str x)) := SV.val pe_str fun σ H Q k => k (.str x) (by simp only [Rp])
theorem sv_var {i : Nat} {x : Str} (h : PE X (.Name x pos) (tVar i)) : SV X (.Name x pos) (vVar i) := by
  refine PE.imp h fun σ H Q ⟨I, e, Fs, R, d', hm, k⟩ => ?_
  unfold vVar at hm
  split at hm
  · rename_i d hd
    cases hm
    obtain ⟨v, hv, hr⟩ := R.at_ i _ hd
    simp only [Ro] at hr
    exact ⟨v, hv, k v I H .same hr.1⟩
  · cases hm
theorem v2_run {K : PySem.W.Frag} {mg : Str → Option Value} {r : R2} {f : D → D → Option D} (hf : OpD K mg r f) {σ : L2.St} {H : Hp} {Q : VK} (h : tV K mg (vOp f fa fb) σ H Q) : tV K mg fa σ H fun v H1 => tV K mg fb σ H1 fun u H2 => r v u H2 Q := by
  obtain ⟨I, e, Fs, R, d, hm, k⟩ := h
  obtain ⟨x, h1, hm⟩ := Option.bind_eq_some_iff.mp hm
  obtain ⟨y, h2, hm⟩ := Option.bind_eq_some_iff.mp hm
  refine ⟨I, e, Fs, R, x, h1, fun v I1 H1 g1 r1 => ⟨I1, e, Fs, (g1.rel R).1, y, h2, fun u I2 H2 g2 r2 => ?_⟩⟩
  have R2 := (g2.rel (g1.rel R).1).1
  refine hf I2 H2 x y d v u Q R2.sub (r1.mono (g2.fz (g1.rel R).1.sub) _ _) r2 hm fun v' I3 H3 g3 r3 => ?_
  exact k v' I3 H3 (.more (.more g1 g2) g3) r3
theorem sv_op {op : Operator} {r : R2} {f : D → D → Option D} (ho : OpR X (binaryOp op) r) (hf : OpD X.K X.mg r f) (ha : SV X a fa) (hb : SV X b fb) : SV X (.BinOp a op b pos) (vOp f fa fb) :=
  PE.imp (pe_op ho ha hb) fun σ H Q h => v2_run hf h
theorem sv_cmp {op : CmpOp} {r : R2} {f : D → D → Option D} (ho : OpR X (compareOp op) r) (hf : OpD X.K X.mg r f) (ha : SV X a fa) (hb : SV X b fb) (hm : behindInMarks op b = false) : SV X (.Compare a [op] [b] pos) (vOp f fa fb) :=
  PE.imp (pe_cmpR ho ha hb hm) fun σ H Q h => v2_run hf h
theorem sv_ix (ha : SV X a fa) (hb : SV X b fb) (hs : PlainIx b) : SV X (.Subscript a b pos) (vOp dIx fa fb) :=
  PE.imp (pe_ix ix_seq ha hb hs) fun σ H Q h => v2_run od_ix h
theorem sv_neg (ha : SV X a fa) : SV X (.UnaryOp .USub a pos) (vUn dNeg fa) := by
  refine PE.imp (pe_un un_neg ha) fun σ H Q ⟨I, e, Fs, R, d, hm, k⟩ => ?_
  obtain ⟨x, h1, hm⟩ := Option.bind_eq_some_iff.mp hm
  refine ⟨I, e, Fs, R, x, h1, fun v I1 H1 g1 r1 => ?_⟩
  refine ud_neg I1 H1 x d v Q (g1.rel R).1.sub r1 hm fun v' I3 H3 g3 r3 => k v' I3 H3 (.more g1 g3) r3
theorem sva_nil : SVA X [] vaNil := PA.imp pa_nil fun σ H Q ⟨I, e, Fs, R, as, hm, k⟩ => by
  cases hm
  exact k [] I H .same RpL.nil
theorem sva_cons {r : P (List D)} (h : SV X a fa) (hr : SVA X es r) (hs : starEach (a :: es) X.env = (false, eval a X.env) :: starEach es X.env := by rfl) : SVA X (a :: es) (vaCons fa r) := by
  refine PA.imp (pa_cons h hr hs) fun σ H Q ⟨I, e, Fs, R, ds, hm, k⟩ => ?_
  obtain ⟨x, h1, hm⟩ := Option.bind_eq_some_iff.mp hm
  obtain ⟨y, h2, hm⟩ := Option.map_eq_some_iff.mp hm
  cases hm
  refine ⟨I, e, Fs, R, x, h1, fun v I1 H1 g1 r1 => ⟨I1, e, Fs, (g1.rel R).1, y, h2, fun vs I2 H2 g2 r2 => ?_⟩⟩
  exact k (v :: vs) I2 H2 (.more g1 g2) (RpL.cons (r1.mono (g2.fz (g1.rel R).1.sub) _ _) r2)
theorem vdisp_run {K : PySem.W.Frag} {mg : Str → Option Value} {r : List V → Hp → VK → Prop} {f : List D → Option D} {ma : P (List D)} {σ : L2.St} {H : Hp} {Q : VK} (hf : CallD K mg r f) (h : tV K mg (vDisp f ma) σ H Q) : tVA K mg ma σ H fun vs H1 => r vs H1 Q := by
  obtain ⟨I, e, Fs, R, d, hm, k⟩ := h
  obtain ⟨ds, h1, hm⟩ := Option.bind_eq_some_iff.mp hm
  refine ⟨I, e, Fs, R, ds, h1, fun vs I1 H1 g1 r1 => ?_⟩
  exact hf I1 H1 ds d vs Q (g1.rel R).1.sub r1 hm fun v' I3 H3 g3 r3 => k v' I3 H3 (.more g1 g3) r3
theorem cd_tupD {K : PySem.W.Frag} {mg : Str → Option Value} : CallD K mg (fun xs H1 Q => xs.length ≤ sizeLine ∧ ∀ p, H1 p = none → Q (.ref p) (upd H1 p (.tup xs))) fTup := by
  intro I H ds z vs Q s r e k
  unfold fTup at e
  split at e
  · rename_i hz
    cases e
    exact ⟨by rw [← r.length]; exact lim_le hz, fun p hp => k _ _ _ (.new p _ hp) (rp_tup s hp r)⟩
  · cases e
theorem sv_tup {m : P (List D)} {x1 : Nat} (h : SVA X es m) : SV X (.Tuple es x1 pos) (vDisp fTup m) := PE.imp (pe_tup h) fun σ H Q q => vdisp_run cd_tupD q
theorem sv_callB {id : String} {x : Str} {p : Pos} {r : List V → Hp → VK → Prop} {f : List D → Option D} {m : P (List D)} (hc : CallR X (.builtin id) r) (hf : CallD X.K X.mg r f) (hg : Gl X x) (hm : X.mg x = none) (hv : bootBuiltins x = some (.builtin id)) (ha : SVA X (a :: es) m) (hn : x ≠ "__name__" := by decide) (hd : (x == ("__debug__" : Str)) = false := by decide)
    (he : starEach (a :: es) X.env = (false, eval a X.env) :: starEach es X.env := by rfl) (hpl : (backTo pos (starEach es X.env)).any (·.1) = false := by rfl) : SV X (.Call (.Name x p) (a :: es) [] pos) (vDisp f m) :=
  PE.imp (pe_callB hc hg hm hv ha hn hd he hpl) fun σ H Q q => vdisp_run hf q
end

/-! ### places -/
abbrev Pth := Nat × List Stp
def atE (e : Env) (p : Pth) : Option W := match e[p.1]? with
  | some (some w) => w.sub p.2
  | _ => none
def putE (e : Env) (p : Pth) (u : W) : Env := match e[p.1]? with
  | some (some w) => e.set p.1 (some (w.put p.2 u))
  | _ => e
def tL (K : PySem.W.Frag) (mg : Str → Option Value) (f : P Pth) : TE := fun σ H Q => ∃ I e Fs, Rel K mg I e Fs σ H ∧ ∃ p, f e = some p ∧ ∀ v I' H' w v0 u, Gr I H I' H' → e[p.1]? = some (some w) → σ[p.1]? = some (some v0) → w.sub p.2 = some u → At H' w v0 p.2 u v → Q v H'
def SL (X : Cx) (a : Expr) (f : P Pth) : Prop := PE X a (tL X.K X.mg f)
def lName (i : Nat) : P Pth := fun e => match e[i]? with
  | some (some _) => some (i, [])
  | _ => none
theorem sl_name {X : Cx} {i : Nat} {x : Str} {pos : Pos} (h : PE X (.Name x pos) (tVar i)) : SL X (.Name x pos) (lName i) := by
  refine PE.imp h fun σ H Q ⟨I, e, Fs, R, p, hm, k⟩ => ?_
  unfold lName at hm
  split at hm
  · rename_i w hw
    cases hm
    obtain ⟨v, hv, hr⟩ := R.at_ i _ hw
    exact ⟨v, hv, k v I H w v w .same hw hv (by cases w <;> rfl) (by cases w <;> exact ⟨rfl, rfl⟩)⟩
  · cases hm
/-- what a place gives to the next step -/
theorem L_get {K : PySem.W.Frag} {mg : Str → Option Value} {I H : Hp} {e : Env} {Fs : Fp} {σ : L2.St} {i : Nat} {p : List Stp} {w u : W} {v v0 : V} (R : Rel K mg I e Fs σ H) (hw : e[i]? = some (some w)) (hv : σ[i]? = some (some v0)) (hA : At H w v0 p u v) : ∃ G, Ro K mg I H u v G := by
  obtain ⟨v1, hv1, ro⟩ := R.at_ i w hw
  rw [hv] at hv1
  cases hv1
  obtain ⟨A, G, B, hF, hG, k⟩ := ro.lens p hA
  exact ⟨G, hG⟩
theorem sub_app : ∀ (p : List Stp) {w u : W} {q : List Stp}, w.sub p = some u → w.sub (p ++ q) = u.sub q
  | [], w, u, q, h => by
    have : w = u := by cases w <;> simpa [W.sub] using h
    subst this; rfl
  | s :: p, .p d, u, q, h => by cases s <;> simp [W.sub] at h
  | s :: p, .ex d, u, q, h => by cases s <;> simp [W.sub] at h
  | .ix j :: p, .ol ws, u, q, h => by
    obtain ⟨w', e1, e2⟩ := Option.bind_eq_some_iff.mp (show (ws[j]?.bind fun w => W.sub w p) = some u from h)
    show (ws[j]?.bind fun w => W.sub w (p ++ q)) = _
    rw [e1]; exact sub_app p e2
  | .ix j :: p, .ot ws, u, q, h => by
    obtain ⟨w', e1, e2⟩ := Option.bind_eq_some_iff.mp (show (ws[j]?.bind fun w => W.sub w p) = some u from h)
    show (ws[j]?.bind fun w => W.sub w (p ++ q)) = _
    rw [e1]; exact sub_app p e2
  | .ky j :: p, .od ws, u, q, h => by
    obtain ⟨w', e1, e2⟩ := Option.bind_eq_some_iff.mp (show ((valW ws j).bind fun w => W.sub w p) = some u from h)
    show ((valW ws j).bind fun w => W.sub w (p ++ q)) = _
    rw [e1]; exact sub_app p e2
  | .fd j :: p, .oi c ws, u, q, h => by
    obtain ⟨w', e1, e2⟩ := Option.bind_eq_some_iff.mp (show ((getFW ws j).bind fun w => W.sub w p) = some u from h)
    show ((getFW ws j).bind fun w => W.sub w (p ++ q)) = _
    rw [e1]; exact sub_app p e2
  | .ky _ :: p, .ol ws, u, q, h => by simp [W.sub] at h
  | .ky _ :: p, .ot ws, u, q, h => by simp [W.sub] at h
  | .fd _ :: p, .ol ws, u, q, h => by simp [W.sub] at h
  | .fd _ :: p, .ot ws, u, q, h => by simp [W.sub] at h
  | .ix _ :: p, .od ws, u, q, h => by simp [W.sub] at h
  | .fd _ :: p, .od ws, u, q, h => by simp [W.sub] at h
  | .ix _ :: p, .oi _ ws, u, q, h => by simp [W.sub] at h
  | .ky _ :: p, .oi _ ws, u, q, h => by simp [W.sub] at h
def keyD : D → Option Key
  | .int i => some (.inl i)
  | .str x => some (.inr x)
  | _ => none
theorem keyD_v {K : PySem.W.Frag} {mg : Str → Option Value} {I : Hp} {d : D} {v : V} {k : Key} (h : keyD d = some k) (r : Rp K mg I d v) : v = kV k := by
  unfold keyD at h
  split at h
  · cases h; simp only [Rp] at r; exact r
  · cases h; simp only [Rp] at r; exact r
  · cases h
/-- o.f of an own thing of the class c -/
def lFld (c fl : Str) (f : P Pth) : P Pth := fun e => (f e).bind fun p => match atE e p with
  | some (.oi c' gs) => if c' = c then (getFW gs fl).bind fun _ => some (p.1, p.2 ++ [.fd fl]) else none
  | _ => none
def lKey (f : P Pth) (g : P D) : P Pth := fun e => (f e).bind fun p => (g e).bind fun d => (keyD d).bind fun k => match atE e p with
  | some (.od es) => (valW es k).bind fun _ => some (p.1, p.2 ++ [.ky k])
  | _ => none
def lIx (f : P Pth) (g : P D) : P Pth := fun e => (f e).bind fun p => (g e).bind fun d => match d, atE e p with
  | .int i, some (.ol ws) => (ixN ws.length i).map fun j => (p.1, p.2 ++ [.ix j])
  | .int i, some (.ot ws) => (ixN ws.length i).map fun j => (p.1, p.2 ++ [.ix j])
  | _, _ => none
theorem atE_of {e : Env} {p : Pth} {w u : W} (h : e[p.1]? = some (some w)) : atE e p = w.sub p.2 := by unfold atE; rw [h]
section
variable {X : Cx} {o b : Expr} {f : P Pth} {g : P D} {pos : Pos} {c fl : Str}
theorem sl_fld (ho : SL X o f) (hC : ∀ C, X.mg c = some (.ref C) → Cls X.K C ∧ NoAttr X.K C fl) (hb : attributeBase o fl X.env (eval o X.env) = eval o X.env := by rfl) : SL X (.Attribute o fl pos) (lFld c fl f) := by
  refine PE.imp (pe_fld ho hb) fun σ H Q ⟨I, e, Fs, R, p', hm, k⟩ => ?_
  obtain ⟨p, h1, hm⟩ := Option.bind_eq_some_iff.mp hm
  refine ⟨I, e, Fs, R, p, h1, fun v I' H' w v0 u gr hw hv hs hA => ?_⟩
  rw [atE_of (u := u) hw, hs] at hm
  cases u with
  | oi c' gs =>
    have hm2 : (if c' = c then (getFW gs fl).bind fun _ => some (p.1, p.2 ++ [Stp.fd fl]) else none) = some p' := hm
    clear hm
    by_cases hcc : c' = c
    · rw [if_pos hcc] at hm2
      subst hcc
      obtain ⟨w', h2, hm3⟩ := Option.bind_eq_some_iff.mp hm2
      cases hm3
      have R' := (gr.rel R).1
      obtain ⟨G, hG⟩ := L_get R' hw hv hA
      have hG' := hG
      simp only [Ro] at hG'
      obtain ⟨a, C, dx, fs, G1, rfl, hc, ha, _, hF⟩ := hG'
      obtain ⟨x, A, G2, B, hx, _, hro, _⟩ := hF.lens h2
      refine ⟨a, C, dx, fs, x, rfl, ha, (hC C hc).1, (hC C hc).2, hx, ?_⟩
      refine k x I' H' w v0 w' gr hw hv ?_ (hA.snoc p.2 ⟨a, C, dx, fs, w', x, rfl, ha, h2, hx, by cases w' <;> exact ⟨rfl, rfl⟩⟩)
      rw [sub_app p.2 hs]
      simp [W.sub, h2]
    · rw [if_neg hcc] at hm2; cases hm2
  | _ => cases hm
theorem sl_key (hu : X.A.units + 1 < cLine) (ho : SL X o f) (hb : SV X b g) (hs : NoSl b) : SL X (.Subscript o b pos) (lKey f g) := by
  refine PE.imp (pe_dget hu ho hb hs) fun σ H Q ⟨I, e, Fs, R, p', hm, k⟩ => ?_
  obtain ⟨p, h1, hm⟩ := Option.bind_eq_some_iff.mp hm
  obtain ⟨d, h2, hm⟩ := Option.bind_eq_some_iff.mp hm
  obtain ⟨ky, h3, hm⟩ := Option.bind_eq_some_iff.mp hm
  refine ⟨I, e, Fs, R, p, h1, fun v I' H' w v0 u gr hw hv hsb hA => ?_⟩
  have R' := (gr.rel R).1
  refine ⟨I', e, Fs, R', d, h2, fun y I2 H2 gr2 ry => ?_⟩
  rw [atE_of (u := u) hw, hsb] at hm
  cases u with
  | od es =>
    obtain ⟨w', h4, hm⟩ := Option.bind_eq_some_iff.mp (show ((valW es ky).bind fun _ => some (p.1, p.2 ++ [Stp.ky ky])) = some p' from hm)
    cases hm
    have R2 := (gr2.rel R').1
    have hA2 := hA.mono gr2.heap p.2
    obtain ⟨G, hG⟩ := L_get R2 hw hv hA2
    have hG' := hG
    simp only [Ro] at hG'
    obtain ⟨a, kvs, G1, rfl, ha, _, hF⟩ := hG'
    obtain ⟨x, A, G2, B, hx, _, hro, _⟩ := hF.lens h4
    refine ⟨a, x, rfl, ?_, ?_⟩
    · rw [keyD_v h3 ry, ← hx]; exact DGet.k ha
    · refine k x I2 H2 w v0 w' (.more gr gr2) hw hv ?_ (hA2.snoc p.2 ⟨a, kvs, w', x, rfl, ha, h4, hx, by cases w' <;> exact ⟨rfl, rfl⟩⟩)
      rw [sub_app p.2 hsb]
      simp [W.sub, h4]
  | _ => cases hm
theorem sl_ix (ho : SL X o f) (hb : SV X b g) (hs : PlainIx b) : SL X (.Subscript o b pos) (lIx f g) := by
  refine PE.imp (pe_ix ix_seq ho hb hs) fun σ H Q ⟨I, e, Fs, R, p', hm, k⟩ => ?_
  obtain ⟨p, h1, hm⟩ := Option.bind_eq_some_iff.mp hm
  obtain ⟨d, h2, hm⟩ := Option.bind_eq_some_iff.mp hm
  refine ⟨I, e, Fs, R, p, h1, fun v I' H' w v0 u gr hw hv hsb hA => ?_⟩
  have R' := (gr.rel R).1
  refine ⟨I', e, Fs, R', d, h2, fun y I2 H2 gr2 ry => ?_⟩
  rw [atE_of (u := u) hw, hsb] at hm
  cases d with
  | int i =>
    cases u with
    | ol ws =>
      obtain ⟨j, h4, hm⟩ := Option.map_eq_some_iff.mp (show ((ixN ws.length i).map fun j => (p.1, p.2 ++ [Stp.ix j])) = some p' from hm)
      cases hm
      simp only [Rp] at ry
      subst ry
      have R2 := (gr2.rel R').1
      have hA2 := hA.mono gr2.heap p.2
      obtain ⟨G, hG⟩ := L_get R2 hw hv hA2
      have hG' := hG
      simp only [Ro] at hG'
      obtain ⟨a, xs, G1, rfl, ha, _, hF⟩ := hG'
      have hj : j < ws.length := by
        unfold ixN at h4
        split at h4
        · split at h4
          · cases h4; omega
          · cases h4
        · split at h4
          · cases h4; omega
          · cases h4
      have h5 : ws[j]? = some ws[j] := List.getElem?_eq_getElem hj
      obtain ⟨x, A, G2, B, hx, _, hro, _⟩ := hF.lens h5
      refine .inl ⟨a, xs, i, x, rfl, rfl, .of ha, ?_, ?_⟩
      · unfold L2.atI; rw [← hF.len, h4]; exact hx
      · refine k x I2 H2 w v0 ws[j] (.more gr gr2) hw hv ?_ (hA2.snoc p.2 ⟨a, xs, ws[j], x, rfl, ha, h5, hx, by cases ws[j] <;> exact ⟨rfl, rfl⟩⟩)
        rw [sub_app p.2 hsb]
        show (ws[j]?.bind fun w => W.sub w []) = _
        rw [h5]
        cases ws[j] <;> rfl
    | ot ws =>
      obtain ⟨j, h4, hm⟩ := Option.map_eq_some_iff.mp (show ((ixN ws.length i).map fun j => (p.1, p.2 ++ [Stp.ix j])) = some p' from hm)
      cases hm
      simp only [Rp] at ry
      subst ry
      have R2 := (gr2.rel R').1
      have hA2 := hA.mono gr2.heap p.2
      obtain ⟨G, hG⟩ := L_get R2 hw hv hA2
      have hG' := hG
      simp only [Ro] at hG'
      obtain ⟨a, xs, G1, rfl, ha, _, hF⟩ := hG'
      have hj : j < ws.length := by
        unfold ixN at h4
        split at h4
        · split at h4
          · cases h4; omega
          · cases h4
        · split at h4
          · cases h4; omega
          · cases h4
      have h5 : ws[j]? = some ws[j] := List.getElem?_eq_getElem hj
      obtain ⟨x, A, G2, B, hx, _, hro, _⟩ := hF.lens h5
      refine (.inr (.inl ⟨a, xs, i, x, rfl, rfl, SqT.of ha, ?_, ?_⟩))
      · unfold L2.atI; rw [← hF.len, h4]; exact hx
      · refine k x I2 H2 w v0 ws[j] (.more gr gr2) hw hv ?_ (hA2.snoc p.2 ⟨a, xs, ws[j], x, rfl, ha, h5, hx, by cases ws[j] <;> exact ⟨rfl, rfl⟩⟩)
        rw [sub_app p.2 hsb]
        show (ws[j]?.bind fun w => W.sub w []) = _
        rw [h5]
        cases ws[j] <;> rfl
    | _ => cases hm
  | _ => cases u <;> cases hm
/-- what stands there, a datum -/
def vRead (f : P Pth) : P D := fun e => (f e).bind fun p => match atE e p with
  | some (.p d) => some d
  | _ => none
theorem sv_read (ho : SL X o f) : SV X o (vRead f) := by
  refine PE.imp ho fun σ H Q ⟨I, e, Fs, R, d, hm, k⟩ => ?_
  obtain ⟨p, h1, hm⟩ := Option.bind_eq_some_iff.mp hm
  refine ⟨I, e, Fs, R, p, h1, fun v I' H' w v0 u gr hw hv hs hA => ?_⟩
  rw [atE_of (u := u) hw, hs] at hm
  cases u with
  | p d' =>
    cases hm
    obtain ⟨G, hG⟩ := L_get (gr.rel R).1 hw hv hA
    simp only [Ro] at hG
    exact k v I' H' gr hG.1
  | _ => cases hm
/-- what is told of an owned thing -/
def ObsW (K : PySem.W.Frag) (mg : Str → Option Value) (r : V → Hp → VK → Prop) (f : W → Option D) : Prop :=
  ∀ (I H : Hp) (u : W) (z : D) (v : V) (G : List Addr) (Q : VK), Ex I H → Ro K mg I H u v G → f u = some z → (∀ v' I' H', Gr I H I' H' → Rp K mg I' z v' → Q v' H') → r v H Q
def vObs (h : W → Option D) (f : P Pth) : P D := fun e => (f e).bind fun p => (atE e p).bind h
theorem obs_run {K : PySem.W.Frag} {mg : Str → Option Value} {r : V → Hp → VK → Prop} {h : W → Option D} {σ : L2.St} {H : Hp} {Q : VK} (hf : ObsW K mg r h) (q : tV K mg (vObs h f) σ H Q) : tL K mg f σ H fun v H1 => r v H1 Q := by
  obtain ⟨I, e, Fs, R, d, hm, k⟩ := q
  obtain ⟨p, h1, hm⟩ := Option.bind_eq_some_iff.mp hm
  refine ⟨I, e, Fs, R, p, h1, fun v I' H' w v0 u gr hw hv hs hA => ?_⟩
  rw [atE_of (u := u) hw, hs] at hm
  have R' := (gr.rel R).1
  obtain ⟨G, hG⟩ := L_get R' hw hv hA
  exact hf I' H' u d v G Q R'.sub hG hm fun v' I2 H2 g2 r2 => k v' I2 H2 (.more gr g2) r2
theorem pa_one {a : Expr} {t : TE} (h : PE X a t) (hs : starEach [a] X.env = (false, eval a X.env) :: starEach [] X.env := by rfl) : PA X [a] (fun σ H Q => t σ H fun v H1 => Q [v] H1) := pa_cons h pa_nil hs
theorem sv_obsB {id : String} {x : Str} {p : Pos} {r : List V → Hp → VK → Prop} {h : W → Option D} (hc : CallR X (.builtin id) r) (hf : ObsW X.K X.mg (fun v => r [v]) h) (hg : Gl X x) (hm : X.mg x = none) (hv : bootBuiltins x = some (.builtin id)) (ho : SL X o f) (hn : x ≠ "__name__" := by decide) (hd : (x == ("__debug__" : Str)) = false := by decide)
    (hs : starEach [o] X.env = (false, eval o X.env) :: starEach [] X.env := by rfl) : SV X (.Call (.Name x p) [o] [] pos) (vObs h f) :=
  PE.imp (pe_callB hc hg hm hv (pa_one ho hs) hn hd hs) fun σ H Q q => obs_run hf q
end
end MV

namespace MV
open PySem L2
variable [TB]

/-! ### methods of built-in types on owned things -/
/-- what a container's change must bear -/
structure Chg (K : PySem.W.Frag) (mg : Str → Option Value) (I H : Hp) (a : Addr) (G : List Addr) (u' : W) (H' : Hp) : Prop where
  ex : ∃ o' G', H' = upd H a o' ∧ Ro K mg I H' u' (.ref a) G' ∧ G'.Nodup ∧ ∀ b ∈ G', b ∈ G
def tagW : W → String
  | .ol _ => "list"
  | .ot _ => "tuple"
  | .od _ => "dict"
  | .oi _ _ => "inst"
  | _ => ""
theorem tag_ref {K : PySem.W.Frag} {mg : Str → Option Value} {I H : Hp} {u : W} {v : V} {G : List Addr} (h : Ro K mg I H u v G) (ht : tagW u ≠ "") : ∃ a, v = .ref a ∧ ∀ G, Ro K mg I H u (.ref a) G → a ∈ G := by
  cases u with
  | ol ws => simp only [Ro] at h; obtain ⟨a, xs, G, rfl, _, _, _⟩ := h; exact ⟨a, rfl, fun G h => by simp only [Ro] at h; obtain ⟨a', xs, G', e, _, rfl, _⟩ := h; cases e; simp⟩
  | ot ws => simp only [Ro] at h; obtain ⟨a, xs, G, rfl, _, _, _⟩ := h; exact ⟨a, rfl, fun G h => by simp only [Ro] at h; obtain ⟨a', xs, G', e, _, rfl, _⟩ := h; cases e; simp⟩
  | od ws => simp only [Ro] at h; obtain ⟨a, xs, G, rfl, _, _, _⟩ := h; exact ⟨a, rfl, fun G h => by simp only [Ro] at h; obtain ⟨a', xs, G', e, _, rfl, _⟩ := h; cases e; simp⟩
  | oi c ws => simp only [Ro] at h; obtain ⟨a, C, dx, xs, G, rfl, _, _, _, _⟩ := h; exact ⟨a, rfl, fun G h => by simp only [Ro] at h; obtain ⟨a', C, dx, xs, G', e, _, _, rfl, _⟩ := h; cases e; simp⟩
  | p d => exact absurd rfl ht
  | ex d => exact absurd rfl ht
theorem tag_mem {K : PySem.W.Frag} {mg : Str → Option Value} {I H : Hp} {u : W} {a : Addr} {G : List Addr} (ht : tagW u ≠ "") (h : Ro K mg I H u (.ref a) G) : a ∈ G := by
  obtain ⟨b, e, k⟩ := tag_ref h ht
  cases e
  exact k G h
theorem tag_ty {K : PySem.W.Frag} {mg : Str → Option Value} {I H : Hp} {u : W} {v : V} {G : List Addr} (h : Ro K mg I H u v G) {T : String} (ht : tagW u = T) (hT : T = "list" ∨ T = "dict") : tyV K T v H := by
  subst ht
  cases u with
  | ol ws => simp only [Ro] at h; obtain ⟨a, xs, G, rfl, h1, _, _⟩ := h; exact .inl ⟨rfl, xs, .of h1⟩
  | ot ws => rcases hT with z | z <;> exact absurd z (by show ¬ ("tuple" = _); decide)
  | od ws => simp only [Ro] at h; obtain ⟨a, xs, G, rfl, h1, _, _⟩ := h; exact .inr (.inr (.inl ⟨rfl, .inl ⟨xs, h1⟩⟩))
  | oi c ws => rcases hT with z | z <;> exact absurd z (by show ¬ ("inst" = _); decide)
  | p d => rcases hT with z | z <;> exact absurd z (by show ¬ ("" = _); decide)
  | ex d => rcases hT with z | z <;> exact absurd z (by show ¬ ("" = _); decide)
/-- a method's rule by what it does to the owned thing -/
def MetW (K : PySem.W.Frag) (mg : Str → Option Value) (T : String) (r : V → List V → Hp → VK → Prop) (f : W → List D → Option (W × D)) : Prop :=
  ∀ (I H : Hp) (a : Addr) (u u' : W) (z : D) (ds : List D) (vs : List V) (G : List Addr) (Q : VK), Ex I H → Ro K mg I H u (.ref a) G → G.Nodup → I a = none → RpL K mg I ds vs → f u ds = some (u', z) →
    (∀ v' H', Chg K mg I H a G u' H' → Rp K mg I z v' → Q v' H') → tagW u = T ∧ r (.ref a) vs H Q
def MetT (T : String) (f : W → List D → Option (W × D)) : Prop := ∀ u ds x, f u ds = some x → tagW u = T
def mMet (f : W → List D → Option (W × D)) (lf : P Pth) (as : P (List D)) : M D := fun e => (lf e).bind fun p => (as e).bind fun ds => (atE e p).bind fun u => (f u ds).map fun x => (x.2, putE e p x.1)
theorem met_step {K : PySem.W.Frag} {mg : Str → Option Value} {I H I0 H0 : Hp} {e : Env} {Fs F0 : Fp} {σ : L2.St} {p : Pth} {w u u' : W} {v v0 : V} {T : String} {r : V → List V → Hp → VK → Prop} {f : W → List D → Option (W × D)} {z : D} {ds : List D} {vs : List V} {Q : VK}
    (hf : MetW K mg T r f) (hT : T = "list" ∨ T = "dict") (R : Rel K mg I e Fs σ H) (x : Ext F0 I0 H0 Fs I H) (hw : e[p.1]? = some (some w)) (hv : σ[p.1]? = some (some v0)) (hs : w.sub p.2 = some u) (hA : At H w v0 p.2 u v) (rv : RpL K mg I ds vs) (h : f u ds = some (u', z))
    (k : ∀ v' Fs' H', Rel K mg I (putE e p u') Fs' σ H' → Ext F0 I0 H0 Fs' I H' → Rp K mg I z v' → Q v' H') (ht : tagW u = T) : r v vs H Q := by
  obtain ⟨G0, hG0⟩ := L_get R hw hv hA
  obtain ⟨a, rfl, hc⟩ := tag_ref hG0 (by rw [ht]; rcases hT with z | z <;> (rw [z]; decide))
  obtain ⟨G, hG, nd, inF, hI, up⟩ := R.upd hw hv hA hc
  refine (hf I H a u u' z ds vs G Q R.sub hG nd hI rv h fun v' H' c rz => ?_).2
  obtain ⟨o', G', rfl, r', nd', sub⟩ := c.ex
  obtain ⟨Fs', R', x'⟩ := up o' u' G' r' nd' fun b hb => .inl (sub b hb)
  have e1 : putE e p u' = e.set p.1 (some (w.put p.2 u')) := by unfold putE; rw [hw]
  exact k v' Fs' _ (by rw [e1]; exact R') (x' F0 I0 H0 x fun b hb => .inl (sub b hb)) rz
section
variable {X : Cx} {o a : Expr} {es : List Expr} {lf : P Pth} {as : P (List D)} {name : Str} {apos cpos : Pos} {T id : String} {r : V → List V → Hp → VK → Prop} {f : W → List D → Option (W × D)}
theorem se_met (pa : PlainAttrs T) (slot : Slot T name id) (hty : typeOf (.builtin id) = pure (.type "method_descriptor")) (hm : MtR X id r) (hf : MetW X.K X.mg T r f) (hft : MetT T f) (hT : T = "list" ∨ T = "dict") (ho : SL X o lf) (ha : SVA X (a :: es) as)
    (hbase : attributeBase o name X.env (eval o X.env) = eval o X.env := by rfl)
    (hfew : ((backTo cpos (starEach (a :: es) X.env)).all (fun x => !x.1) && (backToKw cpos (keywordEach [] X.env)).all (fun x => x.1.isSome)
      && decide ((a :: es).length + ([] : List Keyword).length + (if ([] : List Keyword).isEmpty then 0 else 1) < 30)) = true := by rfl)
    (hline : (apos.endLine == cpos.line) = true := by rfl) (hs : starEach (a :: es) X.env = (false, eval a X.env) :: starEach es X.env := by rfl) (hplain : (backTo cpos (starEach es X.env)).any (·.1) = false := by rfl) :
    SE X (.Call (.Attribute o name apos) (a :: es) [] cpos) (mMet f lf as) := PE.imp (pe_bm pa slot hty hm ho ha hbase hfew hline hs hplain) fun σ H Q ⟨I, e, Fs, R, d, e', hm, k⟩ => by
  obtain ⟨p, h1, hm⟩ := Option.bind_eq_some_iff.mp hm
  obtain ⟨ds, h2, hm⟩ := Option.bind_eq_some_iff.mp hm
  obtain ⟨u, h3, hm⟩ := Option.bind_eq_some_iff.mp hm
  obtain ⟨⟨u', z⟩, h4, hm⟩ := Option.map_eq_some_iff.mp hm
  cases hm
  have ht := hft _ _ _ h4
  refine ⟨I, e, Fs, R, p, h1, fun v I1 H1 w v0 u1 g1 hw hv hsb hA => ?_⟩
  rw [atE_of (u := u1) hw, hsb] at h3
  cases h3
  obtain ⟨R1, x1⟩ := g1.rel R
  obtain ⟨G, hG⟩ := L_get R1 hw hv hA
  refine ⟨tag_ty hG ht hT, I1, e, Fs, R1, ds, h2, fun vs I2 H2 g2 rv => ?_⟩
  obtain ⟨R2, x2⟩ := g2.rel R1
  exact met_step hf hT R2 (x1.trans x2) hw hv hsb (hA.mono g2.heap p.2) rv h4 (fun v' Fs' H' R' x' rz => k v' I2 Fs' H' R' x' rz) ht
theorem se_met0 (pa : PlainAttrs T) (slot : Slot T name id) (hty : typeOf (.builtin id) = pure (.type "method_descriptor")) (hm : MtR X id r) (hf : MetW X.K X.mg T r f) (hft : MetT T f) (hT : T = "list" ∨ T = "dict") (ho : SL X o lf)
    (hbase : attributeBase o name X.env (eval o X.env) = eval o X.env := by rfl) (hline : (apos.endLine == cpos.line) = true := by rfl) :
    SE X (.Call (.Attribute o name apos) [] [] cpos) (mMet f lf vaNil) := PE.imp (pe_bm0 pa slot hty hm ho hbase hline) fun σ H Q ⟨I, e, Fs, R, d, e', hm, k⟩ => by
  obtain ⟨p, h1, hm⟩ := Option.bind_eq_some_iff.mp hm
  obtain ⟨ds, h2, hm⟩ := Option.bind_eq_some_iff.mp hm
  obtain ⟨u, h3, hm⟩ := Option.bind_eq_some_iff.mp hm
  obtain ⟨⟨u', z⟩, h4, hm⟩ := Option.map_eq_some_iff.mp hm
  cases hm
  cases h2
  have ht := hft _ _ _ h4
  refine ⟨I, e, Fs, R, p, h1, fun v I1 H1 w v0 u1 g1 hw hv hsb hA => ?_⟩
  rw [atE_of (u := u1) hw, hsb] at h3
  cases h3
  obtain ⟨R1, x1⟩ := g1.rel R
  obtain ⟨G, hG⟩ := L_get R1 hw hv hA
  exact ⟨tag_ty hG ht hT, met_step hf hT R1 x1 hw hv hsb hA RpL.nil h4 (fun v' Fs' H' R' x' rz => k v' I1 Fs' H' R' x' rz) ht⟩
end

/-! ### list methods -/
section
variable {K : PySem.W.Frag} {mg : Str → Option Value} {I H : Hp}
theorem RoL.append : ∀ {ws us : List W} {xs ys : List V} {F G : List Addr}, RoL K mg I H ws xs F → RoL K mg I H us ys G → RoL K mg I H (ws ++ us) (xs ++ ys) (F ++ G)
  | [], us, xs, ys, F, G, h, t => by simp only [RoL] at h; obtain ⟨rfl, rfl⟩ := h; exact t
  | w :: ws, us, xs, ys, F, G, h, t => by
    simp only [RoL] at h
    obtain ⟨x, r, F1, F2, rfl, rfl, h1, h2⟩ := h
    show RoL K mg I H (w :: (ws ++ us)) (x :: (r ++ ys)) (F1 ++ F2 ++ G)
    simp only [RoL]
    exact ⟨x, r ++ ys, F1, F2 ++ G, rfl, by simp, h1, h2.append t⟩
/-- an owned list gets other items -/
theorem chg_l {a : Addr} {ws ws' : List W} {xs xs' : List V} {G0 G1 : List Addr} (hIa : I a = none) (nd : (a :: G0).Nodup) (h : RoL K mg I H ws' xs' G1) (nd1 : G1.Nodup) (sub : ∀ b ∈ G1, b ∈ G0) : Chg K mg I H a (a :: G0) (.ol ws') (upd H a (.lst xs')) := by
  rw [List.nodup_cons] at nd
  refine ⟨_, a :: G1, rfl, ?_, List.nodup_cons.mpr ⟨fun q => nd.1 (sub a q), nd1⟩, fun b hb => ?_⟩
  · simp only [Ro]
    exact ⟨a, xs', G1, rfl, upd_same, rfl, h.frame (Ex.refl _) _ _ _ fun b hb o ho _ => by rw [upd_ne (fun z => by subst z; exact nd.1 (sub _ hb))]; exact ho⟩
  · rcases List.mem_cons.mp hb with rfl | hb
    · simp
    · simp [sub b hb]
def wApp : W → List D → Option (W × D)
  | .ol ws, [d] => if ws.length < 1000000 then some (.ol (ws ++ [.p d]), .none) else none
  | _, _ => none
theorem met_append : MetW K mg "list" rAppend wApp := by
  intro I H a u u' z ds vs G Q s h nd hI rv hf k
  unfold wApp at hf
  split at hf
  · rename_i ws d
    split at hf
    · rename_i hz
      cases hf
      obtain ⟨v, rfl, hd⟩ := rv.one
      simp only [Ro] at h
      obtain ⟨a', xs, G0, e, h1, rfl, h2⟩ := h
      cases e
      refine ⟨rfl, a, xs, v, rfl, rfl, h1, by rw [← h2.len]; exact lim_lt hz, k _ _ (chg_l (ws := ws) (xs := xs) hI nd (G1 := G0) ?_ (List.nodup_cons.mp nd).2 fun b hb => hb) rp_none⟩
      have := h2.append (RoL.ofP (K := K) (mg := mg) (I := I) (H := H) (RpL.cons hd RpL.nil))
      simpa using this
    · cases hf
  · cases hf
theorem mtt_append : MetT "list" wApp := fun u ds x h => by
  unfold wApp at h
  split at h
  · rfl
  · cases h
def wExt : W → List D → Option (W × D)
  | .ol ws, [.lst ds] => if ws.length + ds.length ≤ 1000000 then some (.ol (ws ++ ds.map .p), .none) else none
  | _, _ => none
theorem met_extend : MetW K mg "list" rExtend wExt := by
  intro I H a u u' z ds vs G Q s h nd hI rv hf k
  unfold wExt at hf
  split at hf
  · rename_i ws es
    split at hf
    · rename_i hz
      cases hf
      obtain ⟨v, rfl, hd⟩ := rv.one
      simp only [Rp] at hd
      obtain ⟨b, ys, rfl, hb, rb⟩ := hd
      simp only [Ro] at h
      obtain ⟨a', xs, G0, e, h1, rfl, h2⟩ := h
      cases e
      refine ⟨rfl, a, b, xs, ys, rfl, rfl, h1, s _ _ hb, by rw [← h2.len, ← rb.length]; exact lim_le hz, k _ _ (chg_l (ws := ws) (xs := xs) hI nd (G1 := G0) ?_ (List.nodup_cons.mp nd).2 fun b hb => hb) rp_none⟩
      have := h2.append (RoL.ofP (K := K) (mg := mg) (I := I) (H := H) rb)
      simpa using this
    · cases hf
  · cases hf
theorem mtt_extend : MetT "list" wExt := fun u ds x h => by
  unfold wExt at h
  split at h
  · rfl
  · cases h
/-- the data of an owned list of data -/
def allP : List W → Option (List D)
  | [] => some []
  | .p d :: ws => (allP ws).map (d :: ·)
  | _ => none
theorem allP_eq : ∀ {ws : List W} {ds : List D}, allP ws = some ds → ws = ds.map .p
  | [], ds, h => by cases h; rfl
  | .p d :: ws, ds, h => by
    obtain ⟨es, h1, rfl⟩ := Option.map_eq_some_iff.mp (show (allP ws).map (d :: ·) = some ds from h)
    rw [allP_eq h1]; rfl
  | .ol _ :: _, ds, h => by cases h
  | .ot _ :: _, ds, h => by cases h
  | .od _ :: _, ds, h => by cases h
  | .oi _ _ :: _, ds, h => by cases h
  | .ex _ :: _, ds, h => by cases h
theorem RoL.toP : ∀ {ds : List D} {xs : List V} {F : List Addr}, RoL K mg I H (ds.map .p) xs F → RpL K mg I ds xs ∧ F = []
  | [], xs, F, h => by simp only [List.map_nil, RoL] at h; obtain ⟨rfl, rfl⟩ := h; exact ⟨RpL.nil, rfl⟩
  | d :: ds, xs, F, h => by
    simp only [List.map_cons, RoL] at h
    obtain ⟨x, r, F1, F2, rfl, rfl, h1, h2⟩ := h
    simp only [Ro] at h1
    obtain ⟨h3, rfl⟩ := h1
    obtain ⟨h4, rfl⟩ := RoL.toP h2
    exact ⟨RpL.cons h3 h4, rfl⟩
theorem RpL.reverse : ∀ {ds : List D} {xs : List V}, RpL K mg I ds xs → RpL K mg I ds.reverse xs.reverse
  | [], xs, h => by simp only [RpL] at h; subst h; exact RpL.nil
  | d :: ds, xs, h => by
    simp only [RpL] at h
    obtain ⟨x, r, rfl, h1, h2⟩ := h
    simp only [List.reverse_cons]
    exact (RpL.reverse h2).append (RpL.cons h1 RpL.nil)
def wRev : W → List D → Option (W × D)
  | .ol ws, [] => (allP ws).map fun ds => (.ol (ds.reverse.map .p), .none)
  | _, _ => none
theorem met_reverse : MetW K mg "list" rReverse wRev := by
  intro I H a u u' z ds vs G Q s h nd hI rv hf k
  unfold wRev at hf
  split at hf
  · rename_i ws
    obtain ⟨es, h0, hf⟩ := Option.map_eq_some_iff.mp hf
    cases hf
    rw [allP_eq h0] at h
    simp only [RpL] at rv
    subst rv
    simp only [Ro] at h
    obtain ⟨a', xs, G0, e, h1, rfl, h2⟩ := h
    cases e
    obtain ⟨h3, rfl⟩ := h2.toP
    refine ⟨rfl, a, xs, rfl, rfl, h1, k _ _ (chg_l (ws := []) (xs := []) hI nd (G1 := []) (RoL.ofP h3.reverse) List.nodup_nil fun b hb => hb) rp_none⟩
  · cases hf
theorem mtt_reverse : MetT "list" wRev := fun u ds x h => by
  unfold wRev at h
  split at h
  · rfl
  · cases h
def wClr : W → List D → Option (W × D)
  | .ol ws, [] => some (.ol [], .none)
  | _, _ => none
theorem met_clear : MetW K mg "list" rClear wClr := by
  intro I H a u u' z ds vs G Q s h nd hI rv hf k
  unfold wClr at hf
  split at hf
  · rename_i ws
    cases hf
    simp only [RpL] at rv
    subst rv
    simp only [Ro] at h
    obtain ⟨a', xs, G0, e, h1, rfl, h2⟩ := h
    cases e
    refine ⟨rfl, a, xs, rfl, rfl, h1, k _ _ (chg_l (ws := []) (xs := []) hI nd (G1 := []) (by simp [RoL]) List.nodup_nil fun b hb => by cases hb) rp_none⟩
  · cases hf
theorem mtt_clear : MetT "list" wClr := fun u ds x h => by
  unfold wClr at h
  split at h
  · rfl
  · cases h
def wPop : W → List D → Option (W × D)
  | .ol ws, [] => (allP ws).bind fun ds => (ds[ds.length - 1]?).map fun d => (.ol (ds.dropLast.map .p), d)
  | _, _ => none
theorem met_pop : MetW K mg "list" rPop wPop := by
  intro I H a u u' z ds vs G Q s h nd hI rv hf k
  unfold wPop at hf
  split at hf
  · rename_i ws
    obtain ⟨es, h0, hf⟩ := Option.bind_eq_some_iff.mp hf
    obtain ⟨d, h5, hf⟩ := Option.map_eq_some_iff.mp hf
    cases hf
    rw [allP_eq h0] at h
    simp only [RpL] at rv
    subst rv
    simp only [Ro] at h
    obtain ⟨a', xs, G0, e, h1, rfl, h2⟩ := h
    cases e
    obtain ⟨h3, rfl⟩ := h2.toP
    obtain ⟨y, h6, h7⟩ := h3.get h5
    rw [h3.length] at h6
    refine ⟨rfl, a, xs, y, rfl, rfl, h1, h6, k _ _ (chg_l (ws := []) (xs := []) hI nd (G1 := []) (RoL.ofP ?_) List.nodup_nil fun b hb => hb) h7⟩
    rw [List.dropLast_eq_take, List.dropLast_eq_take, h3.length]
    exact h3.take _
  · cases hf
theorem mtt_pop : MetT "list" wPop := fun u ds x h => by
  unfold wPop at h
  split at h
  · rfl
  · cases h
end
end MV

namespace MV
open PySem L2
variable [TB]

/-! ### stores into owned things -/
section
variable {K : PySem.W.Frag} {mg : Str → Option Value} {I H : Hp}
/-- an item is put in a list's place -/
theorem RoL.setW {w : W} {v : V} {Fw : List Addr} (hw : Ro K mg I H w v Fw) : ∀ {ws : List W} {xs : List V} {F : List Addr} (j : Nat), RoL K mg I H ws xs F → F.Nodup → Fw.Nodup → (∀ b ∈ Fw, b ∉ F) → ∃ F', RoL K mg I H (ws.set j w) (xs.set j v) F' ∧ F'.Nodup ∧ ∀ b ∈ F', b ∈ F ∨ b ∈ Fw
  | [], xs, F, j, h, _, _, _ => by
    simp only [RoL] at h
    obtain ⟨rfl, rfl⟩ := h
    exact ⟨[], by simp [RoL], List.nodup_nil, fun b hb => by cases hb⟩
  | u :: ws, xs, F, 0, h, nd, ndw, dj => by
    simp only [RoL] at h
    obtain ⟨x, r, F1, F2, rfl, rfl, h1, h2⟩ := h
    rw [List.nodup_append] at nd
    refine ⟨Fw ++ F2, ?_, ?_, fun b hb => ?_⟩
    · show RoL K mg I H (w :: ws) (v :: r) (Fw ++ F2)
      simp only [RoL]
      exact ⟨v, r, Fw, F2, rfl, rfl, hw, h2⟩
    · rw [List.nodup_append]
      exact ⟨ndw, nd.2.1, fun b hb c hc z => by subst z; exact dj b hb (by simp [hc])⟩
    · rcases List.mem_append.mp hb with q | q
      · exact .inr q
      · exact .inl (by simp [q])
  | u :: ws, xs, F, j + 1, h, nd, ndw, dj => by
    simp only [RoL] at h
    obtain ⟨x, r, F1, F2, rfl, rfl, h1, h2⟩ := h
    rw [List.nodup_append] at nd
    obtain ⟨G, h3, h4, h5⟩ := RoL.setW hw j h2 nd.2.1 ndw fun b hb q => dj b hb (by simp [q])
    refine ⟨F1 ++ G, ?_, ?_, fun b hb => ?_⟩
    · show RoL K mg I H (u :: ws.set j w) (x :: r.set j v) (F1 ++ G)
      simp only [RoL]
      exact ⟨x, _, F1, G, rfl, rfl, h1, h3⟩
    · rw [List.nodup_append]
      refine ⟨nd.1, h4, fun b hb c hc z => ?_⟩
      subst z
      rcases h5 b hc with q | q
      · exact nd.2.2 b hb b q rfl
      · exact dj b q (by simp [hb])
    · rcases List.mem_append.mp hb with q | q
      · exact .inl (by simp [q])
      · rcases h5 b q with z | z
        · exact .inl (by simp [z])
        · exact .inr z
def putFW (f : Str) (w : W) : List (Str × W) → List (Str × W)
  | [] => [(f, w)]
  | (g, u) :: r => if g = f then (g, w) :: r else (g, u) :: putFW f w r
theorem RoF.putW {w : W} {v : V} {Fw : List Addr} (hw : Ro K mg I H w v Fw) (f : Str) : ∀ {ws : List (Str × W)} {xs : List (Str × V)} {F : List Addr}, RoF K mg I H ws xs F → F.Nodup → Fw.Nodup → (∀ b ∈ Fw, b ∉ F) → ∃ F', RoF K mg I H (putFW f w ws) (L2.putF f v xs) F' ∧ F'.Nodup ∧ ∀ b ∈ F', b ∈ F ∨ b ∈ Fw
  | [], xs, F, h, _, ndw, _ => by
    simp only [RoF] at h
    obtain ⟨rfl, rfl⟩ := h
    refine ⟨Fw, ?_, ndw, fun b hb => .inr hb⟩
    unfold putFW L2.putF
    simp only [RoF]
    exact ⟨v, [], Fw, [], rfl, by simp, hw, rfl, rfl⟩
  | (q, u) :: ws, xs, F, h, nd, ndw, dj => by
    simp only [RoF] at h
    obtain ⟨x, r, F1, F2, rfl, rfl, h1, h2⟩ := h
    rw [List.nodup_append] at nd
    unfold putFW L2.putF
    by_cases hq : q = f
    · rw [if_pos hq, if_pos hq]
      refine ⟨Fw ++ F2, ?_, ?_, fun b hb => ?_⟩
      · simp only [RoF]
        exact ⟨v, r, Fw, F2, rfl, rfl, hw, h2⟩
      · rw [List.nodup_append]
        exact ⟨ndw, nd.2.1, fun b hb c hc z => by subst z; exact dj b hb (by simp [hc])⟩
      · rcases List.mem_append.mp hb with q | q
        · exact .inr q
        · exact .inl (by simp [q])
    · rw [if_neg hq, if_neg hq]
      obtain ⟨G, h3, h4, h5⟩ := RoF.putW hw f h2 nd.2.1 ndw fun b hb q => dj b hb (by simp [q])
      refine ⟨F1 ++ G, ?_, ?_, fun b hb => ?_⟩
      · simp only [RoF]
        exact ⟨x, _, F1, G, rfl, rfl, h1, h3⟩
      · rw [List.nodup_append]
        refine ⟨nd.1, h4, fun b hb c hc z => ?_⟩
        subst z
        rcases h5 b hc with q | q
        · exact nd.2.2 b hb b q rfl
        · exact dj b q (by simp [hb])
      · rcases List.mem_append.mp hb with q | q
        · exact .inl (by simp [q])
        · rcases h5 b q with z | z
          · exact .inl (by simp [z])
          · exact .inr z
/-- in its place, or at the end -/
def putKW (es : List (Key × W)) (k : Key) (w : W) : List (Key × W) :=
  if (es.any fun q => decide (q.1 = k)) = true then es.map (fun q => if q.1 = k then (q.1, w) else q) else es ++ [(k, w)]
theorem RoK.any {k : Key} : ∀ {ws : List (Key × W)} {xs : List (Key × V)} {F : List Addr}, RoK K mg I H ws xs F → (xs.any fun q => decide (q.1 = k)) = (ws.any fun q => decide (q.1 = k))
  | [], xs, F, h => by simp only [RoK] at h; obtain ⟨rfl, rfl⟩ := h; rfl
  | (q, u) :: ws, xs, F, h => by
    simp only [RoK] at h
    obtain ⟨x, r, F1, F2, rfl, rfl, h1, h2⟩ := h
    rw [List.any_cons, List.any_cons, RoK.any h2]
theorem RoK.len : ∀ {ws : List (Key × W)} {xs : List (Key × V)} {F : List Addr}, RoK K mg I H ws xs F → xs.length = ws.length
  | [], xs, F, h => by simp only [RoK] at h; obtain ⟨rfl, rfl⟩ := h; rfl
  | (q, u) :: ws, xs, F, h => by
    simp only [RoK] at h
    obtain ⟨x, r, F1, F2, rfl, rfl, h1, h2⟩ := h
    rw [List.length_cons, List.length_cons, RoK.len h2]
theorem RoK.mapP {d : D} {v : V} (hd : Rp K mg I d v) (k : Key) : ∀ {ws : List (Key × W)} {xs : List (Key × V)} {F : List Addr}, RoK K mg I H ws xs F → ∃ F', RoK K mg I H (ws.map fun q => if q.1 = k then (q.1, .p d) else q) (xs.map fun q => if q.1 = k then (q.1, v) else q) F' ∧ F'.Sublist F
  | [], xs, F, h => by simp only [RoK] at h; obtain ⟨rfl, rfl⟩ := h; exact ⟨[], by simp [RoK], List.Sublist.refl _⟩
  | (q, u) :: ws, xs, F, h => by
    simp only [RoK] at h
    obtain ⟨x, r, F1, F2, rfl, rfl, h1, h2⟩ := h
    obtain ⟨G, h3, h4⟩ := RoK.mapP hd k h2
    by_cases hq : q = k
    · refine ⟨G, ?_, h4.trans (List.sublist_append_right _ _)⟩
      simp only [List.map_cons, if_pos hq, RoK]
      exact ⟨v, _, [], G, rfl, rfl, by simp only [Ro]; exact ⟨hd, trivial⟩, h3⟩
    · refine ⟨F1 ++ G, ?_, List.Sublist.append (List.Sublist.refl _) h4⟩
      simp only [List.map_cons, if_neg hq, RoK]
      exact ⟨x, _, F1, G, rfl, rfl, h1, h3⟩
theorem RoK.append : ∀ {ws us : List (Key × W)} {xs ys : List (Key × V)} {F G : List Addr}, RoK K mg I H ws xs F → RoK K mg I H us ys G → RoK K mg I H (ws ++ us) (xs ++ ys) (F ++ G)
  | [], us, xs, ys, F, G, h, t => by simp only [RoK] at h; obtain ⟨rfl, rfl⟩ := h; exact t
  | (q, w) :: ws, us, xs, ys, F, G, h, t => by
    simp only [RoK] at h
    obtain ⟨x, r, F1, F2, rfl, rfl, h1, h2⟩ := h
    show RoK K mg I H ((q, w) :: (ws ++ us)) ((q, x) :: (r ++ ys)) (F1 ++ F2 ++ G)
    simp only [RoK]
    exact ⟨x, r ++ ys, F1, F2 ++ G, rfl, by simp, h1, h2.append t⟩
def isP : W → Bool
  | .p _ => true
  | _ => false
/-- d[k] = w: a datum, or a new key -/
def dputW (es : List (Key × W)) (k : Key) (w : W) : Option (List (Key × W)) := if isP w || !(es.any fun q => decide (q.1 = k)) then (if es.length < 1000000 then some (putKW es k w) else none) else none
theorem RoK.putW {w : W} {v : V} {Fw : List Addr} (hw : Ro K mg I H w v Fw) {k : Key} {ws us : List (Key × W)} {xs : List (Key × V)} {F : List Addr} (h : RoK K mg I H ws xs F) (nd : F.Nodup) (ndw : Fw.Nodup) (dj : ∀ b ∈ Fw, b ∉ F) (e : dputW ws k w = some us) :
    xs.length < sizeLine ∧ ∃ F', RoK K mg I H us (putK xs k v) F' ∧ F'.Nodup ∧ ∀ b ∈ F', b ∈ F ∨ b ∈ Fw := by
  unfold dputW at e
  split at e
  · rename_i hc
    split at e
    · rename_i hz
      cases e
      refine ⟨by rw [h.len]; exact lim_lt hz, ?_⟩
      unfold putKW putK
      rw [h.any]
      by_cases hk : (ws.any fun q => decide (q.1 = k)) = true
      · rw [if_pos hk, if_pos hk]
        rw [hk, Bool.not_true, Bool.or_false] at hc
        cases w with
        | p d =>
          simp only [Ro] at hw
          obtain ⟨hd, rfl⟩ := hw
          obtain ⟨F', h1, h2⟩ := h.mapP hd k
          exact ⟨F', h1, nd.sublist h2, fun b hb => .inl (h2.subset hb)⟩
        | _ => cases hc
      · rw [if_neg hk, if_neg hk]
        refine ⟨F ++ Fw, h.append ?_, ?_, fun b hb => List.mem_append.mp hb⟩
        · simp only [RoK]
          exact ⟨v, [], Fw, [], rfl, by simp, hw, rfl, rfl⟩
        · rw [List.nodup_append]
          exact ⟨nd, ndw, fun b hb c hc z => by subst z; exact dj b hc hb⟩
    · cases e
  · cases e
def ddelW (es : List (Key × W)) (k : Key) : Option (List (Key × W)) := if (es.any fun q => decide (q.1 = k)) = true then some (es.filter fun q => decide (q.1 ≠ k)) else none
theorem RoK.dropW {k : Key} : ∀ {ws : List (Key × W)} {xs : List (Key × V)} {F : List Addr}, RoK K mg I H ws xs F → ∃ F', RoK K mg I H (ws.filter fun q => decide (q.1 ≠ k)) (L2.dropK xs k) F' ∧ F'.Sublist F
  | [], xs, F, h => by simp only [RoK] at h; obtain ⟨rfl, rfl⟩ := h; exact ⟨[], by simp [RoK, L2.dropK], List.Sublist.refl _⟩
  | (q, u) :: ws, xs, F, h => by
    simp only [RoK] at h
    obtain ⟨x, r, F1, F2, rfl, rfl, h1, h2⟩ := h
    obtain ⟨G, h3, h4⟩ := RoK.dropW (k := k) h2
    unfold L2.dropK at h3 ⊢
    by_cases hq : q = k
    · refine ⟨G, ?_, h4.trans (List.sublist_append_right _ _)⟩
      rw [List.filter_cons_of_neg (by simp [hq]), List.filter_cons_of_neg (by simp [hq])]
      exact h3
    · refine ⟨F1 ++ G, ?_, List.Sublist.append (List.Sublist.refl _) h4⟩
      rw [List.filter_cons_of_pos (by simp [hq]), List.filter_cons_of_pos (by simp [hq])]
      simp only [RoK]
      exact ⟨x, _, F1, G, rfl, rfl, h1, h3⟩
/-- a store of an own value: the state behind -/
theorem store_step {e : Env} {Fs : Fp} {σ : L2.St} {p : Pth} {wr u u' : W} {v0 : V} {a : Addr} {Fw : List Addr} {w : W} {y : V} (R : Rel K mg I e Fs σ H) (o : Own K mg I H Fs w y Fw) (hw : e[p.1]? = some (some wr)) (hv : σ[p.1]? = some (some v0)) (hA : At H wr v0 p.2 u (.ref a)) (hc : ∀ G, Ro K mg I H u (.ref a) G → a ∈ G) :
    ∃ G, Ro K mg I H u (.ref a) G ∧ G.Nodup ∧ I a = none ∧ (∀ b ∈ Fw, b ∉ G) ∧ ∀ o' u' G1, G = a :: G1 → ∀ G', Ro K mg I (upd H a o') u' (.ref a) (a :: G') → G'.Nodup → (∀ b ∈ G', b ∈ G1 ∨ b ∈ Fw) →
      ∃ Fs', Rel K mg I (putE e p u') Fs' σ (upd H a o') ∧ ∀ F1 I1 H1, Ext F1 I1 H1 Fs I H → (∀ b ∈ Fw, MF F1 b ∨ H1 b = none) → Ext F1 I1 H1 Fs' I (upd H a o') := by
  obtain ⟨G, hG, nd, inF, hI, up⟩ := R.upd hw hv hA hc
  have dj : ∀ b ∈ Fw, b ∉ G := fun b hb q => o.dj b hb ⟨p.1, inF b q⟩
  refine ⟨G, hG, nd, hI, dj, fun o' u' G1 hG1 G' r' nd' sub => ?_⟩
  subst hG1
  rw [List.nodup_cons] at nd
  have na : a ∉ G' := fun q => by
    rcases sub a q with z | z
    · exact nd.1 z
    · exact dj a z (by simp)
  obtain ⟨Fs', R', x'⟩ := up o' u' (a :: G') r' (List.nodup_cons.mpr ⟨na, nd'⟩) fun b hb => by
    rcases List.mem_cons.mp hb with rfl | hb
    · exact .inl (by simp)
    · rcases sub b hb with z | z
      · exact .inl (by simp [z])
      · exact .inr ⟨o.out b z, o.dj b z⟩
  have e1 : putE e p u' = e.set p.1 (some (wr.put p.2 u')) := by unfold putE; rw [hw]
  refine ⟨Fs', by rw [e1]; exact R', fun F1 I1 H1 x hx => x' F1 I1 H1 x fun b hb => ?_⟩
  rcases List.mem_cons.mp hb with rfl | hb
  · exact .inl (by simp)
  · rcases sub b hb with z | z
    · exact .inl (by simp [z])
    · exact .inr (hx b z)
end
/-- o.f = w -/
def sFld (c f : Str) (lf : P Pth) (mw : M W) : S := fun e => (mw e).bind fun x => match x.1 with
  | .ex y => some (.ex y x.2)
  | w => (lf x.2).bind fun p => match atE x.2 p with
    | some (.oi c' gs) => if c' = c ∧ gs.length < 900 then some (.nx (putE x.2 p (.oi c' (putFW f w gs)))) else none
    | _ => none
/-- o[k] = w, o a dict -/
def sDPut (lf : P Pth) (g : P D) (mw : M W) : S := fun e => (mw e).bind fun x => match x.1 with
  | .ex y => some (.ex y x.2)
  | w => (lf x.2).bind fun p => (g x.2).bind fun d => (keyD d).bind fun k => match atE x.2 p with
    | some (.od es) => (dputW es k w).map fun es' => .nx (putE x.2 p (.od es'))
    | _ => none
/-- o[i] = w, o a list -/
def sLPut (lf : P Pth) (g : P D) (mw : M W) : S := fun e => (mw e).bind fun x => match x.1 with
  | .ex y => some (.ex y x.2)
  | w => (lf x.2).bind fun p => (g x.2).bind fun d => match d, atE x.2 p with
    | .int i, some (.ol ws) => (ixN ws.length i).map fun j => .nx (putE x.2 p (.ol (ws.set j w)))
    | _, _ => none
/-- del o[k] -/
def sDDel (lf : P Pth) (g : P D) : S := fun e => (lf e).bind fun p => (g e).bind fun d => (keyD d).bind fun k => match atE e p with
    | some (.od es) => (ddelW es k).map fun es' => .nx (putE e p (.od es'))
    | _ => none
/-- o[k] op= v, ints -/
def sDAug (f : D → D → Option D) (lf : P Pth) (g h : P D) : S := fun e => (lf e).bind fun p => (g e).bind fun d => (keyD d).bind fun k => match atE e p with
    | some (.od es) => match valW es k with
      | some (.p x) => (h e).bind fun y => (f x y).bind fun z => (dputW es k (.p z)).map fun es' => .nx (putE e p (.od es'))
      | _ => none
    | _ => none
/-- o.f op= v -/
def sFAug (op : D → D → Option D) (c f : Str) (lf : P Pth) (h : P D) : S := fun e => (lf e).bind fun p => match atE e p with
    | some (.oi c' gs) => if c' = c ∧ gs.length < 900 then (match getFW gs f with
      | some (.p x) => (h e).bind fun y => (op x y).map fun z => .nx (putE e p (.oi c' (putFW f (.p z) gs)))
      | _ => none) else none
    | _ => none
section
variable {X : Cx} {A : Nat → Bool} {Wx : WX} {o b value : Expr} {lf : P Pth} {g h : P D} {mw : M W} {pos pos' tpos : Pos} {c f : Str}
theorem ss_fld (hv : SO X Wx value mw) (ho : SL X o lf) (hC : ∀ C, X.mg c = some (.ref C) → Cls X.K C ∧ NoAttr X.K C f) (hs : swapsWith value (some (.Attribute o f pos')) pos.line X.env = pure false := by rfl) : SS X A Wx (.Assign [.Attribute o f pos'] value pos) (sFld c f lf mw) := by
  refine PS.imp (ps_fld ho hv hs) fun Dd σ H ⟨I, e, Fs, R, r, hm, k⟩ => ?_
  obtain ⟨⟨w, e1⟩, h1, hm⟩ := Option.bind_eq_some_iff.mp hm
  refine ⟨I, e, Fs, R, w, e1, h1, fun y I1 F1 H1 Fw R1 x1 o1 hF => ?_, fun y hy cls d I1 F1 H1 R1 x1 xr => ?_⟩
  · have hm : ((lf e1).bind fun p => match atE e1 p with
      | some (.oi c' gs) => if c' = c ∧ gs.length < 900 then some (SR.nx (putE e1 p (.oi c' (putFW f w gs)))) else none
      | _ => none) = some r := by
      cases w with
      | ex y => have q := o1.ro; simp only [Ro] at q
      | _ => exact hm
    obtain ⟨p, h2, hm⟩ := Option.bind_eq_some_iff.mp hm
    refine ⟨I1, e1, F1, R1, p, h2, fun v I2 H2 wr v0 u gr hw hv hsb hA => ?_⟩
    rw [atE_of (u := u) hw, hsb] at hm
    cases u with
    | oi c' gs =>
      have hm2 : (if c' = c ∧ gs.length < 900 then some (SR.nx (putE e1 p (.oi c' (putFW f w gs)))) else none) = some r := hm
      clear hm
      split at hm2
      · rename_i hc
        obtain ⟨hc, hz⟩ := hc
        cases hm2
        obtain ⟨R2, x2⟩ := gr.rel R1
        have o2 : Own X.K X.mg I2 H2 F1 w y Fw := o1.frame x2.g (fun b hb => o1.dj b hb) fun b hb => o1.dj b hb
        obtain ⟨G0, hG0⟩ := L_get R2 hw hv hA
        obtain ⟨a, rfl, hca⟩ := tag_ref hG0 (by simp [tagW])
        obtain ⟨G, hG, nd, hI, dj, st⟩ := store_step (u' := .oi c' (putFW f w gs)) R2 o2 hw hv hA hca
        have hG' := hG
        simp only [Ro] at hG'
        obtain ⟨a', C, dx, fs, G1, e2, hcm, ha, hG1, hFs⟩ := hG'
        cases e2
        subst hG1
        have lenF : ∀ {ws : List (Str × W)} {xs : List (Str × V)} {F : List Addr}, RoF X.K X.mg I2 H2 ws xs F → xs.length = ws.length := by
          intro ws
          induction ws with
          | nil => intro xs F h; simp only [RoF] at h; rw [h.1]; rfl
          | cons q ws ih =>
            intro xs F h
            obtain ⟨q, u⟩ := q
            simp only [RoF] at h
            obtain ⟨x, r, F1, F2, rfl, rfl, _, h2⟩ := h
            rw [List.length_cons, List.length_cons, ih h2]
        refine ⟨a, C, dx, fs, rfl, ha, (hC C (hc ▸ hcm)).1, (hC C (hc ▸ hcm)).2, by rw [lenF hFs]; omega, ?_⟩
        obtain ⟨G', h3, h4, h5⟩ := RoF.putW o2.ro f hFs (List.nodup_cons.mp nd).2 o2.nd fun b hb q => dj b hb (by simp [q])
        have na : ∀ b ∈ G', b ≠ a := fun b hb z => by
          subst z
          rcases h5 b hb with q | q
          · exact (List.nodup_cons.mp nd).1 q
          · exact dj b q (by simp)
        obtain ⟨Fs', R3, x3⟩ := st (.ins C dx (L2.putF f y fs)) (.oi c' (putFW f w gs)) G1 rfl G' (by
          simp only [Ro]
          exact ⟨a, C, dx, _, G', rfl, hcm, upd_same, rfl, h3.frame (Ex.refl _) _ _ _ fun b hb o ho _ => by rw [upd_ne (na b hb)]; exact ho⟩) h4 h5
        exact k σ I2 Fs' _ R3 (x3 Fs I H (x1.trans x2) hF) Agr.refl
      · cases hm2
    | _ => cases hm
  · subst hy
    cases hm
    exact k cls d σ I1 F1 H1 R1 x1 Agr.refl xr
theorem ss_dput (hu : X.A.units + 1 < cLine) (hv : SO X Wx value mw) (ho : SL X o lf) (hb : SV X b g) (hs : swapsWith value (some (.Subscript o b pos')) pos.line X.env = pure false := by rfl) : SS X A Wx (.Assign [.Subscript o b pos'] value pos) (sDPut lf g mw) := by
  refine PS.imp (ps_dput hu ho hb hv hs) fun Dd σ H ⟨I, e, Fs, R, r, hm, k⟩ => ?_
  obtain ⟨⟨w, e1⟩, h1, hm⟩ := Option.bind_eq_some_iff.mp hm
  refine ⟨I, e, Fs, R, w, e1, h1, fun y I1 F1 H1 Fw R1 x1 o1 hF => ?_, fun y hy cls d I1 F1 H1 R1 x1 xr => ?_⟩
  · have hm : ((lf e1).bind fun p => (g e1).bind fun d => (keyD d).bind fun k => match atE e1 p with
      | some (.od es) => (dputW es k w).map fun es' => SR.nx (putE e1 p (.od es'))
      | _ => none) = some r := by
      cases w with
      | ex y => have q := o1.ro; simp only [Ro] at q
      | _ => exact hm
    obtain ⟨p, h2, hm⟩ := Option.bind_eq_some_iff.mp hm
    obtain ⟨d, h3, hm⟩ := Option.bind_eq_some_iff.mp hm
    obtain ⟨ky, h4, hm⟩ := Option.bind_eq_some_iff.mp hm
    refine ⟨I1, e1, F1, R1, p, h2, fun v I2 H2 wr v0 u gr hw hv hsb hA => ?_⟩
    obtain ⟨R2, x2⟩ := gr.rel R1
    refine ⟨I2, e1, F1, R2, d, h3, fun kv I3 H3 gr3 rk => ?_⟩
    obtain ⟨R3, x3⟩ := gr3.rel R2
    rw [atE_of (u := u) hw, hsb] at hm
    cases u with
    | od es =>
      obtain ⟨es', h5, hm⟩ := Option.map_eq_some_iff.mp (show (dputW es ky w).map (fun es' => SR.nx (putE e1 p (.od es'))) = some r from hm)
      cases hm
      have x13 := x2.trans x3
      have o3 : Own X.K X.mg I3 H3 F1 w y Fw := o1.frame x13.g (fun b hb => o1.dj b hb) fun b hb => o1.dj b hb
      have hA3 := hA.mono gr3.heap p.2
      obtain ⟨G0, hG0⟩ := L_get R3 hw hv hA3
      obtain ⟨a, rfl, hca⟩ := tag_ref hG0 (by simp [tagW])
      obtain ⟨G, hG, nd, hI, dj, st⟩ := store_step (u' := .od es') R3 o3 hw hv hA3 hca
      have hG' := hG
      simp only [Ro] at hG'
      obtain ⟨a', kvs, G1, e2, ha, hG1, hFs⟩ := hG'
      cases e2
      subst hG1
      obtain ⟨hz, G', h6, h7, h8⟩ := RoK.putW o3.ro hFs (List.nodup_cons.mp nd).2 o3.nd (fun b hb q => dj b hb (by simp [q])) h5
      have na : ∀ b ∈ G', b ≠ a := fun b hb z => by
        subst z
        rcases h8 b hb with q | q
        · exact (List.nodup_cons.mp nd).1 q
        · exact dj b q (by simp)
      refine ⟨a, _, rfl, by rw [keyD_v h4 rk]; exact DPut.k ha hz, ?_⟩
      obtain ⟨Fs', R4, x4⟩ := st (.dK (putK kvs ky y)) (.od es') G1 rfl G' (by
        simp only [Ro]
        exact ⟨a, _, G', rfl, upd_same, rfl, h6.frame (Ex.refl _) _ _ _ fun b hb o ho _ => by rw [upd_ne (na b hb)]; exact ho⟩) h7 h8
      exact k σ I3 Fs' _ R4 (x4 Fs I H (x1.trans x13) hF) Agr.refl
    | _ => cases hm
  · subst hy
    cases hm
    exact k cls d σ I1 F1 H1 R1 x1 Agr.refl xr
end
end MV

namespace MV
open PySem L2
variable [TB]
theorem ixN_lt {n : Nat} {i : Int} {j : Nat} (h4 : ixN n i = some j) : j < n := by
  unfold ixN at h4
  split at h4
  · split at h4
    · cases h4; omega
    · cases h4
  · split at h4
    · cases h4; omega
    · cases h4
theorem nex_ro {K : PySem.W.Frag} {mg : Str → Option Value} {I H : Hp} {Fs : Fp} {α : Type} {w : W} {y : V} {Fw : List Addr} {a : D → α} {b : α} (o : Own K mg I H Fs w y Fw) : (match w with
    | .ex y => a y
    | _ => b) = b := by
  cases w with
  | ex y => have q := o.ro; simp only [Ro] at q
  | _ => rfl
section
variable {X : Cx} {A : Nat → Bool} {Wx : WX} {o b value : Expr} {lf : P Pth} {g h : P D} {mw : M W} {pos pos' tpos : Pos} {c f : Str}
theorem ss_lput (hv : SO X Wx value mw) (ho : SL X o lf) (hb : SV X b g) (hs : swapsWithSole [.Subscript o b tpos] value pos.line X.env = pure false := by rfl) (hw : swappedStores [.Subscript o b tpos] value X.env = pure none := by rfl)
    (h1 : (assignEach [.Subscript o b tpos] X.env).map (·.2) = [assign (.Subscript o b tpos) X.env] := by rfl)
    (ha : ∀ v, assign (.Subscript o b tpos) X.env v = (do
      let ov ← holding [v] (eval o X.env)
      let iv ← holding [v, ov] (eval b X.env)
      standAt tpos
      holding [v, ov, iv] (setItem ov iv v)
      release [v, ov, iv] []) := by intro _; rfl) : SS X A Wx (.Assign [.Subscript o b tpos] value pos) (sLPut lf g mw) := by
  refine PS.imp (ps_asg hv (pg_sub ho hb set_list ha) hs hw h1) fun Dd σ H ⟨I, e, Fs, R, r, hm, k⟩ => ?_
  obtain ⟨⟨w, e1⟩, h1, hm⟩ := Option.bind_eq_some_iff.mp hm
  refine ⟨I, e, Fs, R, w, e1, h1, fun y I1 F1 H1 Fw R1 x1 o1 hF => ?_, fun y hy cls d I1 F1 H1 R1 x1 xr => ?_⟩
  · have hm : ((lf e1).bind fun p => (g e1).bind fun d => match d, atE e1 p with
      | .int i, some (.ol ws) => (ixN ws.length i).map fun j => SR.nx (putE e1 p (.ol (ws.set j w)))
      | _, _ => none) = some r := by
      cases w with
      | ex y => have q := o1.ro; simp only [Ro] at q
      | _ => exact hm
    obtain ⟨p, h2, hm⟩ := Option.bind_eq_some_iff.mp hm
    obtain ⟨d, h3, hm⟩ := Option.bind_eq_some_iff.mp hm
    refine ⟨I1, e1, F1, R1, p, h2, fun v I2 H2 wr v0 u gr hw hv hsb hA => ?_⟩
    obtain ⟨R2, x2⟩ := gr.rel R1
    refine ⟨I2, e1, F1, R2, d, h3, fun kv I3 H3 gr3 rk => ?_⟩
    obtain ⟨R3, x3⟩ := gr3.rel R2
    rw [atE_of (u := u) hw, hsb] at hm
    cases d with
    | int i =>
      cases u with
      | ol ws =>
        obtain ⟨j, h5, hm⟩ := Option.map_eq_some_iff.mp (show ((ixN ws.length i).map fun j => SR.nx (putE e1 p (.ol (ws.set j w)))) = some r from hm)
        cases hm
        simp only [Rp] at rk
        subst rk
        have x13 := x2.trans x3
        have o3 : Own X.K X.mg I3 H3 F1 w y Fw := o1.frame x13.g (fun b hb => o1.dj b hb) fun b hb => o1.dj b hb
        have hA3 := hA.mono gr3.heap p.2
        obtain ⟨G0, hG0⟩ := L_get R3 hw hv hA3
        obtain ⟨a, rfl, hca⟩ := tag_ref hG0 (by simp [tagW])
        obtain ⟨G, hG, nd, hI, dj, st⟩ := store_step (u' := .ol (ws.set j w)) R3 o3 hw hv hA3 hca
        have hG' := hG
        simp only [Ro] at hG'
        obtain ⟨a', xs, G1, e2, ha, hG1, hFs⟩ := hG'
        cases e2
        subst hG1
        obtain ⟨G', h6, h7, h8⟩ := RoL.setW o3.ro j hFs (List.nodup_cons.mp nd).2 o3.nd fun b hb q => dj b hb (by simp [q])
        have na : ∀ b ∈ G', b ≠ a := fun b hb z => by
          subst z
          rcases h8 b hb with q | q
          · exact (List.nodup_cons.mp nd).1 q
          · exact dj b q (by simp)
        refine ⟨a, xs, i, j, rfl, rfl, ha, by rw [← hFs.len]; exact h5, ?_⟩
        obtain ⟨Fs', R4, x4⟩ := st (.lst (xs.set j y)) (.ol (ws.set j w)) G1 rfl G' (by
          simp only [Ro]
          exact ⟨a, _, G', rfl, upd_same, rfl, h6.frame (Ex.refl _) _ _ _ fun b hb o ho _ => by rw [upd_ne (na b hb)]; exact ho⟩) h7 h8
        exact k σ I3 Fs' _ R4 (x4 Fs I H (x1.trans x13) hF) Agr.refl
      | _ => cases hm
    | _ => cases u <;> cases hm
  · subst hy
    cases hm
    exact k cls d σ I1 F1 H1 R1 x1 Agr.refl xr
theorem ss_ddel (ho : SL X o lf) (hb : SV X b g) : SS X A Wx (.Delete [.Subscript o b tpos] pos) (sDDel lf g) := by
  refine PS.imp (ps_ddel ho hb) fun Dd σ H ⟨I, e, Fs, R, r, hm, k⟩ => ?_
  obtain ⟨p, h2, hm⟩ := Option.bind_eq_some_iff.mp hm
  obtain ⟨d, h3, hm⟩ := Option.bind_eq_some_iff.mp hm
  obtain ⟨ky, h4, hm⟩ := Option.bind_eq_some_iff.mp hm
  refine ⟨I, e, Fs, R, p, h2, fun v I2 H2 wr v0 u gr hw hv hsb hA => ?_⟩
  obtain ⟨R2, x2⟩ := gr.rel R
  refine ⟨I2, e, Fs, R2, d, h3, fun kv I3 H3 gr3 rk => ?_⟩
  obtain ⟨R3, x3⟩ := gr3.rel R2
  rw [atE_of (u := u) hw, hsb] at hm
  cases u with
  | od es =>
    obtain ⟨es', h5, hm⟩ := Option.map_eq_some_iff.mp (show (ddelW es ky).map (fun es' => SR.nx (putE e p (.od es'))) = some r from hm)
    cases hm
    have hA3 := hA.mono gr3.heap p.2
    obtain ⟨G0, hG0⟩ := L_get R3 hw hv hA3
    obtain ⟨a, rfl, hca⟩ := tag_ref hG0 (by simp [tagW])
    obtain ⟨G, hG, nd, inF, hI, up⟩ := R3.upd hw hv hA3 hca
    have hG' := hG
    simp only [Ro] at hG'
    obtain ⟨a', kvs, G1, e2, ha, hG1, hFs⟩ := hG'
    cases e2
    subst hG1
    unfold ddelW at h5
    split at h5
    · rename_i hany
      cases h5
      obtain ⟨G', h6, h7⟩ := hFs.dropW (k := ky)
      have na : a ∉ G' := fun q => (List.nodup_cons.mp nd).1 (h7.subset q)
      refine ⟨a, kvs, ky, rfl, ha, keyD_v h4 rk, by rw [← valV_any, hFs.any]; exact hany, ?_⟩
      obtain ⟨Fs', R4, x4⟩ := up (.dK (L2.dropK kvs ky)) (.od (es.filter fun q => decide (q.1 ≠ ky))) (a :: G') (by
        simp only [Ro]
        exact ⟨a, _, G', rfl, upd_same, rfl, h6.frame (Ex.refl _) _ _ _ fun b hb o ho _ => by rw [upd_ne (fun z => by subst z; exact na hb)]; exact ho⟩) (List.nodup_cons.mpr ⟨na, (List.nodup_cons.mp nd).2.sublist h7⟩) (fun b hb => by
          rcases List.mem_cons.mp hb with rfl | hb
          · exact .inl (by simp)
          · exact .inl (by simp [h7.subset hb]))
      have e1 : putE e p (.od (es.filter fun q => decide (q.1 ≠ ky))) = e.set p.1 (some (wr.put p.2 (.od (es.filter fun q => decide (q.1 ≠ ky))))) := by unfold putE; rw [hw]
      refine k σ I3 Fs' _ (by rw [e1]; exact R4) (x4 Fs I H (x2.trans x3) fun b hb => ?_) Agr.refl
      rcases List.mem_cons.mp hb with rfl | hb
      · exact .inl (by simp)
      · exact .inl (by simp [h7.subset hb])
    · cases h5
  | _ => cases hm
/-- a number's operator in place -/
def AugR (X : Cx) (op : Operator) (rd : V → V → Hp → VK → Prop) (f : D → D → Option D) : Prop := InOp X op rd ∧ ∀ x y z I H v u Q, Ex I H → Rp X.K X.mg I x v → Rp X.K X.mg I y u → f x y = some z → (∀ v' I' H', Gr I H I' H' → Rp X.K X.mg I' z v' → Q v' H') → rd v u H Q
def dAddI : D → D → Option D
  | .int i, .int j => some (.int (i + j))
  | _, _ => none
theorem aug_add : AugR X .Add L2.rAdd dAddI := ⟨in_add, fun x y z I H v u Q s rx ry h k => by
  unfold dAddI at h
  split at h
  · cases h
    simp only [Rp] at rx ry
    exact ⟨_, _, rx, ry, k _ I H .same rp_int⟩
  · cases h⟩
theorem aug_sub : AugR X .Sub L2.rSub dSub := ⟨in_sub, fun x y z I H v u Q s rx ry h k => by
  unfold dSub dI at h
  split at h
  · cases h
    simp only [Rp] at rx ry
    exact ⟨_, _, rx, ry, k _ I H .same rp_int⟩
  · cases h⟩
theorem ss_daug {op : Operator} {rd : V → V → Hp → VK → Prop} {fo : D → D → Option D} (hu : X.A.units + 1 < cLine) (hf : AugR X op rd fo) (ho : SL X o lf) (hb : SV X b g) (hv : SV X value h)
    (ha : ∀ ov iv new, augStore b ov iv new = (do holding [new, ov, iv] (setItem ov iv new); release [new, ov, iv] []; pure .next) := by intros; rfl) : SS X A Wx (.AugAssign (.Subscript o b tpos) op value pos) (sDAug fo lf g h) := by
  refine PS.imp (ps_daug hu ho hb hv hf.1 ha) fun Dd σ H ⟨I, e, Fs, R, r, hm, k⟩ => ?_
  obtain ⟨p, h2, hm⟩ := Option.bind_eq_some_iff.mp hm
  obtain ⟨d, h3, hm⟩ := Option.bind_eq_some_iff.mp hm
  obtain ⟨ky, h4, hm⟩ := Option.bind_eq_some_iff.mp hm
  refine ⟨I, e, Fs, R, p, h2, fun v I2 H2 wr v0 u gr hw hv hsb hA => ?_⟩
  obtain ⟨R2, x2⟩ := gr.rel R
  refine ⟨I2, e, Fs, R2, d, h3, fun kv I3 H3 gr3 rk => ?_⟩
  obtain ⟨R3, x3⟩ := gr3.rel R2
  rw [atE_of (u := u) hw, hsb] at hm
  cases u with
  | od es =>
    have hm : (match valW es ky with
      | some (.p x) => (h e).bind fun y => (fo x y).bind fun z => (dputW es ky (.p z)).map fun es' => SR.nx (putE e p (.od es'))
      | _ => none) = some r := hm
    split at hm
    · rename_i x hx
      obtain ⟨y, h5, hm⟩ := Option.bind_eq_some_iff.mp hm
      obtain ⟨z, h6, hm⟩ := Option.bind_eq_some_iff.mp hm
      obtain ⟨es', h7, hm⟩ := Option.map_eq_some_iff.mp hm
      cases hm
      have hA3 := hA.mono gr3.heap p.2
      obtain ⟨G0, hG0⟩ := L_get R3 hw hv hA3
      obtain ⟨a, rfl, hca⟩ := tag_ref hG0 (by simp [tagW])
      simp only [Ro] at hG0
      obtain ⟨a0, kvs0, G1, e0, ha0, _, hF0⟩ := hG0
      cases e0
      obtain ⟨vx, A0, GX, B0, hvx, _, hrx, _⟩ := hF0.lens hx
      simp only [Ro] at hrx
      refine ⟨a, vx, rfl, by rw [keyD_v h4 rk, ← hvx]; exact DGet.k ha0, ?_⟩
      refine ⟨I3, e, Fs, R3, y, h5, fun vy I4 H4 gr4 ry => ?_⟩
      obtain ⟨R4, x4⟩ := gr4.rel R3
      refine hf.2 x y z I4 H4 vx vy _ R4.sub (hrx.1.mono (gr4.fz R3.sub) _ _) ry h6 fun vz I5 H5 gr5 rz => ?_
      obtain ⟨R5, x5⟩ := gr5.rel R4
      have hA5 := (hA3.mono gr4.heap p.2).mono gr5.heap p.2
      have o5 : Own X.K X.mg I5 H5 Fs (.p z) vz [] := .pure rz
      obtain ⟨G, hG, nd, hI, dj, st⟩ := store_step (u' := .od es') R5 o5 hw hv hA5 fun G h => tag_mem (by simp [tagW]) h
      have hG' := hG
      simp only [Ro] at hG'
      obtain ⟨a', kvs, G1', e2, ha, hG1, hFs⟩ := hG'
      cases e2
      subst hG1
      obtain ⟨hz, G', h8, h9, h10⟩ := RoK.putW o5.ro hFs (List.nodup_cons.mp nd).2 o5.nd (fun b hb q => dj b hb (by simp [q])) h7
      have na : ∀ b ∈ G', b ≠ a := fun b hb z => by
        subst z
        rcases h10 b hb with q | q
        · exact (List.nodup_cons.mp nd).1 q
        · cases q
      refine ⟨_, by rw [keyD_v h4 rk]; exact DPut.k ha hz, ?_⟩
      obtain ⟨Fs', R6, x6⟩ := st (.dK (putK kvs ky vz)) (.od es') G1' rfl G' (by
        simp only [Ro]
        exact ⟨a, _, G', rfl, upd_same, rfl, h8.frame (Ex.refl _) _ _ _ fun b hb o ho _ => by rw [upd_ne (na b hb)]; exact ho⟩) h9 h10
      exact k σ I5 Fs' _ R6 (x6 Fs I H (((x2.trans x3).trans x4).trans x5) fun b hb => by cases hb) Agr.refl
    · cases hm
  | _ => cases hm
theorem ss_faug {op : Operator} {rd : V → V → Hp → VK → Prop} {fo : D → D → Option D} (hf : AugR X op rd fo) (ho : SL X o lf) (hC : ∀ C, X.mg c = some (.ref C) → Cls X.K C ∧ NoAttr X.K C f) (hv : SV X value h) : SS X A Wx (.AugAssign (.Attribute o f tpos) op value pos) (sFAug fo c f lf h) := by
  refine PS.imp (ps_fldaug ho hv hf.1) fun Dd σ H ⟨I, e, Fs, R, r, hm, k⟩ => ?_
  obtain ⟨p, h2, hm⟩ := Option.bind_eq_some_iff.mp hm
  refine ⟨I, e, Fs, R, p, h2, fun v I2 H2 wr v0 u gr hw hv hsb hA => ?_⟩
  obtain ⟨R2, x2⟩ := gr.rel R
  rw [atE_of (u := u) hw, hsb] at hm
  cases u with
  | oi c' gs =>
    have hm2 : (if c' = c ∧ gs.length < 900 then (match getFW gs f with
      | some (.p x) => (h e).bind fun y => (fo x y).map fun z => SR.nx (putE e p (.oi c' (putFW f (.p z) gs)))
      | _ => none) else none) = some r := hm
    clear hm
    split at hm2
    · rename_i hc
      obtain ⟨hc, hz⟩ := hc
      split at hm2
      · rename_i x hx
        obtain ⟨y, h5, hm⟩ := Option.bind_eq_some_iff.mp hm2
        obtain ⟨z, h6, hm⟩ := Option.map_eq_some_iff.mp hm
        cases hm
        obtain ⟨G0, hG0⟩ := L_get R2 hw hv hA
        obtain ⟨a, rfl, hca⟩ := tag_ref hG0 (by simp [tagW])
        simp only [Ro] at hG0
        obtain ⟨a0, C, dx, fs0, G1, e0, hcm, ha0, _, hF0⟩ := hG0
        cases e0
        obtain ⟨vx, A0, GX, B0, hvx, _, hrx, _⟩ := hF0.lens hx
        simp only [Ro] at hrx
        have hcc := hC C (hc ▸ hcm)
        refine ⟨a, C, dx, fs0, vx, rfl, ha0, hcc.1, hcc.2, hvx, ?_⟩
        refine ⟨I2, e, Fs, R2, y, h5, fun vy I4 H4 gr4 ry => ?_⟩
        obtain ⟨R4, x4⟩ := gr4.rel R2
        refine hf.2 x y z I4 H4 vx vy _ R4.sub (hrx.1.mono (gr4.fz R2.sub) _ _) ry h6 fun vz I5 H5 gr5 rz => ?_
        obtain ⟨R5, x5⟩ := gr5.rel R4
        have hA5 := (hA.mono gr4.heap p.2).mono gr5.heap p.2
        have o5 : Own X.K X.mg I5 H5 Fs (.p z) vz [] := .pure rz
        obtain ⟨G, hG, nd, hI, dj, st⟩ := store_step (u' := .oi c' (putFW f (.p z) gs)) R5 o5 hw hv hA5 fun G h => tag_mem (by simp [tagW]) h
        have hG' := hG
        simp only [Ro] at hG'
        obtain ⟨a', C', dx', fs, G1', e2, hcm', ha, hG1, hFs⟩ := hG'
        cases e2
        subst hG1
        have eC : C' = C := by
          rw [hcm] at hcm'
          cases hcm'
          rfl
        subst eC
        have lenF : ∀ {ws : List (Str × W)} {xs : List (Str × V)} {F : List Addr}, RoF X.K X.mg I5 H5 ws xs F → xs.length = ws.length := by
          intro ws
          induction ws with
          | nil => intro xs F h; simp only [RoF] at h; rw [h.1]; rfl
          | cons q ws ih =>
            intro xs F h
            obtain ⟨q, u⟩ := q
            simp only [RoF] at h
            obtain ⟨x, r, F1, F2, rfl, rfl, _, h2⟩ := h
            rw [List.length_cons, List.length_cons, ih h2]
        obtain ⟨G', h8, h9, h10⟩ := RoF.putW o5.ro f hFs (List.nodup_cons.mp nd).2 o5.nd fun b hb q => dj b hb (by simp [q])
        have na : ∀ b ∈ G', b ≠ a := fun b hb z => by
          subst z
          rcases h10 b hb with q | q
          · exact (List.nodup_cons.mp nd).1 q
          · cases q
        refine ⟨dx', fs, ha, by rw [lenF hFs]; omega, ?_⟩
        obtain ⟨Fs', R6, x6⟩ := st (.ins C' dx' (L2.putF f vz fs)) (.oi c' (putFW f (.p z) gs)) G1' rfl G' (by
          simp only [Ro]
          exact ⟨a, C', dx', _, G', rfl, hcm', upd_same, rfl, h8.frame (Ex.refl _) _ _ _ fun b hb o ho _ => by rw [upd_ne (na b hb)]; exact ho⟩) h9 h10
        exact k σ I5 Fs' _ R6 (x6 Fs I H ((x2.trans x4).trans x5) fun b hb => by cases hb) Agr.refl
      · cases hm2
    · cases hm2
  | _ => cases hm
end
end MV

namespace MV
open PySem L2
variable [TB]

/-! ### methods of own classes -/
section
variable {X : Cx} {Wx : WX} {k : Nat} {f C : Addr} {fd : FuncData} {ps : List Str} {sp : Sp} {m : Str} {pos apos : Pos} {e o : Expr} {es : List Expr} {ta : TE} {t : TA}
def tMth (C : Addr) (m : Str) (sp : Sp) (Wx : WX) (ta : TE) (t : TA) : TE := fun σ H Q => ta σ H fun x H1 => (∃ a dx fs, x = .ref a ∧ H1 a = some (.ins C dx fs) ∧ fs.lookup m = none) ∧ t σ H1 fun vs H2 => sp (x :: vs) H2 Q (WE Wx σ)
theorem pe_mth {pl : Sem Bool} (tk : L2N.Takes X Wx) (ho : PE X o ta) (cl : Cls X.K C) (hm : Meth X.K C m f) (F : FnOk X.prog X.w X.K X.mg X.base (L2N.CX X.prog X.w) k f fd ps sp) (hr : Room k X.A) (hb : Binds X.K fd ps []) (ha : PA X (e :: es) t)
    (hst : starEach (e :: es) X.env = (false, eval e X.env) :: starEach es X.env := by rfl) (hpl : (backTo pos (starEach es X.env)).any (·.1) = false := by rfl)
    (ht : eval (.Call (.Attribute o m apos) (e :: es) [] pos) X.env = (do
      let ov ← eval o X.env
      standAt apos.atName
      let (f, first) ← holding [ov] (getMethod ov m pl)
      callWith pos f first (backTo pos (starEach (e :: es) X.env)) (backToKw pos (keywordEach [] X.env))) := by rfl) : PE X (.Call (.Attribute o m apos) (e :: es) [] pos) (tMth C m sp Wx ta t) := by
  constructor
  intro pins s σ H Q I h
  apply PySem.W.methodCall_KW (pl := pl) _ ht
  refine thn (ho.run pins s σ H _ I h) ?_
  rintro u s1 ⟨x, H1, I1, rx, ⟨a, dx, fs, rfl, ea, l⟩, q⟩
  obtain rfl : u = Value.ref a := rx
  apply getmeth_ok I1 ea cl hm l
  apply PySem.W.callWith_K (first := [.ref a]) (h₀ := X.base) I.ok.mod.kin hm.kp _ hst hpl
  refine thn (ha.run pos pins s1 σ H1 _ I1 q) ?_
  rintro us s2 ⟨vs, H2, I2, r, q2⟩
  exact ⟨I2.kIn, run_fnS (E := WE Wx) (us := .ref a :: us) (vs := .ref a :: vs) F hr hb (L2N.passAt tk σ) I2 (.cons rfl r) q2⟩
theorem pe_mth0 {pl : Sem Bool} (tk : L2N.Takes X Wx) (ho : PE X o ta) (cl : Cls X.K C) (hm : Meth X.K C m f) (F : FnOk X.prog X.w X.K X.mg X.base (L2N.CX X.prog X.w) k f fd ps sp) (hr : Room k X.A) (hb : Binds X.K fd ps [])
    (ht : eval (.Call (.Attribute o m apos) [] [] pos) X.env = (do
      let ov ← eval o X.env
      standAt apos.atName
      let (f, first) ← holding [ov] (getMethod ov m pl)
      callWith pos f first (backTo pos (starEach [] X.env)) (backToKw pos (keywordEach [] X.env))) := by rfl) : PE X (.Call (.Attribute o m apos) [] [] pos) (tMth C m sp Wx ta tNil) := by
  constructor
  intro pins s σ H Q I h
  apply PySem.W.methodCall_KW (pl := pl) _ ht
  refine thn (ho.run pins s σ H _ I h) ?_
  rintro u s1 ⟨x, H1, I1, rx, ⟨a, dx, fs, rfl, ea, l⟩, q⟩
  obtain rfl : u = Value.ref a := rx
  apply getmeth_ok I1 ea cl hm l
  exact PySem.W.callWith_K0 (first := [.ref a]) I1.kIn hm.kp (run_fnS (E := WE Wx) (us := [.ref a]) (vs := [.ref a]) F hr hb (L2N.passAt tk σ) I1 (.cons rfl .nil) q)
end
/-- the receiver, owned (slot i), of the class c; m is no field -/
def aRO (c m : Str) (i : Nat) (r : M (List Arg)) : M (List Arg) := fun e => match e[i]? with
  | some (some (.oi c' gs)) => if c' = c ∧ (getFW gs m).isNone = true then (r e).map fun y => (.io i :: y.1, y.2) else none
  | _ => none
/-- .. frozen -/
def aRD (c m : Str) (mo : M D) (r : M (List Arg)) : M (List Arg) := fun e => (mo e).bind fun x => match x.1 with
  | .inst c' gs => if c' = c ∧ (gs.lookup m).isNone = true then (r x.2).map fun y => (.d x.1 :: y.1, y.2) else none
  | _ => none
section
variable {K : PySem.W.Frag} {mg : Str → Option Value} {I H : Hp}
theorem RoF.lookNone {f : Str} : ∀ {ws : List (Str × W)} {xs : List (Str × V)} {F : List Addr}, RoF K mg I H ws xs F → (getFW ws f).isNone = true → xs.lookup f = none
  | [], xs, F, h, e => by simp only [RoF] at h; obtain ⟨rfl, rfl⟩ := h; rfl
  | (q, u) :: ws, xs, F, h, e => by
    simp only [RoF] at h
    obtain ⟨x, r, F1, F2, rfl, rfl, h1, h2⟩ := h
    unfold getFW at e
    split at e
    · cases e
    · rename_i hq
      have hb : (f == q) = false := by rw [beq_eq_false_iff_ne]; exact Ne.symm hq
      rw [List.lookup_cons, hb]
      exact h2.lookNone e
theorem RpF.look {f : Str} : ∀ {ds : List (Str × D)} {xs : List (Str × V)}, RpF K mg I ds xs → (∀ d, ds.lookup f = some d → ∃ x, xs.lookup f = some x ∧ Rp K mg I d x) ∧ (ds.lookup f = none → xs.lookup f = none)
  | [], xs, h => by simp only [RpF] at h; subst h; exact ⟨fun d e => by simp at e, fun _ => rfl⟩
  | (q, d0) :: ds, xs, h => by
    simp only [RpF] at h
    obtain ⟨x, r, rfl, h1, h2⟩ := h
    obtain ⟨k1, k2⟩ := RpF.look (f := f) h2
    by_cases hb : (f == q) = true
    · rw [List.lookup_cons, List.lookup_cons, hb]
      exact ⟨fun d e => by cases e; exact ⟨x, rfl, h1⟩, fun e => by cases e⟩
    · have hb : (f == q) = false := by simpa using hb
      rw [List.lookup_cons, List.lookup_cons, hb]
      exact ⟨k1, k2⟩
end
theorem aro_run {K : PySem.W.Frag} {mg : Str → Option Value} {c m : Str} {i : Nat} {r : M (List Arg)} {C : Addr} {σ : L2.St} {H : Hp} {P : List V → Hp → Prop} (hC : mg c = some (.ref C)) (h : tAr K mg (aRO c m i r) σ H P) :
    tVar i σ H fun x H1 => (∃ a dx fs, x = .ref a ∧ H1 a = some (.ins C dx fs) ∧ fs.lookup m = none) ∧ tAr K mg r σ H1 fun vs H2 => P (x :: vs) H2 := by
  obtain ⟨I, e, Fs, R, as, e', hm, k⟩ := h
  unfold aRO at hm
  split at hm
  · rename_i c' gs hw
    split at hm
    · rename_i hc
      obtain ⟨rfl, hn⟩ := hc
      obtain ⟨⟨y, e2⟩, h2, hm⟩ := Option.map_eq_some_iff.mp hm
      cases hm
      obtain ⟨v, h1, ro⟩ := R.at_ i _ hw
      refine ⟨v, h1, ?_, I, e, Fs, R, y, e2, h2, fun vs I2 F2 H2 R2 x2 r2 => k (v :: vs) I2 F2 H2 R2 x2 ⟨v, vs, rfl, h1, r2⟩⟩
      simp only [Ro] at ro
      obtain ⟨a, C', dx, fs, G, rfl, hc, ha, _, hF⟩ := ro
      rw [hC] at hc
      cases hc
      exact ⟨a, dx, fs, rfl, ha, hF.lookNone hn⟩
    · cases hm
  · cases hm
theorem ard_run {K : PySem.W.Frag} {mg : Str → Option Value} {c m : Str} {mo : M D} {r : M (List Arg)} {C : Addr} {σ : L2.St} {H : Hp} {P : List V → Hp → Prop} (hC : mg c = some (.ref C)) (h : tAr K mg (aRD c m mo r) σ H P) :
    tE K mg mo σ H fun x H1 => (∃ a dx fs, x = .ref a ∧ H1 a = some (.ins C dx fs) ∧ fs.lookup m = none) ∧ tAr K mg r σ H1 fun vs H2 => P (x :: vs) H2 := by
  obtain ⟨I, e, Fs, R, as, e', hm, k⟩ := h
  obtain ⟨⟨d, e1⟩, h1, hm⟩ := Option.bind_eq_some_iff.mp hm
  refine ⟨I, e, Fs, R, d, e1, h1, fun v I1 F1 H1 R1 x1 r1 => ?_⟩
  cases d with
  | inst c' gs =>
    have hm2 : (if c' = c ∧ (gs.lookup m).isNone = true then (r e1).map fun y => (Arg.d (.inst c' gs) :: y.1, y.2) else none) = some (as, e') := hm
    clear hm
    split at hm2
    · rename_i hc
      obtain ⟨hc, hn⟩ := hc
      subst hc
      obtain ⟨⟨y, e2⟩, h2, hm⟩ := Option.map_eq_some_iff.mp hm2
      cases hm
      refine ⟨?_, I1, e1, F1, R1, y, e2, h2, fun vs I2 F2 H2 R2 x2 r2 => k (v :: vs) I2 F2 H2 R2 (x1.trans x2) ⟨v, vs, rfl, r1.mono x2.g.ex _ _, r2⟩⟩
      simp only [Rp] at r1
      obtain ⟨a, C', dx, fs, rfl, hc, ha, hF⟩ := r1
      rw [hC] at hc
      cases hc
      exact ⟨a, dx, fs, rfl, R1.sub _ _ ha, hF.look.2 (Option.isNone_iff_eq_none.mp hn)⟩
    · cases hm2
  | _ => cases hm
/-- a method of the class c -/
def Mt (P : Program) (w : World) (K : PySem.W.Frag) (mg : Str → Option Value) (base : Heap) (k : Nat) (c m : Str) (ps : List Str) (g : FSem) : Prop :=
  ∃ C f fd, mg c = some (.ref C) ∧ Cls K C ∧ Meth K C m f ∧ Binds K fd ps [] ∧ FnOk P w K mg base (L2N.CX P w) k f fd ps (spF K mg ps.length g)
section
variable {X : Cx} {Wx : WX} {k : Nat} {ps : List Str} {g : FSem} {c m : Str} {pos apos p : Pos} {a o : Expr} {es : List Expr} {ma : M (List Arg)} {mo : M D} {i : Nat} {x : Str}
theorem so_mthO {pl : Sem Bool} (tk : L2N.Takes X Wx) (F : Mt X.prog X.w X.K X.mg X.base k c m ps g) (hr : Room k X.A) (ho : PE X (.Name x p) (tVar i)) (ha : SA X (a :: es) ma) (hn : ∀ as e e', aRO c m i ma e = some (as, e') → as.length = ps.length)
    (hst : starEach (a :: es) X.env = (false, eval a X.env) :: starEach es X.env := by rfl) (hpl : (backTo pos (starEach es X.env)).any (·.1) = false := by rfl)
    (ht : eval (.Call (.Attribute (.Name x p) m apos) (a :: es) [] pos) X.env = (do
      let ov ← eval (.Name x p) X.env
      standAt apos.atName
      let (f, first) ← holding [ov] (getMethod ov m pl)
      callWith pos f first (backTo pos (starEach (a :: es) X.env)) (backToKw pos (keywordEach [] X.env))) := by rfl) : SO X Wx (.Call (.Attribute (.Name x p) m apos) (a :: es) [] pos) (mCall g (aRO c m i ma)) := by
  obtain ⟨C, f, fd, hC, cl, hm, hb, F⟩ := F
  exact PE.imp (pe_mth tk ho cl hm F hr hb ha hst hpl ht) fun σ H Q h => aro_run hC (call_step hn h)
theorem so_mthO0 {pl : Sem Bool} (tk : L2N.Takes X Wx) (F : Mt X.prog X.w X.K X.mg X.base k c m ps g) (hr : Room k X.A) (ho : PE X (.Name x p) (tVar i)) (hn : ∀ as e e', aRO c m i aNil e = some (as, e') → as.length = ps.length)
    (ht : eval (.Call (.Attribute (.Name x p) m apos) [] [] pos) X.env = (do
      let ov ← eval (.Name x p) X.env
      standAt apos.atName
      let (f, first) ← holding [ov] (getMethod ov m pl)
      callWith pos f first (backTo pos (starEach [] X.env)) (backToKw pos (keywordEach [] X.env))) := by rfl) : SO X Wx (.Call (.Attribute (.Name x p) m apos) [] [] pos) (mCall g (aRO c m i aNil)) := by
  obtain ⟨C, f, fd, hC, cl, hm, hb, F⟩ := F
  refine PE.imp (pe_mth0 tk ho cl hm F hr hb ht) fun σ H Q h => ?_
  obtain ⟨v, h1, h2, I, e, Fs, R, as, e', h3, h4⟩ := aro_run hC (call_step hn h)
  cases h3
  exact ⟨v, h1, h2, h4 [] I Fs H R Ext.refl rfl⟩
theorem so_mthD {pl : Sem Bool} (tk : L2N.Takes X Wx) (F : Mt X.prog X.w X.K X.mg X.base k c m ps g) (hr : Room k X.A) (ho : SE X o mo) (ha : SA X (a :: es) ma) (hn : ∀ as e e', aRD c m mo ma e = some (as, e') → as.length = ps.length)
    (hst : starEach (a :: es) X.env = (false, eval a X.env) :: starEach es X.env := by rfl) (hpl : (backTo pos (starEach es X.env)).any (·.1) = false := by rfl)
    (ht : eval (.Call (.Attribute o m apos) (a :: es) [] pos) X.env = (do
      let ov ← eval o X.env
      standAt apos.atName
      let (f, first) ← holding [ov] (getMethod ov m pl)
      callWith pos f first (backTo pos (starEach (a :: es) X.env)) (backToKw pos (keywordEach [] X.env))) := by rfl) : SO X Wx (.Call (.Attribute o m apos) (a :: es) [] pos) (mCall g (aRD c m mo ma)) := by
  obtain ⟨C, f, fd, hC, cl, hm, hb, F⟩ := F
  exact PE.imp (pe_mth tk ho cl hm F hr hb ha hst hpl ht) fun σ H Q h => ard_run hC (call_step hn h)
theorem so_mthD0 {pl : Sem Bool} (tk : L2N.Takes X Wx) (F : Mt X.prog X.w X.K X.mg X.base k c m ps g) (hr : Room k X.A) (ho : SE X o mo) (hn : ∀ as e e', aRD c m mo aNil e = some (as, e') → as.length = ps.length)
    (ht : eval (.Call (.Attribute o m apos) [] [] pos) X.env = (do
      let ov ← eval o X.env
      standAt apos.atName
      let (f, first) ← holding [ov] (getMethod ov m pl)
      callWith pos f first (backTo pos (starEach [] X.env)) (backToKw pos (keywordEach [] X.env))) := by rfl) : SO X Wx (.Call (.Attribute o m apos) [] [] pos) (mCall g (aRD c m mo aNil)) := by
  obtain ⟨C, f, fd, hC, cl, hm, hb, F⟩ := F
  refine PE.imp (pe_mth0 tk ho cl hm F hr hb ht) fun σ H Q h => ?_
  obtain ⟨I, e, Fs, R, d, e', h1, k1⟩ := ard_run hC (call_step hn h)
  refine ⟨I, e, Fs, R, d, e', h1, fun v I' Fs' H' R' x r => ?_⟩
  obtain ⟨h2, I2, e2, F2, R2, as, e3, h3, h4⟩ := k1 v I' Fs' H' R' x r
  cases h3
  exact ⟨h2, h4 [] I2 F2 H' R2 Ext.refl rfl⟩
end
theorem len_ro {c m : Str} {i : Nat} {r : M (List Arg)} {n : Nat} (hr : ∀ (as : List Arg) (e e' : Env), r e = some (as, e') → as.length = n) : ∀ (as : List Arg) (e e' : Env), aRO c m i r e = some (as, e') → as.length = n + 1 := fun as e e' h => by
  unfold aRO at h
  split at h
  · split at h
    · obtain ⟨⟨y, e2⟩, h2, hm⟩ := Option.map_eq_some_iff.mp h
      cases hm
      rw [List.length_cons, hr _ _ _ h2]
    · cases h
  · cases h
theorem len_rd {c m : Str} {mo : M D} {r : M (List Arg)} {n : Nat} (hr : ∀ (as : List Arg) (e e' : Env), r e = some (as, e') → as.length = n) : ∀ (as : List Arg) (e e' : Env), aRD c m mo r e = some (as, e') → as.length = n + 1 := fun as e e' h => by
  obtain ⟨⟨d, e1⟩, h1, h⟩ := Option.bind_eq_some_iff.mp h
  cases d with
  | inst c' gs =>
    have hm2 : (if c' = c ∧ (gs.lookup m).isNone = true then (r e1).map fun y => (Arg.d (.inst c' gs) :: y.1, y.2) else none) = some (as, e') := h
    split at hm2
    · obtain ⟨⟨y, e2⟩, h2, hm⟩ := Option.map_eq_some_iff.mp hm2
      cases hm
      rw [List.length_cons, hr _ _ _ h2]
    · cases hm2
  | _ => cases h
end MV

namespace MV
open PySem L2
variable [TB]

/-! ### making an instance -/
theorem gather_len : ∀ {as : List Arg} {e e2 : Env} {ws : List W}, gather as e = some (ws, e2) → ws.length = as.length
  | [], e, e2, ws, g => by cases g; rfl
  | .d d :: r, e, e2, ws, g => by
    obtain ⟨⟨ws', e'⟩, g1, g2⟩ := Option.map_eq_some_iff.mp (show (gather r e).map (fun x => (W.p d :: x.1, x.2)) = some (ws, e2) from g)
    cases g2
    rw [List.length_cons, List.length_cons, gather_len g1]
  | .io i :: r, e, e2, ws, g => by
    have g' : (match e[i]? with
      | some (some w) => (gather r (e.set i none)).map fun x => (w :: x.1, x.2)
      | _ => none) = some (ws, e2) := g
    split at g'
    · obtain ⟨⟨ws', e'⟩, g1, g2⟩ := Option.map_eq_some_iff.mp g'
      cases g2
      rw [List.length_cons, List.length_cons, gather_len g1]
    · cases g'
/-- what __init__ gives: the instance -/
def mkR (as : List Arg) (e2 : Env) : W × Env → Option (W × Env)
  | (.ex y, oe) => some (.ex y, scatter as oe.tail e2)
  | (.p .none, some w :: oe) => some (w, scatter as oe e2)
  | _ => none
def mMake (c : Str) (g : FSem) (ma : M (List Arg)) : M W := fun e => (ma e).bind fun x => (gather x.1 x.2).bind fun y => (g (.oi c [] :: y.1)).bind fun z => mkR x.1 y.2 z
theorem make_step {K : PySem.W.Frag} {mg : Str → Option Value} {c : Str} {C : Addr} {n : Nat} {f : FSem} {ma : M (List Arg)} {σ : L2.St} {H : Hp} {Q : VK} {Wx : WX} (hC : mg c = some (.ref C)) (hn : ∀ as e e', ma e = some (as, e') → as.length = n) (h : tO K mg Wx (mMake c f ma) σ H Q) :
    tAr K mg ma σ H fun vs H1 => ∀ x dx, H1 x = none → H1 dx = none → dx ≠ x → spF K mg (n + 1) f (.ref x :: vs) (upd (upd H1 dx (.own x)) x (.ins C dx [])) (fun v H2 => v = .non ∧ Q (.ref x) H2) (WE Wx σ) := by
  obtain ⟨I, e, Fs, R, w, e', hm, k, kx⟩ := h
  obtain ⟨⟨as, e1⟩, h1, hm⟩ := Option.bind_eq_some_iff.mp hm
  obtain ⟨⟨ws, e2⟩, h2, hm⟩ := Option.bind_eq_some_iff.mp hm
  obtain ⟨⟨w', oe⟩, h3, hm⟩ := Option.bind_eq_some_iff.mp hm
  refine ⟨I, e, Fs, R, as, e1, h1, fun vs I1 F1 H1 R1 x1 ha x dx hx hdx hne => ?_⟩
  obtain ⟨Fa, F2, Ra, R2, i1, i2, i3⟩ := gather_ok R1 ha h2
  have hl : ws.length = n := by rw [gather_len h2]; exact hn as e e1 h1
  -- the new objects
  have hx' : upd H1 dx (.own x) x = none := by rw [upd_ne (Ne.symm hne)]; exact hx
  have hIx : I1 x = none := sub_none R1.sub hx
  have grow : ∀ a u, H1 a = some u → upd (upd H1 dx (.own x)) x (.ins C dx []) a = some u := fun a u q => by
    rw [upd_ne (ne_of_none q hx), upd_ne (ne_of_none q hdx)]; exact q
  have back : ∀ a, upd (upd H1 dx (.own x)) x (.ins C dx []) a = none → H1 a = none := fun a q => by
    cases z : H1 a with
    | none => rfl
    | some u => rw [grow a u z] at q; cases q
  have Ra' := (Ra.loose (o := .own x) hdx).loose (o := .ins C dx []) hx'
  have R2' := (R2.loose (o := .own x) hdx).loose (o := .ins C dx []) hx'
  have nxF : ∀ Ft : Fp, ∀ e : Env, ∀ τ : L2.St, Rel K mg I1 e Ft τ H1 → ¬ MF Ft x := fun Ft e τ R ⟨i, hi⟩ => R.live i x hi hx
  have ow : Own K mg I1 (upd (upd H1 dx (.own x)) x (.ins C dx [])) Fa (.oi c []) (.ref x) [x] := by
    refine ⟨?_, by simp, fun a q => ?_, fun a q => ?_⟩
    · simp only [Ro]
      exact ⟨x, C, dx, [], [], rfl, hC, upd_same, rfl, by simp [RoF]⟩
    · rw [List.mem_singleton.mp q]; exact hIx
    · rw [List.mem_singleton.mp q]; exact nxF _ _ _ Ra
  have Rc := Ra'.cons ow
  have dead : ∀ a, MF F2 a → ¬ MF (consF [x] Fa) a := fun a m q => by
    rcases q.cons with z | z
    · rw [List.mem_singleton.mp z] at m; exact nxF _ _ _ R2 m
    · exact i3 a z m
  have fin : ∀ I' Fo H' (o0 : Option W) (oe' : Env), Rel K mg I' (o0 :: oe') Fo (some (.ref x) :: vs.map some) H' → Ext (consF [x] Fa) I1 (upd (upd H1 dx (.own x)) x (.ins C dx [])) Fo I' H' →
      ∃ F', Rel K mg I' (scatter as oe' e2) F' σ H' ∧ (∀ a, MF F' a → (∃ j, a ∈ Fo (j + 1)) ∨ MF F2 a) ∧ Ext F1 I1 H1 F' I' H' := fun I' Fo H' o0 oe' Ro x' => by
    have R3 := R2'.frame x'.g Ro.sub dead
    have djo : ∀ a, MF (fun j => Fo (j + 1)) a → ¬ MF F2 a := fun a ⟨j, hj⟩ q => by
      rcases x'.fp a ⟨j + 1, hj⟩ with z | z
      · exact dead a q z
      · obtain ⟨i, hi⟩ := q
        exact R2'.live i a hi z
    obtain ⟨F', R', m'⟩ := scatter_ok R3 (ha.mono x'.g.ex) Ro.tail djo
    refine ⟨F', R', m', ⟨⟨x'.g.ex, fun a u hu m nt => x'.g.fr a u (grow a u hu) (fun q => ?_) nt, fun a q => ?_, fun t => x'.g.tb (t.ext grow), fun a ps hu m => x'.g.tl a ps (grow a _ hu) fun q => ?_⟩, fun a q => ?_⟩⟩
    · rcases q.cons with z | z
      · rw [List.mem_singleton.mp z, hx] at hu; cases hu
      · exact m (i1 a z)
    · rcases x'.g.new a q with z | z | z
      · exact .inl z
      · exact .inr (.inl (back a z))
      · rcases z.cons with y | y
        · rw [List.mem_singleton.mp y]; exact .inr (.inl hx)
        · exact .inr (.inr (i1 a y))
    · rcases q.cons with z | z
      · rw [List.mem_singleton.mp z, hx] at hu; cases hu
      · exact m (i1 a z)
    · rcases m' a q with ⟨j, hj⟩ | z
      · rcases x'.fp a ⟨j + 1, hj⟩ with y | y
        · rcases y.cons with t | t
          · rw [List.mem_singleton.mp t]; exact .inr hx
          · exact .inl (i1 a t)
        · exact .inr (back a y)
      · exact .inl (i2 a z)
  have hfs : ∀ b, (MF F1 b ∨ H1 b = none) → MF Fs b ∨ H b = none := fun b q => by
    rcases q with z | z
    · exact x1.fp b z
    · cases y : H b with
      | none => exact .inr rfl
      | some u =>
        by_cases m : MF Fs b
        · exact .inl m
        · rw [x1.g.back m z] at y; cases y
  refine ⟨I1, .oi c [] :: ws, consF [x] Fa, by simp [hl], Rc, w', oe, h3, fun v I' Fo H' F Ro x' o hF => ?_, fun y hy cls d I' Fo H' Ro x' xr => ?_⟩
  · cases oe with
    | nil => have := Ro.len; simp at this
    | cons o0 oe =>
      cases w' with
      | ex y => have q := o.ro; simp only [MV.Ro] at q
      | p d =>
        cases d with
        | none =>
          cases o0 with
          | none => cases hm
          | some w0 =>
            cases hm
            have q := o.ro
            simp only [MV.Ro, Rp] at q
            refine ⟨q.1, ?_⟩
            obtain ⟨F', R', m', xx⟩ := fin I' Fo H' (some w) oe Ro x'
            obtain ⟨v0, e0, r0⟩ := Ro.at_ 0 w rfl
            have e0 : V.ref x = v0 := by simpa using e0
            subst e0
            refine k (.ref x) I' F' H' (Fo 0) R' (x1.trans xx) ⟨r0, Ro.nd 0, Ro.out 0, fun a ha0 q => ?_⟩ fun a ha0 => hfs a ?_
            · rcases m' a q with ⟨j, hj⟩ | z
              · have := Ro.dj _ _ a ha0 hj
                omega
              · rcases x'.fp a ⟨0, ha0⟩ with y | y
                · exact dead a z y
                · obtain ⟨i, hi⟩ := z
                  exact R2'.live i a hi y
            · rcases x'.fp a ⟨0, ha0⟩ with y | y
              · rcases y.cons with t | t
                · rw [List.mem_singleton.mp t]; exact .inr hx
                · exact .inl (i1 a t)
              · exact .inr (back a y)
        | _ => cases o0 <;> cases hm
      | _ => cases o0 <;> cases hm
  · subst hy
    cases oe with
    | nil => have := Ro.len; simp at this
    | cons o0 oe =>
      cases hm
      obtain ⟨F', R', m', xx⟩ := fin I' Fo H' o0 oe Ro x'
      exact kx y rfl cls d I' F' H' R' (x1.trans xx) xr
section
variable {X : Cx} {Wx : WX} {k : Nat} {f C : Addr} {fd : FuncData} {ps : List Str} {sp : Sp} {x : Str} {p pos : Pos} {e : Expr} {es : List Expr} {t : TA}
def tMk (C : Addr) (sp : Sp) (Wx : WX) (t : TA) : TE := fun σ H Q => t σ H fun vs H1 => ∀ x dx, H1 x = none → H1 dx = none → dx ≠ x → sp (.ref x :: vs) (upd (upd H1 dx (.own x)) x (.ins C dx [])) (fun v H2 => v = .non ∧ Q (.ref x) H2) (WE Wx σ)
theorem run_mk {pins : List (Addr × Obj)} {σ : L2.St} {H : Hp} {s : Shared} {Q : VK} {us : List Value} {vs : List V} (tk : L2N.Takes X Wx) (M : Mk X.K C f) (F : FnOk X.prog X.w X.K X.mg X.base (L2N.CX X.prog X.w) k f fd ps sp) (hr : Room (k + 1) X.A) (hb : Binds X.K fd ps []) (I : Inv X pins σ H s) (r : Vals vs us)
    (h : ∀ x dx, H x = none → H dx = none → dx ≠ x → sp (.ref x :: vs) (upd (upd H dx (.own x)) x (.ins C dx [])) (fun v H2 => v = .non ∧ Q (.ref x) H2) (WE Wx σ)) : wpAny (model X.prog X.w) X.A (call (.ref C) us) (EP X pins σ Q) X.xe s := by
  have n0 := Nat.le_refl s.heap.objs.size
  have hq := h (s.heap.objs.size + 1) s.heap.objs.size (I.hok.fresh (Nat.le_succ _)) (I.hok.fresh n0) (Nat.ne_of_lt (Nat.lt_succ_self _))
  have J := Inv.made (C := C) I
  have rr : Vals (V.ref (s.heap.objs.size + 1) :: vs) (Value.ref (s.heap.objs.size + 1) :: us) := .cons rfl r
  have hlen : ([Value.ref (s.heap.objs.size + 1)] ++ us).length = ps.length := by
    have := rr.length
    rw [F.len _ _ _ _ hq] at this
    exact this.symm
  have bb := hb _ (Value.ref (s.heap.objs.size + 1) :: us) J.kIn (by rw [List.append_nil]; exact hlen)
  rw [List.append_nil] at bb
  refine wpAny_call (make_map (f := f) I.kIn M.makes M.init (beq_iff_eq.mp M.fn) (codeAny_mono (F.run _ X.stack _ _ ⟨Value.ref (s.heap.objs.size + 1) :: us, []⟩ (Value.ref (s.heap.objs.size + 1) :: us) _ _ (WE Wx σ) (hr.make C us []) (J.env0.make C us []) bb rr hq) ?_))
  rintro (er | fl) s' q
  · exact L2N.passAt tk σ pins _ _ er s' J q
  · cases fl with
    | ret u =>
      obtain ⟨v, H', I3, rv, ev, q3⟩ := J.after q
      subst ev
      exact ⟨rv, V.ref (s.heap.objs.size + 1), H', I3, rfl, q3⟩
    | _ => exact False.elim q
theorem pe_mk (tk : L2N.Takes X Wx) (M : Mk X.K C f) (F : FnOk X.prog X.w X.K X.mg X.base (L2N.CX X.prog X.w) k f fd ps sp) (hr : Room (k + 1) X.A) (hg : Gl X x) (hm : X.mg x = some (.ref C)) (hb : Binds X.K fd ps []) (ha : PA X (e :: es) t)
    (hdb : (x == ("__debug__" : Str)) = false := by decide) (he : starEach (e :: es) X.env = (false, eval e X.env) :: starEach es X.env := by rfl) (hpl : (backTo pos (starEach es X.env)).any (·.1) = false := by rfl) : PE X (.Call (.Name x p) (e :: es) [] pos) (tMk C sp Wx t) := by
  constructor
  intro pins s σ H Q I h
  apply wpAny_Call_Name_kw (ld_glob I hg hm _ hdb)
  apply PySem.W.callWith_K (h₀ := X.base) I.ok.mod.kin M.kp _ he hpl
  refine thn (ha.run pos pins s σ H _ I h) ?_
  rintro us s1 ⟨vs, H1, I1, r, q⟩
  exact ⟨I1.kIn, run_mk tk M F hr hb I1 r q⟩
theorem pe_mk0 (tk : L2N.Takes X Wx) (M : Mk X.K C f) (F : FnOk X.prog X.w X.K X.mg X.base (L2N.CX X.prog X.w) k f fd ps sp) (hr : Room (k + 1) X.A) (hg : Gl X x) (hm : X.mg x = some (.ref C)) (hb : Binds X.K fd ps [])
    (hdb : (x == ("__debug__" : Str)) = false := by decide) : PE X (.Call (.Name x p) [] [] pos) (tMk C sp Wx tNil) := by
  constructor
  intro pins s σ H Q I h
  apply wpAny_Call_Name_kw (ld_glob I hg hm _ hdb)
  exact PySem.W.callWith_K0 I.kIn M.kp (run_mk (us := []) tk M F hr hb I .nil h)
end
/-- the class c, its __init__ -/
def Mkr (P : Program) (w : World) (K : PySem.W.Frag) (mg : Str → Option Value) (base : Heap) (k : Nat) (c : Str) (ps : List Str) (g : FSem) : Prop :=
  ∃ C f fd, mg c = some (.ref C) ∧ Mk K C f ∧ Binds K fd ps [] ∧ FnOk P w K mg base (L2N.CX P w) k f fd ps (spF K mg ps.length g)
section
variable {X : Cx} {Wx : WX} {k : Nat} {ps : List Str} {p0 : Str} {g : FSem} {c : Str} {pos p : Pos} {a : Expr} {es : List Expr} {ma : M (List Arg)}
theorem so_mk (tk : L2N.Takes X Wx) (F : Mkr X.prog X.w X.K X.mg X.base k c (p0 :: ps) g) (hr : Room (k + 1) X.A) (hg : Gl X c) (ha : SA X (a :: es) ma) (hn : ∀ as e e', ma e = some (as, e') → as.length = ps.length)
    (hdb : (c == ("__debug__" : Str)) = false := by decide) (he : starEach (a :: es) X.env = (false, eval a X.env) :: starEach es X.env := by rfl) (hpl : (backTo pos (starEach es X.env)).any (·.1) = false := by rfl) : SO X Wx (.Call (.Name c p) (a :: es) [] pos) (mMake c g ma) := by
  obtain ⟨C, f, fd, hC, M, hb, F⟩ := F
  exact PE.imp (pe_mk tk M F hr hg hC hb ha hdb he hpl) fun σ H Q h => make_step hC hn h
theorem so_mk0 (tk : L2N.Takes X Wx) (F : Mkr X.prog X.w X.K X.mg X.base k c [p0] g) (hr : Room (k + 1) X.A) (hg : Gl X c)
    (hdb : (c == ("__debug__" : Str)) = false := by decide) : SO X Wx (.Call (.Name c p) [] [] pos) (mMake c g aNil) := by
  obtain ⟨C, f, fd, hC, M, hb, F⟩ := F
  refine PE.imp (pe_mk0 tk M F hr hg hC hb hdb) fun σ H Q h => ?_
  obtain ⟨I, e, Fs, R, as, e', h1, h2⟩ := make_step (n := 0) hC (fun as e e' h => by cases h; rfl) h
  cases h1
  exact h2 [] I Fs H R Ext.refl rfl
end
/-! ### fields of frozen instances -/
def dFld (c f : Str) : D → Option D
  | .inst c' gs => if c' = c then gs.lookup f else none
  | _ => none
section
variable {X : Cx} {o : Expr} {mo : M D} {fo : P D} {c f : Str} {pos : Pos}
theorem fld_of {K : PySem.W.Frag} {mg : Str → Option Value} {I H : Hp} {d z : D} {v : V} (hC : ∀ C, mg c = some (.ref C) → Cls K C ∧ NoAttr K C f) (s : Ex I H) (r : Rp K mg I d v) (h : dFld c f d = some z) : ∃ a C dx fs v', v = .ref a ∧ H a = some (.ins C dx fs) ∧ Cls K C ∧ NoAttr K C f ∧ fs.lookup f = some v' ∧ Rp K mg I z v' := by
  unfold dFld at h
  split at h
  · rename_i c' gs
    split at h
    · rename_i hc
      subst hc
      simp only [Rp] at r
      obtain ⟨a, C, dx, fs, rfl, hc, ha, hF⟩ := r
      obtain ⟨x, hx, rx⟩ := hF.look.1 z h
      exact ⟨a, C, dx, fs, x, rfl, s _ _ ha, (hC C hc).1, (hC C hc).2, hx, rx⟩
    · cases h
  · cases h
theorem se_fld (ho : SE X o mo) (hC : ∀ C, X.mg c = some (.ref C) → Cls X.K C ∧ NoAttr X.K C f) (hb : attributeBase o f X.env (eval o X.env) = eval o X.env := by rfl) : SE X (.Attribute o f pos) (mUn (dFld c f) mo) := by
  refine PE.imp (pe_fld ho hb) fun σ H Q ⟨I, e, Fs, R, d', e', hm, k⟩ => ?_
  obtain ⟨⟨x, e1⟩, h1, hm⟩ := Option.bind_eq_some_iff.mp hm
  obtain ⟨z, h3, hm⟩ := Option.map_eq_some_iff.mp hm
  cases hm
  refine ⟨I, e, Fs, R, x, e1, h1, fun v I1 F1 H1 R1 x1 r1 => ?_⟩
  obtain ⟨a, C, dx, fs, v', q1, q2, q3, q4, q5, q6⟩ := fld_of hC R1.sub r1 h3
  exact ⟨a, C, dx, fs, v', q1, q2, q3, q4, q5, k v' I1 F1 H1 R1 x1 q6⟩
theorem sv_fld (ho : SV X o fo) (hC : ∀ C, X.mg c = some (.ref C) → Cls X.K C ∧ NoAttr X.K C f) (hb : attributeBase o f X.env (eval o X.env) = eval o X.env := by rfl) : SV X (.Attribute o f pos) (vUn (dFld c f) fo) := by
  refine PE.imp (pe_fld ho hb) fun σ H Q ⟨I, e, Fs, R, d', hm, k⟩ => ?_
  obtain ⟨x, h1, h3⟩ := Option.bind_eq_some_iff.mp hm
  refine ⟨I, e, Fs, R, x, h1, fun v I1 H1 g1 r1 => ?_⟩
  obtain ⟨a, C, dx, fs, v', q1, q2, q3, q4, q5, q6⟩ := fld_of hC (g1.rel R).1.sub r1 h3
  exact ⟨a, C, dx, fs, v', q1, q2, q3, q4, q5, k v' I1 H1 g1 q6⟩
end
end MV

namespace MV
open PySem L2
variable [TB]

/-! ### an owned thing is frozen -/
mutual
def frz : W → Option D
  | .p d => some d
  | .ol ws => (frzL ws).map .lst
  | .ot ws => (frzL ws).map .tup
  | .od es => (frzK es).map .dict
  | .oi c fs => (frzF fs).map (.inst c)
  | .ex _ => none
def frzL : List W → Option (List D)
  | [] => some []
  | w :: ws => (frz w).bind fun d => (frzL ws).map (d :: ·)
def frzK : List (Key × W) → Option (List (Key × D))
  | [] => some []
  | (k, w) :: ws => (frz w).bind fun d => (frzK ws).map ((k, d) :: ·)
def frzF : List (Str × W) → Option (List (Str × D))
  | [] => some []
  | (k, w) :: ws => (frz w).bind fun d => (frzF ws).map ((k, d) :: ·)
end
/-- behind some dicts' locking -/
inductive Lk (P : Hp → Prop) : Hp → Prop where
  | done {H : Hp} (h : P H) : Lk P H
  | lock {H : Hp} (d : Addr) (kvs : List (Key × V)) (h : H d = some (.dK kvs)) (k : ∀ od, Lk P (upd H d (.frz od (.dK kvs)))) : Lk P H
theorem ps_lk {X : Cx} {st : Stmt} {t : TS} (h : PS X st t) : PS X st (fun D σ H => Lk (fun H' => t D σ H') H) := ⟨fun pins s σ H D I hw => by
  revert I
  induction hw with
  | done q => exact fun I => h.run pins s σ _ D I q
  | lock d kvs hd _ ih =>
    intro I
    obtain ⟨od, I1⟩ := I.lock hd True.intro
    exact ih od I1⟩
section
variable {K : PySem.W.Frag} {mg : Str → Option Value} {P : Hp → Prop}
mutual
theorem frz_ok : ∀ (w : W) (d : D) (v : V) (F : List Addr) (I H : Hp), frz w = some d → Ro K mg I H w v F → F.Nodup → (∀ b ∈ F, I b = none) → Ex I H →
    (∀ I' H', Ex I I' → Ex I' H' → (∀ b, b ∉ F → I' b = I b ∧ H' b = H b) → (∀ b, b ∈ F → H' b ≠ none) → Rp K mg I' d v → Lk P H') → Lk P H
  | .p d0, d, v, F, I, H, e, h, nd, out, s, k => by
    cases e
    simp only [Ro] at h
    obtain ⟨h, rfl⟩ := h
    exact k I H (Ex.refl _) s (fun _ _ => ⟨rfl, rfl⟩) (fun b q => by cases q) h
  | .ol ws, d, v, F, I, H, e, h, nd, out, s, k => by
    obtain ⟨ds, e1, rfl⟩ := Option.map_eq_some_iff.mp (show (frzL ws).map .lst = some d from e)
    simp only [Ro] at h
    obtain ⟨a, xs, G, rfl, ha, rfl, hL⟩ := h
    rw [List.nodup_cons] at nd
    refine frzL_ok ws ds xs G I H e1 hL nd.2 (fun b q => out b (by simp [q])) s fun I' H' ex s' off lv r => ?_
    have o := off a nd.1
    have hI : I' a = none := o.1.trans (out a (by simp))
    refine k (upd I' a (.lst xs)) H' (ex.trans (Ex.new hI)) (fun b u q => ?_) (fun b q => ?_) (fun b q => ?_) ?_
    · by_cases z : b = a
      · subst z; rw [upd_same] at q; cases q; exact o.2.trans ha
      · rw [upd_ne z] at q; exact s' b u q
    · have h1 : b ≠ a := fun z => q (by simp [z])
      have h2 : b ∉ G := fun z => q (by simp [z])
      rw [upd_ne h1]
      exact off b h2
    · rcases List.mem_cons.mp q with z | z
      · rw [z, o.2, ha]; exact fun y => by cases y
      · exact lv b z
    · simp only [Rp]
      exact ⟨a, xs, rfl, upd_same, r.mono (Ex.new hI) _ _⟩
  | .ot ws, d, v, F, I, H, e, h, nd, out, s, k => by
    obtain ⟨ds, e1, rfl⟩ := Option.map_eq_some_iff.mp (show (frzL ws).map .tup = some d from e)
    simp only [Ro] at h
    obtain ⟨a, xs, G, rfl, ha, rfl, hL⟩ := h
    rw [List.nodup_cons] at nd
    refine frzL_ok ws ds xs G I H e1 hL nd.2 (fun b q => out b (by simp [q])) s fun I' H' ex s' off lv r => ?_
    have o := off a nd.1
    have hI : I' a = none := o.1.trans (out a (by simp))
    refine k (upd I' a (.tup xs)) H' (ex.trans (Ex.new hI)) (fun b u q => ?_) (fun b q => ?_) (fun b q => ?_) ?_
    · by_cases z : b = a
      · subst z; rw [upd_same] at q; cases q; exact o.2.trans ha
      · rw [upd_ne z] at q; exact s' b u q
    · have h1 : b ≠ a := fun z => q (by simp [z])
      have h2 : b ∉ G := fun z => q (by simp [z])
      rw [upd_ne h1]
      exact off b h2
    · rcases List.mem_cons.mp q with z | z
      · rw [z, o.2, ha]; exact fun y => by cases y
      · exact lv b z
    · simp only [Rp]
      exact ⟨a, xs, rfl, (.of (upd_same : upd _ a (HO.tup xs) a = some _)), r.mono (Ex.new hI) _ _⟩
  | .od ws, d, v, F, I, H, e, h, nd, out, s, k => by
    obtain ⟨ds, e1, rfl⟩ := Option.map_eq_some_iff.mp (show (frzK ws).map .dict = some d from e)
    simp only [Ro] at h
    obtain ⟨a, xs, G, rfl, ha, rfl, hL⟩ := h
    rw [List.nodup_cons] at nd
    refine frzK_ok ws ds xs G I H e1 hL nd.2 (fun b q => out b (by simp [q])) s fun I' H' ex s' off lv r => ?_
    have o := off a nd.1
    have hI : I' a = none := o.1.trans (out a (by simp))
    refine .lock a xs (o.2.trans ha) fun od => ?_
    refine k (upd I' a (.frz od (.dK xs))) (upd H' a (.frz od (.dK xs))) (ex.trans (Ex.new hI)) (fun b u q => ?_) (fun b q => ?_) (fun b q => ?_) ?_
    · by_cases z : b = a
      · subst z; rw [upd_same] at q ⊢; exact q
      · rw [upd_ne z] at q ⊢; exact s' b u q
    · have h1 : b ≠ a := fun z => q (by simp [z])
      have h2 : b ∉ G := fun z => q (by simp [z])
      rw [upd_ne h1, upd_ne h1]
      exact off b h2
    · by_cases z : b = a
      · subst z; rw [upd_same]; exact fun y => by cases y
      · rw [upd_ne z]
        rcases List.mem_cons.mp q with y | y
        · exact absurd y z
        · exact lv b y
    · simp only [Rp]
      exact ⟨a, od, xs, rfl, upd_same, r.mono (Ex.new hI) _ _⟩
  | .oi c ws, d, v, F, I, H, e, h, nd, out, s, k => by
    obtain ⟨ds, e1, rfl⟩ := Option.map_eq_some_iff.mp (show (frzF ws).map (.inst c) = some d from e)
    simp only [Ro] at h
    obtain ⟨a, C, dx, xs, G, rfl, hc, ha, rfl, hL⟩ := h
    rw [List.nodup_cons] at nd
    refine frzF_ok ws ds xs G I H e1 hL nd.2 (fun b q => out b (by simp [q])) s fun I' H' ex s' off lv r => ?_
    have o := off a nd.1
    have hI : I' a = none := o.1.trans (out a (by simp))
    refine k (upd I' a (.ins C dx xs)) H' (ex.trans (Ex.new hI)) (fun b u q => ?_) (fun b q => ?_) (fun b q => ?_) ?_
    · by_cases z : b = a
      · subst z; rw [upd_same] at q; cases q; exact o.2.trans ha
      · rw [upd_ne z] at q; exact s' b u q
    · have h1 : b ≠ a := fun z => q (by simp [z])
      have h2 : b ∉ G := fun z => q (by simp [z])
      rw [upd_ne h1]
      exact off b h2
    · rcases List.mem_cons.mp q with z | z
      · rw [z, o.2, ha]; exact fun y => by cases y
      · exact lv b z
    · simp only [Rp]
      exact ⟨a, C, dx, xs, rfl, hc, upd_same, r.mono (Ex.new hI) _ _⟩
  | .ex _, d, v, F, I, H, e, h, nd, out, s, k => by cases e
theorem frzL_ok : ∀ (ws : List W) (ds : List D) (xs : List V) (F : List Addr) (I H : Hp), frzL ws = some ds → RoL K mg I H ws xs F → F.Nodup → (∀ b ∈ F, I b = none) → Ex I H →
    (∀ I' H', Ex I I' → Ex I' H' → (∀ b, b ∉ F → I' b = I b ∧ H' b = H b) → (∀ b, b ∈ F → H' b ≠ none) → RpL K mg I' ds xs → Lk P H') → Lk P H
  | [], ds, xs, F, I, H, e, h, nd, out, s, k => by
    cases e
    simp only [RoL] at h
    obtain ⟨rfl, rfl⟩ := h
    exact k I H (Ex.refl _) s (fun _ _ => ⟨rfl, rfl⟩) (fun b q => by cases q) RpL.nil
  | w :: ws, ds, xs, F, I, H, e, h, nd, out, s, k => by
    obtain ⟨d, e1, e2⟩ := Option.bind_eq_some_iff.mp (show ((frz w).bind fun d => (frzL ws).map (d :: ·)) = some ds from e)
    obtain ⟨ds', e3, rfl⟩ := Option.map_eq_some_iff.mp e2
    simp only [RoL] at h
    obtain ⟨x, r, F1, F2, rfl, rfl, h1, h2⟩ := h
    rw [List.nodup_append] at nd
    have n21 : ∀ b ∈ F2, b ∉ F1 := fun b hb q => nd.2.2 b q b hb rfl
    refine frz_ok w d x F1 I H e1 h1 nd.1 (fun b q => out b (by simp [q])) s fun I1 H1 ex1 s1 off1 lv1 r1 => ?_
    refine frzL_ok ws ds' r F2 I1 H1 e3 (h2.frame ex1 _ _ _ fun b hb o ho _ => by rw [(off1 b (n21 b hb)).2]; exact ho) nd.2.1 (fun b q => by rw [(off1 b (n21 b q)).1]; exact out b (by simp [q])) s1 fun I2 H2 ex2 s2 off2 lv2 r2 => ?_
    refine k I2 H2 (ex1.trans ex2) s2 (fun b q => ?_) (fun b q => ?_) (RpL.cons (r1.mono ex2 _ _) r2)
    · have q1 : b ∉ F1 := fun z => q (by simp [z])
      have q2 : b ∉ F2 := fun z => q (by simp [z])
      exact ⟨(off2 b q2).1.trans (off1 b q1).1, (off2 b q2).2.trans (off1 b q1).2⟩
    · by_cases z : b ∈ F2
      · exact lv2 b z
      · rw [(off2 b z).2]
        exact lv1 b (by rcases List.mem_append.mp q with y | y; exact y; exact absurd y z)
theorem frzK_ok : ∀ (ws : List (Key × W)) (ds : List (Key × D)) (xs : List (Key × V)) (F : List Addr) (I H : Hp), frzK ws = some ds → RoK K mg I H ws xs F → F.Nodup → (∀ b ∈ F, I b = none) → Ex I H →
    (∀ I' H', Ex I I' → Ex I' H' → (∀ b, b ∉ F → I' b = I b ∧ H' b = H b) → (∀ b, b ∈ F → H' b ≠ none) → RpK K mg I' ds xs → Lk P H') → Lk P H
  | [], ds, xs, F, I, H, e, h, nd, out, s, k => by
    cases e
    simp only [RoK] at h
    obtain ⟨rfl, rfl⟩ := h
    exact k I H (Ex.refl _) s (fun _ _ => ⟨rfl, rfl⟩) (fun b q => by cases q) (by simp only [RpK])
  | (ky, w) :: ws, ds, xs, F, I, H, e, h, nd, out, s, k => by
    obtain ⟨d, e1, e2⟩ := Option.bind_eq_some_iff.mp (show ((frz w).bind fun d => (frzK ws).map ((ky, d) :: ·)) = some ds from e)
    obtain ⟨ds', e3, rfl⟩ := Option.map_eq_some_iff.mp e2
    simp only [RoK] at h
    obtain ⟨x, r, F1, F2, rfl, rfl, h1, h2⟩ := h
    rw [List.nodup_append] at nd
    have n21 : ∀ b ∈ F2, b ∉ F1 := fun b hb q => nd.2.2 b q b hb rfl
    refine frz_ok w d x F1 I H e1 h1 nd.1 (fun b q => out b (by simp [q])) s fun I1 H1 ex1 s1 off1 lv1 r1 => ?_
    refine frzK_ok ws ds' r F2 I1 H1 e3 (h2.frame ex1 _ _ _ fun b hb o ho _ => by rw [(off1 b (n21 b hb)).2]; exact ho) nd.2.1 (fun b q => by rw [(off1 b (n21 b q)).1]; exact out b (by simp [q])) s1 fun I2 H2 ex2 s2 off2 lv2 r2 => ?_
    refine k I2 H2 (ex1.trans ex2) s2 (fun b q => ?_) (fun b q => ?_) ?_
    · have q1 : b ∉ F1 := fun z => q (by simp [z])
      have q2 : b ∉ F2 := fun z => q (by simp [z])
      exact ⟨(off2 b q2).1.trans (off1 b q1).1, (off2 b q2).2.trans (off1 b q1).2⟩
    · by_cases z : b ∈ F2
      · exact lv2 b z
      · rw [(off2 b z).2]
        exact lv1 b (by rcases List.mem_append.mp q with y | y; exact y; exact absurd y z)
    · simp only [RpK]
      exact ⟨x, r, rfl, r1.mono ex2 _ _, r2⟩
theorem frzF_ok : ∀ (ws : List (Str × W)) (ds : List (Str × D)) (xs : List (Str × V)) (F : List Addr) (I H : Hp), frzF ws = some ds → RoF K mg I H ws xs F → F.Nodup → (∀ b ∈ F, I b = none) → Ex I H →
    (∀ I' H', Ex I I' → Ex I' H' → (∀ b, b ∉ F → I' b = I b ∧ H' b = H b) → (∀ b, b ∈ F → H' b ≠ none) → RpF K mg I' ds xs → Lk P H') → Lk P H
  | [], ds, xs, F, I, H, e, h, nd, out, s, k => by
    cases e
    simp only [RoF] at h
    obtain ⟨rfl, rfl⟩ := h
    exact k I H (Ex.refl _) s (fun _ _ => ⟨rfl, rfl⟩) (fun b q => by cases q) (by simp only [RpF])
  | (ky, w) :: ws, ds, xs, F, I, H, e, h, nd, out, s, k => by
    obtain ⟨d, e1, e2⟩ := Option.bind_eq_some_iff.mp (show ((frz w).bind fun d => (frzF ws).map ((ky, d) :: ·)) = some ds from e)
    obtain ⟨ds', e3, rfl⟩ := Option.map_eq_some_iff.mp e2
    simp only [RoF] at h
    obtain ⟨x, r, F1, F2, rfl, rfl, h1, h2⟩ := h
    rw [List.nodup_append] at nd
    have n21 : ∀ b ∈ F2, b ∉ F1 := fun b hb q => nd.2.2 b q b hb rfl
    refine frz_ok w d x F1 I H e1 h1 nd.1 (fun b q => out b (by simp [q])) s fun I1 H1 ex1 s1 off1 lv1 r1 => ?_
    refine frzF_ok ws ds' r F2 I1 H1 e3 (h2.frame ex1 _ _ _ fun b hb o ho _ => by rw [(off1 b (n21 b hb)).2]; exact ho) nd.2.1 (fun b q => by rw [(off1 b (n21 b q)).1]; exact out b (by simp [q])) s1 fun I2 H2 ex2 s2 off2 lv2 r2 => ?_
    refine k I2 H2 (ex1.trans ex2) s2 (fun b q => ?_) (fun b q => ?_) ?_
    · have q1 : b ∉ F1 := fun z => q (by simp [z])
      have q2 : b ∉ F2 := fun z => q (by simp [z])
      exact ⟨(off2 b q2).1.trans (off1 b q1).1, (off2 b q2).2.trans (off1 b q1).2⟩
    · by_cases z : b ∈ F2
      · exact lv2 b z
      · rw [(off2 b z).2]
        exact lv1 b (by rcases List.mem_append.mp q with y | y; exact y; exact absurd y z)
    · simp only [RpF]
      exact ⟨x, r, rfl, r1.mono ex2 _ _, r2⟩
end
theorem Rel.frz {I H : Hp} {e : Env} {Fs : Fp} {σ : L2.St} {p : Pth} {w u : W} {v0 x : V} {d : D} (R : Rel K mg I e Fs σ H) (hw : e[p.1]? = some (some w)) (hv : σ[p.1]? = some (some v0)) (hA : At H w v0 p.2 u x) (hf : MV.frz u = some d)
    (k : ∀ I' Fs' H', Rel K mg I' (putE e p (.p d)) Fs' σ H' → Ext Fs I H Fs' I' H' → P H') : Lk P H := by
  obtain ⟨v1, hv1, ro⟩ := R.at_ _ w hw
  rw [hv] at hv1
  cases hv1
  obtain ⟨A, G, B, hF, hG, kl⟩ := ro.lens p.2 hA
  have nd := R.nd p.1
  rw [hF] at nd
  rw [List.nodup_append, List.nodup_append] at nd
  obtain ⟨ndA, ⟨ndG, ndB, dGB⟩, dA⟩ := nd
  have inG : ∀ b, b ∈ G → b ∈ Fs p.1 := fun b hb => by rw [hF]; simp [hb]
  have inAB : ∀ b, b ∈ A ++ B → b ∈ Fs p.1 ∧ b ∉ G := fun b hb => by
    rcases List.mem_append.mp hb with q | q
    · exact ⟨by rw [hF]; simp [q], fun z => dA b q b (by simp [z]) rfl⟩
    · exact ⟨by rw [hF]; simp [q], fun z => dGB b z b q rfl⟩
  refine frz_ok u d x G I H hf hG ndG (fun b q => R.out _ b (inG b q)) R.sub fun I' H' ex s off lv r => .done ?_
  have ro' : Ro K mg I' H' (w.put p.2 (.p d)) v0 (A ++ B) := by
    have := kl I' H' (.p d) [] ex (fun b hb o ho _ => by
      have := inAB b (by rcases hb with z | z <;> simp [z])
      rw [(off b this.2).2]; exact ho) (by simp only [Ro]; exact ⟨r, trivial⟩)
    simpa using this
  have e1 : putE e p (.p d) = e.set p.1 (some (w.put p.2 (.p d))) := by unfold putE; rw [hw]
  have subF : ∀ j a, a ∈ putF Fs p.1 (A ++ B) j → a ∈ Fs j ∧ a ∉ G := fun j a ha => by
    by_cases z : j = p.1
    · subst z; rw [putF_same] at ha; exact inAB a ha
    · rw [putF_ne z] at ha
      exact ⟨ha, fun q => z (R.dj j p.1 a ha (inG a q))⟩
  have ot := fun (t : TbR I H) => t.off (I' := I') (H' := H') off (hG.nx _ _ _)
  refine k I' (putF Fs p.1 (A ++ B)) H' ⟨s, by rw [e1]; simp [R.len], fun j u' q => ?_, fun j => ?_, fun j l a h1 h2 => R.dj j l a (subF j a h1).1 (subF l a h2).1, fun j a ha => ?_, fun j a ha => ?_, ot R.tb⟩ ⟨⟨ex, fun a o ho hm _ => ?_, fun a ha => ?_, ot, fun a ps ho hm => ⟨ps, ((off a fun z => hm ⟨p.1, inG a z⟩).2).trans ho⟩⟩, fun a ⟨j, hj⟩ => .inl ⟨j, (subF j a hj).1⟩⟩
  · rw [e1] at q
    by_cases z : j = p.1
    · subst z
      have hl : p.1 < e.length := (List.getElem?_eq_some_iff.mp hw).1
      rw [List.getElem?_set_self hl] at q
      cases q
      rw [putF_same]
      exact ⟨v0, hv, ro'⟩
    · rw [List.getElem?_set_ne (Ne.symm z)] at q
      obtain ⟨y, hy, ry⟩ := R.at_ j u' q
      rw [putF_ne z]
      refine ⟨y, hy, ry.frame ex _ _ _ fun a ha o ho _ => ?_⟩
      rw [(off a fun q => z (R.dj j p.1 a ha (inG a q))).2]
      exact ho
  · by_cases z : j = p.1
    · subst z
      rw [putF_same, List.nodup_append]
      exact ⟨ndA, ndB, fun b hb c hc y => dA b hb c (by simp [hc]) y⟩
    · rw [putF_ne z]; exact R.nd j
  · have := subF j a ha
    rw [(off a this.2).1]
    exact R.out j a this.1
  · have := subF j a ha
    rw [(off a this.2).2]
    exact R.live j a this.1
  · have : a ∉ G := fun q => hm ⟨p.1, inG a q⟩
    rw [(off a this).2]
    exact ho
  · by_cases z : a ∈ G
    · exact .inr (.inr ⟨p.1, inG a z⟩)
    · rw [(off a z).1] at ha; exact .inl ha
end
/-- the place p is frozen, then s -/
def sFz (p : Pth) (s : S) : S := fun e => (atE e p).bind fun u => (frz u).bind fun d => s (putE e p (.p d))
theorem ss_fz {X : Cx} {A : Nat → Bool} {Wx : WX} {st : Stmt} {m : S} (p : Pth) (h : SS X A Wx st m) : SS X A Wx st (sFz p m) := PS.imp (ps_lk h) fun Dd σ H ⟨I, e, Fs, R, r, hm, k⟩ => by
  obtain ⟨u, h1, hm⟩ := Option.bind_eq_some_iff.mp hm
  obtain ⟨d, h2, hm⟩ := Option.bind_eq_some_iff.mp hm
  have hw : ∃ w, e[p.1]? = some (some w) ∧ w.sub p.2 = some u := by
    unfold atE at h1
    split at h1
    · rename_i w hw
      exact ⟨w, hw, h1⟩
    · cases h1
  obtain ⟨w, hw, hs⟩ := hw
  obtain ⟨v0, hv, ro⟩ := R.at_ _ w hw
  obtain ⟨x, hx⟩ := At.of p.2 ro hs
  exact R.frz hw hv hx h2 fun I' Fs' H' R' x' => ⟨I', _, Fs', R', r, hm, k.from x' Agr.refl⟩
end MV

namespace MV
open PySem L2
variable [TB]

/-! ### several values, owned or not -/
section
variable (K : PySem.W.Frag) (mg : Str → Option Value) (I H : Hp) (Fs : Fp)
def OwnL : List W → List V → List (List Addr) → Prop
  | [], vs, Gs => vs = [] ∧ Gs = []
  | w :: ws, vs, Gs => ∃ v vt F Gt, vs = v :: vt ∧ Gs = F :: Gt ∧ Own K mg I H Fs w v F ∧ (∀ a ∈ F, ∀ G ∈ Gt, a ∉ G) ∧ OwnL ws vt Gt
end
def tAW (K : PySem.W.Frag) (mg : Str → Option Value) (Wx : WX) (m : M (List W)) : TA := fun σ H Q => ∃ I e Fs, Rel K mg I e Fs σ H ∧ ∃ ws e', m e = some (ws, e') ∧
  (∀ vs I' Fs' H' Gs, Rel K mg I' e' Fs' σ H' → Ext Fs I H Fs' I' H' → OwnL K mg I' H' Fs' ws vs Gs → (∀ G ∈ Gs, ∀ a ∈ G, MF Fs a ∨ H a = none) → Q vs H') ∧
  ∀ y, ws = [.ex y] → ∀ cls d I' Fs' H', Rel K mg I' e' Fs' σ H' → Ext Fs I H Fs' I' H' → XR K mg I' y cls d → Wx cls d σ H'
def SAW (X : Cx) (Wx : WX) (es : List Expr) (m : M (List W)) : Prop := PA X es (tAW X.K X.mg Wx m)
def consW (w : W) (ws : List W) : List W := match ws with
  | [.ex z] => [.ex z]
  | ws => w :: ws
def wNil : M (List W) := fun e => some ([], e)
def wCons (m : M W) (r : M (List W)) : M (List W) := fun e => (m e).bind fun x => match x.1 with
  | .ex y => some ([.ex y], x.2)
  | w => (r x.2).map fun y => (consW w y.1, y.2)
section
variable {X : Cx} {Wx : WX} {a : Expr} {es : List Expr} {pos : Pos} {mw : M W} {r : M (List W)}
theorem saw_nil : SAW X Wx [] wNil := PA.imp pa_nil fun σ H Q ⟨I, e, Fs, R, ws, e', hm, k, _⟩ => by
  cases hm
  exact k [] I Fs H [] R Ext.refl ⟨rfl, rfl⟩ fun G q => by cases q
theorem saw_cons (h : SO X Wx a mw) (hr : SAW X Wx es r) (hs : starEach (a :: es) X.env = (false, eval a X.env) :: starEach es X.env := by rfl) : SAW X Wx (a :: es) (wCons mw r) := by
  refine PA.imp (pa_cons h hr hs) fun σ H Q ⟨I, e, Fs, R, ws, e', hm, k, kx⟩ => ?_
  obtain ⟨⟨w, e1⟩, h1, hm⟩ := Option.bind_eq_some_iff.mp hm
  refine ⟨I, e, Fs, R, w, e1, h1, fun v I1 F1 H1 Fw R1 x1 o1 hF => ?_, fun y hy cls d I1 F1 H1 R1 x1 xr => ?_⟩
  · have hm : (r e1).map (fun y => (consW w y.1, y.2)) = some (ws, e') := by
      cases w with
      | ex y => have q := o1.ro; simp only [Ro] at q
      | _ => exact hm
    obtain ⟨⟨wr, e2⟩, h2, hm⟩ := Option.map_eq_some_iff.mp hm
    cases hm
    refine ⟨I1, e1, F1, R1, wr, e2, h2, fun vs I2 F2 H2 Gs R2 x2 ol hG => ?_, fun y hy cls d I2 F2 H2 R2 x2 xr => ?_⟩
    · have hc : consW w wr = w :: wr := by
        unfold consW
        split
        · rename_i z
          obtain ⟨v, vt, F, Gt, _, _, o, _⟩ := ol
          have q := o.ro
          simp only [Ro] at q
        · rfl
      have live : ∀ b ∈ Fw, H1 b ≠ none := fun b hb => by
        obtain ⟨u, hu⟩ := o1.ro.live _ _ _ b hb
        rw [hu]; exact fun q => by cases q
      have o2 : Own X.K X.mg I2 H2 F2 w v Fw := o1.frame x2.g (fun b hb => o1.dj b hb) fun b hb q => by
        rcases x2.fp b q with z | z
        · exact o1.dj b hb z
        · exact live b hb z
      have ol' : OwnL X.K X.mg I2 H2 F2 (consW w wr) (v :: vs) (Fw :: Gs) := by
        rw [hc]
        refine ⟨v, vs, Fw, Gs, rfl, rfl, o2, fun b hb G hGs q => ?_, ol⟩
        rcases hG G hGs b q with z | z
        · exact o1.dj b hb z
        · exact live b hb z
      refine k (v :: vs) I2 F2 H2 (Fw :: Gs) R2 (x1.trans x2) ol' fun G hG' b hb => ?_
      rcases List.mem_cons.mp hG' with z | z
      · rw [z] at hb; exact hF b hb
      · rcases hG G z b hb with y | y
        · exact x1.fp b y
        · cases q : H b with
          | none => exact .inr rfl
          | some u =>
            by_cases m : MF Fs b
            · exact .inl m
            · rw [x1.g.back m y] at q; cases q
    · subst hy
      exact kx y rfl cls d I2 F2 H2 R2 (x1.trans x2) xr
  · subst hy
    cases hm
    exact kx y rfl cls d I1 F1 H1 R1 x1 xr
/-- what is raised, or the list's use -/
def onW {α : Type} (ws : List W) (a : D → α) (b : List W → α) : α := match ws with
  | [.ex y] => a y
  | ws => b ws
theorem onW_own {K : PySem.W.Frag} {mg : Str → Option Value} {I H : Hp} {Fs : Fp} {α : Type} {ws : List W} {vs : List V} {Gs : List (List Addr)} {a : D → α} {b : List W → α} (o : OwnL K mg I H Fs ws vs Gs) : onW ws a b = b ws := by
  unfold onW
  split
  · rename_i z
    obtain ⟨v, vt, F, Gt, _, _, o, _⟩ := o
    have q := o.ro
    simp only [Ro] at q
  · rfl
def allPW : List W → Option (List D)
  | [] => some []
  | .p d :: ws => (allPW ws).map (d :: ·)
  | _ => none
theorem allPW_rp {K : PySem.W.Frag} {mg : Str → Option Value} {I H : Hp} {Fs : Fp} : ∀ {ws : List W} {ds : List D} {vs : List V} {Gs : List (List Addr)}, allPW ws = some ds → OwnL K mg I H Fs ws vs Gs → RpL K mg I ds vs
  | [], ds, vs, Gs, h, o => by cases h; obtain ⟨rfl, rfl⟩ := o; exact RpL.nil
  | .p d :: ws, ds, vs, Gs, h, o => by
    obtain ⟨es, h1, rfl⟩ := Option.map_eq_some_iff.mp (show (allPW ws).map (d :: ·) = some ds from h)
    obtain ⟨v, vt, F, Gt, rfl, rfl, o1, _, o2⟩ := o
    have q := o1.ro
    simp only [Ro] at q
    exact RpL.cons q.1 (allPW_rp h1 o2)
  | .ol _ :: _, ds, vs, Gs, h, o => by cases h
  | .ot _ :: _, ds, vs, Gs, h, o => by cases h
  | .od _ :: _, ds, vs, Gs, h, o => by cases h
  | .oi _ _ :: _, ds, vs, Gs, h, o => by cases h
  | .ex _ :: _, ds, vs, Gs, h, o => by cases h
/-- a tuple, a list of data -/
def mTupW (m : M (List W)) : M W := fun e => (m e).bind fun x => onW x.1 (fun y => some (.ex y, x.2)) fun ws => (allPW ws).bind fun ds => (fTup ds).map fun d => (.p d, x.2)
theorem so_tupW {x1 : Nat} {m : M (List W)} (h : SAW X Wx es m) : SO X Wx (.Tuple es x1 pos) (mTupW m) := PE.imp (pe_tup h) fun σ H Q ⟨I, e, Fs, R, w, e', hm, k, kx⟩ => by
  obtain ⟨⟨ws, e1⟩, h1, hm⟩ := Option.bind_eq_some_iff.mp hm
  refine ⟨I, e, Fs, R, ws, e1, h1, fun vs I1 F1 H1 Gs R1 x1 ol hG => ?_, fun y hy cls d I1 F1 H1 R1 x1 xr => ?_⟩
  · have hm : ((allPW ws).bind fun ds => (fTup ds).map fun d => (W.p d, e1)) = some (w, e') := (onW_own (a := fun y => some (W.ex y, e1)) (b := fun ws => (allPW ws).bind fun ds => (fTup ds).map fun d => (W.p d, e1)) ol).symm.trans hm
    obtain ⟨ds, h2, hm⟩ := Option.bind_eq_some_iff.mp hm
    obtain ⟨d, h3, hm⟩ := Option.map_eq_some_iff.mp hm
    cases hm
    refine cd_tupD I1 H1 ds d vs _ R1.sub (allPW_rp h2 ol) h3 fun v' I3 H3 g3 r3 => ?_
    obtain ⟨R3, x3⟩ := g3.rel R1
    exact k v' I3 F1 H3 [] R3 (x1.trans x3) (.pure r3) fun _ z => by cases z
  · subst hy
    cases hm
    exact kx y rfl cls d I1 F1 H1 R1 x1 xr
theorem OwnL.roL {K : PySem.W.Frag} {mg : Str → Option Value} {I H : Hp} {Fs : Fp} : ∀ {ws : List W} {vs : List V} {Gs : List (List Addr)}, OwnL K mg I H Fs ws vs Gs → RoL K mg I H ws vs Gs.flatten ∧ Gs.flatten.Nodup ∧ (∀ a ∈ Gs.flatten, I a = none) ∧ ∀ a ∈ Gs.flatten, ¬ MF Fs a
  | [], vs, Gs, o => by obtain ⟨rfl, rfl⟩ := o; exact ⟨by simp [RoL], by simp, fun a q => by simp at q, fun a q => by simp at q⟩
  | w :: ws, vs, Gs, o => by
    obtain ⟨v, vt, F, Gt, rfl, rfl, o1, dj, o2⟩ := o
    obtain ⟨k1, k2, k3, k4⟩ := o2.roL
    refine ⟨?_, ?_, fun a q => ?_, fun a q => ?_⟩
    · rw [List.flatten_cons]
      simp only [RoL]
      exact ⟨v, vt, F, Gt.flatten, rfl, rfl, o1.ro, k1⟩
    · rw [List.flatten_cons, List.nodup_append]
      refine ⟨o1.nd, k2, fun a ha b hb z => ?_⟩
      subst z
      obtain ⟨G, h1, h2⟩ := List.mem_flatten.mp hb
      exact dj a ha G h1 h2
    · rw [List.flatten_cons] at q
      rcases List.mem_append.mp q with z | z
      · exact o1.out a z
      · exact k3 a z
    · rw [List.flatten_cons] at q
      rcases List.mem_append.mp q with z | z
      · exact o1.dj a z
      · exact k4 a z
def mOlW (m : M (List W)) : M W := fun e => (m e).bind fun x => onW x.1 (fun y => some (.ex y, x.2)) fun ws => if ws.length ≤ 1000000 then some (.ol ws, x.2) else none
theorem so_lstW {m : M (List W)} (h : SAW X Wx es m) : SO X Wx (.List es pos) (mOlW m) := PE.imp (pe_lst h) fun σ H Q ⟨I, e, Fs, R, w, e', hm, k, kx⟩ => by
  obtain ⟨⟨ws, e1⟩, h1, hm⟩ := Option.bind_eq_some_iff.mp hm
  refine ⟨I, e, Fs, R, ws, e1, h1, fun vs I1 F1 H1 Gs R1 x1 ol hG => ?_, fun y hy cls d I1 F1 H1 R1 x1 xr => ?_⟩
  · have hm : (if ws.length ≤ 1000000 then some (W.ol ws, e1) else none) = some (w, e') := (onW_own (a := fun y => some (W.ex y, e1)) (b := fun ws => if ws.length ≤ 1000000 then some (W.ol ws, e1) else none) ol).symm.trans hm
    split at hm
    · rename_i hz
      cases hm
      obtain ⟨k1, k2, k3, k4⟩ := ol.roL
      refine ⟨by rw [← k1.len]; exact lim_le hz, fun q hq => ?_⟩
      have R2 := R1.loose (o := .lst vs) hq
      have hI : I1 q = none := sub_none R1.sub hq
      have nq : q ∉ Gs.flatten := fun z => by
        obtain ⟨u, hu⟩ := k1.live _ _ _ q z
        rw [hq] at hu; cases hu
      have hback : ∀ b, H1 b = none → MF Fs b ∨ H b = none := fun b hb => by
        cases e0 : H b with
        | none => exact .inr rfl
        | some u =>
          by_cases mm : MF Fs b
          · exact .inl mm
          · rw [x1.g.back mm hb] at e0; cases e0
      refine k (.ref q) I1 F1 _ (q :: Gs.flatten) R2 ⟨⟨x1.g.ex, fun c u q' mm nt => Ex.new hq c u (x1.g.fr c u q' mm nt), x1.g.new, fun t => (x1.g.tb t).ext (Ex.new hq), fun a ps q mm => let ⟨p', h'⟩ := x1.g.tl a ps q mm; ⟨p', Ex.new hq a _ h'⟩⟩, x1.fp⟩ ⟨?_, List.nodup_cons.mpr ⟨nq, k2⟩, fun c hc => ?_, fun c hc => ?_⟩ fun c hc => ?_
      · simp only [Ro]
        exact ⟨q, vs, _, rfl, upd_same, rfl, k1.frame (Ex.refl _) _ _ _ fun b hb o ho _ => by rw [upd_ne (fun z => by subst z; exact nq hb)]; exact ho⟩
      · rcases List.mem_cons.mp hc with rfl | hc
        · exact hI
        · exact k3 c hc
      · rcases List.mem_cons.mp hc with rfl | hc
        · exact fun ⟨i, hi⟩ => R1.live i c hi hq
        · exact k4 c hc
      · rcases List.mem_cons.mp hc with rfl | hc
        · exact hback c hq
        · obtain ⟨G, h3, h4⟩ := List.mem_flatten.mp hc
          exact hG G h3 c h4
    · cases hm
  · subst hy
    cases hm
    exact kx y rfl cls d I1 F1 H1 R1 x1 xr
end
/-! ### a, b = x, y -/
def setA : List Nat → List W → Env → Env
  | i :: is, w :: ws, e => setA is ws (e.set i (some w))
  | _, _, e => e
def setV : List Nat → List V → L2.St → L2.St
  | i :: is, w :: ws, e => setV is ws (e.set i (some w))
  | _, _, e => e
theorem setA_ok {K : PySem.W.Frag} {mg : Str → Option Value} {I H : Hp} : ∀ {is : List Nat} {ws : List W} {vs : List V} {Gs : List (List Addr)} {e : Env} {Fs : Fp} {σ : L2.St}, Rel K mg I e Fs σ H → OwnL K mg I H Fs ws vs Gs → ∃ F', Rel K mg I (setA is ws e) F' (setV is vs σ) H ∧ ∀ a, MF F' a → MF Fs a ∨ ∃ G ∈ Gs, a ∈ G
  | [], ws, vs, Gs, e, Fs, σ, R, o => ⟨Fs, by cases ws <;> exact R, fun a m => .inl m⟩
  | i :: is, [], vs, Gs, e, Fs, σ, R, o => by obtain ⟨rfl, rfl⟩ := o; exact ⟨Fs, R, fun a m => .inl m⟩
  | i :: is, w :: ws, vs, Gs, e, Fs, σ, R, o => by
    obtain ⟨v, vt, F, Gt, rfl, rfl, o1, dj, o2⟩ := o
    have R1 := R.put (i := i) o1
    have o3 : OwnL K mg I H (putF Fs i F) ws vt Gt := by
      have : ∀ {ws : List W} {vt : List V} {Gt : List (List Addr)}, (∀ a ∈ F, ∀ G ∈ Gt, a ∉ G) → OwnL K mg I H Fs ws vt Gt → OwnL K mg I H (putF Fs i F) ws vt Gt := by
        intro ws
        induction ws with
        | nil => intro vt Gt _ h; exact h
        | cons u us ih =>
          intro vt Gt dj h
          obtain ⟨v2, vt2, F2, Gt2, rfl, rfl, p1, p2, p3⟩ := h
          refine ⟨v2, vt2, F2, Gt2, rfl, rfl, ⟨p1.ro, p1.nd, p1.out, fun a ha m => ?_⟩, p2, ih (fun a ha G hG => dj a ha G (by simp [hG])) p3⟩
          rcases m.put with z | z
          · exact dj a z F2 (by simp) ha
          · exact p1.dj a ha z
      exact this dj o2
    obtain ⟨F', R', m'⟩ := setA_ok R1 o3
    refine ⟨F', R', fun a m => ?_⟩
    rcases m' a m with z | ⟨G, h1, h2⟩
    · rcases z.put with y | y
      · exact .inr ⟨F, by simp, y⟩
      · exact .inl y
    · exact .inr ⟨G, by simp [h1], h2⟩
theorem OwnL.len {K : PySem.W.Frag} {mg : Str → Option Value} {I H : Hp} {Fs : Fp} : ∀ {ws : List W} {vs : List V} {Gs : List (List Addr)}, OwnL K mg I H Fs ws vs Gs → vs.length = ws.length
  | [], vs, Gs, o => by obtain ⟨rfl, rfl⟩ := o; rfl
  | w :: ws, vs, Gs, o => by
    obtain ⟨v, vt, F, Gt, rfl, rfl, _, _, o2⟩ := o
    rw [List.length_cons, List.length_cons, o2.len]
def sPar (is : List Nat) (m : M (List W)) : S := fun e => (m e).bind fun x => onW x.1 (fun y => some (.ex y x.2)) fun ws => if ws.length = is.length then some (.nx (setA is ws x.2)) else none
def agrV {A : Nat → Bool} : ∀ {is : List Nat} {vs : List V} {σ τ : L2.St}, (∀ i ∈ is, A i = true) → Agr A σ τ → Agr A σ (setV is vs τ)
  | [], vs, σ, τ, h, a => by cases vs <;> exact a
  | i :: is, [], σ, τ, h, a => a
  | i :: is, v :: vs, σ, τ, h, a => agrV (τ := τ.set i (some v)) (fun j hj => h j (by simp [hj])) (a.set (h i (by simp)))
theorem par_run {K : PySem.W.Frag} {mg : Str → Option Value} {A : Nat → Bool} {Wx : WX} {is : List Nat} {m : M (List W)} {Dd : Ends} {σ : L2.St} {H : Hp} (hA : ∀ i ∈ is, A i = true) (h : tS K mg A Wx (sPar is m) Dd σ H) :
    tAW K mg Wx m σ H fun vs H1 => vs.length = is.length ∧ ∀ H2, (∃ p o, H1 p = none ∧ H2 = upd H1 p o) ∨ H2 = H1 → Dd.nx (setV is vs σ) H2 := by
  obtain ⟨I, e, Fs, R, r, hm, k⟩ := h
  obtain ⟨⟨ws, e1⟩, h1, hm⟩ := Option.bind_eq_some_iff.mp hm
  refine ⟨I, e, Fs, R, ws, e1, h1, fun vs I1 F1 H1 Gs R1 x1 ol hG => ?_, fun y hy cls d I1 F1 H1 R1 x1 xr => ?_⟩
  · have hm : (if ws.length = is.length then some (SR.nx (setA is ws e1)) else none) = some r := (onW_own (a := fun y => some (SR.ex y e1)) (b := fun ws => if ws.length = is.length then some (SR.nx (setA is ws e1)) else none) ol).symm.trans hm
    split at hm
    · rename_i hz
      cases hm
      refine ⟨by rw [ol.len]; exact hz, fun H2 hH2 => ?_⟩
      obtain ⟨F', R', m'⟩ := setA_ok (is := is) R1 ol
      have fp : ∀ a, MF F' a → MF Fs a ∨ H a = none := fun a q => by
        rcases m' a q with z | ⟨G, h3, h4⟩
        · exact x1.fp a z
        · exact hG G h3 a h4
      rcases hH2 with ⟨p, o, hp, rfl⟩ | rfl
      · exact k _ I1 F' _ (R'.loose hp) ⟨⟨x1.g.ex, fun c u q' mm nt => Ex.new hp c u (x1.g.fr c u q' mm nt), x1.g.new, fun t => (x1.g.tb t).ext (Ex.new hp), fun a ps q mm => let ⟨p', h'⟩ := x1.g.tl a ps q mm; ⟨p', Ex.new hp a _ h'⟩⟩, fp⟩ (agrV hA Agr.refl)
      · exact k _ I1 F' _ R' ⟨x1.g, fp⟩ (agrV hA Agr.refl)
    · cases hm
  · subst hy
    cases hm
    exact k cls d σ I1 F1 H1 R1 x1 Agr.refl xr
section
variable {X : Cx} {A : Nat → Bool} {Wx : WX} {a b c : Expr} {x y z : Str} {i j l : Nat} {m : M (List W)} {px py pz pt pt2 pos : Pos} {kt k2 : Nat}
theorem ss_par2 (hA : A i = true) (hA2 : A j = true) (hc : X.calm = true) (hN : X.N.Nodup) (hi : X.N[i]? = some x) (hj : X.N[j]? = some y) (hij : i ≠ j) (hx : X.env.scope.names.lookup x = some .local) (hy : X.env.scope.names.lookup y = some .local) (ha : SAW X Wx [a, b] m)
    (hw : swappedStores [.Tuple [.Name x px, .Name y py] kt pt] (.Tuple [a, b] k2 pt2) X.env = pure (some [x, y])) (hs : swapsWithSole [.Tuple [.Name x px, .Name y py] kt pt] (.Tuple [a, b] k2 pt2) pos.line X.env = pure false := by rfl) :
    SS X A Wx (.Assign [.Tuple [.Name x px, .Name y py] kt pt] (.Tuple [a, b] k2 pt2) pos) (sPar [i, j] m) := PS.imp (ps_par hc hN hi hj hij hx hy ha hw hs) fun Dd σ H h => by
  obtain ⟨I, e, Fs, R, ws, e1, h1, k, kx⟩ := par_run (by simp [hA, hA2]) h
  refine ⟨I, e, Fs, R, ws, e1, h1, fun vs I1 F1 H1 Gs R1 x1 ol hG => ?_, kx⟩
  obtain ⟨hl, kk⟩ := k vs I1 F1 H1 Gs R1 x1 ol hG
  obtain ⟨v, w, rfl⟩ : ∃ v w, vs = [v, w] := by
    match vs, hl with
    | [v, w], _ => exact ⟨v, w, rfl⟩
  exact ⟨v, w, rfl, kk H1 (.inr rfl)⟩
theorem ss_par3 (hA : A i = true) (hA2 : A j = true) (hA3 : A l = true) (hc : X.calm = true) (hN : X.N.Nodup) (hi : X.N[i]? = some x) (hj : X.N[j]? = some y) (hl : X.N[l]? = some z) (hij : i ≠ j) (hil : i ≠ l) (hjl : j ≠ l) (hx : X.env.scope.names.lookup x = some .local) (hy : X.env.scope.names.lookup y = some .local) (hz : X.env.scope.names.lookup z = some .local) (ha : SAW X Wx [a, b, c] m)
    (hw : swappedStores [.Tuple [.Name x px, .Name y py, .Name z pz] kt pt] (.Tuple [a, b, c] k2 pt2) X.env = pure (some [x, y, z])) (hs : swapsWithSole [.Tuple [.Name x px, .Name y py, .Name z pz] kt pt] (.Tuple [a, b, c] k2 pt2) pos.line X.env = pure false := by rfl) :
    SS X A Wx (.Assign [.Tuple [.Name x px, .Name y py, .Name z pz] kt pt] (.Tuple [a, b, c] k2 pt2) pos) (sPar [i, j, l] m) := PS.imp (ps_par3 hc hN hi hj hl hij hil hjl hx hy hz ha hw hs) fun Dd σ H h => by
  obtain ⟨I, e, Fs, R, ws, e1, h1, k, kx⟩ := par_run (by simp [hA, hA2, hA3]) h
  refine ⟨I, e, Fs, R, ws, e1, h1, fun vs I1 F1 H1 Gs R1 x1 ol hG => ?_, kx⟩
  obtain ⟨hl, kk⟩ := k vs I1 F1 H1 Gs R1 x1 ol hG
  obtain ⟨v, w, u, rfl⟩ : ∃ v w u, vs = [v, w, u] := by
    match vs, hl with
    | [v, w, u], _ => exact ⟨v, w, u, rfl⟩
  exact ⟨v, w, u, rfl, kk H1 (.inr rfl)⟩
end
end MV

namespace MV
open PySem L2
variable [TB]

/-! ### one thing more in hand -/
section
variable {K : PySem.W.Frag} {mg : Str → Option Value} {I H I' H' : Hp} {e : Env} {Fs Fa Fb : Fp} {σ τ : L2.St} {w : W} {v : V} {F : List Addr}
theorem Own.step (o : Own K mg I H Fa w v F) (x : Ext Fa I H Fb I' H') : Own K mg I' H' Fb w v F := o.frame x.g (fun b hb => o.dj b hb) fun b hb q => by
  rcases x.fp b q with z | z
  · exact o.dj b hb z
  · obtain ⟨u, hu⟩ := o.ro.live _ _ _ b hb
    rw [hu] at z; cases z
theorem Rel.uncons (R : Rel K mg I (some w :: e) Fs (some v :: τ) H) : Own K mg I H (fun j => Fs (j + 1)) w v (Fs 0) ∧ Rel K mg I e (fun j => Fs (j + 1)) τ H := by
  obtain ⟨v', hv, ro⟩ := R.at_ 0 w rfl
  have ev : v = v' := by simpa using hv
  subst ev
  exact ⟨⟨ro, R.nd 0, R.out 0, fun a ha ⟨j, hj⟩ => by have := R.dj _ _ a ha hj; omega⟩, R.tail⟩
end
/-! ### dict comprehensions -/
def dcRun (own : List Nat) (t : Tg) (c : M Bool) (mk : M D) (mv : M W) : List D → List (Key × W) → Env → Option (List (Key × W) × Env)
  | [], acc, e => some (acc, e)
  | d :: ds, acc, e => (t d e).bind fun e1 => (c e1).bind fun x => if x.1 = true then (mk x.2).bind fun y => (mv y.2).bind fun z => if nex z.1 = true then (keyD y.1).bind fun k => (dputW acc k z.1).bind fun acc' => dcRun own t c mk mv ds acc' (wipeE z.2 own) else none
    else dcRun own t c mk mv ds acc (wipeE x.2 own)
def mDc (own : List Nat) (mi : M (List D)) (t : Tg) (c : M Bool) (mk : M D) (mv : M W) : M W := fun e => (mi e).bind fun x => (dcRun own t c mk mv x.1 [] (wipeE x.2 own)).map fun r => (.od r.1, r.2)
theorem dc_run {K : PySem.W.Frag} {mg : Str → Option Value} {Wx : WX} {own : List Nat} {mi : M (List D)} {t : Tg} {c : M Bool} {mk : M D} {mv : M W} {σ : L2.St} {H : Hp} {Q : VK} (h : tO K mg Wx (mDc own mi t c mk mv) σ H Q) :
    tDc (tI K mg mi) (tG K mg (ownA own) t) (tT K mg c) (tE K mg mk) (tO K mg W0 mv) own σ H Q := by
  obtain ⟨I, e, Fs, R, w, e', hm, k, _⟩ := h
  obtain ⟨⟨ds, e1⟩, h1, hm⟩ := Option.bind_eq_some_iff.mp hm
  obtain ⟨⟨ys, e2⟩, h2, hm⟩ := Option.map_eq_some_iff.mp hm
  cases hm
  refine ⟨I, e, Fs, R, ds, e1, h1, fun J I1 F1 H1 R1 x1 hJ D hD => ?_⟩
  have hback : ∀ b, H1 b = none → MF Fs b ∨ H b = none := fun b hb => by
    cases e0 : H b with
    | none => exact .inr rfl
    | some u =>
      by_cases mm : MF Fs b
      · exact .inl mm
      · rw [x1.g.back mm hb] at e0; cases e0
  -- the state: the dict in hand, then the slots
  let St (i : Nat) (acc : List (Key × W)) (ec : Env) (Hc : Hp) : Prop := ∃ I2 F2, Rel K mg I2 (some (.od acc) :: ec) F2 (some (.ref D) :: wipe σ own) Hc ∧ Ext Fs I H (fun j => F2 (j + 1)) I2 Hc ∧ Ex I1 I2 ∧ (∀ b ∈ F2 0, MF Fs b ∨ H b = none) ∧ dcRun own t c mk mv (ds.drop i) acc ec = some (ys, e2)
  refine ⟨fun i n Hc => n = ds.length - i ∧ i ≤ ds.length ∧ ∃ acc ec, St i acc ec Hc, ⟨ds.length, ?_⟩, ?_⟩
  · obtain ⟨F2, R2, m2⟩ := R1.wiped own
    have R3 := R2.loose (o := .dK []) hD
    have hI : I1 D = none := sub_none R1.sub hD
    have hF : ¬ MF F2 D := fun ⟨i, hi⟩ => R2.live i D hi hD
    have ow : Own K mg I1 (upd H1 D (.dK [])) F2 (.od []) (.ref D) [D] := ⟨by simp only [Ro]; exact ⟨D, [], [], rfl, upd_same, rfl, by simp [RoK]⟩, by simp, fun a q => by rw [List.mem_singleton.mp q]; exact hI, fun a q => by rw [List.mem_singleton.mp q]; exact hF⟩
    refine ⟨by simp, Nat.zero_le _, [], wipeE e1 own, I1, _, R3.cons ow, ?_, Ex.refl _, fun b q => by rw [List.mem_singleton.mp q]; exact hback D hD, by rw [List.drop_zero]; exact h2⟩
    exact ⟨⟨x1.g.ex, fun a u q mm nt => Ex.new hD a u (x1.g.fr a u q mm nt), x1.g.new, fun t => (x1.g.tb t).ext (Ex.new hD), fun a ps q mm => let ⟨p', h'⟩ := x1.g.tl a ps q mm; ⟨p', Ex.new hD a _ h'⟩⟩, fun a mm => x1.fp a (m2 a mm)⟩
  · rintro i n Hc ⟨rfl, hi, acc, ec, I2, F2, RR, x2, ex2, hf0, hrun⟩
    obtain ⟨od, R2⟩ := RR.uncons
    have it := hJ i I2 Hc ex2 R2.sub
    by_cases hlt : i < ds.length
    · refine .inr ?_
      obtain ⟨hgo, hy⟩ := it.1 _ (List.getElem?_eq_getElem hlt)
      refine ⟨hgo, fun H' => ∃ acc ec, St (i + 1) acc ec H', fun H' h => ⟨ds.length - (i + 1), by omega, rfl, hlt, h⟩, fun v H3 hv => ?_⟩
      obtain ⟨I3, g3, r3⟩ := hy v H3 hv
      obtain ⟨R3, x3⟩ := g3.rel R2
      have o3 := od.step x3
      rw [List.drop_eq_getElem_cons hlt] at hrun
      simp only [dcRun] at hrun
      obtain ⟨e4, h4, hrun⟩ := Option.bind_eq_some_iff.mp hrun
      obtain ⟨⟨b, e5⟩, h5, hrun⟩ := Option.bind_eq_some_iff.mp hrun
      refine ⟨I3, ec, _, ds[i], R3, r3, e4, h4, fun σ4 F4 R4 m4 a4 hl4 => ?_⟩
      have hw : wipe σ4 own = wipe σ own := by
        have q := wipe_agr (σ := wipe σ own) hl4 (by
          intro j hj
          rw [a4 j hj]
          rw [wipe_get (σ := wipe σ own), if_neg (by simpa [ownA] using hj)])
        rw [q]
        refine List.ext_getElem? fun j => ?_
        rw [wipe_get, wipe_get]
        by_cases y : j ∈ own
        · rw [if_pos y, if_pos y]
          cases σ[j]? <;> rfl
        · rw [if_neg y, if_neg y]
      have x4 : Ext (fun j => F2 (j + 1)) I3 H3 F4 I3 H3 := ⟨Gx.refl, fun a q => .inl (m4 a q)⟩
      have o4 := o3.step x4
      refine ⟨hw, I3, e4, F4, R4, b, e5, h5, fun I5 F5 H5 R5 x5 => ?_⟩
      have o5 := o4.step x5
      have xs5 := ((x2.trans x3).trans x4).trans x5
      have ex5 : Ex I1 I5 := (ex2.trans x3.g.ex).trans x5.g.ex
      cases b with
      | false =>
        dsimp only
        rw [if_neg Bool.false_ne_true]
        rw [if_neg Bool.false_ne_true] at hrun
        obtain ⟨F6, R6, m6⟩ := R5.wiped own
        rw [hw] at R6
        have o6 : Own K mg I5 H5 F6 (.od acc) (.ref D) (F2 0) := ⟨o5.ro, o5.nd, o5.out, fun a ha q => o5.dj a ha (m6 a q)⟩
        exact ⟨acc, wipeE e5 own, I5, _, R6.cons o6, ⟨xs5.g, fun a q => xs5.fp a (m6 a q)⟩, ex5, hf0, hrun⟩
      | true =>
        dsimp only
        rw [if_pos rfl]
        rw [if_pos rfl] at hrun
        obtain ⟨⟨y, e6⟩, h6, hrun⟩ := Option.bind_eq_some_iff.mp hrun
        obtain ⟨⟨z, e7⟩, h7, hrun⟩ := Option.bind_eq_some_iff.mp hrun
        have hrun : (if nex z = true then (keyD y).bind fun k => (dputW acc k z).bind fun acc' => dcRun own t c mk mv (List.drop (i + 1) ds) acc' (wipeE e7 own) else none) = some (ys, e2) := hrun
        split at hrun
        case isFalse => cases hrun
        rename_i hne
        obtain ⟨ky, h8, hrun⟩ := Option.bind_eq_some_iff.mp hrun
        obtain ⟨acc', h9, hrun⟩ := Option.bind_eq_some_iff.mp hrun
        refine ⟨I5, e5, F5, R5, y, e6, h6, fun yv I6 F6 H6 R6 x6 r6 => ?_⟩
        have o6 := o5.step x6
        refine ⟨I6, e6, F6, R6, z, e7, h7, fun zv I7 F7 H7 Fz R7 x7 oz hFz => ?_, fun yy hyy => by subst hyy; cases hne⟩
        have o7 := o6.step x7
        have xs7 := (xs5.trans x6).trans x7
        obtain ⟨F8, R8, m8⟩ := R7.wiped own
        rw [hw] at R8
        have o8 : Own K mg I7 H7 F8 (.od acc) (.ref D) (F2 0) := ⟨o7.ro, o7.nd, o7.out, fun a ha q => o7.dj a ha (m8 a q)⟩
        have RC := R8.cons o8
        have live0 : ∀ b ∈ F2 0, H6 b ≠ none := fun b hb => by
          obtain ⟨u, hu⟩ := o6.ro.live _ _ _ b hb
          rw [hu]; exact fun q => by cases q
        have ozc : Own K mg I7 H7 (consF (F2 0) F8) z zv Fz := ⟨oz.ro, oz.nd, oz.out, fun a ha q => by
          rcases q.cons with q1 | q1
          · rcases hFz a ha with q2 | q2
            · exact o6.dj a q1 q2
            · exact live0 a q1 q2
          · exact oz.dj a ha (m8 a q1)⟩
        obtain ⟨G, hG, nd, hI, dj, st⟩ := store_step (p := (0, [])) (wr := .od acc) (u := .od acc) (u' := .od acc') (v0 := .ref D) (a := D) RC ozc rfl rfl ⟨rfl, rfl⟩ fun G h => tag_mem (by simp [tagW]) h
        have hG' := hG
        simp only [Ro] at hG'
        obtain ⟨a', kvs, G1, e2', ha, hG1, hFs⟩ := hG'
        cases e2'
        subst hG1
        obtain ⟨hz, G', h10, h11, h12⟩ := RoK.putW oz.ro hFs (List.nodup_cons.mp nd).2 oz.nd (fun b hb q => dj b hb (by simp [q])) h9
        have na : ∀ b ∈ G', b ≠ D := fun b hb z => by
          subst z
          rcases h12 b hb with q | q
          · exact (List.nodup_cons.mp nd).1 q
          · exact dj b q (by simp)
        refine ⟨kvs, ky, keyD_v h8 r6, ha, hz, ?_⟩
        have x0 : Ext Fs I H (consF (F2 0) F8) I7 H7 := ⟨xs7.g, fun a q => by
          rcases q.cons with q1 | q1
          · exact hf0 a q1
          · exact xs7.fp a (m8 a q1)⟩
        obtain ⟨Fs', R9, x9⟩ := st (.dK (putK kvs ky zv)) (.od acc') G1 rfl G' (by
          simp only [Ro]
          exact ⟨D, _, G', rfl, upd_same, rfl, h10.frame (Ex.refl _) _ _ _ fun b hb o ho _ => by rw [upd_ne (na b hb)]; exact ho⟩) h11 h12
        have x10 := x9 Fs I H x0 fun b hb => by
          rcases hFz b hb with q | q
          · exact (xs5.trans x6).fp b q
          · cases e0 : H b with
            | none => exact .inr rfl
            | some u =>
              by_cases mm : MF Fs b
              · exact .inl mm
              · rw [(xs5.trans x6).g.back mm q] at e0; cases e0
        have eput : putE (some (W.od acc) :: wipeE e7 own) (0, []) (.od acc') = some (.od acc') :: wipeE e7 own := by
          simp [putE, W.put]
        rw [eput] at R9
        exact ⟨acc', wipeE e7 own, I7, Fs', R9, ⟨x10.g, fun a ⟨j, hj⟩ => x10.fp a ⟨j + 1, hj⟩⟩, (ex5.trans x6.g.ex).trans x7.g.ex, fun b hb => x10.fp b ⟨0, hb⟩, hrun⟩
    · have hie : i = ds.length := by omega
      subst hie
      refine .inl ⟨it.2 (Nat.le_refl _), ?_⟩
      rw [List.drop_length] at hrun
      simp only [dcRun] at hrun
      cases hrun
      exact k (.ref D) I2 (fun j => F2 (j + 1)) Hc (F2 0) R2.unwiped x2 od hf0
theorem so_dc {X : Cx} {Wx : WX} {kx vx tg iter : Expr} {ifs : List Expr} {scope : Scope} {own : List (Str × Nat)} {pos : Pos} {mi : M (List D)} {t : Tg} {c : M Bool} {mk : M D} {mv : M W} (hc : X.calm = true) (hN : X.N.Nodup) (ok : BlkOk X.N X.env.scope scope own) (hi : SI X tg iter mi)
    (hg : ∀ (s : Shared) (H : Hp) (C : Addr) (cl : List (Str × Addr)) (fp : List Addr), SG (X.blk s H scope (compEnvC scope cl C X.env) fp) (ownA (own.map (·.2))) tg t) (ht : ∀ (s : Shared) (H : Hp) (C : Addr) (cl : List (Str × Addr)) (fp : List Addr), STs (X.blk s H scope (compEnvC scope cl C X.env) fp) ifs c)
    (hk : ∀ (s : Shared) (H : Hp) (C : Addr) (cl : List (Str × Addr)) (fp : List Addr), SE (X.blk s H scope (compEnvC scope cl C X.env) fp) kx mk)
    (he : ∀ (s : Shared) (H : Hp) (C : Addr) (cl : List (Str × Addr)) (fp : List Addr), SO (X.blk s H scope (compEnvC scope cl C X.env) fp) W0 vx mv) (hs : ∀ x, foldedSetIterable iter X.env x = pure x := by intro _; rfl) :
    SO X Wx (.DictComp kx vx [⟨tg, iter, ifs, 0⟩] scope pos) (mDc (own.map (·.2)) mi t c mk mv) := PE.imp (pe_dc (g := tG X.K X.mg (ownA (List.map (fun (x : Str × Nat) => x.2) own)) t) (tt := tT X.K X.mg c) (tk := tE X.K X.mg mk) (tv := tO X.K X.mg W0 mv) hc hN hi ok hg ht hk he hs) fun σ H Q h => dc_run h
/-- {} -/
def mDnew : M W := fun e => some (.od [], e)
theorem so_dnew {X : Cx} {Wx : WX} {pos : Pos} : SO X Wx (.Dict [] [] pos) mDnew := PE.imp pe_dnewK fun σ H Q ⟨I, e, Fs, R, w, e', hm, k, _⟩ => by
  cases hm
  intro q hq
  have hI : I q = none := sub_none R.sub hq
  refine k (.ref q) I Fs _ [q] (R.loose hq) ⟨Gx.refl.set (.inr hq) (.none hq), fun a m => .inl m⟩ ⟨?_, by simp, fun a h => by rw [List.mem_singleton.mp h]; exact hI, fun a h m => ?_⟩ fun a h => by rw [List.mem_singleton.mp h]; exact .inr hq
  · simp only [Ro]
    exact ⟨q, [], [], rfl, upd_same, rfl, by simp [RoK]⟩
  · rw [List.mem_singleton.mp h] at m
    obtain ⟨i, hi⟩ := m
    exact R.live i q hi hq
/-! ### x.append(w), x a name -/
def mAppO (i : Nat) (mw : M W) : M W := fun e => match e[i]? with
  | some (some (.ol _)) => (mw e).bind fun x => match x.1 with
    | .ex y => some (.ex y, x.2)
    | w => match x.2[i]? with
      | some (some (.ol ws)) => if ws.length < 1000000 then some (.p .none, x.2.set i (some (.ol (ws ++ [w])))) else none
      | _ => none
  | _ => none
theorem so_appO {X : Cx} {Wx : WX} {i : Nat} {x : Str} {a : Expr} {mw : M W} {p apos cpos : Pos} (hx : PE X (.Name x p) (tVar i)) (ha : SO X Wx a mw)
    (hbase : attributeBase (.Name x p) "append" X.env (eval (.Name x p) X.env) = eval (.Name x p) X.env := by rfl)
    (hfew : ((backTo cpos (starEach [a] X.env)).all (fun x => !x.1) && (backToKw cpos (keywordEach [] X.env)).all (fun x => x.1.isSome)
      && decide ([a].length + ([] : List Keyword).length + (if ([] : List Keyword).isEmpty then 0 else 1) < 30)) = true := by rfl)
    (hline : (apos.endLine == cpos.line) = true := by rfl) (hs : starEach [a] X.env = (false, eval a X.env) :: starEach [] X.env := by rfl) (hplain : (backTo cpos (starEach [] X.env)).any (·.1) = false := by rfl) :
    SO X Wx (.Call (.Attribute (.Name x p) "append" apos) [a] [] cpos) (mAppO i mw) := PE.imp (pe_bm PySem.F.plainAttrs_list PySem.F.slot_list_append PySem.F.type_list_append mt_append hx (pa_one ha hs) hbase hfew hline hs hplain) fun σ H Q ⟨I, e, Fs, R, w, e', hm, k, kx⟩ => by
  unfold mAppO at hm
  split at hm
  · rename_i ws0 hw0
    obtain ⟨v0, hv0, ro0⟩ := R.at_ i _ hw0
    obtain ⟨⟨u, e1⟩, h1, hm⟩ := Option.bind_eq_some_iff.mp hm
    refine ⟨v0, hv0, tag_ty ro0 (T := "list") rfl (.inl rfl), I, e, Fs, R, u, e1, h1, fun y I1 F1 H1 Fw R1 x1 o1 hF => ?_, fun y hy cls d I1 F1 H1 R1 x1 xr => ?_⟩
    · have hm : (match e1[i]? with
        | some (some (.ol ws)) => if ws.length < 1000000 then some (W.p .none, e1.set i (some (.ol (ws ++ [u])))) else none
        | _ => none) = some (w, e') := by
        cases u with
        | ex y => have q := o1.ro; simp only [Ro] at q
        | _ => exact hm
      split at hm
      · rename_i ws hw
        split at hm
        · rename_i hz
          cases hm
          obtain ⟨v1, hv1, ro1⟩ := R1.at_ i _ hw
          rw [hv0] at hv1
          cases hv1
          have ro1' := ro1
          simp only [Ro] at ro1'
          obtain ⟨l, xs, G0, rfl, hl, _, hL0⟩ := ro1'
          obtain ⟨G, hG, nd, hI, dj, st⟩ := store_step (p := (i, [])) (wr := .ol ws) (u := .ol ws) (u' := .ol (ws ++ [u])) R1 o1 hw hv0 ⟨rfl, rfl⟩ fun G h => tag_mem (by simp [tagW]) h
          have hG' := hG
          simp only [Ro] at hG'
          obtain ⟨a', xs', G1, e2, ha', hG1, hL⟩ := hG'
          cases e2
          subst hG1
          rw [hl] at ha'
          cases ha'
          refine ⟨l, xs, y, rfl, rfl, hl, by rw [← hL.len]; exact lim_lt hz, ?_⟩
          have nd1 := List.nodup_cons.mp nd
          have ndA : (G1 ++ Fw).Nodup := by
            rw [List.nodup_append]
            exact ⟨nd1.2, o1.nd, fun b hb c hc z => by subst z; exact dj b hc (by simp [hb])⟩
          have na : ∀ b ∈ G1 ++ Fw, b ≠ l := fun b hb z => by
            subst z
            rcases List.mem_append.mp hb with q | q
            · exact nd1.1 q
            · exact dj b q (by simp)
          have hcat : RoL X.K X.mg I1 H1 (ws ++ [u]) (xs ++ [y]) (G1 ++ Fw) := hL.append (by simp only [RoL]; exact ⟨y, [], Fw, [], rfl, by simp, o1.ro, rfl, rfl⟩)
          obtain ⟨Fs', R2, x2⟩ := st (.lst (xs ++ [y])) (.ol (ws ++ [u])) G1 rfl (G1 ++ Fw) (by
            simp only [Ro]
            exact ⟨l, _, G1 ++ Fw, rfl, upd_same, rfl, hcat.frame (Ex.refl _) _ _ _ fun b hb o ho _ => by rw [upd_ne (na b hb)]; exact ho⟩) ndA fun b hb => List.mem_append.mp hb
          have eput : putE e1 (i, []) (.ol (ws ++ [u])) = e1.set i (some (.ol (ws ++ [u]))) := by
            unfold putE
            rw [hw]
            rfl
          rw [eput] at R2
          exact k .non I1 Fs' _ [] R2 (x2 Fs I H x1 hF) (.pure rp_none) fun b hb => by cases hb
        · cases hm
      · cases hm
    · subst hy
      cases hm
      exact kx y rfl cls d I1 F1 H1 R1 x1 xr
  · cases hm
end MV

namespace MV
open PySem L2
variable [TB]

/-! ### a method of a place whose argument does not touch the place's root -/
theorem At.frame {K : PySem.W.Frag} {mg : Str → Option Value} {I H H' : Hp} : ∀ (p : List Stp) {w : W} {v : V} {F : List Addr} {u : W} {x : V}, Ro K mg I H w v F → (∀ a ∈ F, ∀ o, H a = some o → NT o → H' a = some o) → At H w v p u x → At H' w v p u x
  | [], w, v, F, u, x, h, fr, a => by cases w <;> exact a
  | s :: p, .p d, v, F, u, x, h, fr, a => by cases s <;> exact a.elim
  | s :: p, .ex d, v, F, u, x, h, fr, a => by cases s <;> exact a.elim
  | .ix j :: p, .ol ws, v, F, u, x, h, fr, a => by
    obtain ⟨l, xs, w', x', rfl, h1, h2, h3, h4⟩ := a
    simp only [Ro] at h
    obtain ⟨l', xs', G, e, h1', rfl, h5⟩ := h
    cases e
    rw [h1] at h1'
    cases h1'
    obtain ⟨y, A, G1, B, e, rfl, h6, k⟩ := h5.lens h2
    rw [h3] at e
    cases e
    exact ⟨l, xs, w', x', rfl, fr l (by simp) _ h1 (fun _ z => by cases z), h2, h3, h4.frame p h6 fun a ha => fr a (by simp [ha])⟩
  | .ix j :: p, .ot ws, v, F, u, x, h, fr, a => by
    obtain ⟨l, xs, w', x', rfl, h1, h2, h3, h4⟩ := a
    simp only [Ro] at h
    obtain ⟨l', xs', G, e, h1', rfl, h5⟩ := h
    cases e
    rw [h1] at h1'
    cases h1'
    obtain ⟨y, A, G1, B, e, rfl, h6, k⟩ := h5.lens h2
    rw [h3] at e
    cases e
    exact ⟨l, xs, w', x', rfl, fr l (by simp) _ h1 (fun _ z => by cases z), h2, h3, h4.frame p h6 fun a ha => fr a (by simp [ha])⟩
  | .ky j :: p, .od ws, v, F, u, x, h, fr, a => by
    obtain ⟨l, xs, w', x', rfl, h1, h2, h3, h4⟩ := a
    simp only [Ro] at h
    obtain ⟨l', xs', G, e, h1', rfl, h5⟩ := h
    cases e
    rw [h1] at h1'
    cases h1'
    obtain ⟨y, A, G1, B, e, rfl, h6, k⟩ := h5.lens h2
    rw [h3] at e
    cases e
    exact ⟨l, xs, w', x', rfl, fr l (by simp) _ h1 (fun _ z => by cases z), h2, h3, h4.frame p h6 fun a ha => fr a (by simp [ha])⟩
  | .fd j :: p, .oi c ws, v, F, u, x, h, fr, a => by
    obtain ⟨l, C, dx, xs, w', x', rfl, h1, h2, h3, h4⟩ := a
    simp only [Ro] at h
    obtain ⟨l', C', dx', xs', G, e, hc, h1', rfl, h5⟩ := h
    cases e
    rw [h1] at h1'
    cases h1'
    obtain ⟨y, A, G1, B, e, rfl, h6, k⟩ := h5.lens h2
    rw [h3] at e
    cases e
    exact ⟨l, C, dx, xs, w', x', rfl, fr l (by simp) _ h1 (fun _ z => by cases z), h2, h3, h4.frame p h6 fun a ha => fr a (by simp [ha])⟩
  | .ky _ :: p, .ol ws, v, F, u, x, h, fr, a => a.elim
  | .ky _ :: p, .ot ws, v, F, u, x, h, fr, a => a.elim
  | .fd _ :: p, .ol ws, v, F, u, x, h, fr, a => a.elim
  | .fd _ :: p, .ot ws, v, F, u, x, h, fr, a => a.elim
  | .ix _ :: p, .od ws, v, F, u, x, h, fr, a => a.elim
  | .fd _ :: p, .od ws, v, F, u, x, h, fr, a => a.elim
  | .ix _ :: p, .oi _ ws, v, F, u, x, h, fr, a => a.elim
  | .ky _ :: p, .oi _ ws, v, F, u, x, h, fr, a => a.elim
def mMetL (f : W → List D → Option (W × D)) (lf : P Pth) (m : M D) : M D := fun e => (lf e).bind fun p => match e[p.1]? with
  | some (some w) => (w.sub p.2).bind fun u => (m (e.set p.1 none)).bind fun x => (f u [x.1]).map fun y => (y.2, x.2.set p.1 (some (w.put p.2 y.1)))
  | _ => none
section
variable {X : Cx} {o a : Expr} {lf : P Pth} {m : M D} {name : Str} {apos cpos : Pos} {T id : String} {r : V → List V → Hp → VK → Prop} {f : W → List D → Option (W × D)}
theorem se_metL (pa : PlainAttrs T) (slot : Slot T name id) (hty : typeOf (.builtin id) = pure (.type "method_descriptor")) (hm : MtR X id r) (hf : MetW X.K X.mg T r f) (hft : MetT T f) (hT : T = "list" ∨ T = "dict") (ho : SL X o lf) (ha : SE X a m)
    (hbase : attributeBase o name X.env (eval o X.env) = eval o X.env := by rfl)
    (hfew : ((backTo cpos (starEach [a] X.env)).all (fun x => !x.1) && (backToKw cpos (keywordEach [] X.env)).all (fun x => x.1.isSome)
      && decide ([a].length + ([] : List Keyword).length + (if ([] : List Keyword).isEmpty then 0 else 1) < 30)) = true := by rfl)
    (hline : (apos.endLine == cpos.line) = true := by rfl) (hs : starEach [a] X.env = (false, eval a X.env) :: starEach [] X.env := by rfl) (hplain : (backTo cpos (starEach [] X.env)).any (·.1) = false := by rfl) :
    SE X (.Call (.Attribute o name apos) [a] [] cpos) (mMetL f lf m) := PE.imp (pe_bm pa slot hty hm ho (pa_one ha hs) hbase hfew hline hs hplain) fun σ H Q ⟨I, e, Fs, R, d, e', hm, k⟩ => by
  obtain ⟨p, h1, hm⟩ := Option.bind_eq_some_iff.mp hm
  refine ⟨I, e, Fs, R, p, h1, fun v I1 H1 w v0 u1 g1 hw hv hsb hA => ?_⟩
  rw [hw] at hm
  obtain ⟨u, h2, hm⟩ := Option.bind_eq_some_iff.mp (show ((w.sub p.2).bind fun u => (m (e.set p.1 none)).bind fun x => (f u [x.1]).map fun y => (y.2, x.2.set p.1 (some (w.put p.2 y.1)))) = some (d, e') from hm)
  rw [hsb] at h2
  cases h2
  obtain ⟨⟨y, e2⟩, h3, hm⟩ := Option.bind_eq_some_iff.mp hm
  obtain ⟨⟨u', z⟩, h4, hm⟩ := Option.map_eq_some_iff.mp hm
  cases hm
  have ht := hft _ _ _ h4
  obtain ⟨R1, x1⟩ := g1.rel R
  obtain ⟨G, hG⟩ := L_get R1 hw hv hA
  obtain ⟨v0', hv', ow⟩ := R1.own hw
  rw [hv] at hv'
  cases hv'
  refine ⟨tag_ty hG ht hT, I1, e.set p.1 none, _, R1.drop, y, e2, h3, fun yv I2 F2 H2 R2 x2 ry => ?_⟩
  have o2 := ow.step x2
  have R3 := R2.put (i := p.1) o2
  rw [set_id hv] at R3
  have hl : p.1 < e2.length := by rw [R2.len]; exact (List.getElem?_eq_some_iff.mp hv).1
  have hw2 : (e2.set p.1 (some w))[p.1]? = some (some w) := List.getElem?_set_self hl
  have xx : Ext Fs I H (putF F2 p.1 (Fs p.1)) I2 H2 := (x1.trans (Ext.drop Ext.refl |>.trans x2)).put fun a ha => .inl ⟨p.1, ha⟩
  have hA2 : At H2 w v0 p.2 u1 v := hA.frame p.2 ow.ro fun a ha o ho nt => x2.g.fr a o ho (ow.dj a ha) nt
  refine met_step hf hT R3 xx hw2 hv hsb hA2 (RpL.cons ry RpL.nil) h4 (fun v' Fs' H' R' x' rz => ?_) ht
  have e1 : putE (e2.set p.1 (some w)) p u' = e2.set p.1 (some (w.put p.2 u')) := by
    unfold putE
    rw [hw2]
    exact List.set_set ..
  rw [e1] at R'
  exact k v' I2 Fs' H' R' x' rz
end

/-! ### what is asked of owned things -/
/-- k in d -/
def vInD (neg : Bool) (g : P D) (f : P Pth) : P D := fun e => (g e).bind fun d => (keyD d).bind fun k => (f e).bind fun p => match atE e p with
  | some (.od es) => some (.bool (if neg then !(valW es k).isSome else (valW es k).isSome))
  | _ => none
theorem RoK.val {K : PySem.W.Frag} {mg : Str → Option Value} {I H : Hp} {ws : List (Key × W)} {xs : List (Key × V)} {F : List Addr} {k : Key} (h : RoK K mg I H ws xs F) : (valV xs k).isSome = (valW ws k).isSome := by
  have : ∀ ws : List (Key × W), (ws.any fun q => decide (q.1 = k)) = (valW ws k).isSome := by
    intro ws
    induction ws with
    | nil => rfl
    | cons q ws ih =>
      by_cases hq : q.1 = k
      · simp [valW, hq]
      · simp [valW, List.find?_cons, hq] at ih ⊢
        exact ih
  rw [← valV_any, h.any, this]
section
variable {X : Cx} {o b : Expr} {f : P Pth} {g : P D} {pos : Pos}
theorem ind_run {K : PySem.W.Frag} {mg : Str → Option Value} {neg : Bool} {σ : L2.St} {H : Hp} {Q : VK} (h : tV K mg (vInD neg g f) σ H Q) : tV K mg g σ H fun y H1 => tL K mg f σ H1 fun x H2 => ∃ a r, x = .ref a ∧ DGet H2 a y r ∧ Q (.bl (if neg then !r.isSome else r.isSome)) H2 := by
  obtain ⟨I, e, Fs, R, d, hm, k⟩ := h
  obtain ⟨dk, h1, hm⟩ := Option.bind_eq_some_iff.mp hm
  obtain ⟨ky, h2, hm⟩ := Option.bind_eq_some_iff.mp hm
  obtain ⟨p, h3, hm⟩ := Option.bind_eq_some_iff.mp hm
  refine ⟨I, e, Fs, R, dk, h1, fun y I1 H1 g1 ry => ?_⟩
  obtain ⟨R1, x1⟩ := g1.rel R
  refine ⟨I1, e, Fs, R1, p, h3, fun v I2 H2 w v0 u g2 hw hv hs hA => ?_⟩
  rw [atE_of (u := u) hw, hs] at hm
  cases u with
  | od es =>
    cases hm
    obtain ⟨R2, x2⟩ := g2.rel R1
    obtain ⟨G, hG⟩ := L_get R2 hw hv hA
    simp only [Ro] at hG
    obtain ⟨a, kvs, G1, rfl, ha, _, hF⟩ := hG
    refine ⟨a, _, rfl, by rw [keyD_v h2 ry]; exact DGet.k ha, ?_⟩
    rw [hF.val]
    exact k _ I2 H2 (.more g1 g2) rp_bool
  | _ => cases hm
theorem sv_inD (hu : X.A.units + 1 < cLine) (hb : SV X b g) (ho : SL X o f) (hm : behindInMarks .In o = false := by first | rfl | with_unfolding_all rfl) : SV X (.Compare b [.In] [o] pos) (vInD false g f) :=
  PE.imp (pe_cmp (pc_din hu hb ho) hm) fun σ H Q h => ind_run h
theorem sv_notInD (hu : X.A.units + 1 < cLine) (hb : SV X b g) (ho : SL X o f) (hm : behindInMarks .NotIn o = false := by first | rfl | with_unfolding_all rfl) : SV X (.Compare b [.NotIn] [o] pos) (vInD true g f) :=
  PE.imp (pe_cmp (pc_dnotin hu hb ho) hm) fun σ H Q h => ind_run h
end
/-- the numbers in order -/
def insI (i : Int) : List Int → List Int
  | [] => [i]
  | j :: r => if i ≤ j then i :: j :: r else j :: insI i r
def isort : List Int → List Int
  | [] => []
  | i :: r => insI i (isort r)
theorem insI_perm (i : Int) : ∀ r, (insI i r).Perm (i :: r)
  | [] => List.Perm.refl _
  | j :: r => by
    unfold insI
    split
    · exact List.Perm.refl _
    · exact ((insI_perm i r).cons j).trans (List.Perm.swap i j r)
theorem isort_perm : ∀ r, (isort r).Perm r
  | [] => List.Perm.refl _
  | i :: r => (insI_perm i _).trans ((isort_perm r).cons i)
theorem insI_sorted (i : Int) : ∀ {r}, r.Pairwise (· ≤ ·) → (insI i r).Pairwise (· ≤ ·)
  | [], _ => by simp [insI]
  | j :: r, h => by
    unfold insI
    rw [List.pairwise_cons] at h
    split
    · rename_i hij
      rw [List.pairwise_cons]
      refine ⟨fun k hk => ?_, List.pairwise_cons.mpr h⟩
      rcases List.mem_cons.mp hk with rfl | hk
      · exact hij
      · exact Int.le_trans hij (h.1 k hk)
    · rename_i hij
      rw [List.pairwise_cons]
      refine ⟨fun k hk => ?_, insI_sorted i h.2⟩
      rcases List.mem_cons.mp ((insI_perm i r).subset hk) with rfl | hk
      · omega
      · exact h.1 k hk
theorem isort_sorted : ∀ r, (isort r).Pairwise (· ≤ ·)
  | [] => List.Pairwise.nil
  | i :: r => insI_sorted i (isort_sorted r)
theorem sorted_uniq : ∀ {a b : List Int}, a.Perm b → a.Pairwise (· ≤ ·) → b.Pairwise (· ≤ ·) → a = b
  | [], b, p, _, _ => (List.Perm.nil_eq p)
  | x :: a, [], p, _, _ => by have := p.length_eq; simp at this
  | x :: a, y :: b, p, ha, hb => by
    rw [List.pairwise_cons] at ha hb
    have h1 : x ≤ y := by
      rcases List.mem_cons.mp (p.symm.subset (by simp : y ∈ y :: b)) with z | z
      · omega
      · exact ha.1 y z
    have h2 : y ≤ x := by
      rcases List.mem_cons.mp (p.subset (by simp : x ∈ x :: a)) with z | z
      · omega
      · exact hb.1 x z
    have e : x = y := by omega
    subst e
    rw [sorted_uniq (List.Perm.cons_inv p) ha.2 hb.2]
theorem sorted_is {a b : List Int} (p : a.Perm b) (h : a.Pairwise (· ≤ ·)) : a = isort b := sorted_uniq (p.trans (isort_perm b).symm) h (isort_sorted b)
def intsD : List D → Option (List Int)
  | [] => some []
  | .int i :: r => (intsD r).map (i :: ·)
  | _ => none
theorem ints_v {K : PySem.W.Frag} {mg : Str → Option Value} {I : Hp} : ∀ {ds : List D} {ns : List Int} {xs : List V}, intsD ds = some ns → RpL K mg I ds xs → xs = ns.map V.int
  | [], ns, xs, h, r => by cases h; simp only [RpL] at r; exact r
  | .int b :: ds, ns, xs, h, r => by
    simp only [RpL] at r
    obtain ⟨x, t, rfl, h1, h2⟩ := r
    obtain ⟨cs, h3, rfl⟩ := Option.map_eq_some_iff.mp (show (intsD ds).map (b :: ·) = some ns from h)
    simp only [Rp] at h1
    rw [h1, ints_v h3 h2]
    rfl
  | .none :: _, _, _, h, _ => by cases h
  | .bool _ :: _, _, _, h, _ => by cases h
  | .str _ :: _, _, _, h, _ => by cases h
  | .lst _ :: _, _, _, h, _ => by cases h
  | .fl _ :: _, _, _, h, _ => by cases h
  | .tup _ :: _, _, _, h, _ => by cases h
  | .dict _ :: _, _, _, h, _ => by cases h
  | .inst _ _ :: _, _, _, h, _ => by cases h
theorem rpl_ints {K : PySem.W.Frag} {mg : Str → Option Value} {I : Hp} : ∀ ns : List Int, RpL K mg I (ns.map D.int) (ns.map V.int)
  | [] => RpL.nil
  | n :: ns => RpL.cons rp_int (rpl_ints ns)
def keysI : List (Key × W) → Option (List Int)
  | [] => some []
  | (.inl i, _) :: r => (keysI r).map (i :: ·)
  | _ => none
theorem keysI_ok {K : PySem.W.Frag} {mg : Str → Option Value} {I H : Hp} : ∀ {ws : List (Key × W)} {xs : List (Key × V)} {F : List Addr} {ks : List Int}, RoK K mg I H ws xs F → keysI ws = some ks → xs.map (·.1) = ks.map Sum.inl
  | [], xs, F, ks, h, e => by cases e; simp only [RoK] at h; obtain ⟨rfl, rfl⟩ := h; rfl
  | (.inl i, w) :: ws, xs, F, ks, h, e => by
    obtain ⟨cs, e1, rfl⟩ := Option.map_eq_some_iff.mp (show (keysI ws).map (i :: ·) = some ks from e)
    simp only [RoK] at h
    obtain ⟨x, r, F1, F2, rfl, rfl, h1, h2⟩ := h
    simp [keysI_ok h2 e1]
  | (.inr _, w) :: ws, xs, F, ks, h, e => by cases e
/-- sorted(d), d's keys ints -/
def wSortD : W → Option D
  | .od es => (keysI es).bind fun ks => if ks.length < 64 then some (.lst ((isort ks).map .int)) else none
  | _ => none
theorem obs_sortD {X : Cx} (hc : X.calm = true) : ∃ r, CallR X (.builtin "sorted") r ∧ ObsW X.K X.mg (fun v => r [v]) wSortD := by
  refine ⟨_, call_sortedDI hc, fun I H u z v G Q s h e k => ?_⟩
  unfold wSortD at e
  split at e
  · obtain ⟨ks, e1, e⟩ := Option.bind_eq_some_iff.mp e
    split at e
    · rename_i hz
      cases e
      simp only [Ro] at h
      obtain ⟨a, kvs, G1, rfl, ha, _, hF⟩ := h
      refine ⟨a, kvs, ks, rfl, .inl ha, keysI_ok hF e1, hz, fun ys p hp hs hn => ?_⟩
      rw [sorted_is hp hs]
      exact k _ _ _ (.new p _ hn) (rp_lst s hn (rpl_ints _))
    · cases e
  · cases e
theorem sv_sortD {X : Cx} {o : Expr} {f : P Pth} {p pos : Pos} (hc : X.calm = true) (hg : Gl X "sorted") (hm : X.mg "sorted" = none) (ho : SL X o f) (hs : starEach [o] X.env = (false, eval o X.env) :: starEach [] X.env := by rfl) : SV X (.Call (.Name "sorted" p) [o] [] pos) (vObs wSortD f) := by
  obtain ⟨r, h1, h2⟩ := obs_sortD hc
  exact sv_obsB h1 h2 hg hm (by rfl) ho (by decide) (by decide) hs
/-- sorted of a list of ints -/
def fSortI : List D → Option D
  | [.lst ds] => (intsD ds).bind fun ns => if ns.length < 64 then some (.lst ((isort ns).map .int)) else none
  | _ => none
theorem cd_sortI {X : Cx} : CallD X.K X.mg (rSorted X.K) fSortI := by
  intro I H ds z vs Q s r e k
  unfold fSortI at e
  split at e
  · obtain ⟨ns, e1, e⟩ := Option.bind_eq_some_iff.mp e
    split at e
    · rename_i hz
      cases e
      obtain ⟨v, rfl, h⟩ := r.one
      simp only [Rp] at h
      obtain ⟨a, xs, rfl, h1, h2⟩ := h
      have := ints_v e1 h2
      subst this
      refine ⟨a, ns, rfl, .of (s _ _ h1), hz, fun ys p hp hs hn => ?_⟩
      rw [sorted_is hp hs]
      exact k _ _ _ (.new p _ hn) (rp_lst s hn (rpl_ints _))
    · cases e
  · cases e
/-- tuple(x) -/
def fTuple : List D → Option D
  | [.lst ds] => some (.tup ds)
  | [.fl ds] => some (.tup ds)
  | [.tup ds] => some (.tup ds)
  | _ => none
theorem cd_tuple {K : PySem.W.Frag} {mg : Str → Option Value} : CallD K mg (fun xs H Q => ∃ p ys, xs = [.ref p] ∧ ((SqL K H p ys ∧ ∀ l, H l = none → Q (.ref l) (upd H l (.tup ys))) ∨ (SqT K H p ys ∧ Q (.ref p) H))) fTuple := by
  intro I H ds z vs Q s r e k
  unfold fTuple at e
  split at e
  · cases e
    obtain ⟨v, rfl, h⟩ := r.one
    simp only [Rp] at h
    obtain ⟨a, xs, rfl, h1, h2⟩ := h
    exact ⟨a, xs, rfl, .inl ⟨.of (s _ _ h1), fun l hl => k _ _ _ (.new l _ hl) (rp_tup s hl h2)⟩⟩
  · cases e
    obtain ⟨v, rfl, h⟩ := r.one
    simp only [Rp] at h
    obtain ⟨a, xs, rfl, h1, h2⟩ := h
    exact ⟨a, xs, rfl, .inl ⟨ex_l s h1, fun l hl => k _ _ _ (.new l _ hl) (rp_tup s hl h2)⟩⟩
  · cases e
    obtain ⟨v, rfl, h⟩ := r.one
    have h' := h
    simp only [Rp] at h
    obtain ⟨a, xs, rfl, h1, h2⟩ := h
    exact ⟨a, xs, rfl, .inr ⟨ex_t s h1, k _ _ _ .same h'⟩⟩
  · cases e
/-- list(range(n)), list(range(a, b)) -/
def mListRg (f : D → Option (Int × Int)) (m : M D) : M D := fun e => (m e).bind fun x => (f x.1).bind fun q => if -1000000 ≤ q.1 ∧ q.1 ≤ 1000000 ∧ -1000000 ≤ q.2 ∧ q.2 ≤ 1000000 then some (.lst (rngD q.1 (q.2 - q.1).toNat), x.2) else none
theorem rpl_rng {K : PySem.W.Frag} {mg : Str → Option Value} {I : Hp} (a b : Int) : RpL K mg I (rngD a (b - a).toNat) (rgV a b) := by
  unfold rngD rgV
  generalize List.range (b - a).toNat = l
  induction l with
  | nil => exact RpL.nil
  | cons n ns ih => exact RpL.cons rp_int ih
def rg1 : D → Option (Int × Int)
  | .int n => some (0, n)
  | _ => none
theorem se_listRg1 {X : Cx} {a : Expr} {m : M D} {p p2 pos pos2 : Pos} (hc : X.calm = true) (hg : Gl X "list") (hm : X.mg "list" = none) (hg2 : Gl X "range") (hm2 : X.mg "range" = none) (ha : SE X a m)
    (na : starEach [a] X.env = (false, eval a X.env) :: starEach [] X.env := by rfl) (nb : starEach [.Call (.Name "range" p2) [a] [] pos2] X.env = (false, eval (.Call (.Name "range" p2) [a] [] pos2) X.env) :: starEach [] X.env := by rfl) :
    SE X (.Call (.Name "list" p) [.Call (.Name "range" p2) [a] [] pos2] [] pos) (mListRg rg1 m) := PE.imp (pe_listRg hc hg hm (prg_1 hg2 hm2 ha na) nb) fun σ H Q ⟨I, e, Fs, R, d, e', hm, k⟩ => by
  obtain ⟨⟨x, e1⟩, h1, hm⟩ := Option.bind_eq_some_iff.mp hm
  obtain ⟨⟨lo, hi⟩, h2, hm⟩ := Option.bind_eq_some_iff.mp hm
  have hm : (if -1000000 ≤ lo ∧ lo ≤ 1000000 ∧ -1000000 ≤ hi ∧ hi ≤ 1000000 then some (D.lst (rngD lo (hi - lo).toNat), e1) else none) = some (d, e') := hm
  split at hm
  · rename_i hz
    cases hm
    cases x with
    | int n =>
      cases h2
      refine ⟨I, e, Fs, R, .int hi, _, h1, fun v I1 F1 H1 R1 x1 r1 => ?_⟩
      simp only [Rp] at r1
      subst r1
      refine ⟨_, rfl, ⟨by omega, by omega, by omega, by omega, by omega⟩, fun q hq => ?_⟩
      obtain ⟨R2, x2⟩ := (Gr.new q (.lst (rgV 0 hi)) hq : Gr I1 H1 _ _).rel R1
      exact k _ _ F1 _ R2 (x1.trans x2) (rp_lst R1.sub hq (rpl_rng 0 hi))
    | _ => cases h2
  · cases hm
end MV

namespace MV
open PySem L2
variable [TB]
theorem _root_.L2.Room.u1 {k : Nat} {A : Around} (r : Room k A) : A.units + 1 < cLine := by have := r.un; omega
theorem hfld {K : PySem.W.Frag} {mg : Str → Option Value} {c f : Str} {A : Addr} (h : mg c = some (.ref A)) (h1 : Cls K A) (h2 : NoAttr K A f) : ∀ C, mg c = some (.ref C) → Cls K C ∧ NoAttr K C f := fun C e => by
  rw [h] at e
  cases e
  exact ⟨h1, h2⟩
/-- a place named by an expression is frozen, then s -/
def sFzL (lf : P Pth) (s : S) : S := fun e => (lf e).bind fun p => sFz p s e
theorem ss_fzL {X : Cx} {A : Nat → Bool} {Wx : WX} {st : Stmt} {m : S} (lf : P Pth) (h : SS X A Wx st m) : SS X A Wx st (sFzL lf m) := ⟨fun pins s σ H D I ⟨I0, e, Fs, R, r, hm, k⟩ => by
  obtain ⟨p, h1, hm⟩ := Option.bind_eq_some_iff.mp hm
  exact (ss_fz p h).run pins s σ H D I ⟨I0, e, Fs, R, r, hm, k⟩⟩
theorem st_inD {X : Cx} {o b : Expr} {f : P Pth} {g : P D} {pos : Pos} (hu : X.A.units + 1 < cLine) (hb : SV X b g) (ho : SL X o f) (hm : behindInMarks .In o = false := by first | rfl | with_unfolding_all rfl) : ST X (.Compare b [.In] [o] pos) (mBool (mV (vInD false g f))) :=
  PT.imp (pt_cmp (pc_din hu hb ho) hm) fun σ H Q h => by
    obtain ⟨I, e, Fs, R, c, e', h1, k⟩ := h
    obtain ⟨⟨d, e1⟩, h2, h3⟩ := Option.bind_eq_some_iff.mp h1
    obtain ⟨d', h4, h5⟩ := Option.map_eq_some_iff.mp h2
    cases h5
    cases d with
    | bool b' =>
      cases h3
      refine ind_run (neg := false) (Q := fun x H1 => ∃ c, x = .bl c ∧ Q c H1) ⟨I, e, Fs, R, _, h4, fun v I' H' g r => ?_⟩
      simp only [Rp] at r
      subst r
      obtain ⟨R', x'⟩ := g.rel R
      exact ⟨_, rfl, k I' Fs H' R' x'⟩
    | _ => cases h3
theorem st_notInD {X : Cx} {o b : Expr} {f : P Pth} {g : P D} {pos : Pos} (hu : X.A.units + 1 < cLine) (hb : SV X b g) (ho : SL X o f) (hm : behindInMarks .NotIn o = false := by first | rfl | with_unfolding_all rfl) : ST X (.Compare b [.NotIn] [o] pos) (mBool (mV (vInD true g f))) :=
  PT.imp (pt_cmp (pc_dnotin hu hb ho) hm) fun σ H Q h => by
    obtain ⟨I, e, Fs, R, c, e', h1, k⟩ := h
    obtain ⟨⟨d, e1⟩, h2, h3⟩ := Option.bind_eq_some_iff.mp h1
    obtain ⟨d', h4, h5⟩ := Option.map_eq_some_iff.mp h2
    cases h5
    cases d with
    | bool b' =>
      cases h3
      refine ind_run (neg := true) (Q := fun x H1 => ∃ c, x = .bl c ∧ Q c H1) ⟨I, e, Fs, R, _, h4, fun v I' H' g r => ?_⟩
      simp only [Rp] at r
      subst r
      obtain ⟨R', x'⟩ := g.rel R
      exact ⟨_, rfl, k I' Fs H' R' x'⟩
    | _ => cases h3
/-! ### a, b = x, y by a tuple -/
def tgsN : List Nat → TGs
  | [] => gNil
  | i :: is => gCons (gName i) (tgsN is)
theorem tgsN_run : ∀ (is : List Nat) (vs : List V) (σ : L2.St) (H : Hp) (Q : L2.St → Hp → Prop), vs.length = is.length → Q (setV is vs σ) H → tgsN is vs σ H Q
  | [], [], σ, H, Q, h, q => ⟨rfl, q⟩
  | i :: is, v :: vs, σ, H, Q, h, q => ⟨v, vs, rfl, tgsN_run is vs _ H Q (by simpa using h) q⟩
  | [], _ :: _, σ, H, Q, h, q => by simp at h
  | _ :: _, [], σ, H, Q, h, q => by simp at h
theorem ss_parT {X : Cx} {A : Nat → Bool} {Wx : WX} {ts es : List Expr} {is : List Nat} {m : M (List W)} {pt pt2 pos : Pos} {kt k2 : Nat} (hA : is.all A = true) (hc : X.calm = true) (hg : PGs X ts (tgsN is)) (ha : SAW X Wx es m)
    (hn : (assignEach ts X.env).length = is.length := by rfl) (hst : (assignEach ts X.env).findIdx? (·.1) = none := by rfl)
    (hs : swapsWithSole [.Tuple ts kt pt] (.Tuple es k2 pt2) pos.line X.env = pure false := by rfl) (hw : swappedStores [.Tuple ts kt pt] (.Tuple es k2 pt2) X.env = pure none := by rfl)
    (h1 : (assignEach [.Tuple ts kt pt] X.env).map (·.2) = [assign (.Tuple ts kt pt) X.env] := by rfl) (hz : is.length ≤ 1000 := by decide) :
    SS X A Wx (.Assign [.Tuple ts kt pt] (.Tuple es k2 pt2) pos) (sPar is m) := PS.imp (ps_asg (pe_tup ha) (pg_tup (n := is.length) hc hg hn hst) hs hw h1) fun Dd σ H h => by
  obtain ⟨I, e, Fs, R, ws, e1, h1, k, kx⟩ := par_run (fun i hi => List.all_eq_true.mp hA i hi) h
  refine ⟨I, e, Fs, R, ws, e1, h1, fun vs I1 F1 H1 Gs R1 x1 ol hG => ?_, kx⟩
  obtain ⟨hl, kk⟩ := k vs I1 F1 H1 Gs R1 x1 ol hG
  refine ⟨by rw [hl, sizeLine_eq]; omega, fun p hp => ⟨p, vs, rfl, .of upd_same, hl, tgsN_run is vs σ _ _ hl (kk _ (.inl ⟨p, _, hp, rfl⟩))⟩⟩
/-! ### x op= e, x a name -/
def sAug (i : Nat) (f : D → D → Option D) (m : M D) : S := fun e => match e[i]? with
  | some (some (.p x)) => (m e).bind fun y => (f x y.1).map fun z => .nx (y.2.set i (some (.p z)))
  | _ => none
theorem ss_aug {X : Cx} {A : Nat → Bool} {Wx : WX} {op : Operator} {g : Int → Int → Int} {i : Nat} {x : Str} {a : Expr} {m : M D} {pos pos' : Pos} (hp : PIp X op (ipI g)) (hA : A i = true) (hN : X.N.Nodup) (hi : X.N[i]? = some x) (hx : Loc X.env.scope x) (ha : SE X a m) (hf : X.fn x = true ∨ X.env.scope.names.lookup x = some .local := by first | exact .inl rfl | exact .inr rfl | assumption) :
    SS X A Wx (.AugAssign (.Name x pos') op a pos) (sAug i (dI fun p q => some (.int (g p q))) m) := PS.imp (ps_aug hN hi hx ha hp hf) fun Dd σ H ⟨I, e, Fs, R, r, hm, k⟩ => by
  unfold sAug at hm
  split at hm
  · rename_i d hd
    obtain ⟨⟨y, e1⟩, h1, hm⟩ := Option.bind_eq_some_iff.mp hm
    obtain ⟨z, h2, hm⟩ := Option.map_eq_some_iff.mp hm
    cases hm
    obtain ⟨v, hv, ro⟩ := R.at_ i _ hd
    simp only [Ro] at ro
    refine ⟨v, hv, I, e, Fs, R, y, e1, h1, fun u I1 F1 H1 R1 x1 r1 => ?_⟩
    cases d with
    | int p =>
      cases y with
      | int q =>
        cases h2
        simp only [Rp] at ro r1
        refine ⟨p, q, ro.1, r1, k _ I1 _ H1 (R1.put (F := []) (.pure (d := .int (g p q)) rp_int)) (x1.put fun b hb => ?_) (Agr.refl.set hA)⟩
        cases hb
      | _ => cases h2
    | _ => cases h2
  · cases hm
/-! ### what is walked: a list or a tuple -/
def iSeq (m : M D) : M (List D) := fun e => (m e).bind fun x => match x.1 with
  | .lst ds => some (ds, x.2)
  | .fl ds => some (ds, x.2)
  | .tup ds => some (ds, x.2)
  | _ => none
theorem si_seq {X : Cx} {tg a : Expr} {m : M D} (h : SE X a m) : SI X tg a (iSeq m) := ⟨fun pins s σ H R I hq => by
  obtain ⟨I0, e, Fs, R0, ds, e', hm, k⟩ := hq
  obtain ⟨⟨d, e1⟩, h1, hm⟩ := Option.bind_eq_some_iff.mp hm
  cases d with
  | lst xs => cases hm; exact (si_list (tg := tg) h).run pins s σ H R I ⟨I0, e, Fs, R0, ds, _, by unfold iLst; rw [h1]; rfl, k⟩
  | fl xs => cases hm; exact (si_list (tg := tg) h).run pins s σ H R I ⟨I0, e, Fs, R0, ds, _, by unfold iLst; rw [h1]; rfl, k⟩
  | tup xs => cases hm; exact (si_tup (tg := tg) h).run pins s σ H R I ⟨I0, e, Fs, R0, ds, _, by unfold iTpl; rw [h1]; rfl, k⟩
  | _ => cases hm⟩
end MV

namespace MV
open PySem L2
/-! ### evaluation: the pure part, places, owned things -/
section
variable {e : Env} {d x y : D} {i j k : Nat} {f g : P D} {lf : P Pth} {p : Pth} {w u : W} {c fl : Str} {st : List Stp}
@[simp] theorem ev_mV : mV f e = retK (f e) e := by unfold mV retK; cases f e <;> rfl
def vrK : Option (Option W) → Option D
  | some (some (.p d)) => some d
  | _ => none
@[simp] theorem ev_vVar : vVar i e = vrK e[i]? := by unfold vVar vrK; rcases e[i]? with _ | _ | w <;> first | rfl | (cases w <;> rfl)
@[simp] theorem vrK_s : vrK (some (some (.p d))) = some d := rfl
@[simp] theorem ev_vC : vC d e = some d := rfl
def v2K (h : D → D → Option D) : Option D → Option D → Option D
  | some x, some y => h x y
  | _, _ => none
@[simp] theorem ev_vOp {h : D → D → Option D} : vOp h f g e = v2K h (f e) (g e) := by unfold vOp v2K; rcases f e with _ | x <;> rcases g e with _ | y <;> rfl
@[simp] theorem v2K_s {h : D → D → Option D} : v2K h (some x) (some y) = h x y := rfl
@[simp] theorem ev_vUn {h : D → Option D} : vUn h f e = (f e).bind h := rfl
@[simp] theorem ev_vaNil : vaNil e = some [] := rfl
@[simp] theorem ev_vaCons {r : P (List D)} : vaCons f r e = (f e).bind fun x => (r e).map fun y => x :: y := rfl
@[simp] theorem ev_vDisp {h : List D → Option D} {r : P (List D)} : vDisp h r e = (r e).bind h := rfl
def at1 (st : List Stp) : Option (Option W) → Option W
  | some (some w) => w.sub st
  | _ => none
@[simp] theorem ev_atE : atE e p = at1 p.2 e[p.1]? := by unfold atE at1; rcases e[p.1]? with _ | _ | w <;> rfl
@[simp] theorem at1_s : at1 st (some (some w)) = w.sub st := rfl
def put1 (e : Env) (p : Pth) (u : W) : Option (Option W) → Env
  | some (some w) => e.set p.1 (some (w.put p.2 u))
  | _ => e
@[simp] theorem ev_putE : putE e p u = put1 e p u e[p.1]? := by unfold putE put1; rcases e[p.1]? with _ | _ | w <;> rfl
@[simp] theorem put1_s : put1 e p u (some (some w)) = e.set p.1 (some (w.put p.2 u)) := rfl
@[simp] theorem sub_nil : w.sub [] = some w := by cases w <;> rfl
@[simp] theorem put_nil : w.put [] u = u := by cases w <;> rfl
def lnK (i : Nat) : Option (Option W) → Option Pth
  | some (some _) => some (i, [])
  | _ => none
@[simp] theorem ev_lName : lName i e = lnK i e[i]? := by unfold lName lnK; rcases e[i]? with _ | _ | w <;> rfl
@[simp] theorem lnK_s : lnK i (some (some w)) = some (i, []) := rfl
def rdK (e : Env) : Option Pth → Option D
  | some p => rd1 (atE e p)
  | none => none
where rd1 : Option W → Option D
  | some (.p d) => some d
  | _ => none
@[simp] theorem ev_vRead : vRead lf e = rdK e (lf e) := by
  unfold vRead rdK
  rcases lf e with _ | p
  · rfl
  · simp only [Option.bind_some, rdK.rd1] <;> rcases atE e p with _ | w <;> first | rfl | (cases w <;> rfl)
@[simp] theorem rdK_s : rdK e (some p) = rdK.rd1 (atE e p) := rfl
@[simp] theorem rd1_s : rdK.rd1 (some (.p d)) = some d := rfl
-- append to a name
def apK (i : Nat) (mw : M W) (e : Env) : Option (Option W) → Option (W × Env)
  | some (some (.ol _)) => ap2 i (mw e)
  | _ => none
where
  ap2 (i : Nat) : Option (W × Env) → Option (W × Env)
  | some x => ap3 i x.1 x.2
  | none => none
  ap3 (i : Nat) (w : W) (e : Env) : Option (W × Env) := match w with
  | .ex y => some (.ex y, e)
  | w => ap4 i w e e[i]?
  ap4 (i : Nat) (w : W) (e : Env) : Option (Option W) → Option (W × Env)
  | some (some (.ol ws)) => if ws.length < 1000000 then some (.p .none, e.set i (some (.ol (ws ++ [w])))) else none
  | _ => none
@[simp] theorem ev_appO {mw : M W} : mAppO i mw e = apK i mw e e[i]? := by
  unfold mAppO apK
  rcases e[i]? with _ | _ | w0
  · rfl
  · rfl
  · cases w0 with
    | ol ws =>
      simp only [apK.ap2]
      rcases mw e with _ | ⟨w1, e1⟩
      · rfl
      · simp only [Option.bind_some, apK.ap3]
        cases w1 with
        | ex y => rfl
        | _ =>
          simp only [apK.ap4] <;> rcases e1[i]? with _ | _ | w2 <;> first | rfl | (cases w2 <;> rfl)
    | _ => rfl
@[simp] theorem apK_s {mw : M W} {ws : List W} : apK i mw e (some (some (.ol ws))) = apK.ap2 i (mw e) := rfl
@[simp] theorem ap2_s {w : W} : apK.ap2 i (some (w, e)) = apK.ap3 i w e := rfl
@[simp] theorem ap3_p : apK.ap3 i (.p d) e = apK.ap4 i (.p d) e e[i]? := rfl
@[simp] theorem ap3_ol {ws : List W} : apK.ap3 i (.ol ws) e = apK.ap4 i (.ol ws) e e[i]? := rfl
@[simp] theorem ap4_s {ws : List W} : apK.ap4 i w e (some (some (.ol ws))) = if ws.length < 1000000 then some (.p .none, e.set i (some (.ol (ws ++ [w])))) else none := rfl
-- several values
@[simp] theorem ev_wNil : wNil e = some ([], e) := rfl
def wcK (r : M (List W)) : Option (W × Env) → Option (List W × Env)
  | some x => wc2 r x.1 x.2
  | none => none
where
  wc2 (r : M (List W)) (w : W) (e : Env) : Option (List W × Env) := match w with
  | .ex y => some ([.ex y], e)
  | w => wc3 w (r e)
  wc3 (w : W) : Option (List W × Env) → Option (List W × Env)
  | some y => some (consW w y.1, y.2)
  | none => none
@[simp] theorem ev_wCons {mw : M W} {r : M (List W)} : wCons mw r e = wcK r (mw e) := by
  unfold wCons wcK
  rcases mw e with _ | ⟨w, e1⟩
  · rfl
  · simp only [Option.bind_some, wcK.wc2]
    cases w with
    | ex y => rfl
    | _ => simp only [wcK.wc3]; rcases r e1 with _ | z <;> rfl
@[simp] theorem wcK_s {r : M (List W)} : wcK r (some (w, e)) = wcK.wc2 r w e := rfl
theorem wc2_n {r : M (List W)} (h : nex w = true) : wcK.wc2 r w e = wcK.wc3 w (r e) := by cases w <;> first | rfl | cases h
@[simp] theorem wc2_p {r : M (List W)} : wcK.wc2 r (.p d) e = wcK.wc3 (.p d) (r e) := rfl
@[simp] theorem wc2_ol {r : M (List W)} {ws : List W} : wcK.wc2 r (.ol ws) e = wcK.wc3 (.ol ws) (r e) := rfl
@[simp] theorem wc2_od {r : M (List W)} {ws : List (Key × W)} : wcK.wc2 r (.od ws) e = wcK.wc3 (.od ws) (r e) := rfl
@[simp] theorem wc2_oi {r : M (List W)} {ws : List (Str × W)} : wcK.wc2 r (.oi c ws) e = wcK.wc3 (.oi c ws) (r e) := rfl
@[simp] theorem wc3_s {ws : List W} : wcK.wc3 w (some (ws, e)) = some (consW w ws, e) := rfl
@[simp] theorem consW_nil : consW w [] = [w] := rfl
@[simp] theorem consW_2 {w1 w2 : W} {ws : List W} : consW w (w1 :: w2 :: ws) = w :: w1 :: w2 :: ws := by cases w1 <;> rfl
theorem consW_1 {w1 : W} (h : nex w1 = true) : consW w [w1] = [w, w1] := by cases w1 <;> first | rfl | cases h
@[simp] theorem consW_1p : consW w [.p d] = [w, .p d] := rfl
@[simp] theorem consW_1ol {ws : List W} : consW w [.ol ws] = [w, .ol ws] := rfl
@[simp] theorem consW_1od {ws : List (Key × W)} : consW w [.od ws] = [w, .od ws] := rfl
@[simp] theorem consW_1oi {ws : List (Str × W)} : consW w [.oi c ws] = [w, .oi c ws] := rfl
@[simp] theorem onW_2 {α : Type} {w1 w2 : W} {ws : List W} {a : D → α} {b : List W → α} : onW (w1 :: w2 :: ws) a b = b (w1 :: w2 :: ws) := by cases w1 <;> rfl
@[simp] theorem onW_0 {α : Type} {a : D → α} {b : List W → α} : onW [] a b = b [] := rfl
theorem onW_1 {α : Type} {a : D → α} {b : List W → α} (h : nex w = true) : onW [w] a b = b [w] := by cases w <;> first | rfl | cases h
@[simp] theorem onW_1p {α : Type} {a : D → α} {b : List W → α} : onW [.p d] a b = b [.p d] := rfl
@[simp] theorem onW_1ol {α : Type} {ws : List W} {a : D → α} {b : List W → α} : onW [.ol ws] a b = b [.ol ws] := rfl
def parK (is : List Nat) : Option (List W × Env) → Option SR
  | some x => onW x.1 (fun y => some (.ex y x.2)) fun ws => if ws.length = is.length then some (.nx (setA is ws x.2)) else none
  | none => none
@[simp] theorem ev_par {is : List Nat} {m : M (List W)} : sPar is m e = parK is (m e) := by unfold sPar parK; cases m e <;> rfl
@[simp] theorem parK_s {is : List Nat} {ws : List W} : parK is (some (ws, e)) = onW ws (fun y => some (.ex y e)) fun ws => if ws.length = is.length then some (.nx (setA is ws e)) else none := rfl
@[simp] theorem setA_c {i : Nat} {is : List Nat} {ws : List W} : setA (i :: is) (w :: ws) e = setA is ws (e.set i (some w)) := rfl
@[simp] theorem setA_n {ws : List W} : setA [] ws e = e := by cases ws <;> rfl
def olwK : Option (List W × Env) → Option (W × Env)
  | some x => onW x.1 (fun y => some (.ex y, x.2)) fun ws => if ws.length ≤ 1000000 then some (.ol ws, x.2) else none
  | none => none
@[simp] theorem ev_olW {m : M (List W)} : mOlW m e = olwK (m e) := by unfold mOlW olwK; cases m e <;> rfl
@[simp] theorem olwK_s {ws : List W} : olwK (some (ws, e)) = onW ws (fun y => some (.ex y, e)) fun ws => if ws.length ≤ 1000000 then some (.ol ws, e) else none := rfl
def tupwK : Option (List W × Env) → Option (W × Env)
  | some x => onW x.1 (fun y => some (.ex y, x.2)) fun ws => (allPW ws).bind fun ds => (fTup ds).map fun d => (.p d, x.2)
  | none => none
@[simp] theorem ev_tupW {m : M (List W)} : mTupW m e = tupwK (m e) := by unfold mTupW tupwK; cases m e <;> rfl
@[simp] theorem tupwK_s {ws : List W} : tupwK (some (ws, e)) = onW ws (fun y => some (.ex y, e)) fun ws => (allPW ws).bind fun ds => (fTup ds).map fun d => (.p d, e) := rfl
@[simp] theorem allPW_n : allPW [] = some [] := rfl
@[simp] theorem allPW_c {ws : List W} : allPW (.p d :: ws) = (allPW ws).map (d :: ·) := rfl
-- freezing
def fzK (e : Env) (s : S) : Option Pth → Option SR
  | some p => fz1 e p s (atE e p)
  | none => none
where
  fz1 (e : Env) (p : Pth) (s : S) : Option W → Option SR
  | some u => fz2 e p s (frz u)
  | none => none
  fz2 (e : Env) (p : Pth) (s : S) : Option D → Option SR
  | some d => s (putE e p (.p d))
  | none => none
@[simp] theorem ev_fzL {s : S} : sFzL lf s e = fzK e s (lf e) := by
  unfold sFzL fzK
  rcases lf e with _ | p
  · rfl
  · simp only [Option.bind_some, sFz, fzK.fz1]
    rcases atE e p with _ | u
    · rfl
    · simp only [Option.bind_some, fzK.fz2]
      rcases frz u with _ | d <;> rfl
@[simp] theorem fzK_s {s : S} : fzK e s (some p) = fzK.fz1 e p s (atE e p) := rfl
@[simp] theorem fz1_s {s : S} : fzK.fz1 e p s (some u) = fzK.fz2 e p s (frz u) := rfl
@[simp] theorem fz2_s {s : S} : fzK.fz2 e p s (some d) = s (putE e p (.p d)) := rfl
@[simp] theorem frz_p : frz (.p d) = some d := by unfold frz; rfl
theorem frzL_p : ∀ ds : List D, frzL (ds.map .p) = some ds
  | [] => by unfold frzL; rfl
  | d :: ds => by rw [List.map_cons]; unfold frzL; rw [frzL_p ds, frz_p]; rfl
@[simp] theorem frz_ol {ds : List D} : frz (.ol (ds.map .p)) = some (.lst ds) := by unfold frz; rw [frzL_p]; rfl
@[simp] theorem frz_ol0 : frz (.ol []) = some (.lst []) := frz_ol (ds := [])
-- calls of methods, making
def roK (c m : Str) (i : Nat) (r : M (List Arg)) (e : Env) : Option (Option W) → Option (List Arg × Env)
  | some (some (.oi c' gs)) => if c' = c ∧ (getFW gs m).isNone = true then ro2 i (r e) else none
  | _ => none
where ro2 (i : Nat) : Option (List Arg × Env) → Option (List Arg × Env)
  | some y => some (.io i :: y.1, y.2)
  | none => none
@[simp] theorem ev_aRO {m : Str} {r : M (List Arg)} : aRO c m i r e = roK c m i r e e[i]? := by
  unfold aRO roK
  rcases e[i]? with _ | _ | w0
  · rfl
  · rfl
  · cases w0 with
    | oi c' gs => simp only [roK.ro2]; rcases r e with _ | y <;> rfl
    | _ => rfl
@[simp] theorem roK_s {m : Str} {r : M (List Arg)} {c' : Str} {gs : List (Str × W)} : roK c m i r e (some (some (.oi c' gs))) = if c' = c ∧ (getFW gs m).isNone = true then roK.ro2 i (r e) else none := rfl
@[simp] theorem ro2_s {as : List Arg} : roK.ro2 i (some (as, e)) = some (.io i :: as, e) := rfl
def mkK1 (c : Str) (h : FSem) : Option (List Arg × Env) → Option (W × Env)
  | some x => mk2 c h x.1 (gather x.1 x.2)
  | none => none
where
  mk2 (c : Str) (h : FSem) (as : List Arg) : Option (List W × Env) → Option (W × Env)
  | some y => mk3 as y.2 (h (.oi c [] :: y.1))
  | none => none
  mk3 (as : List Arg) (e2 : Env) : Option (W × Env) → Option (W × Env)
  | some z => mkR as e2 z
  | none => none
@[simp] theorem ev_make {h : FSem} {m : M (List Arg)} : mMake c h m e = mkK1 c h (m e) := by
  unfold mMake mkK1
  rcases m e with _ | ⟨as, e1⟩
  · rfl
  · simp only [Option.bind_some, mkK1.mk2]
    rcases gather as e1 with _ | ⟨ws, e2⟩
    · rfl
    · simp only [Option.bind_some, mkK1.mk3]
      rcases h (.oi c [] :: ws) with _ | z <;> rfl
@[simp] theorem mkK1_s {h : FSem} {as : List Arg} : mkK1 c h (some (as, e)) = mkK1.mk2 c h as (gather as e) := rfl
@[simp] theorem mk2_s {h : FSem} {as : List Arg} {ws : List W} : mkK1.mk2 c h as (some (ws, e)) = mkK1.mk3 as e (h (.oi c [] :: ws)) := rfl
@[simp] theorem mk3_s {as : List Arg} {oe : Env} : mkK1.mk3 as e (some (.p .none, some w :: oe)) = some (w, scatter as oe e) := rfl
@[simp] theorem fTup_s {ds : List D} : fTup ds = if ds.length ≤ LIM then some (.tup ds) else none := rfl
end
/-! ### a list or a tuple walked -/
def sqK : Option (D × Env) → Option (List D × Env)
  | some (.lst ds, e) => some (ds, e)
  | some (.fl ds, e) => some (ds, e)
  | some (.tup ds, e) => some (ds, e)
  | _ => none
@[simp] theorem ev_iSeq {m : M D} {e : Env} : iSeq m e = sqK (m e) := by
  unfold iSeq sqK
  rcases m e with _ | ⟨d, e1⟩
  · rfl
  · cases d <;> rfl
@[simp] theorem sqK_l {ds : List D} {e : Env} : sqK (some (.lst ds, e)) = some (ds, e) := rfl
@[simp] theorem sqK_f {ds : List D} {e : Env} : sqK (some (.fl ds, e)) = some (ds, e) := rfl
@[simp] theorem sqK_t {ds : List D} {e : Env} : sqK (some (.tup ds, e)) = some (ds, e) := rfl
/-! ### loops -/
/-- by what has been done -/
theorem forRun_pre {α : Type} {tg : Tg} {b : S} (g : α → D) (P : List α → Env → Prop) (xs : List α) (hs : ∀ pre x post e, xs = pre ++ x :: post → P pre e → ∃ e1 e2, tg (g x) e = some e1 ∧ b e1 = some (.nx e2) ∧ P (pre ++ [x]) e2) :
    ∀ (e : Env), P [] e → ∃ e', forRun tg b (xs.map g) e = some (.nx e') ∧ P xs e' := by
  have : ∀ (post pre : List α) (e : Env), xs = pre ++ post → P pre e → ∃ e', forRun tg b (post.map g) e = some (.nx e') ∧ P xs e' := by
    intro post
    induction post with
    | nil => intro pre e hx hp; rw [List.append_nil] at hx; subst hx; exact ⟨e, rfl, hp⟩
    | cons x post ih =>
      intro pre e hx hp
      obtain ⟨e1, e2, h1, h2, h3⟩ := hs pre x post e hx hp
      obtain ⟨e', h4, h5⟩ := ih (pre ++ [x]) e2 (by rw [hx]; simp) h3
      exact ⟨e', by rw [List.map_cons, forRun_cons h1 h2]; exact h4, h5⟩
  exact fun e h => this xs [] e rfl h
/-- the items bear a property, the state an invariant -/
theorem forRun_mem {tg : Tg} {b : S} (P : Env → Prop) : ∀ (ds : List D) (hs : ∀ d ∈ ds, ∀ e, P e → ∃ e1 e2, tg d e = some e1 ∧ b e1 = some (.nx e2) ∧ P e2) (e : Env), P e → ∃ e', forRun tg b ds e = some (.nx e') ∧ P e'
  | [], _, e, h => ⟨e, rfl, h⟩
  | d :: ds, hs, e, h => by
    obtain ⟨e1, e2, h1, h2, h3⟩ := hs d (by simp) e h
    obtain ⟨e', h4, h5⟩ := forRun_mem P ds (fun d hd => hs d (by simp [hd])) e2 h3
    exact ⟨e', by rw [forRun_cons h1 h2]; exact h4, h5⟩
/-- a while loop by a measure -/
theorem whRun_ok {α : Type} {c : M Bool} {b : S} (E : α → Env → Prop) (mu : α → Nat) (Fin : Env → Prop) (hs : ∀ a e, E a e → (∃ e1, c e = some (false, e1) ∧ Fin e1) ∨ ∃ e1 e2 a', c e = some (true, e1) ∧ b e1 = some (.nx e2) ∧ E a' e2 ∧ mu a' < mu a) :
    ∀ (n : Nat) (a : α) (e : Env), E a e → mu a < n → ∃ e', whRun c b n e = some (.nx e') ∧ Fin e'
  | 0, a, e, _, h => by omega
  | n + 1, a, e, he, h => by
    rcases hs a e he with ⟨e1, h1, h2⟩ | ⟨e1, e2, a', h1, h2, h3, h4⟩
    · exact ⟨e1, by unfold whRun; rw [h1]; rfl, h2⟩
    · obtain ⟨e', h5, h6⟩ := whRun_ok E mu Fin hs n a' e2 h3 (by omega)
      refine ⟨e', ?_, h6⟩
      unfold whRun
      rw [h1]
      simp only [Option.bind_some, if_true, h2]
      exact h5
end MV

namespace MV
open PySem L2
variable [TB]
/-! ### what is known no more -/
def killR (is : List Nat) : SR → SR
  | .nx e => .nx (wipeE e is)
  | .ct e => .ct (wipeE e is)
  | r => r
def sKill (is : List Nat) (m : S) : S := fun e => (m e).map (killR is)
theorem Rel.kill {K : PySem.W.Frag} {mg : Str → Option Value} {I H : Hp} {e : Env} {Fs : Fp} {σ : L2.St} (R : Rel K mg I e Fs σ H) (is : List Nat) : ∃ F', Rel K mg I (wipeE e is) F' σ H ∧ ∀ a, MF F' a → MF Fs a := by
  obtain ⟨F', R', m⟩ := R.wiped is
  exact ⟨F', R'.unwiped, m⟩
theorem Ext.less {Fs F1 F2 : Fp} {I H I' H' : Hp} (x : Ext Fs I H F1 I' H') (m : ∀ a, MF F2 a → MF F1 a) : Ext Fs I H F2 I' H' := ⟨x.g, fun a h => x.fp a (m a h)⟩
theorem kill_run {K : PySem.W.Frag} {mg : Str → Option Value} {A : Nat → Bool} {Wx : WX} {is : List Nat} {m : S} {Dd : Ends} {σ : L2.St} {H : Hp} (h : tS K mg A Wx (sKill is m) Dd σ H) : tS K mg A Wx m Dd σ H := by
  obtain ⟨I, e, Fs, R, r, hm, k⟩ := h
  obtain ⟨r0, h0, rfl⟩ := Option.map_eq_some_iff.mp hm
  refine ⟨I, e, Fs, R, r0, h0, ?_⟩
  cases r0 with
  | nx e0 =>
    exact fun σ' I' Fs' H' R' x a => by
      obtain ⟨F', R2, m2⟩ := R'.kill is
      exact k σ' I' F' H' R2 (x.less m2) a
  | ct e0 =>
    exact fun σ' I' Fs' H' R' x a => by
      obtain ⟨F', R2, m2⟩ := R'.kill is
      exact k σ' I' F' H' R2 (x.less m2) a
  | rt w e0 => exact k
  | bk e0 => exact k
  | ex y e0 => exact k
theorem sb_kill {X : Cx} {A : Nat → Bool} {Wx : WX} {st : List Stmt} {m : S} (is : List Nat) (h : SB X A Wx st m) : SB X A Wx st (sKill is m) := PSs.imp h fun Dd σ H q => kill_run q
def kilK (is : List Nat) : Option SR → Option SR
  | some r => some (killR is r)
  | none => none
@[simp] theorem ev_kill {is : List Nat} {m : S} {e : Env} : sKill is m e = kilK is (m e) := by unfold sKill kilK; cases m e <;> rfl
@[simp] theorem kilK_nx {is : List Nat} {e : Env} : kilK is (some (.nx e)) = some (.nx (wipeE e is)) := rfl
@[simp] theorem kilK_ct {is : List Nat} {e : Env} : kilK is (some (.ct e)) = some (.ct (wipeE e is)) := rfl
@[simp] theorem kilK_rt {is : List Nat} {e : Env} {w : W} : kilK is (some (.rt w e)) = some (.rt w e) := rfl
@[simp] theorem kilK_bk {is : List Nat} {e : Env} : kilK is (some (.bk e)) = some (.bk e) := rfl
@[simp] theorem kilK_ex {is : List Nat} {e : Env} {x : D} : kilK is (some (.ex x e)) = some (.ex x e) := rfl
/-! ### a comprehension's turn -/
section
variable {own : List Nat} {tg : Tg} {c : M Bool} {m : M D} {e e1 : Env} {d : D} {b : Bool}
def lsM (own : List Nat) : Option (D × Env) → Option (Option D × Env)
  | some (y, e) => some (some y, wipeE e own)
  | none => none
def lsC (own : List Nat) (m : M D) : Option (Bool × Env) → Option (Option D × Env)
  | some (b, e) => if b = true then lsM own (m e) else some (none, wipeE e own)
  | none => none
def lsT (own : List Nat) (c : M Bool) (m : M D) : Option Env → Option (Option D × Env)
  | some e => lsC own m (c e)
  | none => none
def lcStep (own : List Nat) (tg : Tg) (c : M Bool) (m : M D) (d : D) (e : Env) : Option (Option D × Env) := lsT own c m (tg d e)
@[simp] theorem lsM_s : lsM own (some (d, e)) = some (some d, wipeE e own) := rfl
@[simp] theorem lsC_s : lsC own m (some (b, e)) = cond b (lsM own (m e)) (some (none, wipeE e own)) := by cases b <;> rfl
@[simp] theorem lsT_s : lsT own c m (some e) = lsC own m (c e) := rfl
theorem lcRun_c {ds : List D} : lcRun own tg c m (d :: ds) e = (lcStep own tg c m d e).bind fun x => (lcRun own tg c m ds x.2).map fun r => (x.1.toList ++ r.1, r.2) := by
  unfold lcStep
  simp only [lcRun]
  rcases tg d e with _ | e1
  · rfl
  · simp only [Option.bind_some, lsT]
    rcases c e1 with _ | ⟨b, e2⟩
    · rfl
    · cases b with
      | true =>
        simp only [Option.bind_some, lsC, if_true]
        rcases m e2 with _ | ⟨y, e3⟩
        · rfl
        · rfl
      | false =>
        simp only [Option.bind_some, lsC]
        simp
theorem lcRun_eq {α : Type} {g : α → D} {h : α → Option D} : ∀ {xs : List α}, (∀ x ∈ xs, lcStep own tg c m (g x) e = some (h x, e)) → lcRun own tg c m (xs.map g) e = some (xs.filterMap h, e)
  | [], _ => rfl
  | x :: xs, k => by
    rw [List.map_cons, lcRun_c, k x (by simp), Option.bind_some, lcRun_eq fun y hy => k y (by simp [hy])]
    cases e : h x <;> simp [e]
theorem lcRun_mp {α : Type} {g : α → D} (f : α → D) {xs : List α} (k : ∀ x ∈ xs, lcStep own tg c m (g x) e = some (some (f x), e)) : lcRun own tg c m (xs.map g) e = some (xs.map f, e) := by
  rw [lcRun_eq (h := fun x => some (f x)) k]
  simp
theorem lcRun_ft {α : Type} {g : α → D} (f : α → D) (p : α → Bool) {xs : List α} (k : ∀ x ∈ xs, lcStep own tg c m (g x) e = some (cond (p x) (some (f x)) none, e)) : lcRun own tg c m (xs.map g) e = some ((xs.filter p).map f, e) := by
  rw [lcRun_eq (h := fun x => cond (p x) (some (f x)) none) k]
  congr 1
  congr 1
  clear k
  induction xs with
  | nil => rfl
  | cons x xs ih => cases hp : p x <;> simp [hp, ih]
/-- the state by an invariant, the results by a property -/
theorem lcRun_st {α : Type} {g : α → D} (P : List α → List D → Env → Prop) : ∀ (xs : List α), (∀ pre x post acc e, xs = pre ++ x :: post → P pre acc e → ∃ o e', lcStep own tg c m (g x) e = some (o, e') ∧ P (pre ++ [x]) (acc ++ o.toList) e') →
    ∀ e, P [] [] e → ∃ ys e', lcRun own tg c m (xs.map g) e = some (ys, e') ∧ P xs ys e' := by
  intro xs hs
  have : ∀ (post pre : List α) (acc : List D) (e : Env), xs = pre ++ post → P pre acc e → ∃ ys e', lcRun own tg c m (post.map g) e = some (ys, e') ∧ P xs (acc ++ ys) e' := by
    intro post
    induction post with
    | nil => intro pre acc e hx hp; rw [List.append_nil] at hx; subst hx; exact ⟨[], e, rfl, by rw [List.append_nil]; exact hp⟩
    | cons x post ih =>
      intro pre acc e hx hp
      obtain ⟨o, e2, h1, h2⟩ := hs pre x post acc e hx hp
      obtain ⟨ys, e', h3, h4⟩ := ih (pre ++ [x]) _ e2 (by rw [hx]; simp) h2
      exact ⟨o.toList ++ ys, e', by rw [List.map_cons, lcRun_c, h1, Option.bind_some, h3]; rfl, by rw [← List.append_assoc]; exact h4⟩
  intro e h
  obtain ⟨ys, e', h1, h2⟩ := this xs [] [] e rfl h
  exact ⟨ys, e', h1, by simpa using h2⟩
end
/-! ### a loop's turn -/
section
variable {tg : Tg} {b : S} {e : Env} {d : D}
def fsT (b : S) : Option Env → Option SR
  | some e => b e
  | none => none
def forStep (tg : Tg) (b : S) (d : D) (e : Env) : Option SR := fsT b (tg d e)
@[simp] theorem fsT_s : fsT b (some e) = b e := rfl
theorem forRun_c {ds : List D} : forRun tg b (d :: ds) e = (forStep tg b d e).bind fun r => match r with
    | .nx e2 => forRun tg b ds e2
    | .ct e2 => forRun tg b ds e2
    | .bk e2 => some (.nx e2)
    | .rt w e2 => some (.rt w e2)
    | .ex x e2 => some (.ex x e2) := by
  unfold forStep
  simp only [forRun]
  rcases tg d e with _ | e1
  · rfl
  · rfl
theorem forRun_fold {α σ : Type} {g : α → D} (E : σ → Env) (f : σ → α → σ) : ∀ (xs : List α) (s : σ), (∀ s, ∀ x ∈ xs, forStep tg b (g x) (E s) = some (.nx (E (f s x)))) → forRun tg b (xs.map g) (E s) = some (.nx (E (xs.foldl f s)))
  | [], s, _ => rfl
  | x :: xs, s, k => by
    rw [List.map_cons, forRun_c, k s x (by simp), Option.bind_some]
    exact forRun_fold E f xs (f s x) fun s y hy => k s y (by simp [hy])
theorem forRun_same {α : Type} {g : α → D} : ∀ {xs : List α}, (∀ x ∈ xs, forStep tg b (g x) e = some (.nx e)) → forRun tg b (xs.map g) e = some (.nx e)
  | [], _ => rfl
  | x :: xs, k => by rw [List.map_cons, forRun_c, k x (by simp), Option.bind_some]; exact forRun_same fun y hy => k y (by simp [hy])
/-- all or the first that is not -/
theorem forRun_all {α : Type} {g : α → D} {w : W} (p : α → Bool) : ∀ {xs : List α}, (∀ x ∈ xs, (p x = true → forStep tg b (g x) e = some (.nx e)) ∧ (p x = false → ∃ z, forStep tg b (g x) e = some (.rt w z))) →
    (xs.all p = true ∧ forRun tg b (xs.map g) e = some (.nx e)) ∨ (xs.all p = false ∧ ∃ z, forRun tg b (xs.map g) e = some (.rt w z))
  | [], _ => .inl ⟨rfl, rfl⟩
  | x :: xs, k => by
    have ih := forRun_all p (xs := xs) fun y hy => k y (by simp [hy])
    cases hp : p x with
    | true =>
      have h := (k x (by simp)).1 hp
      rw [List.map_cons, forRun_c, h, Option.bind_some, List.all_cons, hp, Bool.true_and]
      exact ih
    | false =>
      obtain ⟨z, h⟩ := (k x (by simp)).2 hp
      right
      exact ⟨by rw [List.all_cons, hp, Bool.false_and], z, by rw [List.map_cons, forRun_c, h, Option.bind_some]⟩
/-- the first that something is said of -/
theorem forRun_find {α : Type} {g : α → D} (p : α → Option W) : ∀ {xs : List α}, (∀ x ∈ xs, (p x = none → forStep tg b (g x) e = some (.nx e)) ∧ (∀ w, p x = some w → ∃ z, forStep tg b (g x) e = some (.rt w z))) →
    (xs.findSome? p = none ∧ forRun tg b (xs.map g) e = some (.nx e)) ∨ (∃ w, xs.findSome? p = some w ∧ ∃ z, forRun tg b (xs.map g) e = some (.rt w z))
  | [], _ => .inl ⟨rfl, rfl⟩
  | x :: xs, k => by
    have ih := forRun_find p (xs := xs) fun y hy => k y (by simp [hy])
    cases hp : p x with
    | none =>
      have h := (k x (by simp)).1 hp
      rw [List.map_cons, forRun_c, h, Option.bind_some, List.findSome?_cons, hp]
      exact ih
    | some w =>
      obtain ⟨z, h⟩ := (k x (by simp)).2 w hp
      right
      exact ⟨w, by rw [List.findSome?_cons, hp], z, by rw [List.map_cons, forRun_c, h, Option.bind_some]⟩
/-- what has been done, and what was done before -/
theorem forRun_st {α : Type} {g : α → D} (P : List α → Env → Prop) (xs : List α) (hs : ∀ pre x post e, xs = pre ++ x :: post → P pre e → ∃ e2, (forStep tg b (g x) e = some (.nx e2) ∨ forStep tg b (g x) e = some (.ct e2)) ∧ P (pre ++ [x]) e2) :
    ∀ (e : Env), P [] e → ∃ e', forRun tg b (xs.map g) e = some (.nx e') ∧ P xs e' := by
  have : ∀ (post pre : List α) (e : Env), xs = pre ++ post → P pre e → ∃ e', forRun tg b (post.map g) e = some (.nx e') ∧ P xs e' := by
    intro post
    induction post with
    | nil => intro pre e hx hp; rw [List.append_nil] at hx; subst hx; exact ⟨e, rfl, hp⟩
    | cons x post ih =>
      intro pre e hx hp
      obtain ⟨e2, h1, h3⟩ := hs pre x post e hx hp
      obtain ⟨e', h4, h5⟩ := ih (pre ++ [x]) e2 (by rw [hx]; simp) h3
      exact ⟨e', by rw [List.map_cons, forRun_c]; rcases h1 with h1 | h1 <;> rw [h1, Option.bind_some] <;> exact h4, h5⟩
  exact fun e h => this xs [] e rfl h
end
/-! ### conditions not known yet -/
section
variable {α : Type} {e e1 : Env} {b c : Bool} {p : Prop} [Decidable p] {x y : D}
@[simp] theorem andK_b {u : M Bool} : andK u (some (b, e)) = cond b (u e) (some (false, e)) := by cases b <;> rfl
@[simp] theorem orK_b {u : M Bool} : orK u (some (b, e)) = cond b (some (true, e)) (u e) := by cases b <;> rfl
@[simp] theorem ifK_b {f g : Env → Option α} : ifK f g (some (b, e)) = cond b (f e) (g e) := by cases b <;> rfl
@[simp] theorem chK3_b {g : D → D → Option D} {mc : M D} {y : D} : chK3 g mc y e (some (.bool b)) = cond b (opK2 g y (mc e)) (some (.bool false, e)) := by cases b <;> rfl
@[simp] theorem ite_b1 : (if p then some (b, e) else some (false, e)) = some (decide p && b, e) := by by_cases h : p <;> simp [h]
@[simp] theorem ite_b2 : (if p then some (true, e) else some (b, e)) = some (decide p || b, e) := by by_cases h : p <;> simp [h]
@[simp] theorem ite_d1 : (if p then some (D.bool b, e) else some (D.bool false, e)) = some (D.bool (decide p && b), e) := by by_cases h : p <;> simp [h]
@[simp] theorem ite_d2 : (if p then some (D.bool true, e) else some (D.bool b, e)) = some (D.bool (decide p || b), e) := by by_cases h : p <;> simp [h]
@[simp] theorem ite_o1 : (if p then some (some x, e) else some (none, e)) = some (cond (decide p) (some x) none, e) := by by_cases h : p <;> simp [h]
@[simp] theorem cond_b1 : cond c (some (b, e)) (some (false, e)) = some (c && b, e) := by cases c <;> simp
@[simp] theorem cond_b2 : cond c (some (true, e)) (some (b, e)) = some (c || b, e) := by cases c <;> simp
@[simp] theorem cond_d1 : cond c (some (D.bool b, e)) (some (D.bool false, e)) = some (D.bool (c && b), e) := by cases c <;> simp
@[simp] theorem cond_d2 : cond c (some (D.bool true, e)) (some (D.bool b, e)) = some (D.bool (c || b), e) := by cases c <;> simp
@[simp] theorem cond_o1 : cond c (some (some x, e)) (some (none, e)) = some (cond c (some x) none, e) := by cases c <;> simp
end
end MV

namespace MV
open PySem L2
variable [TB]
/-! ### [e for x in a for y in b] -/
def lc2Run (own : List Nat) (t : Tg) (c : M Bool) (mi1 : M (List D)) (vs1 : List Nat) (t1 : Tg) (c1 : M Bool) (m : M D) : List D → Env → Option (List D × Env)
  | [], e => some ([], e)
  | d :: ds, e => (t d e).bind fun e1 => (c e1).bind fun b => if b.1 = true then (mi1 b.2).bind fun x => if x.1.length ≤ 1000 then (lcRun vs1 t1 c1 m x.1 (wipeE x.2 vs1)).bind fun y => (lc2Run own t c mi1 vs1 t1 c1 m ds (wipeE y.2 own)).map fun r => (y.1 ++ r.1, r.2) else none
    else lc2Run own t c mi1 vs1 t1 c1 m ds (wipeE b.2 own)
def mLc2 (own : List Nat) (mi : M (List D)) (t : Tg) (c : M Bool) (mi1 : M (List D)) (vs1 : List Nat) (t1 : Tg) (c1 : M Bool) (m : M D) : M D := fun e => (mi e).bind fun x => if x.1.length ≤ 1000 then (lc2Run own t c mi1 vs1 t1 c1 m x.1 (wipeE x.2 own)).map fun r => (.lst r.1, r.2) else none
/-- the state of a list being made at Dd -/
structure Mk2 (K : PySem.W.Frag) (mg : Str → Option Value) (I H : Hp) (Fs : Fp) (I1 : Hp) (Dd : Addr) (τ : L2.St) (Hc : Hp) (ec : Env) (acc : List V) (dacc : List D) (I2 : Hp) (F2 : Fp) : Prop where
  rel : Rel K mg I2 ec F2 τ Hc
  ext : Ext Fs I H F2 I2 Hc
  ex : Ex I1 I2
  at_ : Hc Dd = some (.lst acc)
  nI : I2 Dd = none
  nF : ¬ MF F2 Dd
  r : RpL K mg I2 dacc acc
section
variable {K : PySem.W.Frag} {mg : Str → Option Value} {I H : Hp} {Fs : Fp} {I1 : Hp} {Dd : Addr} {τ : L2.St} {Hc : Hp} {ec : Env} {acc : List V} {dacc : List D} {I2 : Hp} {F2 : Fp}
theorem keepAt {Fa : Fp} {Ia Ha : Hp} {Fb : Fp} {Ib Hb : Hp} {o : HO} (x : Ext Fa Ia Ha Fb Ib Hb) (h1 : Ha Dd = some o) (h2 : Ia Dd = none) (h3 : ¬ MF Fa Dd) (n : NT o := by intro _ z; cases z) : Hb Dd = some o ∧ Ib Dd = none ∧ ¬ MF Fb Dd := by
  refine ⟨x.g.fr Dd o h1 h3 n, ?_, fun q => ?_⟩
  · cases q : Ib Dd with
    | none => rfl
    | some u =>
      rcases x.g.new Dd (by rw [q]; exact fun z => by cases z) with z | z | z
      · exact absurd h2 z
      · rw [h1] at z; cases z
      · exact absurd z h3
  · rcases x.fp Dd q with z | z
    · exact h3 z
    · rw [h1] at z; cases z
theorem Mk2.step (k : Mk2 K mg I H Fs I1 Dd τ Hc ec acc dacc I2 F2) {τ' : L2.St} {H' : Hp} {e' : Env} {I' : Hp} {F' : Fp} (R : Rel K mg I' e' F' τ' H') (x : Ext F2 I2 Hc F' I' H') : Mk2 K mg I H Fs I1 Dd τ' H' e' acc dacc I' F' := by
  obtain ⟨a, b, c⟩ := keepAt x k.at_ k.nI k.nF
  exact ⟨R, k.ext.trans x, k.ex.trans x.g.ex, a, b, c, k.r.mono x.g.ex _ _⟩
theorem Mk2.less (k : Mk2 K mg I H Fs I1 Dd τ Hc ec acc dacc I2 F2) {τ' : L2.St} {e' : Env} {F' : Fp} (R : Rel K mg I2 e' F' τ' Hc) (m : ∀ a, MF F' a → MF F2 a) : Mk2 K mg I H Fs I1 Dd τ' Hc e' acc dacc I2 F' :=
  ⟨R, k.ext.less m, k.ex, k.at_, k.nI, fun q => k.nF (m _ q), k.r⟩
theorem Mk2.push (hDH : MF Fs Dd ∨ H Dd = none) (k : Mk2 K mg I H Fs I1 Dd τ Hc ec acc dacc I2 F2) {z : V} {y : D} (r : Rp K mg I2 y z) : Mk2 K mg I H Fs I1 Dd τ (upd Hc Dd (.lst (acc ++ [z]))) ec (acc ++ [z]) (dacc ++ [y]) I2 F2 := by
  exact ⟨k.rel.loose2 k.nI k.nF (.lst k.at_), ⟨k.ext.g.set hDH (.lst k.at_), k.ext.fp⟩, k.ex, upd_same, k.nI, k.nF, k.r.append (RpL.cons r RpL.nil)⟩
theorem wipe_wipe {σ : L2.St} {own : List Nat} : wipe (wipe σ own) own = wipe σ own := by
  refine List.ext_getElem? fun j => ?_
  rw [wipe_get, wipe_get]
  by_cases y : j ∈ own
  · rw [if_pos y, if_pos y]
    cases σ[j]? <;> rfl
  · rw [if_neg y, if_neg y]
theorem tg_wipe {σ σ4 : L2.St} {own : List Nat} (hl : σ4.length = (wipe σ own).length) (a : Agr (ownA own) (wipe σ own) σ4) : wipe σ4 own = wipe σ own := by
  have q := wipe_agr (σ := wipe σ own) hl (by
    intro j hj
    rw [a j hj]
    rw [wipe_get (σ := wipe σ own), if_neg (by simpa [ownA] using hj)])
  rw [q, wipe_wipe]
theorem lc2_run {own vs1 : List Nat} {mi mi1 : M (List D)} {t t1 : Tg} {c c1 : M Bool} {m : M D} {σ : L2.St} {H : Hp} {Q : VK} (h : tE K mg (mLc2 own mi t c mi1 vs1 t1 c1 m) σ H Q) :
    tLc2 (tI K mg mi) (tG K mg (ownA own) t) (tT K mg c) (tI K mg mi1) (tG K mg (ownA vs1) t1) (tT K mg c1) (tE K mg m) own vs1 σ H Q := by
  obtain ⟨I, e, Fs, R, d, e', hm, k⟩ := h
  obtain ⟨⟨ds, e1⟩, h1, hm⟩ := Option.bind_eq_some_iff.mp hm
  have hm : (if ds.length ≤ 1000 then (lc2Run own t c mi1 vs1 t1 c1 m ds (wipeE e1 own)).map fun r => (D.lst r.1, r.2) else none) = some (d, e') := hm
  split at hm
  case isFalse => cases hm
  rename_i hlen
  obtain ⟨⟨ys, e2⟩, h2, hm⟩ := Option.map_eq_some_iff.mp hm
  cases hm
  refine ⟨I, e, Fs, R, ds, e1, h1, fun J I1 F1 H1 R1 x1 hJ D hD => ?_⟩
  have hsz : sizeLine = 16777216 := sizeLine_eq
  have hDH : MF Fs D ∨ H D = none := by
    cases q : H D with
    | none => exact .inr rfl
    | some u =>
      by_cases mm : MF Fs D
      · exact .inl mm
      · exfalso
        rw [x1.g.back mm hD] at q
        cases q
  refine ⟨fun i n Hc => n = ds.length - i ∧ i ≤ ds.length ∧ ∃ I2 F2 ec acc dacc rest, Mk2 K mg I H Fs I1 D (wipe σ own) Hc ec acc dacc I2 F2 ∧ dacc.length ≤ i * 1000 ∧
    lc2Run own t c mi1 vs1 t1 c1 m (ds.drop i) ec = some (rest, e2) ∧ ys = dacc ++ rest, ⟨ds.length, ?_⟩, ?_⟩
  · obtain ⟨F2, R2, m2⟩ := R1.wiped own
    have R3 := R2.loose (o := .lst []) hD
    have hI : I1 D = none := by
      cases q : I1 D with
      | none => rfl
      | some u => rw [R1.sub D u q] at hD; cases hD
    have hF : ¬ MF F2 D := fun ⟨i, hi⟩ => R2.live i D hi hD
    exact ⟨by simp, Nat.zero_le _, I1, F2, wipeE e1 own, [], [], ys, ⟨R3, ⟨⟨x1.g.ex, fun a u q mm nt => Ex.new hD a u (x1.g.fr a u q mm nt), x1.g.new, fun t => (x1.g.tb t).ext (Ex.new hD), fun a ps q mm => let ⟨p', h'⟩ := x1.g.tl a ps q mm; ⟨p', Ex.new hD a _ h'⟩⟩, fun a mm => x1.fp a (m2 a mm)⟩, Ex.refl _, upd_same, hI, hF, RpL.nil⟩, Nat.zero_le _, by rw [List.drop_zero]; exact h2, rfl⟩
  · rintro i n Hc ⟨rfl, hi, I2, F2, ec, acc, dacc, rest, Z, hl, hrun, hys⟩
    have it := hJ i I2 Hc Z.ex Z.rel.sub
    by_cases hlt : i < ds.length
    · refine .inr ?_
      obtain ⟨hgo, hy⟩ := it.1 _ (List.getElem?_eq_getElem hlt)
      refine ⟨hgo, fun H' => ∃ I2 F2 ec acc dacc rest, Mk2 K mg I H Fs I1 D (wipe σ own) H' ec acc dacc I2 F2 ∧ dacc.length ≤ (i + 1) * 1000 ∧
        lc2Run own t c mi1 vs1 t1 c1 m (ds.drop (i + 1)) ec = some (rest, e2) ∧ ys = dacc ++ rest, fun H' h => ⟨ds.length - (i + 1), by omega, rfl, hlt, h⟩, fun v H3 hv => ?_⟩
      obtain ⟨I3, g3, r3⟩ := hy v H3 hv
      obtain ⟨R3, x3⟩ := g3.rel Z.rel
      have Z3 := Z.step R3 x3
      rw [List.drop_eq_getElem_cons hlt] at hrun
      simp only [lc2Run] at hrun
      obtain ⟨e4, h4, hrun⟩ := Option.bind_eq_some_iff.mp hrun
      obtain ⟨⟨b, e5⟩, h5, hrun⟩ := Option.bind_eq_some_iff.mp hrun
      refine ⟨I3, ec, F2, ds[i], R3, r3, e4, h4, fun σ4 F4 R4 m4 a4 hl4 => ?_⟩
      have hw : wipe σ4 own = wipe σ own := tg_wipe hl4 a4
      have Z4 := Z3.less R4 m4
      refine ⟨hw, I3, e4, F4, R4, b, e5, h5, fun I5 F5 H5 R5 x5 => ?_⟩
      have Z5 := Z4.step R5 x5
      cases b with
      | false =>
        show (if false = true then _ else _)
        rw [if_neg Bool.false_ne_true]
        rw [if_neg Bool.false_ne_true] at hrun
        obtain ⟨F6, R6, m6⟩ := R5.wiped own
        rw [hw] at R6
        exact ⟨I5, F6, wipeE e5 own, acc, dacc, rest, Z5.less R6 m6, by omega, hrun, hys⟩
      | true =>
        show (if true = true then _ else _)
        rw [if_pos rfl]
        rw [if_pos rfl] at hrun
        obtain ⟨⟨xs, e6⟩, h6, hrun⟩ := Option.bind_eq_some_iff.mp hrun
        have hrun : (if xs.length ≤ 1000 then (lcRun vs1 t1 c1 m xs (wipeE e6 vs1)).bind fun y => (lc2Run own t c mi1 vs1 t1 c1 m (ds.drop (i + 1)) (wipeE y.2 own)).map fun r => (y.1 ++ r.1, r.2) else none) = some (rest, e2) := hrun
        split at hrun
        case isFalse => cases hrun
        rename_i hxs
        obtain ⟨⟨as, e7⟩, h7, hrun⟩ := Option.bind_eq_some_iff.mp hrun
        obtain ⟨⟨rs, e8⟩, h8, hrun⟩ := Option.map_eq_some_iff.mp hrun
        cases hrun
        refine ⟨I5, e5, F5, R5, xs, e6, h6, fun J1 I6 F6 H6 R6 x6 hJ1 => ?_⟩
        have Z6 := Z5.step R6 x6
        refine ⟨fun j n Hc => n = xs.length - j ∧ j ≤ xs.length ∧ ∃ I2 F2 ec acc da rest, Mk2 K mg I H Fs I1 D (wipe σ4 vs1) Hc ec acc (dacc ++ da) I2 F2 ∧ Ex I6 I2 ∧ da.length ≤ j ∧
          lcRun vs1 t1 c1 m (xs.drop j) ec = some (rest, e7) ∧ as = da ++ rest, ⟨xs.length, ?_⟩, ?_⟩
        · obtain ⟨F7, R7, m7⟩ := R6.wiped vs1
          exact ⟨by simp, Nat.zero_le _, I6, F7, _, acc, [], as, by rw [List.append_nil]; exact Z6.less R7 m7, Ex.refl _, Nat.zero_le _, by rw [List.drop_zero]; exact h7, rfl⟩
        · rintro j n Hj ⟨rfl, hj, Ij, Fj, ej, accj, da, restj, Zj, exj, hlj, hrunj, hasj⟩
          have itj := hJ1 j Ij Hj exj Zj.rel.sub
          by_cases hlt1 : j < xs.length
          · refine .inr ?_
            obtain ⟨hgo1, hy1⟩ := itj.1 _ (List.getElem?_eq_getElem hlt1)
            refine ⟨hgo1, fun H' => ∃ I2 F2 ec acc da rest, Mk2 K mg I H Fs I1 D (wipe σ4 vs1) H' ec acc (dacc ++ da) I2 F2 ∧ Ex I6 I2 ∧ da.length ≤ j + 1 ∧
              lcRun vs1 t1 c1 m (xs.drop (j + 1)) ec = some (rest, e7) ∧ as = da ++ rest, fun H' h => ⟨xs.length - (j + 1), by omega, rfl, hlt1, h⟩, fun v1 G3 hv1 => ?_⟩
            obtain ⟨J3, k3, s3⟩ := hy1 v1 G3 hv1
            obtain ⟨S3, y3⟩ := k3.rel Zj.rel
            have Y3 := Zj.step S3 y3
            rw [List.drop_eq_getElem_cons hlt1] at hrunj
            simp only [lcRun] at hrunj
            obtain ⟨f4, g4, hrunj⟩ := Option.bind_eq_some_iff.mp hrunj
            obtain ⟨⟨b1, f5⟩, g5, hrunj⟩ := Option.bind_eq_some_iff.mp hrunj
            refine ⟨J3, ej, Fj, xs[j], S3, s3, f4, g4, fun τ4 G4 S4 n4 b4 ml4 => ?_⟩
            have hw1 : wipe τ4 vs1 = wipe σ4 vs1 := tg_wipe ml4 b4
            have Y4 := Y3.less S4 n4
            refine ⟨hw1, J3, f4, G4, S4, b1, f5, g5, fun J5 G5 K5 S5 y5 => ?_⟩
            have Y5 := Y4.step S5 y5
            have exx : Ex I6 J5 := (exj.trans y3.g.ex).trans y5.g.ex
            cases b1 with
            | false =>
              show (if false = true then _ else _)
              rw [if_neg Bool.false_ne_true]
              rw [if_neg Bool.false_ne_true] at hrunj
              obtain ⟨G6, S6, n6⟩ := S5.wiped vs1
              rw [hw1] at S6
              exact ⟨J5, G6, _, accj, da, restj, Y5.less S6 n6, exx, by omega, hrunj, hasj⟩
            | true =>
              show (if true = true then _ else _)
              rw [if_pos rfl]
              rw [if_pos rfl] at hrunj
              obtain ⟨⟨y, f6⟩, g6, hrunj⟩ := Option.bind_eq_some_iff.mp hrunj
              obtain ⟨⟨rj, f7⟩, g7, hrunj⟩ := Option.map_eq_some_iff.mp hrunj
              cases hrunj
              refine ⟨J5, f5, G5, S5, y, f6, g6, fun z J6 G6 K6 S6 y6 s6 => ?_⟩
              have Y6 := Y5.step S6 y6
              have hacc := Y6.r.length
              rw [List.length_append] at hacc
              refine ⟨accj, Y6.at_, by omega, ?_⟩
              obtain ⟨G7, S7, n7⟩ := S6.wiped vs1
              rw [hw1] at S7
              have Y8 := (Y6.less S7 n7).push hDH s6
              rw [List.append_assoc] at Y8
              exact ⟨J6, G7, _, accj ++ [z], da ++ [y], rj, Y8, exx.trans y6.g.ex, by simp; omega, g7, by rw [hasj]; simp⟩
          · have hje : j = xs.length := by omega
            subst hje
            refine .inl ⟨itj.2 (Nat.le_refl _), ?_⟩
            rw [List.drop_length] at hrunj
            simp only [lcRun] at hrunj
            cases hrunj
            rw [List.append_nil] at hasj
            subst hasj
            obtain ⟨G6, S6, n6⟩ := (Zj.rel.unwiped).wiped own
            rw [hw] at S6
            exact ⟨Ij, G6, _, accj, dacc ++ as, rs, Zj.less S6 n6, by simp; omega, h8, by rw [hys]; simp⟩
    · have hie : i = ds.length := by omega
      subst hie
      refine .inl ⟨it.2 (Nat.le_refl _), ?_⟩
      rw [List.drop_length] at hrun
      simp only [lc2Run] at hrun
      cases hrun
      rw [List.append_nil] at hys
      subst hys
      have R3 := (Z.rel.unwiped).freeze Z.at_ Z.nI Z.nF (.lst Z.at_)
      refine k (.ref D) (upd I2 D (.lst acc)) F2 Hc R3 ⟨⟨fun a u q => ?_, Z.ext.g.fr, fun a q => ?_, fun t => (Z.ext.g.tb t).frz (.lst Z.at_), Z.ext.g.tl⟩, Z.ext.fp⟩ ?_
      · rw [upd_ne (fun z => by subst z; have := Z.nI; rw [Z.ext.g.ex a u q] at this; cases this)]
        exact Z.ext.g.ex a u q
      · by_cases z : a = D
        · subst z
          right
          rcases hDH with w | w
          · exact .inr w
          · exact .inl w
        · rw [upd_ne z] at q
          exact Z.ext.g.new a q
      · simp only [Rp]
        exact ⟨D, acc, rfl, upd_same, Z.r.mono (Ex.new Z.nI) _ _⟩
end
theorem se_lc2 {X : Cx} {elt tg iter tg1 iter1 : Expr} {ifs ifs1 : List Expr} {scope : Scope} {own : List (Str × Nat)} {vs1 : List Nat} {pos : Pos} {mi mi1 : M (List D)} {t t1 : Tg} {c c1 : M Bool} {m : M D} (hc : X.calm = true) (hN : X.N.Nodup) (ok : BlkOk X.N X.env.scope scope own) (hv : ∀ i ∈ vs1, i ∈ own.map (·.2)) (hi : SI X tg iter mi)
    (hg : ∀ (s : Shared) (H : Hp) (C : Addr) (cl : List (Str × Addr)) (fp : List Addr), SG (X.blk s H scope (compEnvC scope cl C X.env) fp) (ownA (own.map (·.2))) tg t) (ht : ∀ (s : Shared) (H : Hp) (C : Addr) (cl : List (Str × Addr)) (fp : List Addr), STs (X.blk s H scope (compEnvC scope cl C X.env) fp) ifs c)
    (hi1 : ∀ (s : Shared) (H : Hp) (C : Addr) (cl : List (Str × Addr)) (fp : List Addr), SI (X.blk s H scope (compEnvC scope cl C X.env) fp) tg1 iter1 mi1)
    (hg1 : ∀ (s : Shared) (H : Hp) (C : Addr) (cl : List (Str × Addr)) (fp : List Addr), SG (X.blk s H scope (compEnvC scope cl C X.env) fp) (ownA vs1) tg1 t1) (ht1 : ∀ (s : Shared) (H : Hp) (C : Addr) (cl : List (Str × Addr)) (fp : List Addr), STs (X.blk s H scope (compEnvC scope cl C X.env) fp) ifs1 c1)
    (he : ∀ (s : Shared) (H : Hp) (C : Addr) (cl : List (Str × Addr)) (fp : List Addr), SE (X.blk s H scope (compEnvC scope cl C X.env) fp) elt m) (hs : ∀ x, foldedSetIterable iter X.env x = pure x := by intro _; rfl) (hs1 : ∀ env x, foldedSetIterable iter1 env x = pure x := by intro _ _; rfl) :
    SE X (.ListComp elt [⟨tg, iter, ifs, 0⟩, ⟨tg1, iter1, ifs1, 0⟩] scope pos) (mLc2 (own.map (·.2)) mi t c mi1 vs1 t1 c1 m) :=
  PE.imp (pe_lc2 (wi1 := tI X.K X.mg mi1) (g := tG X.K X.mg (ownA (List.map (fun (x : Str × Nat) => x.2) own)) t) (tt := tT X.K X.mg c) (g1 := tG X.K X.mg (ownA vs1) t1) (tt1 := tT X.K X.mg c1) (te := tE X.K X.mg m) hc hN hi ok hv hg ht hi1 hg1 ht1 he hs hs1) fun σ H Q h => lc2_run h
/-! ### methods of a named owned thing, any data as arguments -/
def mMetN (f : W → List D → Option (W × D)) (i : Nat) (ma : M (List Arg)) : M D := fun e => match e[i]? with
  | some (some (.ol _)) => (ma e).bind fun x => (allD x.1).bind fun ds => match x.2[i]? with
    | some (some u) => (f u ds).map fun y => (y.2, x.2.set i (some y.1))
    | _ => none
  | _ => none
theorem se_metN {X : Cx} {i : Nat} {x : Str} {p : Pos} {a : Expr} {es : List Expr} {ma : M (List Arg)} {name : Str} {apos cpos : Pos} {id : String} {r : V → List V → Hp → VK → Prop} {f : W → List D → Option (W × D)}
    (slot : Slot "list" name id) (hty : typeOf (.builtin id) = pure (.type "method_descriptor")) (hm : MtR X id r) (hf : MetW X.K X.mg "list" r f) (hft : MetT "list" f) (hx : PE X (.Name x p) (tVar i)) (ha : SA X (a :: es) ma)
    (hbase : attributeBase (.Name x p) name X.env (eval (.Name x p) X.env) = eval (.Name x p) X.env := by rfl)
    (hfew : ((backTo cpos (starEach (a :: es) X.env)).all (fun x => !x.1) && (backToKw cpos (keywordEach [] X.env)).all (fun x => x.1.isSome)
      && decide ((a :: es).length + ([] : List Keyword).length + (if ([] : List Keyword).isEmpty then 0 else 1) < 30)) = true := by rfl)
    (hline : (apos.endLine == cpos.line) = true := by rfl) (hs : starEach (a :: es) X.env = (false, eval a X.env) :: starEach es X.env := by rfl) (hplain : (backTo cpos (starEach es X.env)).any (·.1) = false := by rfl) :
    SE X (.Call (.Attribute (.Name x p) name apos) (a :: es) [] cpos) (mMetN f i ma) := PE.imp (pe_bm PySem.F.plainAttrs_list slot hty hm hx ha hbase hfew hline hs hplain) fun σ H Q ⟨I, e, Fs, R, d, e', hm, k⟩ => by
  unfold mMetN at hm
  split at hm
  · rename_i ws0 hw0
    obtain ⟨v0, hv0, ro0⟩ := R.at_ i _ hw0
    obtain ⟨⟨as, e1⟩, h1, hm⟩ := Option.bind_eq_some_iff.mp hm
    obtain ⟨ds, h2, hm⟩ := Option.bind_eq_some_iff.mp hm
    refine ⟨v0, hv0, tag_ty ro0 (T := "list") rfl (.inl rfl), I, e, Fs, R, as, e1, h1, fun vs I1 F1 H1 R1 x1 ar => ?_⟩
    have hm : (match e1[i]? with
      | some (some u) => (f u ds).map fun y => (y.2, e1.set i (some y.1))
      | _ => none) = some (d, e') := hm
    split at hm
    · rename_i u hu
      obtain ⟨⟨u', z⟩, h3, hm⟩ := Option.map_eq_some_iff.mp hm
      cases hm
      have ht := hft _ _ _ h3
      obtain ⟨v1, hv1, ro1⟩ := R1.at_ i _ hu
      rw [hv0] at hv1
      cases hv1
      refine met_step (p := (i, [])) hf (.inl rfl) R1 x1 hu hv0 (by cases u <;> rfl) (by cases u <;> exact ⟨rfl, rfl⟩) (allD_rp h2 ar) h3 (fun v' Fs' H' R' x' rz => ?_) ht
      have e1' : putE e1 (i, []) u' = e1.set i (some u') := by
        unfold putE
        rw [hu]
        show e1.set i (some (u.put [] u')) = _
        cases u <;> rfl
      rw [e1'] at R'
      exact k v' I1 Fs' H' R' x' rz
    · cases hm
  · cases hm
/-- insert -/
def wIns : W → List D → Option (W × D)
  | .ol ws, [.int i, d] => if 0 ≤ i ∧ i < 1000000 ∧ ws.length < 1000000 then some (.ol (ws.take i.toNat ++ [.p d] ++ ws.drop i.toNat), .none) else none
  | _, _ => none
theorem RoL.splitAt {K : PySem.W.Frag} {mg : Str → Option Value} {I H : Hp} : ∀ (n : Nat) {ws : List W} {xs : List V} {F : List Addr}, RoL K mg I H ws xs F → ∃ F1 F2, F = F1 ++ F2 ∧ RoL K mg I H (ws.take n) (xs.take n) F1 ∧ RoL K mg I H (ws.drop n) (xs.drop n) F2
  | 0, ws, xs, F, h => ⟨[], F, rfl, by simp [RoL], by simpa using h⟩
  | n + 1, [], xs, F, h => by
    simp only [RoL] at h
    obtain ⟨rfl, rfl⟩ := h
    exact ⟨[], [], rfl, by simp [RoL], by simp [RoL]⟩
  | n + 1, w :: ws, xs, F, h => by
    simp only [RoL] at h
    obtain ⟨x, r, F1, F2, rfl, rfl, h1, h2⟩ := h
    obtain ⟨G1, G2, rfl, q1, q2⟩ := RoL.splitAt n h2
    refine ⟨F1 ++ G1, G2, by simp, ?_, by simpa using q2⟩
    rw [List.take_succ_cons, List.take_succ_cons]
    simp only [RoL]
    exact ⟨x, _, F1, G1, rfl, rfl, h1, q1⟩
theorem met_insert {K : PySem.W.Frag} {mg : Str → Option Value} : MetW K mg "list" (fun x vs H Q => ∃ (l : Addr) (xs : List V) (i : Int) (y : V), x = .ref l ∧ vs = [.int i, y] ∧ H l = some (.lst xs) ∧ xs.length < sizeLine ∧ 0 ≤ i ∧ i < 2 ^ 63 ∧
    Q .non (upd H l (.lst (xs.take i.toNat ++ [y] ++ xs.drop i.toNat)))) wIns := by
  intro I H a u u' z ds vs G Q s h nd hI rv hf k
  unfold wIns at hf
  split at hf
  · rename_i ws i d
    split at hf
    · rename_i hz
      cases hf
      simp only [RpL] at rv
      obtain ⟨v1, r1, rfl, hv1, v2, r2, rfl, hd, rfl⟩ := rv
      simp only [Rp] at hv1
      subst hv1
      simp only [Ro] at h
      obtain ⟨a', xs, G0, e, h1, rfl, h2⟩ := h
      cases e
      refine ⟨rfl, a, xs, i, v2, rfl, rfl, h1, by rw [← h2.len]; exact lim_lt hz.2.2, hz.1, by have := hz.2.1; omega, k _ _ (chg_l (ws := ws) (xs := xs) hI nd (G1 := G0) ?_ (List.nodup_cons.mp nd).2 fun b hb => hb) rp_none⟩
      obtain ⟨G1, G2, rfl, q1, q2⟩ := RoL.splitAt i.toNat h2
      have := (q1.append (RoL.ofP (K := K) (mg := mg) (I := I) (H := H) (RpL.cons hd RpL.nil))).append q2
      simpa using this
    · cases hf
  · cases hf
theorem mtt_insert : MetT "list" wIns := fun u ds x h => by
  unfold wIns at h
  split at h
  · rfl
  · cases h
/-- how many -/
def wLen : W → Option D
  | .ol ws => some (.int ws.length)
  | .p (.lst ds) => some (.int ds.length)
  | .p (.fl ds) => some (.int ds.length)
  | .p (.tup ds) => some (.int ds.length)
  | _ => none
theorem obs_len {K : PySem.W.Frag} {mg : Str → Option Value} : ObsW K mg (fun v H Q => ∃ x n, [v] = [x] ∧ LenV K x H n ∧ Q (.int n) H) wLen := by
  intro I H u z v G Q s h e k
  unfold wLen at e
  split at e
  · cases e
    simp only [Ro] at h
    obtain ⟨a, xs, G0, rfl, h1, rfl, h2⟩ := h
    exact ⟨_, _, rfl, .inl ⟨xs, .of h1, h2.len⟩, k _ I H .same rp_int⟩
  · cases e
    simp only [Ro, Rp] at h
    obtain ⟨⟨a, xs, rfl, h1, h2⟩, _⟩ := h
    exact ⟨_, _, rfl, .inl ⟨xs, .of (s _ _ h1), h2.length⟩, k _ I H .same rp_int⟩
  · cases e
    simp only [Ro, Rp] at h
    obtain ⟨⟨a, xs, rfl, h1, h2⟩, _⟩ := h
    exact ⟨_, _, rfl, .inl ⟨xs, ex_l s h1, h2.length⟩, k _ I H .same rp_int⟩
  · cases e
    simp only [Ro, Rp] at h
    obtain ⟨⟨a, xs, rfl, h1, h2⟩, _⟩ := h
    exact ⟨_, _, rfl, .inr ⟨xs, ex_t s h1, h2.length⟩, k _ I H .same rp_int⟩
  · cases e
theorem sv_lenW {X : Cx} {o : Expr} {f : P Pth} {p pos : Pos} (hg : Gl X "len") (hm : X.mg "len" = none) (ho : SL X o f) (hs : starEach [o] X.env = (false, eval o X.env) :: starEach [] X.env := by rfl) : SV X (.Call (.Name "len" p) [o] [] pos) (vObs wLen f) :=
  sv_obsB call_len (obs_len (K := X.K) (mg := X.mg)) hg hm boot_len ho (by decide) (by decide) hs
theorem Rp.sqL {K : PySem.W.Frag} {mg : Str → Option Value} {I H : Hp} {ds : List D} {v : V} (s : Ex I H) (h : Rp K mg I (.lst ds) v) : ∃ a xs, v = .ref a ∧ SqL K H a xs ∧ xs.length = ds.length := by
  simp only [Rp] at h
  obtain ⟨a, xs, rfl, h1, h2⟩ := h
  exact ⟨a, xs, rfl, .of (s _ _ h1), h2.length.symm⟩
end MV

namespace MV
open PySem L2
/-! ### evaluation: places, methods, stores -/
section
variable {e e1 : Env} {lf : P Pth} {f g h : P D} {p : Pth} {c fl : Str} {k : Key} {d x y : D} {u w : W} {es : List (Key × W)} {gs : List (Str × W)} {ws : List W}
def lfK (c fl : Str) (e : Env) : Option Pth → Option Pth
  | some p => lf2 c fl p (atE e p)
  | none => none
where lf2 (c fl : Str) (p : Pth) : Option W → Option Pth
  | some (.oi c' gs) => if c' = c then (getFW gs fl).bind fun _ => some (p.1, p.2 ++ [.fd fl]) else none
  | _ => none
@[simp] theorem ev_lFld : lFld c fl lf e = lfK c fl e (lf e) := by
  unfold lFld lfK
  cases lf e with
  | none => rfl
  | some p => simp only [Option.bind_some, lfK.lf2] <;> rcases atE e p with _ | u <;> first | rfl | (cases u <;> rfl)
@[simp] theorem lfK_s : lfK c fl e (some p) = lfK.lf2 c fl p (atE e p) := rfl
@[simp] theorem lf2_s : lfK.lf2 c fl p (some (.oi c gs)) = (getFW gs fl).bind fun _ => some (p.1, p.2 ++ [.fd fl]) := by unfold lfK.lf2; simp
def lkK (g : P D) (e : Env) : Option Pth → Option Pth
  | some p => lk2 p e (g e)
  | none => none
where
  lk2 (p : Pth) (e : Env) : Option D → Option Pth
  | some d => lk3 p e (keyD d)
  | none => none
  lk3 (p : Pth) (e : Env) : Option Key → Option Pth
  | some k => lk4 p k (atE e p)
  | none => none
  lk4 (p : Pth) (k : Key) : Option W → Option Pth
  | some (.od es) => (valW es k).bind fun _ => some (p.1, p.2 ++ [.ky k])
  | _ => none
@[simp] theorem ev_lKey : lKey lf g e = lkK g e (lf e) := by
  unfold lKey lkK
  cases lf e with
  | none => rfl
  | some p =>
    simp only [Option.bind_some, lkK.lk2]
    cases g e with
    | none => rfl
    | some d =>
      simp only [Option.bind_some, lkK.lk3]
      cases keyD d with
      | none => rfl
      | some k => simp only [Option.bind_some, lkK.lk4] <;> rcases atE e p with _ | u <;> first | rfl | (cases u <;> rfl)
@[simp] theorem lkK_s : lkK g e (some p) = lkK.lk2 p e (g e) := rfl
@[simp] theorem lk2_s : lkK.lk2 p e (some d) = lkK.lk3 p e (keyD d) := rfl
@[simp] theorem lk3_s : lkK.lk3 p e (some k) = lkK.lk4 p k (atE e p) := rfl
@[simp] theorem lk4_s : lkK.lk4 p k (some (.od es)) = (valW es k).bind fun _ => some (p.1, p.2 ++ [.ky k]) := rfl
@[simp] theorem keyD_i {i : Int} : keyD (.int i) = some (.inl i) := rfl
@[simp] theorem keyD_s {z : Str} : keyD (.str z) = some (.inr z) := rfl
def liK (g : P D) (e : Env) : Option Pth → Option Pth
  | some p => li2 p e (g e)
  | none => none
where
  li2 (p : Pth) (e : Env) : Option D → Option Pth
  | some (.int i) => li3 p i (atE e p)
  | _ => none
  li3 (p : Pth) (i : Int) : Option W → Option Pth
  | some (.ol ws) => (ixN ws.length i).map fun j => (p.1, p.2 ++ [.ix j])
  | some (.ot ws) => (ixN ws.length i).map fun j => (p.1, p.2 ++ [.ix j])
  | _ => none
@[simp] theorem ev_lIx : lIx lf g e = liK g e (lf e) := by
  unfold lIx liK
  cases lf e with
  | none => rfl
  | some p =>
    simp only [Option.bind_some, liK.li2]
    cases g e with
    | none => rfl
    | some d =>
      simp only [Option.bind_some]
      cases d <;> first | rfl | (simp only [liK.li3]; rcases atE e p with _ | u <;> first | rfl | (cases u <;> rfl))
@[simp] theorem liK_s : liK g e (some p) = liK.li2 p e (g e) := rfl
@[simp] theorem li2_s {i : Int} : liK.li2 p e (some (.int i)) = liK.li3 p i (atE e p) := rfl
@[simp] theorem li3_t {i : Int} : liK.li3 p i (some (.ot ws)) = (ixN ws.length i).map fun j => (p.1, p.2 ++ [.ix j]) := rfl
@[simp] theorem li3_s {i : Int} : liK.li3 p i (some (.ol ws)) = (ixN ws.length i).map fun j => (p.1, p.2 ++ [.ix j]) := rfl
def obK (hh : W → Option D) (e : Env) : Option Pth → Option D
  | some p => (atE e p).bind hh
  | none => none
@[simp] theorem ev_vObs {hh : W → Option D} : vObs hh lf e = obK hh e (lf e) := by unfold vObs obK; cases lf e <;> rfl
@[simp] theorem obK_s {hh : W → Option D} : obK hh e (some p) = (atE e p).bind hh := rfl
def inK (neg : Bool) (lf : P Pth) (e : Env) : Option D → Option D
  | some d => in2 neg lf e (keyD d)
  | none => none
where
  in2 (neg : Bool) (lf : P Pth) (e : Env) : Option Key → Option D
  | some k => in3 neg k e (lf e)
  | none => none
  in3 (neg : Bool) (k : Key) (e : Env) : Option Pth → Option D
  | some p => in4 neg k (atE e p)
  | none => none
  in4 (neg : Bool) (k : Key) : Option W → Option D
  | some (.od es) => some (.bool (if neg then !(valW es k).isSome else (valW es k).isSome))
  | _ => none
@[simp] theorem ev_vInD {neg : Bool} : vInD neg g lf e = inK neg lf e (g e) := by
  unfold vInD inK
  cases g e with
  | none => rfl
  | some d =>
    simp only [Option.bind_some, inK.in2]
    cases keyD d with
    | none => rfl
    | some k =>
      simp only [Option.bind_some, inK.in3]
      cases lf e with
      | none => rfl
      | some p => simp only [Option.bind_some, inK.in4] <;> rcases atE e p with _ | u <;> first | rfl | (cases u <;> rfl)
@[simp] theorem inK_s {neg : Bool} : inK neg lf e (some d) = inK.in2 neg lf e (keyD d) := rfl
@[simp] theorem in2_s {neg : Bool} : inK.in2 neg lf e (some k) = inK.in3 neg k e (lf e) := rfl
@[simp] theorem in3_s {neg : Bool} : inK.in3 neg k e (some p) = inK.in4 neg k (atE e p) := rfl
@[simp] theorem in4_t : inK.in4 true k (some (.od es)) = some (.bool !(valW es k).isSome) := rfl
@[simp] theorem in4_f : inK.in4 false k (some (.od es)) = some (.bool (valW es k).isSome) := rfl
-- methods
variable {ff : W → List D → Option (W × D)} {as : P (List D)} {ds : List D}
def meK (ff : W → List D → Option (W × D)) (as : P (List D)) (e : Env) : Option Pth → Option (D × Env)
  | some p => me2 ff p e (as e)
  | none => none
where
  me2 (ff : W → List D → Option (W × D)) (p : Pth) (e : Env) : Option (List D) → Option (D × Env)
  | some ds => me3 ff ds p e (atE e p)
  | none => none
  me3 (ff : W → List D → Option (W × D)) (ds : List D) (p : Pth) (e : Env) : Option W → Option (D × Env)
  | some u => me4 p e (ff u ds)
  | none => none
  me4 (p : Pth) (e : Env) : Option (W × D) → Option (D × Env)
  | some x => some (x.2, putE e p x.1)
  | none => none
@[simp] theorem ev_mMet : mMet ff lf as e = meK ff as e (lf e) := by
  unfold mMet meK
  cases lf e with
  | none => rfl
  | some p =>
    simp only [Option.bind_some, meK.me2]
    cases as e with
    | none => rfl
    | some ds =>
      simp only [Option.bind_some, meK.me3]
      cases atE e p with
      | none => rfl
      | some u => simp only [Option.bind_some, meK.me4]; cases ff u ds <;> rfl
@[simp] theorem meK_s : meK ff as e (some p) = meK.me2 ff p e (as e) := rfl
@[simp] theorem me2_s : meK.me2 ff p e (some ds) = meK.me3 ff ds p e (atE e p) := rfl
@[simp] theorem me3_s : meK.me3 ff ds p e (some u) = meK.me4 p e (ff u ds) := rfl
@[simp] theorem me4_s : meK.me4 p e (some (u, d)) = some (d, putE e p u) := rfl
variable {m : M D}
def mlK (ff : W → List D → Option (W × D)) (m : M D) (e : Env) : Option Pth → Option (D × Env)
  | some p => ml2 ff m p e e[p.1]?
  | none => none
where
  ml2 (ff : W → List D → Option (W × D)) (m : M D) (p : Pth) (e : Env) : Option (Option W) → Option (D × Env)
  | some (some w) => ml3 ff m p e w (w.sub p.2)
  | _ => none
  ml3 (ff : W → List D → Option (W × D)) (m : M D) (p : Pth) (e : Env) (w : W) : Option W → Option (D × Env)
  | some u => ml4 ff p w u (m (e.set p.1 none))
  | none => none
  ml4 (ff : W → List D → Option (W × D)) (p : Pth) (w u : W) : Option (D × Env) → Option (D × Env)
  | some x => ml5 p w x.2 (ff u [x.1])
  | none => none
  ml5 (p : Pth) (w : W) (e : Env) : Option (W × D) → Option (D × Env)
  | some y => some (y.2, e.set p.1 (some (w.put p.2 y.1)))
  | none => none
@[simp] theorem ev_mMetL : mMetL ff lf m e = mlK ff m e (lf e) := by
  unfold mMetL mlK
  cases lf e with
  | none => rfl
  | some p =>
    simp only [Option.bind_some, mlK.ml2]
    rcases e[p.1]? with _ | _ | w
    · rfl
    · rfl
    · simp only [mlK.ml3]
      cases w.sub p.2 with
      | none => rfl
      | some u =>
        simp only [Option.bind_some, mlK.ml4]
        cases m (e.set p.1 none) with
        | none => rfl
        | some x => simp only [Option.bind_some, mlK.ml5]; cases ff u [x.1] <;> rfl
@[simp] theorem mlK_s : mlK ff m e (some p) = mlK.ml2 ff m p e e[p.1]? := rfl
@[simp] theorem ml2_s : mlK.ml2 ff m p e (some (some w)) = mlK.ml3 ff m p e w (w.sub p.2) := rfl
@[simp] theorem ml3_s : mlK.ml3 ff m p e w (some u) = mlK.ml4 ff p w u (m (e.set p.1 none)) := rfl
@[simp] theorem ml4_s : mlK.ml4 ff p w u (some (d, e)) = mlK.ml5 p w e (ff u [d]) := rfl
@[simp] theorem ml5_s : mlK.ml5 p w e (some (u, d)) = some (d, e.set p.1 (some (w.put p.2 u))) := rfl
variable {ma : M (List Arg)} {i : Nat} {args : List Arg}
def mnK (ff : W → List D → Option (W × D)) (i : Nat) (ma : M (List Arg)) (e : Env) : Option (Option W) → Option (D × Env)
  | some (some (.ol _)) => mn2 ff i (ma e)
  | _ => none
where
  mn2 (ff : W → List D → Option (W × D)) (i : Nat) : Option (List Arg × Env) → Option (D × Env)
  | some x => mn3 ff i x.2 (allD x.1)
  | none => none
  mn3 (ff : W → List D → Option (W × D)) (i : Nat) (e : Env) : Option (List D) → Option (D × Env)
  | some ds => mn4 ff i e ds e[i]?
  | none => none
  mn4 (ff : W → List D → Option (W × D)) (i : Nat) (e : Env) (ds : List D) : Option (Option W) → Option (D × Env)
  | some (some u) => mn5 i e (ff u ds)
  | _ => none
  mn5 (i : Nat) (e : Env) : Option (W × D) → Option (D × Env)
  | some y => some (y.2, e.set i (some y.1))
  | none => none
@[simp] theorem ev_mMetN : mMetN ff i ma e = mnK ff i ma e e[i]? := by
  unfold mMetN mnK
  rcases e[i]? with _ | _ | w
  · rfl
  · rfl
  · cases w with
    | ol ws =>
      simp only [mnK.mn2]
      rcases ma e with _ | ⟨as, e1⟩
      · rfl
      · simp only [Option.bind_some, mnK.mn3]
        rcases allD as with _ | ds
        · rfl
        · simp only [Option.bind_some, mnK.mn4]
          rcases e1[i]? with _ | _ | u
          · rfl
          · rfl
          · simp only [mnK.mn5]; cases ff u ds <;> rfl
    | _ => rfl
@[simp] theorem mnK_s : mnK ff i ma e (some (some (.ol ws))) = mnK.mn2 ff i (ma e) := rfl
@[simp] theorem mn2_s : mnK.mn2 ff i (some (args, e)) = mnK.mn3 ff i e (allD args) := rfl
@[simp] theorem mn3_s : mnK.mn3 ff i e (some ds) = mnK.mn4 ff i e ds e[i]? := rfl
@[simp] theorem mn4_s : mnK.mn4 ff i e ds (some (some u)) = mnK.mn5 i e (ff u ds) := rfl
@[simp] theorem mn5_s : mnK.mn5 i e (some (u, d)) = some (d, e.set i (some u)) := rfl
@[simp] theorem wApp_s : wApp (.ol ws) [d] = if ws.length < 1000000 then some (.ol (ws ++ [.p d]), .none) else none := rfl
@[simp] theorem wExt_s : wExt (.ol ws) [.lst ds] = if ws.length + ds.length ≤ 1000000 then some (.ol (ws ++ ds.map .p), .none) else none := rfl
@[simp] theorem wIns_s {i : Int} : wIns (.ol ws) [.int i, d] = if 0 ≤ i ∧ i < 1000000 ∧ ws.length < 1000000 then some (.ol (ws.take i.toNat ++ [.p d] ++ ws.drop i.toNat), .none) else none := rfl
@[simp] theorem wLen_ol : wLen (.ol ws) = some (.int ws.length) := rfl
@[simp] theorem wLen_l : wLen (.p (.lst ds)) = some (.int ds.length) := rfl
-- stores
variable {mw : M W}
def fdK (c fl : Str) (lf : P Pth) : Option (W × Env) → Option SR
  | some x => fd2 c fl lf x.2 x.1
  | none => none
where
  fd2 (c fl : Str) (lf : P Pth) (e : Env) : W → Option SR
  | .ex y => some (.ex y e)
  | w => fd3 c fl w e (lf e)
  fd3 (c fl : Str) (w : W) (e : Env) : Option Pth → Option SR
  | some p => fd4 c fl w e p (atE e p)
  | none => none
  fd4 (c fl : Str) (w : W) (e : Env) (p : Pth) : Option W → Option SR
  | some (.oi c' gs) => if c' = c ∧ gs.length < 900 then some (.nx (putE e p (.oi c' (putFW fl w gs)))) else none
  | _ => none
@[simp] theorem ev_sFld : sFld c fl lf mw e = fdK c fl lf (mw e) := by
  unfold sFld fdK
  rcases mw e with _ | ⟨w, e1⟩
  · rfl
  · simp only [Option.bind_some]
    cases w <;> first | rfl | (
      simp only [fdK.fd2, fdK.fd3]
      cases lf e1 with
      | none => rfl
      | some p => simp only [Option.bind_some, fdK.fd4] <;> rcases atE e1 p with _ | u <;> first | rfl | (cases u <;> rfl))
@[simp] theorem fdK_s : fdK c fl lf (some (w, e)) = fdK.fd2 c fl lf e w := rfl
theorem fd2_n (h : nex w = true) : fdK.fd2 c fl lf e w = fdK.fd3 c fl w e (lf e) := by cases w <;> first | rfl | cases h
@[simp] theorem fd2_p : fdK.fd2 c fl lf e (.p d) = fdK.fd3 c fl (.p d) e (lf e) := rfl
@[simp] theorem fd2_ol : fdK.fd2 c fl lf e (.ol ws) = fdK.fd3 c fl (.ol ws) e (lf e) := rfl
@[simp] theorem fd2_od : fdK.fd2 c fl lf e (.od es) = fdK.fd3 c fl (.od es) e (lf e) := rfl
@[simp] theorem fd3_s : fdK.fd3 c fl w e (some p) = fdK.fd4 c fl w e p (atE e p) := rfl
@[simp] theorem fd4_s : fdK.fd4 c fl w e p (some (.oi c gs)) = if gs.length < 900 then some (.nx (putE e p (.oi c (putFW fl w gs)))) else none := by unfold fdK.fd4; simp
def duK (ff : D → D → Option D) (g h : P D) (e : Env) : Option Pth → Option SR
  | some p => du2 ff h p e (g e)
  | none => none
where
  du2 (ff : D → D → Option D) (h : P D) (p : Pth) (e : Env) : Option D → Option SR
  | some d => du3 ff h p e (keyD d)
  | none => none
  du3 (ff : D → D → Option D) (h : P D) (p : Pth) (e : Env) : Option Key → Option SR
  | some k => du4 ff h p k e (atE e p)
  | none => none
  du4 (ff : D → D → Option D) (h : P D) (p : Pth) (k : Key) (e : Env) : Option W → Option SR
  | some (.od es) => du5 ff h p k e es (valW es k)
  | _ => none
  du5 (ff : D → D → Option D) (h : P D) (p : Pth) (k : Key) (e : Env) (es : List (Key × W)) : Option W → Option SR
  | some (.p x) => du6 ff p k e es x (h e)
  | _ => none
  du6 (ff : D → D → Option D) (p : Pth) (k : Key) (e : Env) (es : List (Key × W)) (x : D) : Option D → Option SR
  | some y => du7 p k e es (ff x y)
  | none => none
  du7 (p : Pth) (k : Key) (e : Env) (es : List (Key × W)) : Option D → Option SR
  | some z => du8 p e (dputW es k (.p z))
  | none => none
  du8 (p : Pth) (e : Env) : Option (List (Key × W)) → Option SR
  | some es => some (.nx (putE e p (.od es)))
  | none => none
@[simp] theorem ev_sDAug {op : D → D → Option D} : sDAug op lf g h e = duK op g h e (lf e) := by
  unfold sDAug duK
  cases lf e with
  | none => rfl
  | some p =>
    simp only [Option.bind_some, duK.du2]
    cases g e with
    | none => rfl
    | some d =>
      simp only [Option.bind_some, duK.du3]
      cases keyD d with
      | none => rfl
      | some k =>
        simp only [Option.bind_some, duK.du4]
        rcases atE e p with _ | u
        · rfl
        · cases u with
          | od es =>
            simp only [duK.du5]
            rcases valW es k with _ | u2
            · rfl
            · cases u2 with
              | p x =>
                simp only [duK.du6]
                cases h e with
                | none => rfl
                | some y =>
                  simp only [Option.bind_some, duK.du7]
                  cases op x y with
                  | none => rfl
                  | some z => simp only [Option.bind_some, duK.du8]; cases dputW es k (.p z) <;> rfl
              | _ => rfl
          | _ => rfl
@[simp] theorem duK_s {op : D → D → Option D} : duK op g h e (some p) = duK.du2 op h p e (g e) := rfl
@[simp] theorem du2_s {op : D → D → Option D} : duK.du2 op h p e (some d) = duK.du3 op h p e (keyD d) := rfl
@[simp] theorem du3_s {op : D → D → Option D} : duK.du3 op h p e (some k) = duK.du4 op h p k e (atE e p) := rfl
@[simp] theorem du4_s {op : D → D → Option D} : duK.du4 op h p k e (some (.od es)) = duK.du5 op h p k e es (valW es k) := rfl
@[simp] theorem du5_s {op : D → D → Option D} : duK.du5 op h p k e es (some (.p x)) = duK.du6 op p k e es x (h e) := rfl
@[simp] theorem du6_s {op : D → D → Option D} : duK.du6 op p k e es x (some y) = duK.du7 p k e es (op x y) := rfl
@[simp] theorem du7_s : duK.du7 p k e es (some x) = duK.du8 p e (dputW es k (.p x)) := rfl
@[simp] theorem du8_s : duK.du8 p e (some es) = some (.nx (putE e p (.od es))) := rfl
def ddK (g : P D) (e : Env) : Option Pth → Option SR
  | some p => dd2 p e (g e)
  | none => none
where
  dd2 (p : Pth) (e : Env) : Option D → Option SR
  | some d => dd3 p e (keyD d)
  | none => none
  dd3 (p : Pth) (e : Env) : Option Key → Option SR
  | some k => dd4 p k e (atE e p)
  | none => none
  dd4 (p : Pth) (k : Key) (e : Env) : Option W → Option SR
  | some (.od es) => duK.du8 p e (ddelW es k)
  | _ => none
@[simp] theorem ev_sDDel : sDDel lf g e = ddK g e (lf e) := by
  unfold sDDel ddK
  cases lf e with
  | none => rfl
  | some p =>
    simp only [Option.bind_some, ddK.dd2]
    cases g e with
    | none => rfl
    | some d =>
      simp only [Option.bind_some, ddK.dd3]
      cases keyD d with
      | none => rfl
      | some k =>
        simp only [Option.bind_some, ddK.dd4]
        rcases atE e p with _ | u
        · rfl
        · cases u with
          | od es => simp only [duK.du8]; cases ddelW es k <;> rfl
          | _ => rfl
@[simp] theorem ddK_s : ddK g e (some p) = ddK.dd2 p e (g e) := rfl
@[simp] theorem dd2_s : ddK.dd2 p e (some d) = ddK.dd3 p e (keyD d) := rfl
@[simp] theorem dd3_s : ddK.dd3 p e (some k) = ddK.dd4 p k e (atE e p) := rfl
@[simp] theorem dd4_s : ddK.dd4 p k e (some (.od es)) = duK.du8 p e (ddelW es k) := rfl
def lpK (lf : P Pth) (g : P D) : Option (W × Env) → Option SR
  | some x => lp2 lf g x.2 x.1
  | none => none
where
  lp2 (lf : P Pth) (g : P D) (e : Env) : W → Option SR
  | .ex y => some (.ex y e)
  | w => lp3 g w e (lf e)
  lp3 (g : P D) (w : W) (e : Env) : Option Pth → Option SR
  | some p => lp4 w e p (g e)
  | none => none
  lp4 (w : W) (e : Env) (p : Pth) : Option D → Option SR
  | some (.int i) => lp5 w e p i (atE e p)
  | _ => none
  lp5 (w : W) (e : Env) (p : Pth) (i : Int) : Option W → Option SR
  | some (.ol ws) => (ixN ws.length i).map fun j => .nx (putE e p (.ol (ws.set j w)))
  | _ => none
@[simp] theorem ev_sLPut : sLPut lf g mw e = lpK lf g (mw e) := by
  unfold sLPut lpK
  rcases mw e with _ | ⟨w, e1⟩
  · rfl
  · simp only [Option.bind_some]
    cases w <;> first | rfl | (
      simp only [lpK.lp2, lpK.lp3]
      cases lf e1 with
      | none => rfl
      | some p =>
        simp only [Option.bind_some, lpK.lp4]
        cases g e1 with
        | none => rfl
        | some d => simp only [Option.bind_some]; cases d <;> first | rfl | (simp only [lpK.lp5]; rcases atE e1 p with _ | u <;> first | rfl | (cases u <;> rfl)))
@[simp] theorem lpK_s : lpK lf g (some (w, e)) = lpK.lp2 lf g e w := rfl
@[simp] theorem lp2_p : lpK.lp2 lf g e (.p d) = lpK.lp3 g (.p d) e (lf e) := rfl
@[simp] theorem lp3_s : lpK.lp3 g w e (some p) = lpK.lp4 w e p (g e) := rfl
@[simp] theorem lp4_s {i : Int} : lpK.lp4 w e p (some (.int i)) = lpK.lp5 w e p i (atE e p) := rfl
@[simp] theorem lp5_s {i : Int} : lpK.lp5 w e p i (some (.ol ws)) = (ixN ws.length i).map fun j => .nx (putE e p (.ol (ws.set j w))) := rfl
@[simp] theorem sub_f {fl : Str} {st : List Stp} : W.sub (.oi c gs) (.fd fl :: st) = (getFW gs fl).bind fun w => W.sub w st := by rw [W.sub]
@[simp] theorem sub_k {st : List Stp} : W.sub (.od es) (.ky k :: st) = (valW es k).bind fun w => W.sub w st := by rw [W.sub]
@[simp] theorem sub_i {j : Nat} {st : List Stp} : W.sub (.ol ws) (.ix j :: st) = ws[j]?.bind fun w => W.sub w st := by rw [W.sub]
theorem put_f {fl : Str} {st : List Stp} {w0 : W} (hh : getFW gs fl = some w0) : W.put (.oi c gs) (.fd fl :: st) u = .oi c (setFW gs fl (W.put w0 st u)) := by rw [W.put]; simp only [hh]
theorem put_k {st : List Stp} {w0 : W} (hh : valW es k = some w0) : W.put (.od es) (.ky k :: st) u = .od (setW es k (W.put w0 st u)) := by rw [W.put]; simp only [hh]
theorem put_i {j : Nat} {st : List Stp} {w0 : W} (hh : ws[j]? = some w0) : W.put (.ol ws) (.ix j :: st) u = .ol (ws.set j (W.put w0 st u)) := by rw [W.put]; simp only [hh]
@[simp] theorem dAddI_i {a b : Int} : dAddI (.int a) (.int b) = some (.int (a + b)) := rfl
@[simp] theorem dSub_i {a b : Int} : dSub (.int a) (.int b) = some (.int (a - b)) := rfl
def lrK (f : D → Option (Int × Int)) : Option (D × Env) → Option (D × Env)
  | some x => lr2 x.2 (f x.1)
  | none => none
where lr2 (e : Env) : Option (Int × Int) → Option (D × Env)
  | some q => if -1000000 ≤ q.1 ∧ q.1 ≤ 1000000 ∧ -1000000 ≤ q.2 ∧ q.2 ≤ 1000000 then some (.lst (rngD q.1 (q.2 - q.1).toNat), e) else none
  | none => none
@[simp] theorem ev_listRg {f : D → Option (Int × Int)} : mListRg f m e = lrK f (m e) := by
  unfold mListRg lrK
  rcases m e with _ | ⟨d, e1⟩
  · rfl
  · simp only [Option.bind_some, lrK.lr2]; cases f d <;> rfl
@[simp] theorem lrK_s {f : D → Option (Int × Int)} : lrK f (some (d, e)) = lrK.lr2 e (f d) := rfl
@[simp] theorem lr2_s {a b : Int} : lrK.lr2 e (some (a, b)) = if -1000000 ≤ a ∧ a ≤ 1000000 ∧ -1000000 ≤ b ∧ b ≤ 1000000 then some (.lst (rngD a (b - a).toNat), e) else none := rfl
@[simp] theorem rg1_i {a : Int} : rg1 (.int a) = some (0, a) := rfl
end
/-- by what has been done, the state told in full -/
theorem forRun_go {α : Type} {tg : Tg} {b : S} {g : α → D} (E : List α → Env) (xs : List α) (hs : ∀ pre x post, xs = pre ++ x :: post → forStep tg b (g x) (E pre) = some (.nx (E (pre ++ [x])))) : forRun tg b (xs.map g) (E []) = some (.nx (E xs)) := by
  obtain ⟨e', h1, h2⟩ := forRun_st (tg := tg) (b := b) (g := g) (fun pre e => e = E pre) xs (fun pre x post e hx he => ⟨_, .inl (by rw [he]; exact hs pre x post hx), rfl⟩) (E []) rfl
  rw [h1, h2]
@[simp] theorem frz_map {α : Type} {f : α → D} {xs : List α} : frz (.ol (xs.map fun x => .p (f x))) = some (.lst (xs.map f)) := by
  have := @frz_ol (xs.map f)
  rw [List.map_map] at this
  exact this
/-! ### dicts given by a function on their keys -/
def dmap (S : List Int) (g : Int → W) : List (Key × W) := S.map fun s => (Sum.inl s, g s)
theorem valW_in {S : List Int} {g : Int → W} {k : Int} (h : k ∈ S) : valW (dmap S g) (.inl k) = some (g k) := by
  unfold valW dmap
  induction S with
  | nil => cases h
  | cons s S ih =>
    by_cases z : s = k
    · subst z; simp
    · have hk : k ∈ S := by
        rcases List.mem_cons.mp h with e | e
        · exact absurd e.symm z
        · exact e
      have := ih hk
      simp only [List.map_cons, List.find?_cons]
      rw [decide_eq_false (fun q => z (by cases q; rfl))]
      exact this
theorem valW_out {S : List Int} {g : Int → W} {k : Int} (h : k ∉ S) : valW (dmap S g) (.inl k) = none := by
  unfold valW dmap
  induction S with
  | nil => rfl
  | cons s S ih =>
    simp only [List.mem_cons, not_or] at h
    simp only [List.map_cons, List.find?_cons]
    rw [decide_eq_false (fun q => h.1 (by cases q; rfl))]
    exact ih h.2
theorem valW_d {S : List Int} {g : Int → W} {k : Int} : (valW (dmap S g) (.inl k)).isSome = decide (k ∈ S) := by
  by_cases h : k ∈ S
  · rw [valW_in h]; simp [h]
  · rw [valW_out h]; simp [h]
theorem dmap_any {S : List Int} {g : Int → W} {k : Int} : ((dmap S g).any fun q => decide (q.1 = Sum.inl k)) = decide (k ∈ S) := by
  unfold dmap
  rw [List.any_map]
  induction S with
  | nil => rfl
  | cons s S ih =>
    rw [List.any_cons, ih]
    by_cases z : s = k
    · simp [z]
    · have : k ≠ s := fun q => z q.symm
      simp [z, this]
theorem dmap_congr {S : List Int} {g h : Int → W} (e : ∀ s ∈ S, g s = h s) : dmap S g = dmap S h := List.map_congr_left fun s hs => by rw [e s hs]
theorem dmap_len {S : List Int} {g : Int → W} : (dmap S g).length = S.length := by simp [dmap]
theorem putKW_dmap {S : List Int} {g : Int → W} {k : Int} {w : W} (h : k ∈ S) : putKW (dmap S g) (.inl k) w = dmap S fun s => if s = k then w else g s := by
  unfold putKW
  rw [dmap_any, if_pos (by simpa using h)]
  unfold dmap
  rw [List.map_map]
  refine List.map_congr_left fun s _ => ?_
  by_cases z : s = k
  · simp [z]
  · simp [z]
theorem dputW_dmap {S : List Int} {g : Int → W} {k : Int} {d : D} (h : k ∈ S) (hl : S.length < 1000000) : dputW (dmap S g) (.inl k) (.p d) = some (dmap S fun s => if s = k then .p d else g s) := by
  unfold dputW
  rw [putKW_dmap h, dmap_len]
  simp [isP, hl]
theorem setW_dmap {S : List Int} {g : Int → W} {k : Int} {w : W} (nd : S.Nodup) : setW (dmap S g) (.inl k) w = dmap S fun s => if s = k then w else g s := by
  unfold dmap
  induction S with
  | nil => rfl
  | cons s S ih =>
    rw [List.nodup_cons] at nd
    simp only [List.map_cons, setW]
    by_cases z : s = k
    · subst z
      simp only [if_true, true_and]
      congr 1
      refine List.map_congr_left fun t ht => ?_
      have : t ≠ s := fun q => nd.1 (by rw [← q]; exact ht)
      simp [this]
    · simp only [if_neg z]
      rw [if_neg (fun q => z (by cases q; rfl)), ih nd.2]
theorem ddelW_dmap {S : List Int} {g : Int → W} {k : Int} (h : k ∈ S) : ddelW (dmap S g) (.inl k) = some (dmap (S.filter fun s => decide (s ≠ k)) g) := by
  unfold ddelW
  rw [dmap_any, if_pos (by simpa using h)]
  unfold dmap
  rw [List.filter_map]
  congr 3
  funext s
  simp
theorem keysI_dmap {S : List Int} {g : Int → W} : keysI (dmap S g) = some S := by
  unfold dmap
  induction S with
  | nil => rfl
  | cons s S ih => show (keysI _).map _ = _; rw [ih]; rfl
theorem isort_id : ∀ {l : List Int}, l.Pairwise (· ≤ ·) → isort l = l := fun h => (sorted_is (List.Perm.refl _) h).symm
theorem wSortD_dmap {S : List Int} {g : Int → W} (h : S.Pairwise (· ≤ ·)) (hl : S.length < 64) : wSortD (.od (dmap S g)) = some (.lst (S.map .int)) := by
  show (keysI _).bind _ = _
  rw [keysI_dmap]
  simp only [Option.bind_some]
  rw [if_pos hl, isort_id h]
/-- {s: g(s) for s in ..} -/
theorem dcRun_int {own : List Nat} {i : Nat} {c : M Bool} {mk : M D} {mv : M W} {e : Env} (g : Int → W) : ∀ (S A : List Int), (A ++ S).Nodup → (A ++ S).length < 1000000 → (∀ s ∈ S, nex (g s) = true ∧ ∃ e1 e2 e3, gN i (.int s) e = some e1 ∧ c e1 = some (true, e2) ∧ mk e2 = some (.int s, e3) ∧ ∃ e4, mv e3 = some (g s, e4) ∧ wipeE e4 own = e) →
    dcRun own (gN i) c mk mv (S.map .int) (dmap A g) e = some (dmap (A ++ S) g, e)
  | [], A, _, _, _ => by simp [dcRun]
  | s :: S, A, nd, hl, k => by
    obtain ⟨hn, e1, e2, e3, h1, h2, h3, e4, h4, h5⟩ := k s (by simp)
    have hs : s ∉ A := fun q => by
      rw [List.nodup_append] at nd
      exact nd.2.2 s q s (by simp) rfl
    have hp : dputW (dmap A g) (.inl s) (g s) = some (dmap (A ++ [s]) g) := by
      unfold dputW putKW
      rw [dmap_any, decide_eq_false hs, dmap_len]
      simp only [Bool.not_false, Bool.or_true, if_true, Bool.false_eq_true, if_false]
      rw [if_pos (by simp at hl; omega)]
      simp [dmap]
    have ih := dcRun_int g S (A ++ [s]) (by simpa using nd) (by simpa using hl) fun t ht => k t (by simp [ht])
    rw [List.map_cons]
    simp only [dcRun, h1, Option.bind_some, h2, if_true, h3, h4, hn, keyD_i, hp, h5]
    rw [ih]
    simp
def dcK (own : List Nat) (t : Tg) (c : M Bool) (mk : M D) (mv : M W) : Option (List D × Env) → Option (W × Env)
  | some x => dc2 (dcRun own t c mk mv x.1 [] (wipeE x.2 own))
  | none => none
where dc2 : Option (List (Key × W) × Env) → Option (W × Env)
  | some r => some (.od r.1, r.2)
  | none => none
@[simp] theorem ev_mDc {own : List Nat} {mi : M (List D)} {t : Tg} {c : M Bool} {mk : M D} {mv : M W} {e : Env} : mDc own mi t c mk mv e = dcK own t c mk mv (mi e) := by
  unfold mDc dcK
  cases mi e with
  | none => rfl
  | some x => simp only [Option.bind_some, dcK.dc2]; cases dcRun own t c mk mv x.1 [] (wipeE x.2 own) <;> rfl
@[simp] theorem dcK_s {own : List Nat} {t : Tg} {c : M Bool} {mk : M D} {mv : M W} {e : Env} {ds : List D} : dcK own t c mk mv (some (ds, e)) = dcK.dc2 (dcRun own t c mk mv ds [] (wipeE e own)) := rfl
@[simp] theorem dc2_s {es : List (Key × W)} {e : Env} : dcK.dc2 (some (es, e)) = some (.od es, e) := rfl
end MV

namespace SumX
open PySem PySem.Spec PyProof.Rows L2
open Sem (wp)
theorem args_sum_start (a v : Value) : argsOk "sum" ⟨[a], [(Str.ofString "start", v)]⟩ := by unfold argsOk; kernel_rfl
section
variable {prog : Program} {w : World} {A : Around} {E : Value → Shared → Prop} {s : Shared} {l : Addr}
/-- a walk whose numbering begins with one more -/
theorem walk_up {I : Addr} {fp wr : List Addr} {n : Nat} {P : Nat → Value → Prop} {St : Nat → Heap → Prop} (W : Walks prog w A I fp wr n P St) : Walks prog w A I fp wr (n + 1) (fun i v => ∃ j, i = j + 1 ∧ P j v) (fun i h => ∃ j, i = j + 1 ∧ St j h) where
  sub := W.sub
  frame := fun i h h' ⟨j, e, st⟩ k => ⟨j, e, W.frame j h h' st k⟩
  item := fun i s Q E hi ⟨j, e, st⟩ hQ => W.item j s Q E (by omega) st fun v h' tk p st' k => hQ v h' tk ⟨j, e, p⟩ ⟨j + 1, by omega, st'⟩ k
  done := fun s Q E ⟨j, e, st⟩ hQ => W.done s Q E (by obtain rfl : n = j := by omega
                                                      exact st) hQ
  self := fun i s Q E ⟨j, e, st⟩ hQ => W.self j s Q E st hQ
theorem pre_up (val : Nat → Int) (c : Int) : ∀ n, preSum (fun i => match i with | 0 => c | j + 1 => val j) (n + 1) = c + preSum val n
  | 0 => by simp [preSum]
  | n + 1 => by
    rw [preSum, pre_up val c n]
    show c + preSum val n + val n = c + (preSum val n + val n)
    omega
theorem sum_from {xs : Array (Int × Tok)} {c : Int} {t : Tok} {Q : Value → Shared → Prop} (hc : -(2 ^ 63) ≤ c ∧ c < 2 ^ 63) (hh : A.handled = none) (hl : s.heap.IsList l (intItems xs))
    (h : ∀ h' tk t', (∀ b o, s.heap.get? b = some o → h'.get? b = some o) → Q (.int (c + preSum (numAt xs) xs.size) t') { s with heap := h', toks := tk }) :
    wpAny (model prog w) A (call (.builtin "sum") [.ref l] [(Str.ofString "start", .int c t)]) Q E s := by
  refine PyProof.Rows.kmk_tree F.kind_sum F.plain_sum F.entry_sum (args_sum_start _ _) ?_
  unfold Builtin.«sum»
  simp only [List.length_cons, List.length_nil]
  rw [if_neg (by decide)]
  refine wpAny_bind (wpAny_of_eq (show Builtin.Builtins.bindParams "sum" ["start"] 0 ⟨[], [(Str.ofString "start", .int c t)]⟩ = pure [some (.int c t)] from rfl) ?_)
  refine wpAny_bind (iter_intList hl fun s₂ e st hfp hlI => ?_)
  subst e
  have W := Walks.list (A := A.in1) (prog := prog) (w := w) hh s.heap.objs.size l hlI (intItems xs)
  have W' := walk_up W
  have hval : ∀ i v, (∃ j, i = j + 1 ∧ (intItems xs)[j]? = some v) → ∃ t, v = Value.int ((fun i => match i with | 0 => c | j + 1 => numAt xs j) i) t := fun i v ⟨j, e, q⟩ => by
    subst e
    exact intItems_at q
  have fin : ∀ (t1 : Tok) (stage : Int) (tk1 : Tok), (stage = 0 ∨ stage = 2) → wpAny (model prog w) A.in1 (do
      forIn [("str", "strings", "''"), ("bytes", "bytes", "b''"), ("bytearray", "bytearray", "b''")] PUnit.unit fun (x : String × String × String) (__s : PUnit) => do
          let d ← isInstance (Value.int c t1) (Value.type x.1)
          if d = true then do
              rule "sum.start-refused"
              raiseErrorMade "TypeError" (toString "sum() can't sum " ++ toString x.2.1 ++ toString " [use " ++ toString x.2.2 ++ toString ".join(seq) instead]")
              pure (ForInStep.yield PUnit.unit)
            else pure (ForInStep.yield PUnit.unit)
      let d ← newList [Value.int c t1]
      again (Code.builtin "sum.loop" { pos := [Value.ref s.heap.objs.size, d, rawInt stage, rawInt 0] }))
      (fun fin s' => match fin with
        | .done f => (match (Except.ok f : Result) with | .ok (.ret v) => Q v s' | .ok _ => False | .error e => E e s')
        | .again c' => c'.quiet = true ∧ codeAny (model prog w) A c' (fun r s' => match r with | .ok (.ret v) => Q v s' | .ok _ => False | .error e => E e s') s') E { s with heap := s.heap.push { cls := .type "list_iterator", data := .fields #[.ref l, .int 0 0] }, toks := tk1 } := by
    intro t1 stage tk1 hst1
    simp only [List.forIn_cons, List.forIn_nil]
    refine wpAny_bind (wpAny_bind (wpAny_bind (wpAny_isInstance (T := "int") (b := false) (typeIs_int _ _ _) PySem.sub_int_str ?_)))
    simp only [Bool.false_eq_true, if_false]
    refine wpAny_pure (wpAny_bind (wpAny_bind (wpAny_isInstance (T := "int") (b := false) (typeIs_int _ _ _) PySem.sub_int_bytes ?_)))
    simp only [Bool.false_eq_true, if_false]
    refine wpAny_pure (wpAny_bind (wpAny_bind (wpAny_isInstance (T := "int") (b := false) (typeIs_int _ _ _) PySem.sub_int_bytearray ?_)))
    simp only [Bool.false_eq_true, if_false]
    refine wpAny_pure (wpAny_pure ?_)
    refine wpAny_bind (wpAny_newObj_type ?_)
    have hSf : (s.heap.push { cls := .type "list_iterator", data := .fields #[.ref l, .int 0 0] }).objs.size ∉ [s.heap.objs.size, l] := fun hm => Nat.lt_irrefl _ (hfp _ hm)
    refine wpAny_pure ⟨plainId_quiet F.plain_sum_loop _, codeAny_sum_loopG W' (fun i => match i with | 0 => c | j + 1 => numAt xs j) hval _ hSf xs.size 1 _ t1 0 stage hst1 (by simp [intItems]) (by omega)
      ⟨0, rfl, W.frame _ _ _ st fun b _ o e => Heap.get?_push_of_some _ e⟩ ?_ fun h' tk t' hk => ?_⟩
    · have e1 : preSum (fun i => match i with | 0 => c | j + 1 => numAt xs j) 1 = c := by simp [preSum]
      rw [e1]
      exact Heap.get?_push_size _ rfl
    · have hz : (intItems xs).size = xs.size := by simp [intItems]
      rw [hz, pre_up]
      refine h h' tk t' fun b o e => ?_
      have e2 := Heap.get?_push_of_some { cls := .type "list_iterator", data := .fields #[.ref l, .int 0 0] } e
      have hb := Heap.lt_size e
      exact hk b o (fun hm => by rcases List.mem_cons.mp hm with z | z; exact Nat.ne_of_lt hb z; cases z) (Nat.ne_of_lt (Heap.lt_size e2)) (Heap.get?_push_of_some _ e2)
  show wpAny (model prog w) A.in1 (if _ = true then _ else _) _ _ _
  split
  · refine wpAny_bind (wpAny_rule (wpAny_bind (wpAny_mkInt (wpAny_bind (wpAny_pure ?_)))))
    exact fin _ 0 _ (Or.inl rfl)
  · refine wpAny_bind (wpAny_pure ?_)
    exact fin t 2 s.toks (Or.inr rfl)
end
end SumX

namespace MV
open PySem L2
variable [TB]
/-! ### built-ins with keywords, more built-ins -/
section
variable {X : Cx}
theorem ints_reads {h : Heap} : ∀ {ns : List Int} {us : List Value}, PyProof.Rows.IntsAre us ns → ReadsAll h us (ns.map .int) [] := by
  intro ns us r
  induction r with
  | nil => exact .nil
  | cons _ _ _ ih => exact ReadsAll.cons (as := []) (bs := []) (.int _ _) ih
theorem alike_ints {ns : List Int} : PySem.W.AlikeAll (ns.map PyData.int) := by
  refine ⟨fun x hx y hy => ?_, fun x hx => ?_⟩
  · obtain ⟨i, _, rfl⟩ := List.mem_map.mp hx
    obtain ⟨j, _, rfl⟩ := List.mem_map.mp hy
    simp [PySem.W.alike]
  · obtain ⟨i, _, rfl⟩ := List.mem_map.mp hx
    exact fun z => by cases z
theorem depth_ints : ∀ ns : List Int, PyData.depthAll (ns.map .int) = 0
  | [] => by simp [PyData.depthAll]
  | i :: l => by rw [List.map_cons]; simp only [PyData.depthAll, PyData.depth]; rw [depth_ints l]; rfl
def rSumS (K : PySem.W.Frag) : List V → List V → Hp → VK → Prop := fun vs zs H Q => ∃ (a : Addr) (ns : List Int) (c : Int), vs = [V.ref a] ∧ zs = [.int c] ∧ SqL K H a (ns.map V.int) ∧ (-(2 ^ 63) ≤ c ∧ c < 2 ^ 63) ∧ Q (.int (c + ns.sum)) H
theorem cr_sumS (hc : X.calm = true) : CallRK X (.builtin "sum") [Str.ofString "start"] (rSumS X.K) := by
  intro pins s σ H vs zs us ws Q I r rz h
  obtain ⟨a, ns, c, rfl, rfl, hs, hcc, q⟩ := h
  obtain ⟨its, rv, hl, _⟩ := I.list hs
  obtain ⟨w1, rfl, t, rfl⟩ := vals1 rz
  rw [Vals.ref1 r]
  obtain ⟨xs, e⟩ := rv.ints.allInts.items
  have hn : numsOf (intItems xs).toList = ns := by rw [← e]; exact rv.ints.numsOf
  rw [nums_intItems] at hn
  have hl := hl.isList
  rw [e] at hl
  refine SumX.sum_from hcc (I.ok.hd hc) hl fun h' tk t' hk => ?_
  refine ⟨.int _, H, I.kept hk, ⟨_, rfl⟩, ?_⟩
  rw [preSum_eq, List.take_of_length_le (by simp), hn]
  exact q
def dfl (ns : List Int) (f : Int → Int → Int) (d : V) : V := match ns with
  | [] => d
  | n :: r => .int (r.foldl f n)
def rBestD (K : PySem.W.Frag) (f : Int → Int → Int) : List V → List V → Hp → VK → Prop := fun vs zs H Q => ∃ (a : Addr) (ns : List Int) (d : V), vs = [V.ref a] ∧ zs = [d] ∧ SqL K H a (ns.map V.int) ∧ Q (dfl ns f d) H
theorem cr_maxD (hc : X.calm = true) (hu : X.A.units + 1 < cLine) : CallRK X (.builtin "max") [Str.ofString "default"] (rBestD X.K max) := by
  intro pins s σ H vs zs us ws Q I r rz h
  obtain ⟨a, ns, d, rfl, rfl, hs, q⟩ := h
  obtain ⟨its, rv, hl, _⟩ := I.list hs
  obtain ⟨w1, rfl, rd⟩ := vals1 rz
  rw [Vals.ref1 r]
  refine PySem.W.max_list_default (I.ok.hd hc) hl.isList (ints_reads (ns := ns) (by simpa using rv.ints)) alike_ints (by rw [depth_ints]; exact hu) (fun z h' tk hk => ?_) fun y ys i v h' tk bs e hv rr hk => ?_
  · have : ns = [] := by simpa using z
    subst this
    exact ⟨d, H, I.kept hk, rd, q⟩
  · cases ns with
    | nil => cases e
    | cons n ns =>
      cases e
      rw [PySem.W.maxD_ints] at rr
      cases rr with
      | int _ t => exact ⟨.int _, H, I.kept hk, ⟨t, rfl⟩, q⟩
theorem cr_minD (hc : X.calm = true) (hu : X.A.units + 1 < cLine) : CallRK X (.builtin "min") [Str.ofString "default"] (rBestD X.K min) := by
  intro pins s σ H vs zs us ws Q I r rz h
  obtain ⟨a, ns, d, rfl, rfl, hs, q⟩ := h
  obtain ⟨its, rv, hl, _⟩ := I.list hs
  obtain ⟨w1, rfl, rd⟩ := vals1 rz
  rw [Vals.ref1 r]
  refine PySem.W.min_list_default (I.ok.hd hc) hl.isList (ints_reads (ns := ns) (by simpa using rv.ints)) alike_ints (by rw [depth_ints]; exact hu) (fun z h' tk hk => ?_) fun y ys i v h' tk bs e hv rr hk => ?_
  · have : ns = [] := by simpa using z
    subst this
    exact ⟨d, H, I.kept hk, rd, q⟩
  · cases ns with
    | nil => cases e
    | cons n ns =>
      cases e
      rw [PySem.W.minD_ints] at rr
      cases rr with
      | int _ t => exact ⟨.int _, H, I.kept hk, ⟨t, rfl⟩, q⟩
end
/-- data with keywords -/
def CallDK (K : PySem.W.Frag) (mg : Str → Option Value) (r : List V → List V → Hp → VK → Prop) (f : List D → List D → Option D) : Prop :=
  ∀ (I H : Hp) (ds es : List D) (z : D) (vs zs : List V) (Q : VK), Ex I H → RpL K mg I ds vs → RpL K mg I es zs → f ds es = some z → (∀ v' I' H', Gr I H I' H' → Rp K mg I' z v' → Q v' H') → r vs zs H Q
def mDispK (f : List D → List D → Option D) (ma mk : M (List Arg)) : M D := fun e => (ma e).bind fun x => (allD x.1).bind fun ds => (mk x.2).bind fun y => (allD y.1).bind fun es => (f ds es).map fun d => (d, y.2)
theorem se_callBK {X : Cx} {id : String} {x : Str} {a : Expr} {es : List Expr} {kws : List Keyword} {ks : List Str} {p pos : Pos} {r : List V → List V → Hp → VK → Prop} {f : List D → List D → Option D} {m mk : M (List Arg)} (hc : CallRK X (.builtin id) ks r) (hf : CallDK X.K X.mg r f) (hg : Gl X x) (hm : X.mg x = none) (hv : bootBuiltins x = some (.builtin id)) (ha : SA X (a :: es) m) (hk : SK X kws mk) (hn : x ≠ "__name__" := by decide) (hdb : (x == ("__debug__" : Str)) = false := by decide)
    (he : backTo pos (starEach (a :: es) X.env) = (false, eval a X.env) :: backTo pos (starEach es X.env) := by rfl) (hpl : (backTo pos (starEach (a :: es) X.env)).any (·.1) = false := by rfl)
    (hall : (backToKw pos (keywordEach kws X.env)).all (·.1.isSome) = true := by rfl) (hnone : (backToKw pos (keywordEach kws X.env)).any (·.1.isNone) = false := by rfl) (hks : (backToKw pos (keywordEach kws X.env)).filterMap (·.1) = ks := by rfl) :
    SE X (.Call (.Name x p) (a :: es) kws pos) (mDispK f m mk) := PE.imp (pe_callBK hc hg hm hv ha hk hn hdb he hpl hall hnone hks) fun σ H Q ⟨I, e, Fs, R, d, e', hm, k⟩ => by
  obtain ⟨⟨as, e1⟩, h1, hm⟩ := Option.bind_eq_some_iff.mp hm
  obtain ⟨ds, h2, hm⟩ := Option.bind_eq_some_iff.mp hm
  obtain ⟨⟨bs, e2⟩, h3, hm⟩ := Option.bind_eq_some_iff.mp hm
  obtain ⟨es', h4, hm⟩ := Option.bind_eq_some_iff.mp hm
  obtain ⟨z0, h5, hm⟩ := Option.map_eq_some_iff.mp hm
  cases hm
  refine ⟨I, e, Fs, R, as, e1, h1, fun vs I1 F1 H1 R1 x1 ar => ⟨I1, e1, F1, R1, bs, e2, h3, fun zs I2 F2 H2 R2 x2 br => ?_⟩⟩
  refine hf I2 H2 ds es' d vs zs Q R2.sub (RpL.mono x2.g.ex _ _ (allD_rp h2 ar)) (allD_rp h4 br) h5 fun v' I3 H3 g r3 => ?_
  obtain ⟨R3, x3⟩ := g.rel R2
  exact k v' I3 F2 H3 R3 ((x1.trans x2).trans x3) r3
def fSumS : List D → List D → Option D
  | [.lst ds], [.int c] => if -1000000 ≤ c ∧ c ≤ 1000000 then (intsD ds).map fun ns => .int (c + ns.sum) else none
  | _, _ => none
theorem cd_sumS {K : PySem.W.Frag} {mg : Str → Option Value} : CallDK K mg (rSumS K) fSumS := by
  intro I H ds es z vs zs Q s r rz e k
  unfold fSumS at e
  split at e
  · rename_i ds0 c
    split at e
    · rename_i hc
      obtain ⟨ns, h1, e⟩ := Option.map_eq_some_iff.mp e
      cases e
      obtain ⟨v, rfl, h⟩ := r.one
      obtain ⟨u, rfl, hu⟩ := rz.one
      simp only [Rp] at h hu
      subst hu
      obtain ⟨a, xs, rfl, h2, h3⟩ := h
      have := ints_v h1 h3
      subst this
      exact ⟨a, ns, c, rfl, rfl, .of (s _ _ h2), by omega, k _ I H .same rp_int⟩
    · cases e
  · cases e
def fBestD (f : Int → Int → Int) : List D → List D → Option D
  | [.lst ds], [d] => (intsD ds).map fun ns => match ns with
    | [] => d
    | n :: r => .int (r.foldl f n)
  | _, _ => none
theorem cd_bestD {K : PySem.W.Frag} {mg : Str → Option Value} {f : Int → Int → Int} : CallDK K mg (rBestD K f) (fBestD f) := by
  intro I H ds es z vs zs Q s r rz e k
  unfold fBestD at e
  split at e
  · rename_i ds0 d
    obtain ⟨ns, h1, e⟩ := Option.map_eq_some_iff.mp e
    obtain ⟨v, rfl, h⟩ := r.one
    obtain ⟨u, rfl, hu⟩ := rz.one
    simp only [Rp] at h
    obtain ⟨a, xs, rfl, h2, h3⟩ := h
    have := ints_v h1 h3
    subst this
    refine ⟨a, ns, u, rfl, rfl, .of (s _ _ h2), ?_⟩
    cases ns with
    | nil => cases e; exact k _ I H .same hu
    | cons n ns => cases e; exact k _ I H .same rp_int
  · cases e
/-- sum(xs) -/
def fSum : List D → Option D
  | [.lst ds] => (intsD ds).map fun ns => .int ns.sum
  | _ => none
theorem cd_sum {K : PySem.W.Frag} {mg : Str → Option Value} : CallD K mg (rSum K) fSum := by
  intro I H ds z vs Q s r e k
  unfold fSum at e
  split at e
  · obtain ⟨ns, h1, e⟩ := Option.map_eq_some_iff.mp e
    cases e
    obtain ⟨v, rfl, h⟩ := r.one
    simp only [Rp] at h
    obtain ⟨a, xs, rfl, h2, h3⟩ := h
    have := ints_v h1 h3
    subst this
    exact ⟨a, ns, rfl, .of (s _ _ h2), k _ I H .same rp_int⟩
  · cases e
/-- max(a, b), min(a, b) -/
def fMax2 : List D → Option D
  | [.int i, .int j] => some (.int (if j > i then j else i))
  | _ => none
def fMin2 : List D → Option D
  | [.int i, .int j] => some (.int (if j < i then j else i))
  | _ => none
theorem cd_max2 {K : PySem.W.Frag} {mg : Str → Option Value} : CallD K mg (fun xs H Q => ∃ i j, xs = [.int i, .int j] ∧ Q (.int (if j > i then j else i)) H) fMax2 := by
  intro I H ds z vs Q s r e k
  unfold fMax2 at e
  split at e
  · cases e
    simp only [RpL] at r
    obtain ⟨v1, r1, rfl, h1, v2, r2, rfl, h2, rfl⟩ := r
    simp only [Rp] at h1 h2
    subst h1 h2
    exact ⟨_, _, rfl, k _ I H .same rp_int⟩
  · cases e
theorem cd_min2 {K : PySem.W.Frag} {mg : Str → Option Value} : CallD K mg (fun xs H Q => ∃ i j, xs = [.int i, .int j] ∧ Q (.int (if j < i then j else i)) H) fMin2 := by
  intro I H ds z vs Q s r e k
  unfold fMin2 at e
  split at e
  · cases e
    simp only [RpL] at r
    obtain ⟨v1, r1, rfl, h1, v2, r2, rfl, h2, rfl⟩ := r
    simp only [Rp] at h1 h2
    subst h1 h2
    exact ⟨_, _, rfl, k _ I H .same rp_int⟩
  · cases e
/-- min(xs), max(xs), xs a list of ints -/
def fMin1 : List D → Option D
  | [.lst ds] => (intsD ds).bind fun ns => match ns with
    | [] => none
    | n :: r => some (.int (r.foldl min n))
  | _ => none
theorem foldl_min : ∀ (r : List Int) (n : Int), (r.foldl min n ∈ n :: r) ∧ ∀ y ∈ n :: r, r.foldl min n ≤ y
  | [], n => by simp
  | a :: r, n => by
    obtain ⟨h1, h2⟩ := foldl_min r (min n a)
    rw [List.foldl_cons]
    refine ⟨?_, fun y hy => ?_⟩
    · rcases List.mem_cons.mp h1 with h | h
      · rw [h]
        rcases Int.le_total n a with z | z
        · rw [Int.min_eq_left z]; simp
        · rw [Int.min_eq_right z]; simp
      · simp [h]
    · have h0 := h2 (min n a) (by simp)
      rcases List.mem_cons.mp hy with rfl | hy
      · have := Int.min_le_left y a; omega
      · rcases List.mem_cons.mp hy with rfl | hy
        · have := Int.min_le_right n y; omega
        · exact h2 y (by simp [hy])
theorem cd_min1 {K : PySem.W.Frag} {mg : Str → Option Value} : CallD K mg (rMin K) fMin1 := by
  intro I H ds z vs Q s r e k
  unfold fMin1 at e
  split at e
  · obtain ⟨ns, h1, e⟩ := Option.bind_eq_some_iff.mp e
    obtain ⟨v, rfl, h⟩ := r.one
    simp only [Rp] at h
    obtain ⟨a, xs, rfl, h2, h3⟩ := h
    have := ints_v h1 h3
    subst this
    cases ns with
    | nil => cases e
    | cons n ns =>
      cases e
      refine ⟨a, _, rfl, .of (s _ _ h2), by simp, fun m hm hle => ?_⟩
      obtain ⟨q1, q2⟩ := foldl_min ns n
      have : m = ns.foldl min n := by
        have := hle _ q1
        have := q2 m hm
        omega
      rw [this]
      exact k _ I H .same rp_int
  · cases e
end MV

namespace StarX
open PySem PySem.Spec L2
open Sem (wp)
section
variable {prog : Program} {w : World} {A : Around} {E : Value → Shared → Prop} {s : Shared}
theorem walk_from {I : Addr} {fp wr : List Addr} {n : Nat} {P : Nat → Value → Prop} {St : Nat → Heap → Prop} (W : Walks prog w A I fp wr n P St) (k : Nat) (hk : k ≤ n) : Walks prog w A I fp wr (n - k) (fun i => P (k + i)) (fun i => St (k + i)) where
  sub := W.sub
  frame := fun i h h' st q => W.frame (k + i) h h' st q
  item := fun i s Q E hi st hQ => W.item (k + i) s Q E (by omega) st fun v h' tk p st' q => hQ v h' tk p st' q
  done := fun s Q E st hQ => W.done s Q E (by
    have e : k + (n - k) = n := by omega
    have st : St (k + (n - k)) s.heap := st
    rw [e] at st
    exact st) hQ
  self := fun i s Q E st hQ => W.self (k + i) s Q E st hQ
/-- a, *b = t -/
theorem unpack_star {t : Addr} {items : Array Value} {x : Value} {Q : List Value → Shared → Prop} (hh : A.handled = none) (ht : s.heap.IsTuple t items) (h0 : items[0]? = some x) (hz : items.size ≤ sizeLine)
    (hQ : ∀ h' tk l c, h'.get? l = some { cls := .type "list", data := .seq (items.toList.drop 1).toArray c } → s.heap.get? l = none → (∀ b o, s.heap.get? b = some o → h'.get? b = some o) → Q [x, .ref l] { s with heap := h', toks := tk }) :
    wpAny (model prog w) A (unpackItems (.ref t) 2 (some 1)) Q E s := by
  have hlt : t ≠ s.heap.objs.size := by obtain ⟨o, ho, _⟩ := ht; exact Nat.ne_of_lt (Heap.lt_size ho)
  have hpos : 0 < items.size := by
    by_cases z : 0 < items.size
    · exact z
    · rw [Array.getElem?_eq_none (by omega)] at h0; cases h0
  unfold unpackItems
  refine wpAny_bind ?_
  unfold notIterableAtAll
  refine wpAny_bind (wpAny_specialOf ht.typeIs PySem.F.slot_tuple_iter.lookup ?_)
  refine wpAny_pure ?_
  simp only [Bool.false_eq_true, if_false]
  refine wpAny_bind (wpAny_holding (wpAny_pyIter_tuple ht ?_))
  refine wpAny_bind (wpAny_holding (wpAny_draw_tuple hlt 1 0 _ _ ⟨_, Heap.get?_push_size _ rfl, rfl, rfl⟩ (ht.push _) (by omega) fun h₁ hit₁ hs₁ => ?_))
  have hall : List.take 1 (List.drop 0 items.toList) = [x] := by
    rw [List.drop_zero]
    have : items.toList[0]? = some x := by rw [← h0]; simp
    cases e : items.toList with
    | nil => rw [e] at this; cases this
    | cons y ys => rw [e] at this; cases this; rfl
  rw [hall]
  rw [if_neg (by simp)]
  have ht₁ : h₁.IsTuple t items := (ht.push _).extBut hs₁.extBut hlt
  have W := (walk_from (Walks.tuple (A := A.in1) (prog := prog) (w := w) hh s.heap.objs.size t hlt items) 1 (by omega)).toS
  have hb1 : s.heap.objs.size < h₁.objs.size := by obtain ⟨o, ho, _⟩ := hit₁; exact Heap.lt_size ho
  refine wpAny_bind (wpAny_holding (wpAny_collect_iter (T := "tuple_iterator") (.inr (.inr (.inr rfl))) W (fun i s st => st.1.typeIs) ⟨hit₁, ht₁⟩ (fun b hb => ?_) (by simp) (fun s' acc m ha => ?_) (by omega)))
  · rcases List.mem_cons.mp hb with rfl | hb
    · exact hb1
    · rcases List.mem_cons.mp hb with rfl | hb
      · obtain ⟨o, ho, _⟩ := ht₁; exact Heap.lt_size ho
      · cases hb
  · have eacc : acc.toList = items.toList.drop 1 := by
      refine List.ext_getElem? fun j => ?_
      rw [List.getElem?_drop, Array.getElem?_toList, Array.getElem?_toList]
      by_cases hj : j < acc.size
      · obtain ⟨v, hv⟩ : ∃ v, acc[j]? = some v := ⟨acc[j], by simp [hj]⟩
        rw [hv, ha.2 j v hv]
      · have h1 := ha.1
        rw [Array.getElem?_eq_none (by omega), Array.getElem?_eq_none (by omega)]
    have e1 : (2 : Nat) - 1 - 1 = 0 := rfl
    rw [if_neg (by omega)]
    rw [e1, Nat.sub_zero, List.take_length, List.drop_length, eacc]
    have hz' : (items.toList.drop 1).length ≤ sizeLine := by
      rw [List.length_drop]
      have : items.toList.length = items.size := by simp
      omega
    refine wpAny_bind (wpAny_newList ?_ hz')
    refine wpAny_pure ?_
    have kp : ∀ b o, s.heap.get? b = some o → s'.heap.get? b = some o := fun b o e => by
      have hb := Heap.lt_size e
      refine m.heap b o (fun z => ?_) (hs₁.extBut b o (Nat.ne_of_lt hb) (Heap.get?_push_of_some _ e))
      rcases List.mem_cons.mp z with z | z
      · exact Nat.ne_of_lt hb z
      · cases z
    have es : ({ s' with heap := s'.heap.push { cls := .type "list", data := .seq (items.toList.drop 1).toArray } } : Shared) = { s with heap := s'.heap.push { cls := .type "list", data := .seq (items.toList.drop 1).toArray }, toks := s'.toks } := by
      have g := m.gens
      have d := m.drawn
      have o := m.os
      obtain ⟨hp, gg, dd, tt, oo⟩ := s'
      simp only at g d o
      subst g d o
      rfl
    have hq := hQ (s'.heap.push { cls := .type "list", data := .seq (items.toList.drop 1).toArray }) s'.toks s'.heap.objs.size _ (Heap.get?_push_size _ rfl) ?_ fun b o e => Heap.get?_push_of_some _ (kp b o e)
    · rw [es]
      exact hq
    · cases e : s.heap.get? s'.heap.objs.size with
      | none => rfl
      | some o => exact absurd (Heap.lt_size (kp _ o e)) (Nat.lt_irrefl _)
end
end StarX

namespace L2
open PySem PySem.Spec PyProof.Rows
section
variable {X : Cx}
/-- a, *b = t: b a new list -/
def gStar (K : PySem.W.Frag) (t : TGs) : TG := fun v σ H Q => ∃ a x r, v = .ref a ∧ SqT K H a (x :: r) ∧ ∀ l, H l = none → t [x, .ref l] σ (upd H l (.lst r)) Q
theorem pg_star {ea eb : Expr} {k : Nat} {pos sp : Pos} {t : TGs} (hc : X.calm = true) (h : PGs X [ea, eb] t)
    (hn : (assignEach [ea, .Starred eb sp] X.env).length = 2 := by rfl) (hst : (assignEach [ea, .Starred eb sp] X.env).findIdx? (·.1) = some 1 := by rfl) (he : (assignEach [ea, .Starred eb sp] X.env).map (·.2) = (assignEach [ea, eb] X.env).map (·.2) := by rfl) :
    PG X (.Tuple [ea, .Starred eb sp] k pos) (gStar X.K t) := by
  refine ⟨fun pins s σ H v u Q I r hw => ?_⟩
  obtain ⟨a, x, xs, e1, hq, hw⟩ := hw
  subst e1
  cases r
  obtain ⟨its, rv, ht, hz⟩ := I.tuple hq
  cases rv with
  | cons rx rr =>
    rename_i ux ur
    rw [arm_assign_Tuple]
    refine wpAny_bind (wpAny_standAt ?_)
    unfold unpack
    rw [hn, hst, he]
    have hl := rr.length
    refine wpAny_bind (wpAny_holding (StarX.unpack_star (x := ux) (I.ok.hd hc) ht (by simp) (by simpa [← hl] using hz) fun h' tk l c hg hgn kp => ?_))
    have hn : H l = none := I.hok.gone hgn
    have I1 : Inv X pins σ (upd H l (.lst xs)) { s with heap := h', toks := tk } := I.laidN kp hgn hn
      (show ObjOk X.prog X.w _ _ _ (.lst xs) from ⟨by simp at hz; omega, ur, c, rr, by simpa using hg⟩)
    exact h.run pins _ σ _ [x, V.ref l] _ Q I1 (.cons rx (.cons (show RelV (V.ref l) (Value.ref l) from rfl) .nil)) (hw l hn)
end
end L2
namespace MV
open PySem L2
variable [TB]
/-- a, *b = t, two names -/
def sStar (i j : Nat) (m : M D) : S := fun e => (m e).bind fun x => match x.1 with
  | .tup (d :: r) => some (.nx ((x.2.set i (some (.p d))).set j (some (.p (.lst r)))))
  | _ => none
theorem ss_star {X : Cx} {A : Nat → Bool} {Wx : WX} {ea eb a : Expr} {i j k : Nat} {m : M D} {pos tp sp : Pos} (hA : A i = true) (hB : A j = true) (hc : X.calm = true) (he : SE X a m) (hg : PGs X [ea, eb] (gCons (gName i) (gCons (gName j) gNil)))
    (hs : swapsWithSole [.Tuple [ea, .Starred eb sp] k tp] a pos.line X.env = pure false := by rfl) (hw : swappedStores [.Tuple [ea, .Starred eb sp] k tp] a X.env = pure none := by rfl)
    (h1 : (assignEach [.Tuple [ea, .Starred eb sp] k tp] X.env).map (·.2) = [assign (.Tuple [ea, .Starred eb sp] k tp) X.env] := by rfl)
    (hn : (assignEach [ea, .Starred eb sp] X.env).length = 2 := by rfl) (hst : (assignEach [ea, .Starred eb sp] X.env).findIdx? (·.1) = some 1 := by rfl) (hm : (assignEach [ea, .Starred eb sp] X.env).map (·.2) = (assignEach [ea, eb] X.env).map (·.2) := by rfl) :
    SS X A Wx (.Assign [.Tuple [ea, .Starred eb sp] k tp] a pos) (sStar i j m) := PS.imp (ps_asg he (pg_star hc hg hn hst hm) hs hw h1) fun Dd σ H ⟨I, e, Fs, R, r, hm, q⟩ => by
  obtain ⟨⟨d, e1⟩, h1, hm⟩ := Option.bind_eq_some_iff.mp hm
  refine ⟨I, e, Fs, R, d, e1, h1, ?_⟩
  cases d with
  | tup ds =>
    cases ds with
    | nil => cases hm
    | cons d0 r0 =>
    cases hm
    intro v I1 F1 H1 R1 x1 r1
    simp only [Rp] at r1
    obtain ⟨a, xs, rfl, hq, hr⟩ := r1
    simp only [RpL] at hr
    obtain ⟨x, xr, rfl, hx, hr⟩ := hr
    refine ⟨a, x, xr, rfl, ex_t R1.sub hq, fun l hl => ?_⟩
    obtain ⟨R2, x2⟩ := R1.laid (o := .lst xr) hl
    have hI : I1 l = none := sub_none R1.sub hl
    have R3 := R2.putD (i := i) (hx.mono x2.g.ex _ _)
    have hrl : Rp X.K X.mg (upd I1 l (.lst xr)) (.lst r0) (.ref l) := by
      simp only [Rp]
      exact ⟨l, xr, rfl, upd_same, RpL.mono x2.g.ex _ _ hr⟩
    have R4 := R3.putD (i := j) hrl
    have x3 := ((x1.trans x2).less (F2 := putF F1 i []) (fun a m => m.nil)).less (F2 := putF (putF F1 i []) j []) (fun a m => m.nil)
    refine ⟨x, [.ref l], rfl, ?_⟩
    refine ⟨.ref l, [], rfl, ?_⟩
    exact ⟨rfl, q _ _ _ _ R4 x3 ((Agr.refl.set hA).set hB)⟩
  | _ => cases hm
def starK (i j : Nat) : Option (D × Env) → Option SR
  | some (.tup (d :: r), e) => some (.nx ((e.set i (some (.p d))).set j (some (.p (.lst r)))))
  | _ => none
@[simp] theorem ev_star {i j : Nat} {m : M D} {e : Env} : sStar i j m e = starK i j (m e) := by
  unfold sStar starK
  rcases m e with _ | ⟨d, e1⟩
  · rfl
  · cases d with
    | tup ds => cases ds <;> rfl
    | _ => rfl
@[simp] theorem starK_s {i j : Nat} {d : D} {r : List D} {e : Env} : starK i j (some (.tup (d :: r), e)) = some (.nx ((e.set i (some (.p d))).set j (some (.p (.lst r))))) := rfl
end MV

namespace MV
open PySem L2
section
variable {e : Env} {b c : Bool}
@[simp] theorem cond_d3 : cond c (some (D.bool false, e)) (some (D.bool b, e)) = some (D.bool (!c && b), e) := by cases c <;> simp
@[simp] theorem cond_b3 : cond c (some (false, e)) (some (b, e)) = some (!c && b, e) := by cases c <;> simp
end
/-! ### plain data: numbers, texts, lists and tuples of them -/
def Pd : Nat → D → Prop
  | _, .int _ => True
  | _, .str x => PyData.strOk x = true
  | n + 1, .lst ds => ∀ d ∈ ds, Pd n d
  | n + 1, .tup ds => ∀ d ∈ ds, Pd n d
  | _, _ => False
theorem Pd.up : ∀ {n m : Nat} {d : D}, n ≤ m → Pd n d → Pd m d
  | n, m, .int _, _, _ => by cases m <;> trivial
  | n, m, .str x, _, h => by cases n <;> cases m <;> exact h
  | 0, m, .lst ds, _, h => h.elim
  | n + 1, 0, .lst ds, hl, h => by omega
  | n + 1, m + 1, .lst ds, hl, h => fun d hd => Pd.up (by omega) (h d hd)
  | 0, m, .tup ds, _, h => h.elim
  | n + 1, 0, .tup ds, hl, h => by omega
  | n + 1, m + 1, .tup ds, hl, h => fun d hd => Pd.up (by omega) (h d hd)
  | n, m, .none, _, h => by cases n <;> exact h.elim
  | n, m, .bool _, _, h => by cases n <;> exact h.elim
  | n, m, .fl _, _, h => by cases n <;> exact h.elim
  | n, m, .ft _, _, h => by cases n <;> exact h.elim
  | n, m, .exc _ _ _ _, _, h => by cases n <;> exact h.elim
  | n, m, .dict _, _, h => by cases n <;> exact h.elim
  | n, m, .inst _ _, _, h => by cases n <;> exact h.elim
theorem pds_py {n : Nat} (ih : ∀ d, Pd n d → ∃ p, toPy d = some p ∧ p.canLay0 = true ∧ p.depth ≤ n) : ∀ ds : List D, (∀ d ∈ ds, Pd n d) → ∃ ps, toPys ds = some ps ∧ PyData.canLayAll0 ps = true ∧ PyData.depthAll ps ≤ n
  | [], _ => ⟨[], by simp [toPys], by simp [PyData.canLayAll0], by simp [PyData.depthAll]⟩
  | d :: ds, h => by
    obtain ⟨p, h1, h2, h3⟩ := ih d (h d (by simp))
    obtain ⟨ps, q1, q2, q3⟩ := pds_py ih ds fun d hd => h d (by simp [hd])
    exact ⟨p :: ps, by simp [toPys, h1, q1], by simp [PyData.canLayAll0, h2, q2], by simp only [PyData.depthAll]; omega⟩
theorem pd_py : ∀ (n : Nat) (d : D), Pd n d → ∃ p, toPy d = some p ∧ p.canLay0 = true ∧ p.depth ≤ n
  | n, .int i, _ => ⟨.int i, by simp [toPy], by simp [PyData.canLay0], by simp [PyData.depth]⟩
  | n, .str x, h => ⟨.str x, by simp [toPy], by cases n <;> simpa [PyData.canLay0, Pd] using h, by simp [PyData.depth]⟩
  | 0, .lst ds, h => h.elim
  | n + 1, .lst ds, h => by
    obtain ⟨ps, q1, q2, q3⟩ := pds_py (pd_py n) ds h
    exact ⟨.list ps, by simp [toPy, q1], by simp [PyData.canLay0, q2], by simp only [PyData.depth]; omega⟩
  | 0, .tup ds, h => h.elim
  | n + 1, .tup ds, h => by
    obtain ⟨ps, q1, q2, q3⟩ := pds_py (pd_py n) ds h
    exact ⟨.tuple ps, by simp [toPy, q1], by simp [PyData.canLay0, q2], by simp only [PyData.depth]; omega⟩
  | n, .none, h => by cases n <;> exact h.elim
  | n, .bool _, h => by cases n <;> exact h.elim
  | n, .fl _, h => by cases n <;> exact h.elim
  | n, .ft _, h => by cases n <;> exact h.elim
  | n, .exc _ _ _ _, h => by cases n <;> exact h.elim
  | n, .dict _, h => by cases n <;> exact h.elim
  | n, .inst _ _, h => by cases n <;> exact h.elim
theorem pds_eqv {n : Nat} (ih : ∀ (m : Nat) (d d' : D) (p q : PyData), Pd n d → Pd m d' → toPy d = some p → toPy d' = some q → (PyData.eqv p q = true ↔ d = d')) {m : Nat} : ∀ (ds es : List D) (ps qs : List PyData), (∀ d ∈ ds, Pd n d) → (∀ d ∈ es, Pd m d) → toPys ds = some ps → toPys es = some qs → (PyData.eqvAll ps qs = true ↔ ds = es)
  | [], [], ps, qs, _, _, h1, h2 => by simp [toPys] at h1 h2; subst h1 h2; simp [PyData.eqvAll]
  | [], e :: es, ps, qs, _, hm, h1, h2 => by
    simp only [toPys] at h1 h2
    obtain ⟨x, _, h2⟩ := Option.bind_eq_some_iff.mp h2
    obtain ⟨y, _, rfl⟩ := Option.map_eq_some_iff.mp h2
    cases h1
    simp [PyData.eqvAll]
  | d :: ds, [], ps, qs, _, hm, h1, h2 => by
    simp only [toPys] at h1 h2
    obtain ⟨x, _, h1⟩ := Option.bind_eq_some_iff.mp h1
    obtain ⟨y, _, rfl⟩ := Option.map_eq_some_iff.mp h1
    cases h2
    simp [PyData.eqvAll]
  | d :: ds, e :: es, ps, qs, hn, hm, h1, h2 => by
    simp only [toPys] at h1 h2
    obtain ⟨x, a1, h1⟩ := Option.bind_eq_some_iff.mp h1
    obtain ⟨xs, a2, rfl⟩ := Option.map_eq_some_iff.mp h1
    obtain ⟨y, b1, h2⟩ := Option.bind_eq_some_iff.mp h2
    obtain ⟨ys, b2, rfl⟩ := Option.map_eq_some_iff.mp h2
    have i1 := ih m d e x y (hn d (by simp)) (hm e (by simp)) a1 b1
    have i2 := pds_eqv ih ds es xs ys (fun d hd => hn d (by simp [hd])) (fun d hd => hm d (by simp [hd])) a2 b2
    simp only [PyData.eqvAll, Bool.and_eq_true, i1, i2, List.cons.injEq]
theorem pd_eqv : ∀ (n m : Nat) (d d' : D) (p q : PyData), Pd n d → Pd m d' → toPy d = some p → toPy d' = some q → (PyData.eqv p q = true ↔ d = d') := by
  intro n
  induction n with
  | zero =>
    intro m d d' p q h h' e e'
    cases d <;> first | exact h.elim | skip
    all_goals (cases m <;> cases d' <;> first | exact h'.elim | skip)
    all_goals simp only [toPy] at e e'
    all_goals first
      | (cases e; cases e'; simp [PyData.eqv])
      | (cases e; obtain ⟨x, _, rfl⟩ := Option.map_eq_some_iff.mp e'; simp [PyData.eqv])
  | succ n ih =>
    intro m d d' p q h h' e e'
    cases d <;> first | exact h.elim | skip
    all_goals (cases m <;> cases d' <;> first | exact h'.elim | skip)
    all_goals simp only [toPy] at e e'
    all_goals first
      | (cases e; cases e'; simp [PyData.eqv]; done)
      | (cases e; obtain ⟨x, _, rfl⟩ := Option.map_eq_some_iff.mp e'; simp [PyData.eqv]; done)
      | (cases e'; obtain ⟨x, _, rfl⟩ := Option.map_eq_some_iff.mp e; simp [PyData.eqv]; done)
      | (obtain ⟨x, h1, rfl⟩ := Option.map_eq_some_iff.mp e; obtain ⟨y, h2, rfl⟩ := Option.map_eq_some_iff.mp e'; simp [PyData.eqv]; done)
      | (obtain ⟨x, h1, rfl⟩ := Option.map_eq_some_iff.mp e
         obtain ⟨y, h2, rfl⟩ := Option.map_eq_some_iff.mp e'
         have := pds_eqv (fun m => ih m) _ _ x y h h' h1 h2
         simpa [PyData.eqv] using this)
open Classical in
theorem eqB_pd {n m : Nat} {d d' : D} (h : Pd n d) (h' : Pd m d') (hn : n ≤ 60) (hm : m ≤ 60) : eqB d d' = some (decide (d = d')) := by
  obtain ⟨p, h1, h2, h3⟩ := pd_py n d h
  obtain ⟨q, q1, q2, q3⟩ := pd_py m d' h'
  have hd : eqDeep d d' = some (decide (d = d')) := by
    unfold eqDeep
    rw [h1, q1]
    have e1 : SeqAt.shaped p = true := by unfold SeqAt.shaped; simp [h2]; omega
    have e2 : SeqAt.shaped q = true := by unfold SeqAt.shaped; simp [q2]; omega
    simp only [Option.bind_some, e1, e2, Bool.and_self, if_true]
    congr 1
    rw [Bool.eq_iff_iff, pd_eqv n m d d' p q h h' h1 q1]
    simp
  cases d <;> cases d' <;> first | exact hd | skip
  all_goals first
    | (show some _ = some _; congr 1; rw [Bool.eq_iff_iff]; simp)
    | exact hd
open Classical in
theorem eq_pd {n m : Nat} {d d' : D} (h : Pd n d) (h' : Pd m d') (hn : n ≤ 60) (hm : m ≤ 60) : dEq d d' = some (.bool (decide (d = d'))) := by
  unfold dEq; rw [eqB_pd h h' hn hm]; rfl
open Classical in
theorem ne_pd {n m : Nat} {d d' : D} (h : Pd n d) (h' : Pd m d') (hn : n ≤ 60) (hm : m ≤ 60) : dNe d d' = some (.bool !decide (d = d')) := by
  unfold dNe; rw [eqB_pd h h' hn hm]; rfl
/-! ### calls with keywords, evaluated -/
section
variable {f : List D → List D → Option D} {ma mk : M (List Arg)} {as : List Arg} {ds es : List D} {e : Env}
def dkK4 (f : List D → List D → Option D) (ds : List D) : Option (List D) → Env → Option (D × Env)
  | some es, e => retK (f ds es) e
  | none, _ => none
def dkK3 (f : List D → List D → Option D) (ds : List D) : Option (List Arg × Env) → Option (D × Env)
  | some y => dkK4 f ds (allD y.1) y.2
  | none => none
def dkK2 (f : List D → List D → Option D) (mk : M (List Arg)) : Option (List D) → Env → Option (D × Env)
  | some ds, e => dkK3 f ds (mk e)
  | none, _ => none
def dkK1 (f : List D → List D → Option D) (mk : M (List Arg)) : Option (List Arg × Env) → Option (D × Env)
  | some x => dkK2 f mk (allD x.1) x.2
  | none => none
@[simp] theorem ev_dispK : mDispK f ma mk e = dkK1 f mk (ma e) := by
  unfold mDispK dkK1; cases h : ma e with
  | none => rfl
  | some x =>
    simp only [Option.bind_some]
    cases h2 : allD x.1 with
    | none => rfl
    | some ds =>
      simp only [Option.bind_some, dkK2]
      cases h3 : mk x.2 with
      | none => rfl
      | some y =>
        simp only [Option.bind_some, dkK3]
        cases h4 : allD y.1 with
        | none => rfl
        | some es => simp only [Option.bind_some, dkK4, retK]; cases f ds es <;> rfl
@[simp] theorem dkK1_s : dkK1 f mk (some (as, e)) = dkK2 f mk (allD as) e := rfl
@[simp] theorem dkK2_s : dkK2 f mk (some ds) e = dkK3 f ds (mk e) := rfl
@[simp] theorem dkK3_s : dkK3 f ds (some (as, e)) = dkK4 f ds (allD as) e := rfl
@[simp] theorem dkK4_s : dkK4 f ds (some es) e = retK (f ds es) e := rfl
end
@[simp] theorem fTuple_l {ds : List D} : fTuple [.lst ds] = some (.tup ds) := rfl
@[simp] theorem fTuple_t {ds : List D} : fTuple [.tup ds] = some (.tup ds) := rfl
end MV

namespace MV
open PySem L2
theorem forRun_any {tg : Tg} {b : S} {P : Nat → Env → Prop} (ds : List D) (hs : ∀ j d e, d ∈ ds → j < ds.length → P j e → ∃ e2, forStep tg b d e = some (.nx e2) ∧ P (j + 1) e2) (e : Env) (h : P 0 e) : ∃ e', forRun tg b ds e = some (.nx e') ∧ P ds.length e' := by
  obtain ⟨e', h1, h2⟩ := forRun_st (tg := tg) (b := b) (g := id) (fun pre e => P pre.length e) ds (fun pre x post e hx hp => by
    obtain ⟨e2, h1, h2⟩ := hs pre.length x e (by rw [hx]; simp) (by rw [hx]; simp) hp
    exact ⟨e2, .inl h1, by simpa using h2⟩) e h
  rw [List.map_id] at h1
  exact ⟨e', h1, h2⟩
end MV

/-! ### t[::-1] -/
namespace HT
open PySem PySem.Spec PyProof.Rows
section
variable {prog : Program} {w : World} {A : Around} {E : Value → Shared → Prop} {s : Shared}
theorem adjust_rev (n : Nat) : Builtin.Slice.sliceAdjust none none (-1) (n : Int) = ((n : Int) - 1, -1) := by
  unfold Builtin.Slice.sliceAdjust
  have h1 : (-1 : Int) < 0 := by omega
  simp only [h1, if_true]
theorem places_rev (n : Nat) : Builtin.Slice.slicePlaces ((n : Int) - 1) (-1) (-1) = n := by
  unfold Builtin.Slice.slicePlaces
  have h1 : ¬ (-1 : Int) > 0 := by omega
  simp only [h1, if_false]
  have e : (-(-1) : Int) = 1 := by decide
  rw [e, Int.ediv_one]
  split <;> omega
theorem sliceApplied_rev {sl : Addr} {vl vu vs : Value} {n : Nat} {Q : Int × Int × Nat → Shared → Prop} (hs : s.heap.IsSliceOf sl vl vu vs) (pl : IsPart vl none) (pu : IsPart vu none) (ps : IsPart vs (some (-1)))
    (h : Q ((n : Int) - 1, -1, n) s) : wpAny (model prog w) A (Builtin.Slice.sliceApplied (.ref sl) (pure (n : Int))) Q E s := by
  obtain ⟨os, hos, hcs, hds⟩ := id hs
  unfold Builtin.Slice.sliceApplied Builtin.Slice.sliceFields
  refine wpAny_bind (wpAny_bind (wpAny_field hos hds (x := vl) rfl (wpAny_bind (wpAny_field hos hds (x := vu) rfl (wpAny_bind (wpAny_field hos hds (x := vs) rfl (wpAny_pure ?_)))))))
  refine wpAny_bind (slicePart_ ps ?_)
  show wpAny _ _ (if ((-1 : Int) == 0) = true then _ else _) _ _ s
  rw [if_neg (by decide)]
  refine wpAny_bind (slicePart_ pl (wpAny_bind (slicePart_ pu (wpAny_bind (wpAny_pure ?_)))))
  show wpAny _ _ (match Builtin.Slice.sliceAdjust none none (-1) (n : Int) with | (lo, hi) => pure (lo, (-1 : Int), Builtin.Slice.slicePlaces lo hi (-1))) _ _ s
  rw [adjust_rev n]
  show wpAny _ _ (pure ((n : Int) - 1, (-1 : Int), Builtin.Slice.slicePlaces ((n : Int) - 1) (-1) (-1))) _ _ s
  rw [places_rev]
  exact wpAny_pure h
theorem fm_congr {α β : Type} {f g : α → Option β} : ∀ {l : List α}, (∀ x ∈ l, f x = g x) → l.filterMap f = l.filterMap g
  | [], _ => rfl
  | x :: l, h => by rw [List.filterMap_cons, List.filterMap_cons, h x (by simp), fm_congr fun y hy => h y (by simp [hy])]
theorem pick_rev (xs : Array Value) : ((List.range xs.size).filterMap fun (m : Nat) => xs[((xs.size : Int) - 1 + (m : Int) * (-1)).toNat]?).toArray = xs.toList.reverse.toArray := by
  have h := PySem.W.krv_pick xs
  rw [← h]
  unfold slicePick
  rw [PySem.W.krv_bounds]
  show _ = ((sliceRange ((xs.size : Int) - 1) (-1) (-1)).filterMap (xs[·]?)).toArray
  rw [PySem.W.krv_sliceRange, List.filterMap_map]
  congr 1
  refine fm_congr fun m hm => ?_
  have := List.mem_range.mp hm
  show _ = xs[xs.size - 1 - m]?
  congr 1
  omega
theorem getItem_tuple_rev {t sl : Addr} {items : Array Value} {vl vu vs : Value} {Q : Value → Shared → Prop} (ht : IsTup s.heap t items) (hs : s.heap.IsSliceOf sl vl vu vs) (pl : IsPart vl none) (pu : IsPart vu none) (ps : IsPart vs (some (-1)))
    (h : Q (.ref s.heap.objs.size) { s with heap := s.heap.push { cls := .type "tuple", data := .seq items.toList.reverse.toArray } })
    (hsz : items.size ≤ sizeLine) : wpAny (model prog w) A (getItem (.ref t) (.ref sl)) Q E s := by
  have htake : sizeOk (.seq items.toList.reverse.toArray) := by
    show items.toList.reverse.toArray.size ≤ sizeLine
    rw [List.size_toArray, List.length_reverse, Array.length_toList]
    omega
  obtain ⟨os, hos, hcs, hds⟩ := id hs
  have hTs : s.TypeIs (.ref sl) "slice" := ⟨os, hos, hcs⟩
  unfold getItem
  try with_reducible refine wpAny_holding ?_
  first | refine wpAny_bind (wpAny_pure ?_) | skip
  refine wpAny_bind (wpAny_sequenceKey ht.typeIs (by decide) ?_)
  refine wpAny_bind (wpAny_callSpecial?_slot (name := Str.ofString "__getitem__") ht.typeIs PyProof.Rows.slot_tuple_getitem
    (wpAny_call_entry PyProof.Rows.slot_tuple_getitem ht.typeIs entry_tuple_getitem ?_ (args_tuple_getitem _ _)))
  show wpAny _ _ (Builtin.Tuple.tupleItemsOf (.ref t) >>= _) _ _ s
  refine wpAny_bind (tupleItemsOf_ ht ?_)
  refine wpAny_bind (wpAny_typeOf hTs ?_)
  rw [if_pos (by decide)]
  refine wpAny_bind (sliceApplied_rev hs pl pu ps ?_)
  have hno : ¬ ((((items.size : Int) - 1) == 0 && (-1 : Int) == 1 && items.size == items.size) = true) := by
    intro q
    rw [Bool.and_eq_true, Bool.and_eq_true] at q
    exact absurd q.1.2 (by decide)
  show wpAny _ _ (if (((items.size : Int) - 1) == 0 && (-1 : Int) == 1 && items.size == items.size) = true then _ else _) _ _ s
  rw [if_neg hno, pick_rev]
  first
    | exact wpAny_bind (m := Builtin.Tuple.tupleExact _) (wpAny_newObj_type (wpAny_pure ⟨_, rfl, wpAny_pure h⟩) htake)
    | exact wpAny_bind (m := Builtin.Tuple.tupleExact _) (wpAny_newObj_type (wpAny_bind (wpAny_pure (wpAny_pure ⟨_, rfl, wpAny_pure h⟩))) htake)
    | exact wpAny_bind (wpAny_bind (m := Builtin.Tuple.tupleExact _) (wpAny_newObj_type (wpAny_pure (wpAny_pure ⟨_, rfl, wpAny_pure h⟩)) htake))
    | exact wpAny_bind (wpAny_bind (m := Builtin.Tuple.tupleExact _) (wpAny_newObj_type (wpAny_pure ⟨_, rfl, wpAny_pure h⟩) htake))
end
end HT
namespace L2
open PySem PySem.Spec PyProof.Rows
section
variable {X : Cx}
def tRev (K : PySem.W.Frag) (te : TE) : TE := fun σ H Q => te σ H fun x H1 => (∃ a xs, x = .ref a ∧ SqL K H1 a xs ∧ ∀ p, H1 p = none → Q (.ref p) (upd H1 p (.lst xs.reverse))) ∨ (∃ a xs, x = .ref a ∧ SqT K H1 a xs ∧ ∀ p, H1 p = none → Q (.ref p) (upd H1 p (.tup xs.reverse)))
theorem pe_rev {e : Expr} {te : TE} {k : Nat} {p1 p2 p3 pos : Pos} (he : PE X e te) : PE X (.Subscript e (.Slice none none (some (.UnaryOp .USub (.Constant (.int 1) k p1) p2)) p3) pos) (tRev X.K te) := by
  refine ⟨fun pins s σ H Q I h => ?_⟩
  refine Subscript_ (thn (he.run pins s σ H _ I h) fun v s1 ⟨x, H1, I1, r1, q1⟩ => ?_)
  have hst : PO X (some (.UnaryOp .USub (.Constant (.int 1) k p1) p2)) (tPart (tUn (rU fun i => .int (-i)) (tC (.int 1)))) := po_some (pe_un un_neg pe_int)
  refine wpAny_Slice (thn (po_none.run pins s1 σ H1 (fun o H2 => o = none ∧ H2 = H1) I1 ⟨rfl, rfl⟩) fun vl s2 ⟨l, H2, I2, pl, el, e2⟩ => ?_)
  subst el e2
  refine thn (po_none.run pins s2 σ H2 (fun o H3 => o = none ∧ H3 = H2) I2 ⟨rfl, rfl⟩) fun vu s3 ⟨u, H3, I3, pu, eu, e3⟩ => ?_
  subst eu e3
  refine thn (hst.run pins s3 σ H3 (fun o H4 => o = some (-1) ∧ H4 = H3) I3 ⟨1, rfl, -1, rfl, rfl, rfl⟩) fun vs s4 ⟨o, H4, I4, ps, eo, e4⟩ => ?_
  subst eo e4
  have I5 : Inv X pins σ H4 { s4 with heap := s4.heap.push { cls := .type "slice", data := .fields #[vl, vu, vs] } } := I4.kept (t' := s4.toks) fun b ob q => Heap.get?_push_of_some _ q
  rcases q1 with ⟨a, xs, ex, hx, q⟩ | ⟨a, xs, ex, hx, q⟩
  · subst ex
    cases r1
    obtain ⟨its, r, ht, hz⟩ := I5.list hx
    have hlen := r.length
    show wpAny (model X.prog X.w) X.A (subscriptTail e (.Slice none none (some (.UnaryOp .USub (.Constant (.int 1) k p1) p2)) p3) (.ref a) (.ref s4.heap.objs.size)) (EP X pins σ Q) X.xe { s4 with heap := s4.heap.push { cls := .type "slice", data := .fields #[vl, vu, vs] } }
    refine tail_any (ops := [.ref a, .ref s4.heap.objs.size]) ht.isList.typeIs (PySem.slot_list_getitem.lookup) ?_ (by with_unfolding_all rfl)
    refine wpAny_getItem_list_slice ht.isList (Heap.IsSliceOf.new _ vl vu vs) pl pu ps (by decide) ?_ (by rw [List.size_toArray]; omega)
    rw [PySem.W.krv_pick]
    refine ⟨.ref _, _, I5.laid (t' := s4.toks) (o := .lst xs.reverse) (fun b ob q => Heap.get?_push_of_some _ q) (Nat.le_refl _) ?_, rfl, q _ (I5.hok.fresh (Nat.le_refl _))⟩
    exact ⟨by rw [List.length_reverse]; exact hz, _, 0, r.reverse, Heap.get?_push_size _ rfl⟩
  · subst ex
    cases r1
    obtain ⟨its, r, ht, hz⟩ := I5.tuple hx
    have hlen := r.length
    show wpAny (model X.prog X.w) X.A (subscriptTail e (.Slice none none (some (.UnaryOp .USub (.Constant (.int 1) k p1) p2)) p3) (.ref a) (.ref s4.heap.objs.size)) (EP X pins σ Q) X.xe { s4 with heap := s4.heap.push { cls := .type "slice", data := .fields #[vl, vu, vs] } }
    refine tail_any (ops := [.ref a, .ref s4.heap.objs.size]) ht.typeIs (PyProof.Rows.slot_tuple_getitem.lookup) ?_ (by with_unfolding_all rfl)
    refine HT.getItem_tuple_rev ht (Heap.IsSliceOf.new _ vl vu vs) pl pu ps ?_ (by rw [List.size_toArray]; omega)
    refine ⟨.ref _, _, I5.laid (t' := s4.toks) (o := .tup xs.reverse) (fun b ob q => Heap.get?_push_of_some _ q) (Nat.le_refl _) ?_, rfl, q _ (I5.hok.fresh (Nat.le_refl _))⟩
    exact ⟨by rw [List.length_reverse]; exact hz, _, r.reverse, IsTup.new _ _⟩
end
end L2
namespace MV
open PySem L2
variable [TB]
def dRev : D → Option D
  | .lst ds => some (.lst ds.reverse)
  | .tup ds => some (.tup ds.reverse)
  | _ => none
section
variable {X : Cx} {a : Expr} {m : M D} {k : Nat} {p1 p2 p3 pos : Pos}
theorem se_rev (ha : SE X a m) : SE X (.Subscript a (.Slice none none (some (.UnaryOp .USub (.Constant (.int 1) k p1) p2)) p3) pos) (mUn dRev m) := PE.imp (pe_rev ha) fun σ H Q ⟨I, e, Fs, R, d, e', hm, k⟩ => by
  obtain ⟨⟨x, e1⟩, h1, hm⟩ := Option.bind_eq_some_iff.mp hm
  obtain ⟨z, h2, hm⟩ := Option.map_eq_some_iff.mp hm
  cases hm
  refine ⟨I, e, Fs, R, x, e1, h1, fun v I1 F1 H1 R1 x1 r1 => ?_⟩
  cases x with
  | lst ds =>
    cases h2
    simp only [Rp] at r1
    obtain ⟨p, xs, rfl, hp, hr⟩ := r1
    refine .inl ⟨p, xs, rfl, .of (R1.sub _ _ hp), fun q hq => ?_⟩
    obtain ⟨R2, x2⟩ := (Gr.new q (.lst xs.reverse) hq : Gr I1 H1 _ _).rel R1
    exact k _ _ F1 _ R2 (x1.trans x2) (rp_lst R1.sub hq hr.reverse)
  | tup ds =>
    cases h2
    simp only [Rp] at r1
    obtain ⟨p, xs, rfl, hp, hr⟩ := r1
    refine .inr ⟨p, xs, rfl, ex_t R1.sub hp, fun q hq => ?_⟩
    obtain ⟨R2, x2⟩ := (Gr.new q (.tup xs.reverse) hq : Gr I1 H1 _ _).rel R1
    exact k _ _ F1 _ R2 (x1.trans x2) (rp_tup R1.sub hq hr.reverse)
  | _ => cases h2
end
@[simp] theorem dRev_l {ds : List D} : dRev (.lst ds) = some (.lst ds.reverse) := rfl
@[simp] theorem dRev_t {ds : List D} : dRev (.tup ds) = some (.tup ds.reverse) := rfl
end MV

/-! ### t * n, a small n -/
namespace L2
open PySem PySem.Spec PyProof.Rows
theorem tuple_mul1 (l : Addr) (items : Array Value) (n : Nat) (dd : Option Addr) (sl : Array (Option Value)) (u : Tok) :
    Meets (Builtin.«tuple.__mul__» ⟨[.ref l, .int 1 u], []⟩) (fun _ R s => s.heap.get? l = some { cls := .type "tuple", dict := dd, data := .seq items n, slots := sl } ∧
      R (.ok (.ret (Value.ref l))) s) :=
  .of_wp fun prog w A R s h => by
    obtain ⟨hp, g, d, tk, os⟩ := s
    obtain ⟨hl, h⟩ := h
    have f1 := AutoSeq1.idx_int
    wp_walk using wpAny_loadPart' hl
    repeat (first
      | (refine wpAny_ite_false (decide_eq_false (by decide)) ?_; wp_walk using wpAny_loadPart' hl)
      | (refine wpAny_ite_true (decide_eq_true (by simp)) ?_; wp_walk using wpAny_loadPart' hl))
    exact ⟨_, rfl, h⟩
theorem tuple_mul0 (l : Addr) (items : Array Value) (n : Nat) (dd : Option Addr) (sl : Array (Option Value)) (u : Tok) (c1 : items.isEmpty = false) :
    Meets (Builtin.«tuple.__mul__» ⟨[.ref l, .int 0 u], []⟩) (fun _ R s => s.heap.get? l = some { cls := .type "tuple", dict := dd, data := .seq items n, slots := sl } ∧
      R (.ok (.ret (Value.ref s.heap.objs.size))) { s with heap := s.heap.push { cls := Value.type "tuple", data := Data.seq #[] }, toks := s.toks }) :=
  .of_wp fun prog w A R s h => by
    obtain ⟨hp, g, d, tk, os⟩ := s
    obtain ⟨hl, h⟩ := h
    have f1 := AutoSeq1.idx_int
    wp_walk using wpAny_loadPart' hl
    repeat (first
      | (refine wpAny_ite_false (decide_eq_false (by rw [c1]; decide)) ?_; wp_walk using wpAny_loadPart' hl)
      | (refine wpAny_ite_false (decide_eq_false (by decide)) ?_; wp_walk using wpAny_loadPart' hl)
      | (refine wpAny_ite_true (decide_eq_true (by simp)) ?_; wp_walk using wpAny_loadPart' hl))
    exact ⟨_, rfl, h⟩
def rRepT01 (K : PySem.W.Frag) : R2 := fun x y H Q => ∃ l k xs, x = .ref l ∧ y = .int k ∧ SqT K H l xs ∧ xs ≠ [] ∧ ((k = 1 ∧ Q (.ref l) H) ∨ (k = 0 ∧ ∀ p, H p = none → Q (.ref p) (upd H p (.tup []))))
theorem op_repT01 {X : Cx} : OpR X (binaryOp .Mult) (rRepT01 X.K) := by
  intro pins s σ H x y v u Q I rx ry h
  obtain ⟨l, k, xs, rfl, rfl, hT, hne, hk⟩ := h
  cases rx
  obtain ⟨t, rfl⟩ := ry
  obtain ⟨its, r, ⟨⟨cls, dd, data, sl⟩, ho, hc, n, hd⟩, hs⟩ := I.tuple hT
  simp only at hc hd
  subst hc hd
  have hle : its.length = xs.length := r.length.symm
  have hn : its ≠ [] := fun e => hne (by
    rw [e] at hle
    exact List.eq_nil_of_length_eq_zero hle.symm)
  have hi : its.toArray.isEmpty = false := by
    cases its with
    | nil => exact absurd rfl hn
    | cons a b => rfl
  rcases hk with ⟨rfl, q⟩ | ⟨rfl, q⟩
  · refine wpAny_binaryOp_repeat_ref (T := "tuple") (U := "int") (by decide) ⟨_, ho, rfl⟩ (fun s' => typeIs_int s' 1 t) noFill_tuple_mul F.fills_int_mul F.slot_int_rmul repeat_tuple F.slot_int_index.lookup
      (call_meets F.slot_int_rmul (typeIs_int s 1 t) F.entry_int_rmul (F.args_int_rmul_2 _ _) (int_rmul_tuple 1 t l its.toArray n dd sl)
        ⟨ho, rfl, ⟨_, ho, rfl⟩, call_meets F.slot_tuple_mul ⟨_, ho, rfl⟩ F.entry_tuple_mul (F.args_tuple_mul_2 _ _) (tuple_mul1 l its.toArray n dd sl t) ⟨ho, ?_⟩⟩)
    exact ⟨.ref l, H, I, rfl, q⟩
  · refine wpAny_binaryOp_repeat_ref (T := "tuple") (U := "int") (by decide) ⟨_, ho, rfl⟩ (fun s' => typeIs_int s' 0 t) noFill_tuple_mul F.fills_int_mul F.slot_int_rmul repeat_tuple F.slot_int_index.lookup
      (call_meets F.slot_int_rmul (typeIs_int s 0 t) F.entry_int_rmul (F.args_int_rmul_2 _ _) (int_rmul_tuple 0 t l its.toArray n dd sl)
        ⟨ho, rfl, ⟨_, ho, rfl⟩, call_meets F.slot_tuple_mul ⟨_, ho, rfl⟩ F.entry_tuple_mul (F.args_tuple_mul_2 _ _) (tuple_mul0 l its.toArray n dd sl t hi) ⟨ho, ?_⟩⟩)
    refine ⟨.ref s.heap.objs.size, _, I.laid (t' := s.toks) (o := .tup []) (fun b ob q => Heap.get?_push_of_some _ q) (Nat.le_refl _) ?_, rfl, q _ (I.hok.fresh (Nat.le_refl _))⟩
    exact ⟨by rw [sizeLine_eq]; decide, _, .nil, IsTup.new _ _⟩
end L2
namespace MV
open PySem L2
variable [TB]
/-- t * n -/
def dMulT : D → D → Option D
  | .tup ds, .int j => if ds ≠ [] ∧ 0 ≤ j ∧ j ≤ 1000 ∧ ds.length ≤ 1000 then some (.tup (List.replicate j.toNat ds).flatten) else none
  | _, _ => none
def rMulT (K : PySem.W.Frag) : R2 := fun x y H Q => rRepT K x y H Q ∨ rRepT01 K x y H Q
theorem op_mulT {X : Cx} : OpR X (binaryOp .Mult) (rMulT X.K) := op_repT.or op_repT01
theorem od_mulT {K : PySem.W.Frag} {mg : Str → Option Value} : OpD K mg (rMulT K) dMulT := by
  intro I H x y z v u Q s rx ry e k
  unfold dMulT at e
  split at e
  · rename_i ds j
    split at e
    · rename_i hc
      cases e
      obtain ⟨hne, h0, h1, h2⟩ := hc
      have rx0 := rx
      simp only [Rp] at rx ry
      obtain ⟨a, xs, rfl, ha, hr⟩ := rx
      subst ry
      have hx : xs ≠ [] := fun q => hne (by
        have := hr.length
        rw [q] at this
        exact List.eq_nil_of_length_eq_zero this)
      by_cases z : 2 ≤ j
      · refine .inl ⟨a, j, xs, rfl, rfl, ex_t s ha, hx, z, h1, by rw [← hr.length]; exact h2, fun p hp => ?_⟩
        exact k _ _ _ (.new p _ hp) (rp_tup s hp (RpL.rep hr j.toNat))
      · refine .inr ⟨a, j, xs, rfl, rfl, ex_t s ha, hx, ?_⟩
        by_cases z1 : j = 1
        · subst z1
          refine .inl ⟨rfl, k _ I H .same ?_⟩
          simpa using rx0
        · have z0 : j = 0 := by omega
          subst z0
          refine .inr ⟨rfl, fun p hp => ?_⟩
          exact k _ _ _ (.new p _ hp) (rp_tup s hp (by simpa using (RpL.nil : RpL K mg I [] [])))
    · cases e
  · cases e
@[simp] theorem dMulT_t {ds : List D} {j : Int} : dMulT (.tup ds) (.int j) = if ds ≠ [] ∧ 0 ≤ j ∧ j ≤ 1000 ∧ ds.length ≤ 1000 then some (.tup (List.replicate j.toNat ds).flatten) else none := rfl
section
variable {c : Bool} {x : D} {e : Env}
@[simp] theorem cond_o2 : cond c (some ((none : Option D), e)) (some (some x, e)) = some (cond c none (some x), e) := by cases c <;> simp
@[simp] theorem cond_not {α : Type} {a b : α} : cond (!c) a b = cond c b a := by cases c <;> rfl
end
end MV

/-! ### sorted(set(xs)), xs a list of ints -/
namespace L2
open PySem PySem.Spec PyProof.Rows
section
variable {P : Program} {w : World} {A : Around} {E : Value → Shared → Prop} {s : Shared}
/-- the new set's object -/
abbrev oSet (w : World) : Obj := { cls := .type "set", dict := none, data := .set #[] 0 (.fresh 0 0 (!w.params.followText "set-order")) }
abbrev hSet (w : World) (s : Shared) : Heap := s.heap.push (oSet w)
/-- what set.__init__ leaves -/
def SetMade (w : World) (s : Shared) (ns : List Int) (h' : Heap) : Prop := ∃ c, SetR w h' s.heap.objs.size (fun j => decide (j ∈ ns)) c ∧ c ≤ ns.length ∧ ∀ b o, s.heap.get? b = some o → h'.get? b = some o
set_option maxRecDepth 100000 in
theorem set_init_list {l : Addr} {items : Array Value} (ns : List Int) {R : Value → Shared → Prop} (hh : A.handled = none) (hl : s.heap.IsList l items) (hit : IntsAre items.toList ns) (hb : ns.length + 1 < scanBound)
    (hR : ∀ h' tk, SetMade w s ns h' → R .none { s with heap := h', toks := tk }) :
    codeAny (model P w) A (.call (.builtin "set.__init__") ⟨[.ref s.heap.objs.size, .ref l], []⟩) (wants R E) { s with heap := hSet w s } := by
  have hS : (hSet w s).get? s.heap.objs.size = some (oSet w) := Heap.get?_push_size _ rfl
  have hT : Shared.TypeIs { s with heap := hSet w s } (.ref s.heap.objs.size) "set" := ⟨_, hS, rfl⟩
  have hisz : items.size = ns.length := by have q := IntsAre.length hit; rwa [Array.length_toList] at q
  refine codeAny_call_builtin (R := wants R E) F.called_set.init.plain F.entry_set_init (check_set_init_1 hT ?_)
  obtain ⟨⟨ocls, odict, odata, oslots⟩, hol, hcl, nl, hdl⟩ := hl
  simp only at hcl hdl
  subst hcl hdl
  have hol' : (hSet w s).get? l = some { cls := .type "list", dict := odict, data := .seq items nl, slots := oslots } := Heap.get?_push_of_some _ hol
  have k1 := F.sub_list_set
  have k2 := F.sub_list_frozenset
  have k3 : (Value.type "list" == Value.type "dict") = false := by decide
  have hl1 : (hSet w s).IsList l items := ⟨_, hol', rfl, nl, rfl⟩
  unfold Builtin.«set.__init__» noKeywords Builtin.Frozenset.updateFrom
  generalize hPI : pyIter = PI
  wp_walk
  subst hPI
  refine wpAny_pyIter_list hl1 (wpAny_bind (wpAny_runValue ?_))
  have ll : l < s.heap.objs.size := Heap.lt_size hol
  have hne : l ≠ (hSet w s).objs.size := by rw [Heap.size_push]; exact Nat.ne_of_lt (Nat.lt_succ_of_lt ll)
  have hnot : s.heap.objs.size ∉ [(hSet w s).objs.size, l] := fun q => by
    rw [Heap.size_push] at q
    rcases List.mem_cons.mp q with z | z
    · exact Nat.ne_of_lt (Nat.lt_succ_self _) z
    · exact Nat.ne_of_gt ll (List.mem_singleton.mp z)
  have hval : ∀ (i : Nat) (v : Value), items[i]? = some v → ∃ k t, ns[i]? = some k ∧ v = .int k t := fun i v hv => by
    have hi : i < ns.length := by rw [← hisz]; exact (Array.getElem?_eq_some_iff.mp hv).1
    obtain ⟨t, e⟩ := PyProof.Rows.IntsAre.int_at hit i v (by rw [Array.getElem?_toList]; exact hv)
    exact ⟨ns[i], t, List.getElem?_eq_getElem hi, by rw [e, List.getD_eq_getElem?_getD, List.getElem?_eq_getElem hi]; rfl⟩
  refine set_update_ints ((Walks.list (by simp [hh]) _ l hne items).toS) s.heap.objs.size hnot ns hisz hb hval (items.size - 0) 0 _ (by omega) (Nat.zero_le _)
    ⟨⟨_, Heap.get?_push_size _ rfl, rfl, rfl⟩, hl1.push _⟩ ⟨0, Nat.le_refl 0, setR_new_at (Heap.get?_push_of_some _ hS)⟩ fun s' c' hm hc' hS' => ?_
  obtain ⟨h', g2, d', tk', os'⟩ := s'
  have eg : g2 = s.gens := hm.gens
  have ed : d' = s.drawn := hm.drawn
  have eo : os' = s.os := hm.os
  subst eg ed eo
  show wpAny _ _ _ _ _ _
  refine wpAny_pure ?_
  show wpAny _ _ (ret Value.none) _ _ _
  refine wpAny_pure (hR h' tk' ⟨c', hS', by rw [← hisz]; exact hc', fun b o e => ?_⟩)
  have lb : b < s.heap.objs.size := Heap.lt_size e
  refine hm.heap b o (fun q => ?_) (Heap.get?_push_of_some _ (Heap.get?_push_of_some _ e))
  rcases List.mem_cons.mp q with z | q
  · exact Nat.ne_of_lt lb z
  · have z := List.mem_singleton.mp q
    rw [Heap.size_push] at z
    exact Nat.ne_of_lt (Nat.lt_succ_of_lt lb) z
set_option maxRecDepth 100000 in
theorem call_set_lst {l : Addr} {items : Array Value} (ns : List Int) {Q : Value → Shared → Prop} (hh : A.handled = none) (hl : s.heap.IsList l items) (hit : IntsAre items.toList ns) (hb : ns.length + 1 < scanBound)
    (h : ∀ h' tk, SetMade w s ns h' → Q (.ref s.heap.objs.size) { s with heap := h', toks := tk }) :
    wpAny (model P w) A (call (.type "set") [.ref l]) Q E s := by
  obtain ⟨c, tl, hmro⟩ := F.called_set.mro
  have hmade := F.called_set.made
  have hsub := F.called_set.sub
  refine wpAny_call (codeAny_of_tree ?_)
  show wpAny _ _ (callAny (.type "set") _) _ _ _
  refine wpAny_pure ⟨Code.quiet_builtin _ (by decide +kernel), codeAny_builtin F.entry_type_call ?_⟩
  rw [Around.under_plain (weight_type_call_type "set" [.ref l] []) rfl]
  have h1 := F.called_set.notType
  have h2 := F.called_set.canCreate
  have hct := F.typeCall_set_1 (.ref l)
  repeat (any_goals (first | assumption | wp_step))
  refine codeAny_mono (code_set_led1 (.ref l) (E := E) (Q₁ := fun obj s₁ => obj = .ref s.heap.objs.size ∧ s₁ = { s with heap := hSet w s }) ⟨rfl, rfl⟩) fun r s₁ hr => ?_
  cases r with
  | error e => exact hr
  | ok fl =>
    cases fl with
    | ret obj =>
      obtain ⟨rfl, rfl⟩ := hr
      have hS : (hSet w s).get? s.heap.objs.size = some (oSet w) := Heap.get?_push_size _ rfl
      have hT : Shared.TypeIs { s with heap := hSet w s } (.ref s.heap.objs.size) "set" := ⟨_, hS, rfl⟩
      have hli := F.called_set.init.lookup
      have hbi := F.called_set.init.bind (.ref s.heap.objs.size)
      repeat (any_goals (first | assumption | wp_step))
      refine codeAny_mono (set_init_list ns (E := E) (R := fun r s₂ => r = .none ∧ ∃ h' tk, s₂ = { s with heap := h', toks := tk } ∧ SetMade w s ns h') (by simpa using hh) hl hit hb fun h' tk k => ⟨rfl, h', tk, rfl, k⟩) fun r₂ s₂ hr₂ => ?_
      cases r₂ with
      | error e => exact hr₂
      | ok fl₂ =>
        cases fl₂ with
        | ret r =>
          obtain ⟨rfl, h', tk, rfl, k⟩ := hr₂
          repeat (any_goals (first | assumption | wp_step))
          exact h _ _ k
        | _ => exact hr₂.elim
    | _ => exact hr.elim
end
def rSetOfI (K : PySem.W.Frag) (w : World) : List V → Hp → VK → Prop := fun xs H Q => ∃ (l : Addr) (ns : List Int), xs = [V.ref l] ∧ SqL K H l (ns.map V.int) ∧ ns.length ≤ 1000 ∧ ∀ p c, c ≤ ns.length → H p = none → Q (.ref p) (upd H p (SetO w p (fun j => decide (j ∈ ns)) c))
section
variable {X : Cx}
theorem cr_setOfI (hc : X.calm = true) : CallR X (.type "set") (rSetOfI X.K X.w) := by
  intro pins s σ H xs us Q I r h
  obtain ⟨l, ns, rfl, hl, hf, q⟩ := h
  rw [Vals.ref1 r]
  obtain ⟨its, rv, pl, hz⟩ := I.list hl
  have hi : IntsAre its.toArray.toList ns := ints_of_vals rv
  refine call_set_lst ns (I.ok.hd hc) pl.isList hi (by unfold scanBound; omega) fun h' tk ⟨c, R, hcn, k⟩ => ?_
  exact ⟨.ref _, upd H s.heap.objs.size (SetO X.w s.heap.objs.size (fun j => decide (j ∈ ns)) c), I.laid (t' := tk) k (Nat.le_refl _) (setO_new R), rfl, q _ c hcn (I.hok.fresh (Nat.le_refl _))⟩
end
end L2

namespace MV
open PySem L2
variable [TB]
/-! ### sorted(set(xs)) -/
def insU (i : Int) : List Int → List Int
  | [] => [i]
  | j :: r => if i < j then i :: j :: r else if i = j then j :: r else j :: insU i r
def usort : List Int → List Int
  | [] => []
  | i :: r => insU i (usort r)
theorem insU_mem {i k : Int} : ∀ {r : List Int}, k ∈ insU i r ↔ k = i ∨ k ∈ r
  | [] => by simp [insU]
  | j :: r => by
    unfold insU
    split
    · simp
    · split
      · rename_i h; subst h; simp
      · rw [List.mem_cons, insU_mem (r := r), List.mem_cons]
        constructor
        · rintro (h | h | h)
          · exact .inr (.inl h)
          · exact .inl h
          · exact .inr (.inr h)
        · rintro (h | h | h)
          · exact .inr (.inl h)
          · exact .inl h
          · exact .inr (.inr h)
theorem usort_mem {k : Int} : ∀ {r : List Int}, k ∈ usort r ↔ k ∈ r
  | [] => Iff.rfl
  | i :: r => by rw [usort, insU_mem, usort_mem, List.mem_cons]
theorem insU_asc {i : Int} : ∀ {r : List Int}, r.Pairwise (· < ·) → (insU i r).Pairwise (· < ·)
  | [], _ => by simp [insU]
  | j :: r, h => by
    unfold insU
    rw [List.pairwise_cons] at h
    split
    · rename_i hij
      rw [List.pairwise_cons]
      refine ⟨fun k hk => ?_, List.pairwise_cons.mpr h⟩
      rcases List.mem_cons.mp hk with rfl | hk
      · exact hij
      · exact Int.lt_trans hij (h.1 k hk)
    · split
      · exact List.pairwise_cons.mpr h
      · rename_i h1 h2
        rw [List.pairwise_cons]
        refine ⟨fun k hk => ?_, insU_asc h.2⟩
        rcases insU_mem.mp hk with rfl | hk
        · omega
        · exact h.1 k hk
theorem usort_asc : ∀ r : List Int, (usort r).Pairwise (· < ·)
  | [] => List.Pairwise.nil
  | i :: r => insU_asc (usort_asc r)
theorem asc_uniq {a b : List Int} (ha : a.Pairwise (· < ·)) (hb : b.Pairwise (· < ·)) (h : ∀ k, k ∈ a ↔ k ∈ b) : a = b :=
  sorted_uniq ((List.perm_ext_iff_of_nodup (ha.imp fun h => by omega) (hb.imp fun h => by omega)).mpr h) (ha.imp fun h => by omega) (hb.imp fun h => by omega)
def dSortSet : D → Option D
  | .lst ds => (intsD ds).bind fun ns => if ns.length < 64 then some (.lst ((usort ns).map .int)) else none
  | _ => none
section
variable {X : Cx} {a : Expr} {m : M D} {p p2 pos pos2 : Pos}
theorem se_sortSet (hc : X.calm = true) (hg : Gl X "sorted") (hm : X.mg "sorted" = none) (hg2 : Gl X "set") (hm2 : X.mg "set" = none) (ha : SE X a m)
    (h1 : starEach [a] X.env = (false, eval a X.env) :: starEach [] X.env := by rfl) (h2 : starEach [.Call (.Name "set" p2) [a] [] pos2] X.env = (false, eval (.Call (.Name "set" p2) [a] [] pos2) X.env) :: starEach [] X.env := by rfl) :
    SE X (.Call (.Name "sorted" p) [.Call (.Name "set" p2) [a] [] pos2] [] pos) (mUn dSortSet m) :=
  PE.imp (pe_callB (cr_sortedSet hc) hg hm (by rfl) (pa_one (pe_callTy (cr_setOfI hc) hg2 hm2 (by rfl) (pa_one ha h1) (by decide) (by decide) h1) h2) (by decide) (by decide) h2) fun σ H Q ⟨I, e, Fs, R, d, e', hm, k⟩ => by
    obtain ⟨⟨x, e1⟩, hx, hm⟩ := Option.bind_eq_some_iff.mp hm
    obtain ⟨z, h3, hm⟩ := Option.map_eq_some_iff.mp hm
    cases hm
    cases x with
    | lst ds =>
      obtain ⟨ns, h4, hm⟩ := Option.bind_eq_some_iff.mp (show ((intsD ds).bind fun ns => if ns.length < 64 then some (D.lst ((usort ns).map .int)) else none) = some _ from h3)
      split at hm
      · rename_i hl
        cases hm
        refine ⟨I, e, Fs, R, .lst ds, _, hx, fun v I1 F1 H1 R1 x1 r1 => ?_⟩
        simp only [Rp] at r1
        obtain ⟨b, xs, rfl, hb, hr⟩ := r1
        have := ints_v h4 hr
        subst this
        refine ⟨b, ns, rfl, .of (R1.sub _ _ hb), by omega, fun q c hcl hq => ⟨q, _, c, rfl, upd_same, by omega, fun zs z hz hmz hlz hzn => ?_⟩⟩
        have ez : zs = usort ns := asc_uniq hz (usort_asc ns) fun k => by rw [hmz, usort_mem]; simp
        subst ez
        obtain ⟨R2, x2⟩ := (Gr.new q (SetO X.w q (fun j => decide (j ∈ ns)) c) hq : Gr I1 H1 _ _).rel R1
        obtain ⟨R3, x3⟩ := (Gr.new z (.lst ((usort ns).map V.int)) hzn : Gr _ _ _ _).rel R2
        exact k _ _ F1 _ R3 ((x1.trans x2).trans x3) (rp_lst R2.sub hzn (rpl_ints _))
      · cases hm
    | _ => cases h3
end
theorem dSortSet_l {ns : List Int} (h : ns.length < 64) (hi : intsD (ns.map .int) = some ns) : dSortSet (.lst (ns.map .int)) = some (.lst ((usort ns).map .int)) := by
  show ((intsD (ns.map .int)).bind fun ns => if ns.length < 64 then some (D.lst ((usort ns).map .int)) else none) = _
  rw [hi]
  simp [h]
/-! ### xs.index(x) -/
def dIdx : D → D → Option D
  | .lst ds, x => if (flatD x && ds.all flatD) = true then (ds.findIdx? fun y => eqF y x).map fun (j : Nat) => D.int (j : Int) else none
  | _, _ => none
section
variable {X : Cx} {o a : Expr} {mo ma : M D} {apos cpos : Pos}
theorem se_idx (ho : SE X o mo) (ha : SE X a ma)
    (hbase : attributeBase o "index" X.env (eval o X.env) = eval o X.env := by rfl)
    (hfew : ((backTo cpos (starEach [a] X.env)).all (fun x => !x.1) && (backToKw cpos (keywordEach [] X.env)).all (fun x => x.1.isSome)
      && decide ([a].length + ([] : List Keyword).length + (if ([] : List Keyword).isEmpty then 0 else 1) < 30)) = true := by rfl)
    (hline : (apos.endLine == cpos.line) = true := by rfl) (hs : starEach [a] X.env = (false, eval a X.env) :: starEach [] X.env := by rfl) (hplain : (backTo cpos (starEach [] X.env)).any (·.1) = false := by rfl) :
    SE X (.Call (.Attribute o "index" apos) [a] [] cpos) (mOp dIdx mo ma) := PE.imp (pe_bm PySem.F.plainAttrs_list PySem.F.slot_list_index PySem.F.type_list_index mt_index ho (pa_one ha hs) hbase hfew hline hs hplain) fun σ H Q ⟨I, e, Fs, R, d, e', hm, k⟩ => by
  obtain ⟨⟨x, e1⟩, h1, hm⟩ := Option.bind_eq_some_iff.mp hm
  obtain ⟨⟨y, e2⟩, h2, hm⟩ := Option.bind_eq_some_iff.mp hm
  obtain ⟨z, h3, hm⟩ := Option.map_eq_some_iff.mp hm
  cases hm
  refine ⟨I, e, Fs, R, x, e1, h1, fun v I1 F1 H1 R1 x1 r1 => ?_⟩
  cases x with
  | lst ds =>
    simp only [dIdx] at h3
    · split at h3
      · rename_i hf
        rw [Bool.and_eq_true] at hf
        obtain ⟨j, hj, rfl⟩ := Option.map_eq_some_iff.mp h3
        simp only [Rp] at r1
        obtain ⟨b, xs, rfl, hb, hr⟩ := r1
        refine ⟨.inl ⟨rfl, xs, .of (R1.sub _ _ hb)⟩, I1, e1, F1, R1, y, e2, h2, fun u I2 F2 H2 R2 x2 r2 => ?_⟩
        have hr2 := RpL.mono x2.g.ex ds xs hr
        obtain ⟨hl, hj1, hj2⟩ := List.findIdx?_eq_some_iff_getElem.mp hj
        obtain ⟨z, hz, rz⟩ := hr2.get (List.getElem?_eq_getElem hl)
        have fl := fun (i : Nat) (h : i < ds.length) => List.all_eq_true.mp hf.2 ds[i] (List.getElem_mem h)
        refine ⟨b, xs, u, j, z, rfl, rfl, .of (R2.sub _ _ (x2.g.ex _ _ hb)), flat_v r2 hf.1, flats_v hr2 hf.2, hz, ?_, fun m z' hm hz' => ?_, ?_⟩
        · rw [eqF_v rz r2 (fl j hl) hf.1]; exact hj1
        · have hml : m < ds.length := by omega
          obtain ⟨z2, hz2, rz2⟩ := hr2.get (List.getElem?_eq_getElem hml)
          rw [hz'] at hz2
          cases hz2
          rw [eqF_v rz2 r2 (fl m hml) hf.1]
          simpa using hj2 m hm
        · exact k _ I2 F2 H2 R2 (x1.trans x2) rp_int
      · cases h3
  | _ => cases h3
end
end MV

namespace MV
open PySem L2
variable [TB]
/-! ### a dict written out, its keys texts -/
def dpE : List (Str × M D) → M (List (Key × D))
  | [] => fun e => some ([], e)
  | (k, m) :: r => fun e => (m e).bind fun x => (dpE r x.2).map fun y => ((.inr k, x.1) :: y.1, y.2)
def tDp (K : PySem.W.Frag) (mg : Str → Option Value) (m : M (List (Key × D))) : L2.St → Hp → (List (V × V) → Hp → Prop) → Prop := fun σ H Q => ∃ I e Fs, Rel K mg I e Fs σ H ∧ ∃ ds e', m e = some (ds, e') ∧
  ∀ kvs I' Fs' H', Rel K mg I' e' Fs' σ H' → Ext Fs I H Fs' I' H' → RpK K mg I' ds kvs → Q (kvs.map fun kv => (kV kv.1, kv.2)) H'
def SDs (X : Cx) (pos : Pos) (keys : List (Option Expr)) (values : List Expr) (m : M (List (Key × D))) : Prop := ∃ trs, PPs X pos keys values trs ∧ ∀ σ H Q, tDp X.K X.mg m σ H Q → tPairs trs σ H Q
section
variable {X : Cx} {pos : Pos}
theorem sd_nil : SDs X pos [] [] (dpE []) := ⟨[], pps_nil, fun σ H Q ⟨I, e, Fs, R, ds, e', hm, k⟩ => by
  cases hm
  exact k [] I Fs H R Ext.refl (by simp only [RpK])⟩
theorem sd_cons {x : Str} {j : Nat} {p : Pos} {v : Expr} {ks : List (Option Expr)} {vs : List Expr} {m : M D} {r : List (Str × M D)} (hv : SE X v m) (hr : SDs X pos ks vs (dpE r)) : SDs X pos (some (.Constant (.str x) j p) :: ks) (v :: vs) (dpE ((x, m) :: r)) := by
  obtain ⟨trs, h1, h2⟩ := hr
  refine ⟨_, pps_cons pe_str hv h1, fun σ H Q ⟨I, e, Fs, R, ds, e', hm, k⟩ => ?_⟩
  obtain ⟨⟨d, e1⟩, h3, hm⟩ := Option.bind_eq_some_iff.mp hm
  obtain ⟨⟨es, e2⟩, h4, hm⟩ := Option.map_eq_some_iff.mp hm
  cases hm
  refine ⟨I, e, Fs, R, d, e1, h3, fun v I1 F1 H1 R1 x1 r1 => h2 _ _ _ ⟨I1, e1, F1, R1, es, e2, h4, fun kvs I2 F2 H2 R2 x2 r2 => ?_⟩⟩
  exact k ((.inr x, v) :: kvs) I2 F2 H2 R2 (x1.trans x2) (by simp only [RpK]; exact ⟨v, kvs, rfl, r1.mono x2.g.ex _ _, r2⟩)
end
theorem rpK_keys {K : PySem.W.Frag} {mg : Str → Option Value} {I : Hp} : ∀ {ds : List (Key × D)} {kvs : List (Key × V)}, RpK K mg I ds kvs → kvs.map (·.1) = ds.map (·.1)
  | [], kvs, h => by simp only [RpK] at h; subst h; rfl
  | (k, d) :: ds, kvs, h => by
    simp only [RpK] at h
    obtain ⟨x, r, rfl, _, h2⟩ := h
    simp [rpK_keys h2]
theorem putK_new : ∀ {c : List (Key × V)} {k : Key} {v : V}, k ∉ c.map (·.1) → putK c k v = c ++ [(k, v)] := fun {c k v} h => by
  unfold putK
  have : (c.any fun kv => decide (kv.1 = k)) = false := by
    rw [List.any_eq_false]
    intro q hq
    have : q.1 ≠ k := fun z => h (z ▸ List.mem_map.mpr ⟨q, hq, rfl⟩)
    simpa using this
  rw [this]
  simp
theorem mergeK_new : ∀ (kvs c : List (Key × V)), ((c ++ kvs).map (·.1)).Nodup → mergeK c kvs = c ++ kvs
  | [], c, _ => by simp [mergeK]
  | (k, v) :: r, c, h => by
    have h1 : k ∉ c.map (·.1) := by
      rw [List.map_append, List.nodup_append] at h
      intro z
      exact h.2.2 k z k (by simp) rfl
    show mergeK (putK c k v) r = _
    rw [putK_new h1, mergeK_new r (c ++ [(k, v)]) (by simpa using h)]
    simp
theorem roK_p {K : PySem.W.Frag} {mg : Str → Option Value} {I H : Hp} : ∀ {ds : List (Key × D)} {kvs : List (Key × V)}, RpK K mg I ds kvs → RoK K mg I H (ds.map fun q => (q.1, W.p q.2)) kvs []
  | [], kvs, h => by simp only [RpK] at h; subst h; simp [RoK]
  | (k, d) :: ds, kvs, h => by
    simp only [RpK] at h
    obtain ⟨x, r, rfl, h1, h2⟩ := h
    simp only [List.map_cons, RoK]
    exact ⟨x, r, [], [], rfl, rfl, by simp only [Ro]; exact ⟨h1, trivial⟩, roK_p h2⟩
def mDictS (kms : List (Str × M D)) : M W := fun e => (dpE kms e).bind fun x => if (x.1.map (·.1)).Nodup ∧ x.1.length ≤ 15 then some (.od (x.1.map fun q => (q.1, .p q.2)), x.2) else none
theorem so_dictS {X : Cx} {Wx : WX} {pos : Pos} {keys : List (Option Expr)} {values : List Expr} {kms : List (Str × M D)} (h : SDs X pos keys values (dpE kms)) (hall : keys.all (·.isSome) = true) (hl : keys.length = values.length) (h0 : keys ≠ [])
    (h15 : keys.length ≤ 15) : SO X Wx (.Dict keys values pos) (mDictS kms) := by
  obtain ⟨trs, h1, h2⟩ := h
  refine PE.imp (pe_disp h1 hall hl h0 h15) fun σ H Q ⟨I, e, Fs, R, w, e', hm, k, _⟩ => ?_
  obtain ⟨⟨ds, e1⟩, h3, hm⟩ := Option.bind_eq_some_iff.mp hm
  have hm : (if (ds.map (·.1)).Nodup ∧ ds.length ≤ 15 then some (W.od (ds.map fun q => (q.1, .p q.2)), e1) else none) = some (w, e') := hm
  split at hm
  · rename_i hd
    cases hm
    intro q hq
    refine h2 _ _ _ ⟨I, e, Fs, R.loose hq, ds, _, h3, fun kvs I1 F1 H1 R1 x1 r1 => ?_⟩
    have hI : I q = none := sub_none R.sub hq
    have hF : ¬ MF Fs q := fun ⟨i, hi⟩ => R.live i q hi hq
    have h1q : H1 q = some (.dK []) := x1.g.fr q _ upd_same hF (fun _ z => by cases z)
    have hk := rpK_keys r1
    have hmer : mergeK [] kvs = kvs := by
      have := mergeK_new kvs [] (by rw [List.nil_append, hk]; exact hd.1)
      simpa using this
    have hlen : kvs.length = ds.length := by have := congrArg List.length hk; simpa using this
    refine ⟨h1q, kvs, rfl, by omega, ?_⟩
    rw [hmer]
    have hI1 : I1 q = none := by
      cases z : I1 q with
      | none => rfl
      | some u =>
        rcases x1.g.new q (by rw [z]; exact fun y => by cases y) with y | y | y
        · exact absurd hI y
        · rw [upd_same] at y; cases y
        · exact absurd y hF
    have hF1 : ¬ MF F1 q := fun m => by
      rcases x1.fp q m with y | y
      · exact hF y
      · rw [upd_same] at y; cases y
    have R2 : Rel X.K X.mg I1 e' F1 σ (upd H1 q (.dK kvs)) := R1.loose2 hI1 hF1 (.dk h1q)
    refine k (.ref q) I1 F1 _ [q] R2 ⟨⟨x1.g.ex, fun a u hu m nt => ?_, fun a ha => ?_, fun t => tbR_upd (x1.g.tb (t.ext (Ex.new hq))) (.dk h1q), fun a ps hu m => ?_⟩, fun a m => ?_⟩ ⟨?_, by simp, fun a ha => by rw [List.mem_singleton.mp ha]; exact hI1, fun a ha m => by rw [List.mem_singleton.mp ha] at m; exact hF1 m⟩ fun a ha => by rw [List.mem_singleton.mp ha]; exact .inr hq
    · have z : a ≠ q := fun z => by subst z; rw [hq] at hu; cases hu
      rw [upd_ne z]
      exact x1.g.fr a u (by rw [upd_ne z]; exact hu) m nt
    · rcases x1.g.new a ha with y | y | y
      · exact .inl y
      · by_cases z : a = q
        · subst z; rw [upd_same] at y; cases y
        · rw [upd_ne z] at y; exact .inr (.inl y)
      · exact .inr (.inr y)
    · have z : a ≠ q := fun z => by subst z; rw [hq] at hu; cases hu
      rw [upd_ne z]
      exact x1.g.tl a ps (by rw [upd_ne z]; exact hu) m
    · rcases x1.fp a m with y | y
      · exact .inl y
      · by_cases z : a = q
        · subst z; exact absurd m hF1
        · rw [upd_ne z] at y; exact .inr y
    · simp only [Ro]
      exact ⟨q, kvs, [], rfl, upd_same, rfl, roK_p r1⟩
  · cases hm
/-! ### d[k], d an owned dict with a name -/
def mDgO (i : Nat) (m : M D) : M D := fun e => match e[i]? with
  | some (some (.od _)) => (m e).bind fun x => match x.2[i]? with
    | some (some (.od es)) => (keyD x.1).bind fun k => (valW es k).bind fun w => match w with
      | .p d => some (d, x.2)
      | _ => none
    | _ => none
  | _ => none
theorem se_dgO {X : Cx} {o b : Expr} {i : Nat} {m : M D} {pos : Pos} (hu : X.A.units + 1 < cLine) (ho : PE X o (tVar i)) (hb : SE X b m) (hs : NoSl b) : SE X (.Subscript o b pos) (mDgO i m) := PE.imp (pe_dget hu ho hb hs) fun σ H Q ⟨I, e, Fs, R, d, e', hm, k⟩ => by
  unfold mDgO at hm
  split at hm
  · rename_i es0 he0
    obtain ⟨⟨x, e1⟩, h1, hm⟩ := Option.bind_eq_some_iff.mp hm
    split at hm
    · rename_i es hes
      obtain ⟨ky, h2, hm⟩ := Option.bind_eq_some_iff.mp hm
      obtain ⟨w, h3, hm⟩ := Option.bind_eq_some_iff.mp hm
      cases w with
      | p d0 =>
        cases hm
        obtain ⟨v0, hv0, _⟩ := R.at_ i _ he0
        refine ⟨v0, hv0, I, e, Fs, R, x, _, h1, fun y I1 F1 H1 R1 x1 r1 => ?_⟩
        obtain ⟨v1, hv1, hro⟩ := R1.at_ i _ hes
        rw [hv0] at hv1
        cases hv1
        simp only [Ro] at hro
        obtain ⟨a, kvs, G1, rfl, ha, _, hF⟩ := hro
        obtain ⟨z, A, G2, B, hx, _, hro, _⟩ := hF.lens h3
        simp only [Ro] at hro
        refine ⟨a, z, rfl, ?_, k z I1 F1 H1 R1 x1 hro.1⟩
        rw [keyD_v h2 r1, ← hx]
        exact DGet.k ha
      | _ => cases hm
    · cases hm
  · cases hm
/-! evaluation -/
section
variable {e : Env}
def dpK (k : Str) (r : List (Str × M D)) : Option (D × Env) → Option (List (Key × D) × Env)
  | some x => (dpE r x.2).map fun y => ((.inr k, x.1) :: y.1, y.2)
  | none => none
@[simp] theorem ev_dpE_nil : dpE [] e = some ([], e) := rfl
@[simp] theorem ev_dpE {k : Str} {m : M D} {r : List (Str × M D)} : dpE ((k, m) :: r) e = dpK k r (m e) := by
  show ((m e).bind fun x => (dpE r x.2).map fun y => ((Sum.inr k, x.1) :: y.1, y.2)) = _
  unfold dpK
  cases m e <;> rfl
@[simp] theorem dpK_s {k : Str} {r : List (Str × M D)} {d : D} : dpK k r (some (d, e)) = (dpE r e).map fun y => ((.inr k, d) :: y.1, y.2) := rfl
def dsK : Option (List (Key × D) × Env) → Option (W × Env)
  | some x => if (x.1.map (·.1)).Nodup ∧ x.1.length ≤ 15 then some (.od (x.1.map fun q => (q.1, .p q.2)), x.2) else none
  | none => none
@[simp] theorem ev_dictS {kms : List (Str × M D)} : mDictS kms e = dsK (dpE kms e) := by unfold mDictS dsK; cases dpE kms e <;> rfl
theorem dsK_s {ds : List (Key × D)} (h : (ds.map (·.1)).Nodup) (hl : ds.length ≤ 15) : dsK (some (ds, e)) = some (.od (ds.map fun q => (q.1, .p q.2)), e) := if_pos ⟨h, hl⟩
def dgK4 (e : Env) : Option W → Option (D × Env)
  | some (.p d) => some (d, e)
  | _ => none
def dgK3 (d : D) (e : Env) : Option (Option W) → Option (D × Env)
  | some (some (.od es)) => dgK4 e ((keyD d).bind fun k => valW es k)
  | _ => none
def dgK2 (i : Nat) : Option (D × Env) → Option (D × Env)
  | some x => dgK3 x.1 x.2 x.2[i]?
  | none => none
def dgK1 (i : Nat) (m : M D) (e : Env) : Option (Option W) → Option (D × Env)
  | some (some (.od _)) => dgK2 i (m e)
  | _ => none
theorem dgK3_eq {d : D} {o : Option (Option W)} : (match o with
    | some (some (.od es)) => (keyD d).bind fun k => (valW es k).bind fun w => match w with
      | .p d => some (d, e)
      | _ => none
    | _ => none) = dgK3 d e o := by
  unfold dgK3
  split
  · unfold dgK4
    cases keyD d with
    | none => rfl
    | some k =>
      simp only [Option.bind_some]
      rename_i es
      cases valW es k with
      | none => rfl
      | some w => cases w <;> rfl
  · rfl
@[simp] theorem ev_dgO {i : Nat} {m : M D} : mDgO i m e = dgK1 i m e e[i]? := by
  unfold mDgO dgK1
  split
  · unfold dgK2
    cases m e with
    | none => rfl
    | some x => exact dgK3_eq
  · rfl
@[simp] theorem dgK1_s {i : Nat} {m : M D} {es : List (Key × W)} : dgK1 i m e (some (some (.od es))) = dgK2 i (m e) := rfl
@[simp] theorem dgK2_s {i : Nat} {d : D} : dgK2 i (some (d, e)) = dgK3 d e e[i]? := rfl
@[simp] theorem dgK3_s {d : D} {es : List (Key × W)} : dgK3 d e (some (some (.od es))) = dgK4 e ((keyD d).bind fun k => valW es k) := rfl
@[simp] theorem dgK4_s {d : D} : dgK4 e (some (.p d)) = some (d, e) := rfl
end
end MV

namespace MV
open PySem L2
section
variable {tg : Tg} {b : S} {e : Env}
/-- the first that something is said of, and how the slots are then -/
theorem forRun_find2 {α : Type} {g : α → D} (Z : Env → Prop) (p : α → Option W) : ∀ {xs : List α}, (∀ x ∈ xs, (p x = none → forStep tg b (g x) e = some (.nx e)) ∧ (∀ w, p x = some w → ∃ z, Z z ∧ forStep tg b (g x) e = some (.rt w z))) →
    (xs.findSome? p = none ∧ forRun tg b (xs.map g) e = some (.nx e)) ∨ (∃ w, xs.findSome? p = some w ∧ ∃ z, Z z ∧ forRun tg b (xs.map g) e = some (.rt w z))
  | [], _ => .inl ⟨rfl, rfl⟩
  | x :: xs, k => by
    have ih := forRun_find2 Z p (xs := xs) fun y hy => k y (by simp [hy])
    cases hp : p x with
    | none =>
      have h := (k x (by simp)).1 hp
      rw [List.map_cons, forRun_c, h, Option.bind_some, List.findSome?_cons, hp]
      exact ih
    | some w =>
      obtain ⟨z, hz, h⟩ := (k x (by simp)).2 w hp
      right
      exact ⟨w, by rw [List.findSome?_cons, hp], z, hz, by rw [List.map_cons, forRun_c, h, Option.bind_some]⟩
end
/-! ### two fors -/
section
variable {own vs1 : List Nat} {mi mi1 : M (List D)} {t t1 : Tg} {c c1 : M Bool} {m : M D} {e : Env}
def lc2K (own : List Nat) (t : Tg) (c : M Bool) (mi1 : M (List D)) (vs1 : List Nat) (t1 : Tg) (c1 : M Bool) (m : M D) : Option (List D × Env) → Option (D × Env)
  | some x => if x.1.length ≤ 1000 then (lc2Run own t c mi1 vs1 t1 c1 m x.1 (wipeE x.2 own)).map fun r => (.lst r.1, r.2) else none
  | none => none
@[simp] theorem ev_lc2 : mLc2 own mi t c mi1 vs1 t1 c1 m e = lc2K own t c mi1 vs1 t1 c1 m (mi e) := by unfold mLc2 lc2K; cases mi e <;> rfl
@[simp] theorem lc2K_s {ds : List D} : lc2K own t c mi1 vs1 t1 c1 m (some (ds, e)) = if ds.length ≤ 1000 then (lc2Run own t c mi1 vs1 t1 c1 m ds (wipeE e own)).map fun r => (.lst r.1, r.2) else none := rfl
/-- each turn gives a list of its own -/
theorem lc2Run_flat {α : Type} {g : α → D} (f : α → List D) : ∀ {xs : List α}, (∀ x ∈ xs, ∃ e1 e2 ys e3 e4, t (g x) e = some e1 ∧ c e1 = some (true, e2) ∧ mi1 e2 = some (ys, e3) ∧ ys.length ≤ 1000 ∧ lcRun vs1 t1 c1 m ys (wipeE e3 vs1) = some (f x, e4) ∧ wipeE e4 own = e) →
    lc2Run own t c mi1 vs1 t1 c1 m (xs.map g) e = some ((xs.map f).flatten, e)
  | [], _ => rfl
  | x :: xs, k => by
    obtain ⟨e1, e2, ys, e3, e4, h1, h2, h3, h4, h5, h6⟩ := k x (by simp)
    have ih := lc2Run_flat (g := g) f (xs := xs) fun y hy => k y (by simp [hy])
    simp [lc2Run, h1, h2, h3, h4, h5, h6, ih]
end
end MV

namespace MV
open PySem L2
variable [TB]
/-! ### owned lists seen as frozen ones -/
mutual
def frz0 : W → Option D
  | .p d => some d
  | .ol ws => (frz0L ws).map .lst
  | .ot ws => (frz0L ws).map .tup
  | .oi c fs => (frz0F fs).map (.inst c)
  | .od _ => none
  | .ex _ => none
def frz0L : List W → Option (List D)
  | [] => some []
  | w :: ws => (frz0 w).bind fun d => (frz0L ws).map (d :: ·)
def frz0F : List (Str × W) → Option (List (Str × D))
  | [] => some []
  | (k, w) :: ws => (frz0 w).bind fun d => (frz0F ws).map ((k, d) :: ·)
end
section
variable {K : PySem.W.Frag} {mg : Str → Option Value} {I J H : Hp}
mutual
theorem frz0_rp : ∀ (w : W) (d : D) (v : V) (F : List Addr), frz0 w = some d → Ro K mg I H w v F → Ex I J → (∀ a ∈ F, ∀ o, H a = some o → J a = some o) → Rp K mg J d v
  | .p d0, d, v, F, e, h, x, k => by
    simp only [frz0] at e
    cases e
    simp only [Ro] at h
    exact h.1.mono x _ _
  | .ol ws, d, v, F, e, h, x, k => by
    obtain ⟨ds, e1, rfl⟩ := Option.map_eq_some_iff.mp (show (frz0L ws).map D.lst = some d by simpa only [frz0] using e)
    simp only [Ro] at h
    obtain ⟨a, xs, G, rfl, ha, rfl, hL⟩ := h
    simp only [Rp]
    exact ⟨a, xs, rfl, k a (by simp) _ ha, frz0L_rp ws ds xs G e1 hL x fun b hb => k b (by simp [hb])⟩
  | .ot ws, d, v, F, e, h, x, k => by
    obtain ⟨ds, e1, rfl⟩ := Option.map_eq_some_iff.mp (show (frz0L ws).map D.tup = some d by simpa only [frz0] using e)
    simp only [Ro] at h
    obtain ⟨a, xs, G, rfl, ha, rfl, hL⟩ := h
    simp only [Rp]
    exact ⟨a, xs, rfl, SqT.of (k a (by simp) _ ha), frz0L_rp ws ds xs G e1 hL x fun b hb => k b (by simp [hb])⟩
  | .oi c fs, d, v, F, e, h, x, k => by
    obtain ⟨ds, e1, rfl⟩ := Option.map_eq_some_iff.mp (show (frz0F fs).map (D.inst c) = some d by simpa only [frz0] using e)
    simp only [Ro] at h
    obtain ⟨a, C, dx, xs, G, rfl, hc, ha, rfl, hL⟩ := h
    simp only [Rp]
    exact ⟨a, C, dx, xs, rfl, hc, k a (by simp) _ ha, frz0F_rp fs ds xs G e1 hL x fun b hb => k b (by simp [hb])⟩
  | .od _, d, v, F, e, h, x, k => by simp [frz0] at e
  | .ex _, d, v, F, e, h, x, k => by simp [frz0] at e
theorem frz0L_rp : ∀ (ws : List W) (ds : List D) (xs : List V) (F : List Addr), frz0L ws = some ds → RoL K mg I H ws xs F → Ex I J → (∀ a ∈ F, ∀ o, H a = some o → J a = some o) → RpL K mg J ds xs
  | [], ds, xs, F, e, h, x, k => by
    simp only [frz0L] at e
    cases e
    simp only [RoL] at h
    rw [h.1]
    exact RpL.nil
  | w :: ws, ds, xs, F, e, h, x, k => by
    obtain ⟨d, e1, e2⟩ := Option.bind_eq_some_iff.mp (show ((frz0 w).bind fun d => (frz0L ws).map (d :: ·)) = some ds by simpa only [frz0L] using e)
    obtain ⟨ds', e3, rfl⟩ := Option.map_eq_some_iff.mp e2
    simp only [RoL] at h
    obtain ⟨y, r, F1, F2, rfl, rfl, h1, h2⟩ := h
    exact RpL.cons (frz0_rp w d y F1 e1 h1 x fun b hb => k b (by simp [hb])) (frz0L_rp ws ds' r F2 e3 h2 x fun b hb => k b (by simp [hb]))
theorem frz0F_rp : ∀ (ws : List (Str × W)) (ds : List (Str × D)) (xs : List (Str × V)) (F : List Addr), frz0F ws = some ds → RoF K mg I H ws xs F → Ex I J → (∀ a ∈ F, ∀ o, H a = some o → J a = some o) → RpF K mg J ds xs
  | [], ds, xs, F, e, h, x, k => by
    simp only [frz0F] at e
    cases e
    simp only [RoF] at h
    rw [h.1]
    simp only [RpF]
  | (q, w) :: ws, ds, xs, F, e, h, x, k => by
    obtain ⟨d, e1, e2⟩ := Option.bind_eq_some_iff.mp (show ((frz0 w).bind fun d => (frz0F ws).map ((q, d) :: ·)) = some ds by simpa only [frz0F] using e)
    obtain ⟨ds', e3, rfl⟩ := Option.map_eq_some_iff.mp e2
    simp only [RoF] at h
    obtain ⟨y, r, F1, F2, rfl, rfl, h1, h2⟩ := h
    simp only [RpF]
    exact ⟨y, r, rfl, frz0_rp w d y F1 e1 h1 x fun b hb => k b (by simp [hb]), frz0F_rp ws ds' r F2 e3 h2 x fun b hb => k b (by simp [hb])⟩
end
end
/-- I, and what H has at these places -/
noncomputable def joinJ (P : Addr → Prop) (I H : Hp) : Hp := fun a => open Classical in if P a then H a else I a
theorem joinJ_in {P : Addr → Prop} {I H : Hp} {a : Addr} (h : P a) : joinJ P I H a = H a := by unfold joinJ; rw [if_pos h]
theorem joinJ_out {P : Addr → Prop} {I H : Hp} {a : Addr} (h : ¬ P a) : joinJ P I H a = I a := by unfold joinJ; rw [if_neg h]
theorem joinJ_ex {P : Addr → Prop} {I H : Hp} (s : Ex I H) : Ex I (joinJ P I H) := fun a o h => by
  by_cases z : P a
  · rw [joinJ_in z]; exact s a o h
  · rw [joinJ_out z]; exact h
theorem joinJ_sub {P : Addr → Prop} {I H : Hp} (s : Ex I H) : Ex (joinJ P I H) H := fun a o h => by
  by_cases z : P a
  · rw [joinJ_in z] at h; exact h
  · rw [joinJ_out z] at h; exact s a o h
theorem TbR.join {P : Addr → Prop} {I H : Hp} (t : TbR I H) (n : ∀ a, P a → NX H a) : TbR (joinJ P I H) H := t.keep fun a _ h => joinJ_out fun z => h (n a z)
/-- an owned result is frozen -/
def mFrzR (mw : M W) : M D := fun e => (mw e).bind fun x => (frz0 x.1).map fun d => (d, x.2)
theorem se_frzR {X : Cx} {Wx : WX} {a : Expr} {m : M W} (h : SO X Wx a m) : SE X a (mFrzR m) := by
  refine PE.imp h fun σ H Q ⟨I, e, Fs, R, d, e', hm, k⟩ => ?_
  obtain ⟨⟨w, e1⟩, h1, hm⟩ := Option.bind_eq_some_iff.mp hm
  obtain ⟨d', h2, hm⟩ := Option.map_eq_some_iff.mp hm
  cases hm
  refine ⟨I, e, Fs, R, w, e1, h1, fun v I' Fs' H' F R' x o hF => ?_, fun y z => by subst z; simp [frz0] at h2⟩
  have jx := joinJ_ex (P := fun a => a ∈ F) R'.sub
  have R2 : Rel X.K X.mg (joinJ (fun a => a ∈ F) I' H') e1 Fs' σ H' := by
    refine R'.frame (M := fun a => a ∈ F) ⟨jx, fun a u hu _ _ => hu, fun a ha => ?_, fun t => t.join (o.ro.nx _ _ _), fun a ps hu _ => ⟨ps, hu⟩⟩ (joinJ_sub R'.sub) fun a m ha => o.dj a ha m
    by_cases z : a ∈ F
    · exact .inr (.inr z)
    · rw [joinJ_out z] at ha; exact .inl ha
  refine k v _ Fs' H' R2 ⟨⟨x.g.ex.trans jx, x.g.fr, fun a ha => ?_, fun t => (x.g.tb t).join (o.ro.nx _ _ _), x.g.tl⟩, x.fp⟩ (frz0_rp w d v F h2 o.ro jx fun a ha u hu => by rw [joinJ_in ha]; exact hu)
  by_cases z : a ∈ F
  · rcases hF a z with y | y
    · exact .inr (.inr y)
    · exact .inr (.inl y)
  · rw [joinJ_out z] at ha; exact x.g.new a ha
/-- for the time of m, the named slots' owned things are seen as frozen, the other owned ones not at all; m's result is no object -/
def scal : D → Bool
  | .none => true
  | .bool _ => true
  | .int _ => true
  | .str _ => true
  | _ => false
def brE (is : List Nat) : Nat → Env → Option Env
  | _, [] => some []
  | i, none :: e => (brE is (i + 1) e).map (none :: ·)
  | i, some (.p d) :: e => (brE is (i + 1) e).map (some (.p d) :: ·)
  | i, some w :: e => if i ∈ is then (frz0 w).bind fun d => (brE is (i + 1) e).map (some (.p d) :: ·) else (brE is (i + 1) e).map (none :: ·)
/-- the footprints of what stands in the slots -/
def LF (e : Env) (Fs : Fp) (a : Addr) : Prop := ∃ i w, e[i]? = some (some w) ∧ a ∈ Fs i
theorem Rel.lf {K : PySem.W.Frag} {mg : Str → Option Value} {I H : Hp} {e : Env} {Fs : Fp} {σ : L2.St} (R : Rel K mg I e Fs σ H) (a : Addr) (h : LF e Fs a) : NX H a := by
  obtain ⟨i, w, h1, h2⟩ := h
  exact R.nx h1 h2
def mBor (is : List Nat) (m : M D) : M D := fun e => (brE is 0 e).bind fun e0 => (m e0).bind fun x => if scal x.1 = true then some (x.1, e) else none
theorem brE_len {is : List Nat} : ∀ {i : Nat} {e e0 : Env}, brE is i e = some e0 → e0.length = e.length
  | i, [], e0, h => by simp only [brE] at h; cases h; rfl
  | i, none :: e, e0, h => by
    obtain ⟨e1, h1, rfl⟩ := Option.map_eq_some_iff.mp (show (brE is (i + 1) e).map (none :: ·) = some e0 by simpa only [brE] using h)
    simp [brE_len h1]
  | i, some (.p d) :: e, e0, h => by
    obtain ⟨e1, h1, rfl⟩ := Option.map_eq_some_iff.mp (show (brE is (i + 1) e).map (some (.p d) :: ·) = some e0 by simpa only [brE] using h)
    simp [brE_len h1]
  | i, some (.ol w) :: e, e0, h => by
    simp only [brE] at h
    split at h
    · obtain ⟨d, _, h⟩ := Option.bind_eq_some_iff.mp h
      obtain ⟨e1, h1, rfl⟩ := Option.map_eq_some_iff.mp h
      simp [brE_len h1]
    · obtain ⟨e1, h1, rfl⟩ := Option.map_eq_some_iff.mp h
      simp [brE_len h1]
  | i, some (.ot w) :: e, e0, h => by
    simp only [brE] at h
    split at h
    · obtain ⟨d, _, h⟩ := Option.bind_eq_some_iff.mp h
      obtain ⟨e1, h1, rfl⟩ := Option.map_eq_some_iff.mp h
      simp [brE_len h1]
    · obtain ⟨e1, h1, rfl⟩ := Option.map_eq_some_iff.mp h
      simp [brE_len h1]
  | i, some (.od w) :: e, e0, h => by
    simp only [brE] at h
    split at h
    · obtain ⟨d, _, h⟩ := Option.bind_eq_some_iff.mp h
      obtain ⟨e1, h1, rfl⟩ := Option.map_eq_some_iff.mp h
      simp [brE_len h1]
    · obtain ⟨e1, h1, rfl⟩ := Option.map_eq_some_iff.mp h
      simp [brE_len h1]
  | i, some (.oi c w) :: e, e0, h => by
    simp only [brE] at h
    split at h
    · obtain ⟨d, _, h⟩ := Option.bind_eq_some_iff.mp h
      obtain ⟨e1, h1, rfl⟩ := Option.map_eq_some_iff.mp h
      simp [brE_len h1]
    · obtain ⟨e1, h1, rfl⟩ := Option.map_eq_some_iff.mp h
      simp [brE_len h1]
  | i, some (.ex w) :: e, e0, h => by
    simp only [brE] at h
    split at h
    · obtain ⟨d, _, h⟩ := Option.bind_eq_some_iff.mp h
      obtain ⟨e1, h1, rfl⟩ := Option.map_eq_some_iff.mp h
      simp [brE_len h1]
    · obtain ⟨e1, h1, rfl⟩ := Option.map_eq_some_iff.mp h
      simp [brE_len h1]
/-- what is in a slot then -/
theorem brE_at {is : List Nat} : ∀ {i : Nat} {e e0 : Env} {j : Nat} {w : W}, brE is i e = some e0 → e0[j]? = some (some w) → ∃ d w0, w = .p d ∧ e[j]? = some (some w0) ∧ frz0 w0 = some d
  | i, [], e0, j, w, h, hj => by simp only [brE] at h; cases h; simp at hj
  | i, o :: e, e0, j, w, h, hj => by
    have key : ∃ (o' : Option W) (e1 : Env), e0 = o' :: e1 ∧ brE is (i + 1) e = some e1 ∧ ∀ w, o' = some w → ∃ d w0, w = .p d ∧ o = some w0 ∧ frz0 w0 = some d := by
      cases o with
      | none =>
        obtain ⟨e1, h1, rfl⟩ := Option.map_eq_some_iff.mp (show (brE is (i + 1) e).map (none :: ·) = some e0 by simpa only [brE] using h)
        exact ⟨none, e1, rfl, h1, fun w z => by cases z⟩
      | some u =>
        cases u with
        | p d =>
          obtain ⟨e1, h1, rfl⟩ := Option.map_eq_some_iff.mp (show (brE is (i + 1) e).map (some (.p d) :: ·) = some e0 by simpa only [brE] using h)
          exact ⟨some (.p d), e1, rfl, h1, fun w z => by cases z; exact ⟨d, .p d, rfl, rfl, by simp [frz0]⟩⟩
        | _ =>
          simp only [brE] at h
          split at h
          · obtain ⟨d, hd, h⟩ := Option.bind_eq_some_iff.mp h
            obtain ⟨e1, h1, rfl⟩ := Option.map_eq_some_iff.mp h
            exact ⟨some (.p d), e1, rfl, h1, fun w z => by cases z; exact ⟨d, _, rfl, rfl, hd⟩⟩
          · obtain ⟨e1, h1, rfl⟩ := Option.map_eq_some_iff.mp h
            exact ⟨none, e1, rfl, h1, fun w z => by cases z⟩
    obtain ⟨o', e1, rfl, h1, k⟩ := key
    cases j with
    | zero =>
      simp at hj
      obtain ⟨d, w0, rfl, rfl, hd⟩ := k w hj
      exact ⟨d, w0, rfl, rfl, hd⟩
    | succ j =>
      obtain ⟨d, w0, rfl, h2, h3⟩ := brE_at h1 (by simpa using hj)
      exact ⟨d, w0, rfl, by simpa using h2, h3⟩
theorem scal_rp {K : PySem.W.Frag} {mg : Str → Option Value} {I J : Hp} {d : D} {v : V} (h : scal d = true) (r : Rp K mg I d v) : Rp K mg J d v := by
  cases d <;> first | (simp only [Rp] at r ⊢; exact r) | cases h
theorem se_bor {X : Cx} {a : Expr} {m : M D} (is : List Nat) (h : SE X a m) : SE X a (mBor is m) := by
  refine PE.imp h fun σ H Q ⟨I, e, Fs, R, d, e', hm, k⟩ => ?_
  obtain ⟨e0, h1, hm⟩ := Option.bind_eq_some_iff.mp hm
  obtain ⟨⟨x, e2⟩, h2, hm⟩ := Option.bind_eq_some_iff.mp hm
  have hm : (if scal x = true then some (x, e) else none) = some (d, e') := hm
  split at hm
  · rename_i hs
    cases hm
    have hsub : Ex (joinJ (LF e Fs) I H) H := joinJ_sub R.sub
    have R0 : Rel X.K X.mg (joinJ (LF e Fs) I H) e0 (fun _ => []) σ H := by
      refine ⟨hsub, by rw [brE_len h1]; exact R.len, fun j w hj => ?_, fun _ => List.nodup_nil, fun _ _ _ z => (by cases z), fun _ _ z => (by cases z), fun _ _ z => (by cases z), R.tb.join R.lf⟩
      obtain ⟨d0, w0, rfl, h3, h4⟩ := brE_at h1 hj
      obtain ⟨v, hv, ro⟩ := R.at_ j w0 h3
      refine ⟨v, hv, ?_⟩
      simp only [Ro]
      exact ⟨frz0_rp w0 d0 v (Fs j) h4 ro (joinJ_ex R.sub) fun a ha u hu => by rw [joinJ_in ⟨j, w0, h3, ha⟩]; exact hu, trivial⟩
    refine ⟨_, e0, _, R0, d, e2, h2, fun v I' Fs' H' R' x r => ?_⟩
    have nm : ∀ a, ¬ MF (fun _ => []) a := fun a ⟨i, z⟩ => by cases z
    have g : ∀ M : Addr → Prop, Gx M I H I H' := fun M => ⟨Ex.refl _, fun a u hu _ nt => x.g.fr a u hu (nm a) nt, fun a ha => .inl ha, fun t => ⟨(x.g.tb (t.join R.lf)).1, t.2⟩, fun a ps hu _ => x.g.tl a ps hu (nm a)⟩
    have R1 : Rel X.K X.mg I _ Fs σ H' := R.frame (g fun _ => False) ((joinJ_ex R.sub).trans (x.g.ex.trans R'.sub)) fun _ _ z => z
    exact k v I Fs H' R1 ⟨g _, fun a ha => .inl ha⟩ (scal_rp hs r)
  · cases hm
def mBorT (is : List Nat) (m : M Bool) : M Bool := fun e => (brE is 0 e).bind fun e0 => (m e0).map fun x => (x.1, e)
theorem st_bor {X : Cx} {a : Expr} {m : M Bool} (is : List Nat) (h : ST X a m) : ST X a (mBorT is m) := by
  refine PT.imp h fun σ H Q ⟨I, e, Fs, R, b, e', hm, k⟩ => ?_
  obtain ⟨e0, h1, hm⟩ := Option.bind_eq_some_iff.mp hm
  obtain ⟨⟨x, e2⟩, h2, hm⟩ := Option.map_eq_some_iff.mp hm
  cases hm
  have hsub : Ex (joinJ (LF e Fs) I H) H := joinJ_sub R.sub
  have R0 : Rel X.K X.mg (joinJ (LF e Fs) I H) e0 (fun _ => []) σ H := by
    refine ⟨hsub, by rw [brE_len h1]; exact R.len, fun j w hj => ?_, fun _ => List.nodup_nil, fun _ _ _ z => (by cases z), fun _ _ z => (by cases z), fun _ _ z => (by cases z), R.tb.join R.lf⟩
    obtain ⟨d0, w0, rfl, h3, h4⟩ := brE_at h1 hj
    obtain ⟨v, hv, ro⟩ := R.at_ j w0 h3
    refine ⟨v, hv, ?_⟩
    simp only [Ro]
    exact ⟨frz0_rp w0 d0 v (Fs j) h4 ro (joinJ_ex R.sub) fun a ha u hu => by rw [joinJ_in ⟨j, w0, h3, ha⟩]; exact hu, trivial⟩
  refine ⟨_, e0, _, R0, x, e2, h2, fun I' Fs' H' R' y => ?_⟩
  have nm : ∀ a, ¬ MF (fun _ => []) a := fun a ⟨i, z⟩ => by cases z
  have g : ∀ M : Addr → Prop, Gx M I H I H' := fun M => ⟨Ex.refl _, fun a u hu _ nt => y.g.fr a u hu (nm a) nt, fun a ha => .inl ha, fun t => ⟨(y.g.tb (t.join R.lf)).1, t.2⟩, fun a ps hu _ => y.g.tl a ps hu (nm a)⟩
  have R1 : Rel X.K X.mg I _ Fs σ H' := R.frame (g fun _ => False) ((joinJ_ex R.sub).trans (y.g.ex.trans R'.sub)) fun _ _ z => z
  exact k I Fs H' R1 ⟨g _, fun a ha => .inl ha⟩
/-! evaluation -/
section
variable {e : Env}
def btK (e : Env) : Option (Bool × Env) → Option (Bool × Env)
  | some x => some (x.1, e)
  | none => none
def btK1 (e : Env) (m : M Bool) : Option Env → Option (Bool × Env)
  | some e0 => btK e (m e0)
  | none => none
@[simp] theorem ev_borT {is : List Nat} {m : M Bool} : mBorT is m e = btK1 e m (brE is 0 e) := by
  unfold mBorT btK1
  cases brE is 0 e with
  | none => rfl
  | some e0 => simp only [Option.bind_some]; unfold btK; cases m e0 <;> rfl
@[simp] theorem btK1_s {m : M Bool} {e0 : Env} : btK1 e m (some e0) = btK e (m e0) := rfl
@[simp] theorem btK_b {b : Bool} {e2 : Env} : btK e (some (b, e2)) = some (b, e) := rfl
def frK : Option (W × Env) → Option (D × Env)
  | some x => (frz0 x.1).map fun d => (d, x.2)
  | none => none
@[simp] theorem ev_frzR {mw : M W} : mFrzR mw e = frK (mw e) := by unfold mFrzR frK; cases mw e <;> rfl
@[simp] theorem frK_s {w : W} : frK (some (w, e)) = (frz0 w).map fun d => (d, e) := rfl
@[simp] theorem frz0_p {d : D} : frz0 (.p d) = some d := by simp [frz0]
theorem frz0L_map {α : Type} {f : α → D} : ∀ {xs : List α}, frz0L (xs.map fun x => .p (f x)) = some (xs.map f)
  | [] => by simp [frz0L]
  | x :: xs => by simp [frz0L, frz0L_map (xs := xs)]
@[simp] theorem frz0_map {α : Type} {f : α → D} {xs : List α} : frz0 (.ol (xs.map fun x => .p (f x))) = some (.lst (xs.map f)) := by simp [frz0, frz0L_map]
@[simp] theorem frz0_p' {xs : List D} : frz0 (.ol (xs.map .p)) = some (.lst xs) := by
  have := frz0_map (f := id) (xs := xs)
  simpa using this
@[simp] theorem frz0_nil : frz0 (.ol []) = some (.lst []) := by simp [frz0, frz0L]
def boK (e : Env) : Option (D × Env) → Option (D × Env)
  | some x => if scal x.1 = true then some (x.1, e) else none
  | none => none
def boK1 (e : Env) (m : M D) : Option Env → Option (D × Env)
  | some e0 => boK e (m e0)
  | none => none
@[simp] theorem ev_bor {is : List Nat} {m : M D} : mBor is m e = boK1 e m (brE is 0 e) := by
  unfold mBor boK1
  cases brE is 0 e with
  | none => rfl
  | some e0 => simp only [Option.bind_some]; unfold boK; cases m e0 <;> rfl
@[simp] theorem boK1_s {m : M D} {e0 : Env} : boK1 e m (some e0) = boK e (m e0) := rfl
@[simp] theorem boK_b {b : Bool} {e2 : Env} : boK e (some (.bool b, e2)) = some (.bool b, e) := rfl
def lwK (own : List Nat) (tg : Tg) (c : M Bool) (m : M D) : Option (List D × Env) → Option (W × Env)
  | some x => if x.1.length ≤ 1000000 then (lcRun own tg c m x.1 (wipeE x.2 own)).map fun r => (.ol (r.1.map .p), r.2) else none
  | none => none
@[simp] theorem ev_lcW {own : List Nat} {mi : M (List D)} {tg : Tg} {c : M Bool} {m : M D} : mLcW own mi tg c m e = lwK own tg c m (mi e) := by unfold mLcW lwK; cases mi e <;> rfl
@[simp] theorem lwK_s {own : List Nat} {tg : Tg} {c : M Bool} {m : M D} {ds : List D} : lwK own tg c m (some (ds, e)) = if ds.length ≤ 1000000 then (lcRun own tg c m ds (wipeE e own)).map fun r => (.ol (r.1.map .p), r.2) else none := rfl
end
end MV

namespace MV
open PySem L2
variable [TB]
/-! ### x in xs, plain data -/
theorem flat_eqF {n m : Nat} {x y : D} (hx : Pd n x) (hy : Pd m y) (fx : flatD x = true) (fy : flatD y = true) : eqF y x = true ↔ y = x := by
  cases x <;> cases y <;> simp [flatD] at fx fy <;> first
    | (simp [eqF]; done)
    | (cases n <;> exact hx.elim)
    | (cases m <;> exact hy.elim)
open Classical in
theorem in_pd {n : Nat} {x : D} {ds : List D} (hx : Pd n x) (hd : ∀ y ∈ ds, Pd n y) (hn : n ≤ 50) : inB x (.lst ds) = some (decide (x ∈ ds)) := by
  have key : inB x (.lst ds) = if (flatD x && ds.all flatD) = true then some (ds.any fun y => eqF y x) else (toPy x).bind fun p => (toPys ds).bind fun qs => if (SeqAt.shaped p && SeqAt.shaped (.list qs)) = true then some (qs.any fun z => PyData.eqv z p) else none := by
    cases x <;> rfl
  rw [key]
  split
  · rename_i hf
    rw [Bool.and_eq_true, List.all_eq_true] at hf
    congr 1
    rw [Bool.eq_iff_iff, List.any_eq_true, decide_eq_true_eq]
    constructor
    · rintro ⟨y, hy, e⟩
      rw [← (flat_eqF hx (hd y hy) hf.1 (hf.2 y hy)).mp e]
      exact hy
    · exact fun h => ⟨x, h, (flat_eqF hx hx hf.1 hf.1).mpr rfl⟩
  · obtain ⟨p, h1, h2, h3⟩ := pd_py n x hx
    obtain ⟨qs, q1, q2, q3⟩ := pds_py (pd_py n) ds hd
    have s1 : SeqAt.shaped p = true := by unfold SeqAt.shaped; rw [h2, Bool.true_and]; exact decide_eq_true (by omega)
    have s2 : SeqAt.shaped (.list qs) = true := by
      unfold SeqAt.shaped
      simp only [PyData.canLay0, q2, Bool.true_and, PyData.depth]
      exact decide_eq_true (by omega)
    rw [h1, q1]
    simp only [Option.bind_some, s1, s2, Bool.and_self, if_true]
    congr 1
    rw [Bool.eq_iff_iff, List.any_eq_true, decide_eq_true_eq]
    have pw : ∀ (ds : List D) (qs : List PyData), (∀ y ∈ ds, Pd n y) → toPys ds = some qs → ((∃ z ∈ qs, PyData.eqv z p = true) ↔ x ∈ ds) := by
      intro ds
      induction ds with
      | nil => intro qs _ h; simp [toPys] at h; subst h; simp
      | cons d ds ih =>
        intro qs hd h
        simp only [toPys] at h
        obtain ⟨u, a1, h⟩ := Option.bind_eq_some_iff.mp h
        obtain ⟨us, a2, rfl⟩ := Option.map_eq_some_iff.mp h
        have i1 := pd_eqv n n d x u p (hd d (by simp)) hx a1 h1
        have i2 := ih us (fun y hy => hd y (by simp [hy])) a2
        constructor
        · rintro ⟨z, hz, e⟩
          rcases List.mem_cons.mp hz with rfl | hz
          · rw [i1.mp e]; simp
          · exact List.mem_cons_of_mem _ (i2.mp ⟨z, hz, e⟩)
        · intro h
          rcases List.mem_cons.mp h with rfl | h
          · exact ⟨u, by simp, i1.mpr rfl⟩
          · obtain ⟨z, hz, e⟩ := i2.mpr h
            exact ⟨z, by simp [hz], e⟩
    exact pw ds qs hd q1
theorem in_g {α : Type} [DecidableEq α] {g : α → D} {n : Nat} {a : α} {l : List α} (inj : ∀ b, g a = g b → a = b) (ha : Pd n (g a)) (hl : ∀ b ∈ l, Pd n (g b)) (hn : n ≤ 50) : dIn (g a) (.lst (l.map g)) = some (.bool (decide (a ∈ l))) := by
  have h := in_pd ha (ds := l.map g) (fun y hy => by obtain ⟨b, hb, rfl⟩ := List.mem_map.mp hy; exact hl b hb) hn
  unfold dIn
  rw [h]
  have e : (g a ∈ l.map g) ↔ a ∈ l := by
    rw [List.mem_map]
    constructor
    · rintro ⟨b, hb, e⟩; rw [inj b e.symm]; exact hb
    · exact fun h => ⟨a, h, rfl⟩
  simp only [Option.map_some, e]
theorem nin_g {α : Type} [DecidableEq α] {g : α → D} {n : Nat} {a : α} {l : List α} (inj : ∀ b, g a = g b → a = b) (ha : Pd n (g a)) (hl : ∀ b ∈ l, Pd n (g b)) (hn : n ≤ 50) : dNotIn (g a) (.lst (l.map g)) = some (.bool !decide (a ∈ l)) := by
  have h := in_g inj ha hl hn
  unfold dIn at h
  unfold dNotIn
  obtain ⟨b, hb, e⟩ := Option.map_eq_some_iff.mp h
  rw [hb]
  cases e
  rfl
end MV

namespace MV
open PySem L2
variable [TB]
/-! ### frozen dicts -/
def valD (es : List (Key × D)) (k : Key) : Option D := (es.find? fun q => decide (q.1 = k)).map (·.2)
def keyT : Key → D
  | .inl i => .int i
  | .inr x => .str x
section
variable {K : PySem.W.Frag} {mg : Str → Option Value} {I H : Hp}
theorem rpK_val : ∀ {es : List (Key × D)} {kvs : List (Key × V)} {k : Key}, RpK K mg I es kvs → (valD es k).isSome = (valV kvs k).isSome ∧ ∀ d, valD es k = some d → ∃ v, valV kvs k = some v ∧ Rp K mg I d v
  | [], kvs, k, h => by
    simp only [RpK] at h
    subst h
    exact ⟨rfl, fun d e => by cases e⟩
  | (k', d') :: es, kvs, k, h => by
    simp only [RpK] at h
    obtain ⟨x, r, rfl, h1, h2⟩ := h
    have ih := rpK_val (k := k) h2
    by_cases z : k' = k
    · have e1 : valD ((k', d') :: es) k = some d' := by unfold valD; simp [z]
      have e2 : valV ((k', x) :: r) k = some x := by unfold valV; simp [z]
      rw [e1, e2]
      exact ⟨rfl, fun d e => by cases e; exact ⟨x, rfl, h1⟩⟩
    · have e1 : valD ((k', d') :: es) k = valD es k := by unfold valD; simp [z]
      have e2 : valV ((k', x) :: r) k = valV r k := by unfold valV; simp [z]
      rw [e1, e2]
      exact ih
def dDg (x k : D) : Option D := match x with
  | .dict es => (keyD k).bind (valD es)
  | _ => none
def dInF (x d : D) : Option D := match d with
  | .dict es => (keyD x).map fun k => .bool (valD es k).isSome
  | _ => none
def dNinF (x d : D) : Option D := match d with
  | .dict es => (keyD x).map fun k => .bool !(valD es k).isSome
  | _ => none
theorem dg_f {a : Addr} {o : Obj} {kvs : List (Key × V)} {k : Key} (s : Ex I H) (h : I a = some (.frz o (.dK kvs))) : DGet H a (kV k) (valV kvs k) := .inl ⟨kvs, k, .inr ⟨o, s _ _ h⟩, rfl, rfl⟩
end
section
variable {X : Cx} {a b : Expr} {ma mb : M D} {pos : Pos}
theorem se_dgD (hu : X.A.units + 1 < cLine) (ha : SE X a ma) (hb : SE X b mb) (hs : NoSl b) : SE X (.Subscript a b pos) (mOp dDg ma mb) := by
  refine PE.imp (pe_dget hu ha hb hs) fun σ H Q ⟨I, e, Fs, R, d', e', hm, k⟩ => ?_
  obtain ⟨⟨x, e1⟩, h1, hm⟩ := Option.bind_eq_some_iff.mp hm
  obtain ⟨⟨y, e2⟩, h2, hm⟩ := Option.bind_eq_some_iff.mp hm
  obtain ⟨z, h3, hm⟩ := Option.map_eq_some_iff.mp hm
  cases hm
  refine ⟨I, e, Fs, R, x, e1, h1, fun v I1 F1 H1 R1 x1 r1 => ⟨I1, e1, F1, R1, y, e2, h2, fun u I2 F2 H2 R2 x2 r2 => ?_⟩⟩
  cases x with
  | dict es =>
    obtain ⟨ky, h4, h5⟩ := Option.bind_eq_some_iff.mp (show (keyD y).bind (valD es) = some d' from h3)
    have r1 := r1.mono x2.g.ex _ _
    simp only [Rp] at r1
    obtain ⟨p, o, kvs, rfl, hp, hk⟩ := r1
    obtain ⟨w, hw, rw'⟩ := (rpK_val hk).2 _ h5
    refine ⟨p, w, rfl, ?_, k w I2 F2 H2 R2 (x1.trans x2) rw'⟩
    rw [keyD_v h4 r2, ← hw]
    exact dg_f R2.sub hp
  | _ => cases h3
theorem st_inF (hu : X.A.units + 1 < cLine) (hb : SE X b mb) (ha : SE X a ma) (hm : behindInMarks .In a = false := by first | rfl | with_unfolding_all rfl) : ST X (.Compare b [.In] [a] pos) (mBool (mOp dInF mb ma)) := by
  refine PT.imp (pt_cmp (pc_din hu hb ha) hm) fun σ H Q ⟨I, e, Fs, R, c, e', hm, k⟩ => ?_
  obtain ⟨⟨d, e3⟩, h0, hm⟩ := Option.bind_eq_some_iff.mp hm
  obtain ⟨⟨x, e1⟩, h1, h0⟩ := Option.bind_eq_some_iff.mp h0
  obtain ⟨⟨y, e2⟩, h2, h0⟩ := Option.bind_eq_some_iff.mp h0
  obtain ⟨z, h3, h0⟩ := Option.map_eq_some_iff.mp h0
  cases h0
  refine ⟨I, e, Fs, R, x, e1, h1, fun v I1 F1 H1 R1 x1 r1 => ⟨I1, e1, F1, R1, y, e2, h2, fun u I2 F2 H2 R2 x2 r2 => ?_⟩⟩
  cases y with
  | dict es =>
    obtain ⟨ky, h4, h5⟩ := Option.map_eq_some_iff.mp (show (keyD x).map (fun k => D.bool (valD es k).isSome) = some d from h3)
    subst h5
    cases hm
    simp only [Rp] at r2
    obtain ⟨p, o, kvs, rfl, hp, hk⟩ := r2
    refine ⟨p, _, rfl, by rw [keyD_v h4 (r1.mono x2.g.ex _ _)]; exact dg_f R2.sub hp, _, rfl, ?_⟩
    rw [← (rpK_val hk).1]
    exact k I2 F2 H2 R2 (x1.trans x2)
  | _ => cases h3
theorem st_ninF (hu : X.A.units + 1 < cLine) (hb : SE X b mb) (ha : SE X a ma) (hm : behindInMarks .NotIn a = false := by first | rfl | with_unfolding_all rfl) : ST X (.Compare b [.NotIn] [a] pos) (mBool (mOp dNinF mb ma)) := by
  refine PT.imp (pt_cmp (pc_dnotin hu hb ha) hm) fun σ H Q ⟨I, e, Fs, R, c, e', hm, k⟩ => ?_
  obtain ⟨⟨d, e3⟩, h0, hm⟩ := Option.bind_eq_some_iff.mp hm
  obtain ⟨⟨x, e1⟩, h1, h0⟩ := Option.bind_eq_some_iff.mp h0
  obtain ⟨⟨y, e2⟩, h2, h0⟩ := Option.bind_eq_some_iff.mp h0
  obtain ⟨z, h3, h0⟩ := Option.map_eq_some_iff.mp h0
  cases h0
  refine ⟨I, e, Fs, R, x, e1, h1, fun v I1 F1 H1 R1 x1 r1 => ⟨I1, e1, F1, R1, y, e2, h2, fun u I2 F2 H2 R2 x2 r2 => ?_⟩⟩
  cases y with
  | dict es =>
    obtain ⟨ky, h4, h5⟩ := Option.map_eq_some_iff.mp (show (keyD x).map (fun k => D.bool !(valD es k).isSome) = some d from h3)
    subst h5
    cases hm
    simp only [Rp] at r2
    obtain ⟨p, o, kvs, rfl, hp, hk⟩ := r2
    refine ⟨p, _, rfl, by rw [keyD_v h4 (r1.mono x2.g.ex _ _)]; exact dg_f R2.sub hp, _, rfl, ?_⟩
    rw [← (rpK_val hk).1]
    exact k I2 F2 H2 R2 (x1.trans x2)
  | _ => cases h3
end
/-! ### the keys, walked -/
def iKy (m : M D) : M (List D) := fun e => (m e).bind fun x => match x.1 with
  | .dict es => some (es.map fun q => keyT q.1, x.2)
  | _ => none
theorem rp_key {K : PySem.W.Frag} {mg : Str → Option Value} {I : Hp} {k : Key} : Rp K mg I (keyT k) (kV k) := by
  cases k <;> (unfold keyT kV; simp only [Rp])
theorem rpK_at {K : PySem.W.Frag} {mg : Str → Option Value} {I : Hp} {es : List (Key × D)} {kvs : List (Key × V)} (h : RpK K mg I es kvs) {i : Nat} {k : Key} (e : (es.map (·.1))[i]? = some k) : ∃ v, kvs[i]? = some (k, v) := by
  rw [← rpK_keys h, List.getElem?_map] at e
  obtain ⟨q, h1, h2⟩ := Option.map_eq_some_iff.mp e
  exact ⟨q.2, by rw [h1, ← h2]⟩
theorem itk_r {K : PySem.W.Frag} {mg : Str → Option Value} {I : Hp} {a : Addr} {o : Obj} {es : List (Key × D)} {kvs : List (Key × V)} (h : I a = some (.frz o (.dK kvs))) (r : RpK K mg I es kvs) : ItR K mg I (Itk a o kvs) (es.map fun q => keyT q.1) := fun i I1 H1 e1 e2 => by
  have h1 := e2 _ _ (e1 _ _ h)
  have hl : es.length = kvs.length := by have := congrArg List.length (rpK_keys r); simpa using this.symm
  refine ⟨fun d hd => ?_, fun hl' => ⟨h1, by rw [List.length_map] at hl'; omega⟩⟩
  rw [List.getElem?_map] at hd
  obtain ⟨q, hq, rfl⟩ := Option.map_eq_some_iff.mp hd
  obtain ⟨v, hv⟩ := rpK_at r (i := i) (k := q.1) (by rw [List.getElem?_map, hq]; rfl)
  refine ⟨⟨h1, (List.getElem?_eq_some_iff.mp hv).1⟩, fun y H2 hy => ?_⟩
  obtain ⟨rfl, k', v', hk, rfl⟩ := hy
  rw [hv] at hk
  cases hk
  exact ⟨I1, .same, rp_key⟩
theorem si_keys {X : Cx} {tg a : Expr} {m : M D} (h : SE X a m) : SI X tg a (iKy m) := PI.imp (pi_keys h) fun σ H Q ⟨I, e, Fs, R, ds, e', hm, k⟩ => by
  obtain ⟨⟨d, e1⟩, h1, hm⟩ := Option.bind_eq_some_iff.mp hm
  refine ⟨I, e, Fs, R, d, e1, h1, fun v I' Fs' H' R' x r => ?_⟩
  cases d with
  | dict es =>
    cases hm
    simp only [Rp] at r
    obtain ⟨l, o, kvs, rfl, h2, h3⟩ := r
    exact ⟨l, o, rfl, .inl ⟨kvs, R'.sub _ _ h2, k _ I' Fs' H' R' x (itk_r h2 h3)⟩⟩
  | _ => cases hm
/-! ### list(d) -/
def rListF : List V → Hp → VK → Prop := fun xs H Q => ∃ p o kvs, xs = [.ref p] ∧ H p = some (.frz o (.dK kvs)) ∧ ∀ q, H q = none → Q (.ref q) (upd H q (.lst (kvs.map fun kv => kV kv.1)))
theorem call_list_dF {X : Cx} (hc : X.calm = true) : CallR X (.type "list") rListF := by
  intro pins s σ H xs us Q I r h
  obtain ⟨p, o, kvs, e, hk, q⟩ := h
  subst e
  obtain ⟨u, eu, rx⟩ := vals1 r
  subst eu
  obtain rfl : u = Value.ref p := rx
  obtain ⟨lo, hgd, hx, es, ep, vs, hdt, hsz, rk, hm⟩ := I.frzK hk
  obtain ⟨_, z, _⟩ := (show ObjOk X.prog X.w H s.heap p (.frz o (.dK kvs)) from I.hok p _ hk)
  have hl : kvs.length = vs.length := Paired.length rk
  refine PySem.W.kdl_call (PySem.W.kdl_dict (knd := mixKind X.prog X.w) (kvs := vs) (ep := ep) lo) (I.ok.hd hc) hm (by rw [← hl]; exact z) fun h' tk acc' c' hkeep hS hacc => ?_
  refine ⟨.ref s.heap.objs.size, upd H s.heap.objs.size (.lst (kvs.map fun kv => kV kv.1)), I.laid hkeep (Nat.le_refl _) (show ObjOk X.prog X.w _ _ _ (.lst (kvs.map fun kv => kV kv.1)) from ⟨?_, acc'.toList, c', ?_, ?_⟩), rfl, q _ (I.hok.fresh (Nat.le_refl _))⟩
  · rw [List.length_map]; exact z
  · have el : acc'.toList.length = acc'.size := by simp
    refine vals_of_at (by rw [List.length_map, el, hacc.1, hl]) fun j x w h1 h2 => ?_
    obtain ⟨k, y, hky, hi⟩ := hacc.2 j w (by rw [← Array.getElem?_toList]; exact h2)
    have e1 : (kvs.map (·.1))[j]? = some k := by
      rw [KV.keys rk, List.getElem?_map, hky] <;> rfl
    have e2 : (kvs.map fun kv => kV kv.1)[j]? = some (kV k) := by
      have e3 : (kvs.map fun kv => kV kv.1) = (kvs.map (·.1)).map kV := by rw [List.map_map] <;> rfl
      rw [e3, List.getElem?_map, e1] <;> rfl
    rw [e2] at h1
    cases h1
    exact keyIs_rel hi
  · rw [Array.toArray_toList]; exact hS
def fListK : List D → Option D
  | [.dict es] => some (.lst (es.map fun q => keyT q.1))
  | _ => none
theorem rpL_keys {K : PySem.W.Frag} {mg : Str → Option Value} {I : Hp} : ∀ {es : List (Key × D)} {kvs : List (Key × V)}, RpK K mg I es kvs → RpL K mg I (es.map fun q => keyT q.1) (kvs.map fun kv => kV kv.1)
  | [], kvs, h => by simp only [RpK] at h; subst h; exact RpL.nil
  | (k, d) :: es, kvs, h => by
    simp only [RpK] at h
    obtain ⟨x, r, rfl, h1, h2⟩ := h
    exact RpL.cons rp_key (rpL_keys h2)
theorem cd_listK {K : PySem.W.Frag} {mg : Str → Option Value} : CallD K mg rListF fListK := by
  intro I H ds z vs Q s r e k
  unfold fListK at e
  split at e
  · obtain ⟨v, rfl, h⟩ := r.one
    cases e
    simp only [Rp] at h
    obtain ⟨a, o, kvs, rfl, h1, h2⟩ := h
    exact ⟨_, _, _, rfl, s _ _ h1, fun p hp => k _ _ _ (.new p _ hp) (rp_lst s hp (rpL_keys h2))⟩
  · cases e
/-! ### divmod -/
def fDivmod : List D → Option D
  | [.int i, .int j] => if 0 < j ∧ j ≤ 1000000 ∧ 0 ≤ i ∧ i ≤ 1000000 then some (.tup [.int (i / j), .int (i % j)]) else none
  | _ => none
theorem cd_divmod {K : PySem.W.Frag} {mg : Str → Option Value} : CallD K mg (fun xs H Q => ∃ i j, xs = [.int i, .int j] ∧ CDivP i j ∧ ∀ p, H p = none → Q (.ref p) (upd H p (.tup [.int (i / j), .int (i % j)]))) fDivmod := by
  intro I H ds z vs Q s r e k
  unfold fDivmod at e
  split at e
  · rename_i i j
    split at e
    · rename_i hc
      cases e
      obtain ⟨v, u, rfl, h1, h2⟩ := r.two
      simp only [Rp] at h1 h2
      subst h1 h2
      refine ⟨i, j, rfl, divp_ok hc.1 ?_, fun p hp => k _ _ _ (.new p _ hp) (rp_tup s hp (RpL.cons rp_int (RpL.cons rp_int RpL.nil)))⟩
      exact Nat.le_trans (intBits_le_64 (by omega) (by omega)) (by omega)
    · cases e
  · cases e
/-! ### reversed(xs) -/
def fRevI : List D → Option (List D)
  | [.lst ds] => some ds.reverse
  | _ => none
theorem itv_r {K : PySem.W.Frag} {mg : Str → Option Value} {I : Hp} {a : Addr} {xs : List V} {ds : List D} (h : SqL K I a xs) (r : RpL K mg I ds xs) : ItR K mg I (Itv K a xs.length) ds.reverse := fun i I1 H1 e1 e2 => by
  have h1 := ex_l (e1.trans e2) h
  have hl := r.length
  refine ⟨fun d hd => ?_, fun hl' => by rw [List.length_reverse] at hl'; show xs.length ≤ i; omega⟩
  have hi : i < ds.length := by have := (List.getElem?_eq_some_iff.mp hd).1; simpa using this
  rw [List.getElem?_reverse hi] at hd
  obtain ⟨x, hx, rx⟩ := r.get hd
  rw [hl] at hx
  refine ⟨⟨by omega, xs, x, h1, hx⟩, fun y H2 hy => ?_⟩
  obtain ⟨rfl, q⟩ := hy
  have := q xs h1
  rw [hx] at this
  cases this
  exact ⟨I1, .same, rx.mono e1 _ _⟩
theorem si_reversed {X : Cx} {tg a : Expr} {ma : M (List Arg)} {p pos : Pos} (hg : Gl X "reversed") (hm : X.mg "reversed" = none) (ha : SA X [a] ma) (hs : starEach [a] X.env = [(false, eval a X.env)] := by rfl) : SI X tg (.Call (.Name "reversed" p) [a] [] pos) (iArgs fRevI ma) :=
  PI.imp (pi_reversed hg hm ha hs) fun σ H Q h => by
    refine iargs_run (P := fun vs H1 => ∃ a xs, vs = [.ref a] ∧ SqL X.K H1 a xs ∧ Q (Itv X.K a xs.length) H1) (fun I' H' ds rs vs s hf r k => ?_) h
    unfold fRevI at hf
    split at hf
    · cases hf
      obtain ⟨v, rfl, h1⟩ := r.one
      simp only [Rp] at h1
      obtain ⟨l, xs, rfl, h2, h3⟩ := h1
      exact ⟨l, xs, rfl, .of (s _ _ h2), k _ (itv_r (.of h2) h3)⟩
    · cases hf
/-! ### an owned result frozen, its dicts locked -/
theorem pe_lk {X : Cx} {a : Expr} {t : TE} (h : PE X a t) : PE X a (fun σ H Q => t σ H fun v H1 => Lk (fun H2 => Q v H2) H1) := ⟨fun pins s σ H Q I hw => thn (h.run pins s σ H _ I hw) fun u s1 ⟨x, H1, I1, rx, q⟩ => by
  revert I1
  induction q with
  | done q => exact fun I1 => ⟨x, _, I1, rx, q⟩
  | lock d kvs hd _ ih =>
    intro I1
    obtain ⟨od, I2⟩ := I1.lock hd True.intro
    exact ih od I2⟩
def mFrzD (mw : M W) : M D := fun e => (mw e).bind fun x => (frz x.1).map fun d => (d, x.2)
theorem se_frzD {X : Cx} {Wx : WX} {a : Expr} {m : M W} (h : SO X Wx a m) : SE X a (mFrzD m) := by
  refine PE.imp (pe_lk h) fun σ H Q ⟨I, e, Fs, R, d, e', hm, k⟩ => ?_
  obtain ⟨⟨w, e1⟩, h1, hm⟩ := Option.bind_eq_some_iff.mp hm
  obtain ⟨d', h2, hm⟩ := Option.map_eq_some_iff.mp hm
  cases hm
  refine ⟨I, e, Fs, R, w, e1, h1, fun v I' Fs' H' F R' x o hF => ?_, fun y z => by subst z; simp [frz] at h2⟩
  refine frz_ok w d v F I' H' h2 o.ro o.nd o.out R'.sub fun I2 H2 ex s' off lv r => .done ?_
  have R2 : Rel X.K X.mg I2 e1 Fs' σ H2 := by
    refine R'.frame (M := fun a => a ∈ F) ⟨ex, fun a u hu m _ => ?_, fun a ha => ?_, fun t => t.off off (o.ro.nx _ _ _), fun a ps hu m => ⟨ps, (off a m).2.trans hu⟩⟩ s' fun a m ha => o.dj a ha m
    · rw [(off a m).2]; exact hu
    · by_cases z : a ∈ F
      · exact .inr (.inr z)
      · rw [(off a z).1] at ha; exact .inl ha
  refine k v I2 Fs' H2 R2 ⟨⟨x.g.ex.trans ex, fun a u hu m nt => ?_, fun a ha => ?_, fun t => (x.g.tb t).off off (o.ro.nx _ _ _), fun a ps hu m => ?_⟩, fun a m => ?_⟩ r
  · have h3 := x.g.fr a u hu m nt
    have z : a ∉ F := fun z => by
      rcases hF a z with y | y
      · exact m y
      · rw [hu] at y; cases y
    rw [(off a z).2]
    exact h3
  · by_cases z : a ∈ F
    · rcases hF a z with y | y
      · exact .inr (.inr y)
      · exact .inr (.inl y)
    · rw [(off a z).1] at ha; exact x.g.new a ha
  · obtain ⟨ps', h3⟩ := x.g.tl a ps hu m
    have z : a ∉ F := fun z => by
      rcases hF a z with y | y
      · exact m y
      · rw [hu] at y; cases y
    exact ⟨ps', (off a z).2.trans h3⟩
  · exact x.fp a m
/-! ### x *= e -/
def dMulI : D → D → Option D
  | .int i, .int j => if -1000000 ≤ i ∧ i ≤ 1000000 then some (.int (i * j)) else none
  | _, _ => none
theorem ip_mulM {X : Cx} : PIp X .Mult (rI CMul fun i j => .int (i * j)) := fun pins s σ H x y v u Q I r1 r2 h => iop_mul pins s σ H x y v u Q I r1 r2 h
theorem ss_augM {X : Cx} {A : Nat → Bool} {Wx : WX} {i : Nat} {x : Str} {a : Expr} {m : M D} {pos pos' : Pos} (hA : A i = true) (hN : X.N.Nodup) (hi : X.N[i]? = some x) (hx : Loc X.env.scope x) (ha : SE X a m) (hf : X.fn x = true ∨ X.env.scope.names.lookup x = some .local := by first | exact .inl rfl | exact .inr rfl | assumption) :
    SS X A Wx (.AugAssign (.Name x pos') .Mult a pos) (sAug i dMulI m) := PS.imp (ps_aug hN hi hx ha ip_mulM hf) fun Dd σ H ⟨I, e, Fs, R, r, hm, k⟩ => by
  unfold sAug at hm
  split at hm
  · rename_i d hd
    obtain ⟨⟨y, e1⟩, h1, hm⟩ := Option.bind_eq_some_iff.mp hm
    obtain ⟨z, h2, hm⟩ := Option.map_eq_some_iff.mp hm
    cases hm
    obtain ⟨v, hv, ro⟩ := R.at_ i _ hd
    simp only [Ro] at ro
    refine ⟨v, hv, I, e, Fs, R, y, e1, h1, fun u I1 F1 H1 R1 x1 r1 => ?_⟩
    cases d with
    | int p =>
      cases y with
      | int q =>
        have h2 : (if -1000000 ≤ p ∧ p ≤ 1000000 then some (D.int (p * q)) else none) = some z := h2
        split at h2
        · cases h2
          simp only [Rp] at ro r1
          refine ⟨p, q, ro.1, r1, .inl ⟨by omega, by omega⟩, k _ I1 _ H1 (R1.put (F := []) (.pure (d := .int (p * q)) rp_int)) (x1.put fun b hb => ?_) (Agr.refl.set hA)⟩
          cases hb
        · cases h2
      | _ => cases h2
    | _ => cases h2
  · cases hm
theorem ss_setLcW {X : Cx} {A : Nat → Bool} {Wx : WX} {i : Nat} {y : Str} {py : Pos} {elt tg iter : Expr} {ifs : List Expr} {scope : Scope} {own : List (Str × Nat)} {pos spos : Pos} {mi : M (List D)} {t : Tg} {c : M Bool} {m : M D} (hA : A i = true) (hc : X.calm = true) (hN : X.N.Nodup) (hy : X.N[i]? = some y) (hyl : X.env.scope.names.lookup y = some .local)
    (hsw : swapsWith (.ListComp elt [⟨tg, iter, ifs, 0⟩] scope pos) (some (.Name y py)) spos.line X.env = pure true) (ok : BlkOk X.N X.env.scope scope own) (hi : SI X tg iter mi)
    (hg : ∀ (s : Shared) (H : Hp) (C : Addr) (cl : List (Str × Addr)) (fp : List Addr), SG (X.blk s H scope (compEnvC scope cl C X.env) fp) (ownA (own.map (·.2))) tg t) (ht : ∀ (s : Shared) (H : Hp) (C : Addr) (cl : List (Str × Addr)) (fp : List Addr), STs (X.blk s H scope (compEnvC scope cl C X.env) fp) ifs c)
    (he : ∀ (s : Shared) (H : Hp) (C : Addr) (cl : List (Str × Addr)) (fp : List Addr), SE (X.blk s H scope (compEnvC scope cl C X.env) fp) elt m) (hs : ∀ x, foldedSetIterable iter X.env x = pure x := by intro _; rfl) :
    SS X A Wx (.Assign [.Name y py] (.ListComp elt [⟨tg, iter, ifs, 0⟩] scope pos) spos) (sSet i (mLcW (own.map (·.2)) mi t c m)) :=
  PS.imp (ps_setLc (g := tG X.K X.mg (ownA (List.map (fun (x : Str × Nat) => x.2) own)) t) (tt := tT X.K X.mg c) (te := tE X.K X.mg m) hc hN hy hyl hsw hi ok hg ht he hs) fun D σ H h => by
    have q : tO X.K X.mg Wx (mLcW (own.map (·.2)) mi t c m) σ H fun x H1 => gName i x σ H1 D.nx := set_run hA h
    exact lcW_run q
/-! ### a, b, .. = a list -/
def gTL (n : Nat) (r : Tgs) : Tg := fun d e => match d with
  | .lst ds => if ds.length = n then r ds e else none
  | _ => none
theorem sg_unl {X : Cx} {A : Nat → Bool} {pos : Pos} {es : List Expr} {k : Nat} {t : Tgs} {n : Nat} (hc : X.calm = true) (h : SGs X A es t)
    (hn : (assignEach es X.env).length = n := by rfl) (hst : (assignEach es X.env).findIdx? (·.1) = none := by rfl) : SG X A (.Tuple es k pos) (gTL n t) := PG.imp (pg_unl hc h hn hst) fun v σ H Q ⟨I, e, Fs, d, R, r, e', hm, kk⟩ => by
  cases d with
  | lst ds =>
    have hm : (if ds.length = n then t ds e else none) = some e' := hm
    split at hm
    · rename_i hl
      simp only [Rp] at r
      obtain ⟨a, xs, rfl, h1, h2⟩ := r
      exact ⟨a, xs, rfl, .of (R.sub _ _ h1), by rw [← h2.length]; exact hl, I, e, Fs, ds, R, h2, e', hm, kk⟩
    · cases hm
  | _ => cases hm
@[simp] theorem ev_gTL {n : Nat} {r : Tgs} {ds : List D} {e : Env} : gTL n r (.lst ds) e = if ds.length = n then r ds e else none := rfl
/-! ### evaluation -/
section
variable {e : Env} {es : List (Key × D)} {x : Str} {m : M D} {mw : M W} {ma : M (List Arg)}
@[simp] theorem dDg_s : dDg (.dict es) (.str x) = valD es (.inr x) := rfl
@[simp] theorem dInF_s : dInF (.str x) (.dict es) = some (.bool (valD es (.inr x)).isSome) := rfl
@[simp] theorem dNinF_s : dNinF (.str x) (.dict es) = some (.bool !(valD es (.inr x)).isSome) := rfl
def kyK : Option (D × Env) → Option (List D × Env)
  | some (.dict es, e) => some (es.map fun q => keyT q.1, e)
  | _ => none
@[simp] theorem ev_iKy : iKy m e = kyK (m e) := by
  unfold iKy kyK
  rcases m e with _ | ⟨d, e1⟩
  · rfl
  · cases d <;> rfl
@[simp] theorem kyK_s : kyK (some (.dict es, e)) = some (es.map fun q => keyT q.1, e) := rfl
@[simp] theorem keyT_s : keyT (.inr x) = .str x := rfl
@[simp] theorem fListK_s : fListK [.dict es] = some (.lst (es.map fun q => keyT q.1)) := rfl
@[simp] theorem fRevI_s {ds : List D} : fRevI [.lst ds] = some ds.reverse := rfl
theorem fDivmod_s {i j : Int} (h : 0 < j ∧ j ≤ 1000000 ∧ 0 ≤ i ∧ i ≤ 1000000) : fDivmod [.int i, .int j] = some (.tup [.int (i / j), .int (i % j)]) := if_pos h
theorem dMulI_s {i j : Int} (h : -1000000 ≤ i ∧ i ≤ 1000000) : dMulI (.int i) (.int j) = some (.int (i * j)) := if_pos h
def frdK : Option (W × Env) → Option (D × Env)
  | some x => (frz x.1).map fun d => (d, x.2)
  | none => none
@[simp] theorem ev_frzD : mFrzD mw e = frdK (mw e) := by unfold mFrzD frdK; cases mw e <;> rfl
@[simp] theorem frdK_s {w : W} : frdK (some (w, e)) = (frz w).map fun d => (d, e) := rfl
end
end MV

namespace MV
open PySem L2
variable [TB]
/-! ### enumerate over a locked dict: what its iterator draws -/
section
variable {prog : Program} {w : World} {A : Around} {E : Value → Shared → Prop} {s : Shared}
theorem nextOf_key_item {it d : Addr} {i n ep : Nat} {od : Obj} {es : Array DictEntry} {en : DictEntry} {Q : Value → Shared → Prop} (hit : s.heap.IsKeyIter it d i n ep) (hod : s.heap.get? d = some od) (hdd : od.data = .dict es ep)
    (hsz : es.size = n) (hx : es[i]? = some en) (hQ : ∀ h', h'.IsKeyIter it d (i + 1) n ep → Heap.SameBut it s.heap h' → Q en.key { s with heap := h' }) : wpAny (model prog w) A (Builtin.SmallTypes.nextOf (.ref it)) Q E s := by
  obtain ⟨o, ho, hc, hd⟩ := id hit
  unfold Builtin.SmallTypes.nextOf
  refine wpAny_bind (wpAny_callSpecial?_slot (name := Str.ofString "__next__") hit.typeIs F.slot_dict_keyiterator_next
    (wpAny_call_entry F.slot_dict_keyiterator_next hit.typeIs F.entry_dict_keyiterator_next ?_ (F.args_dict_keyiterator_next_1 _)))
  refine wpAny_bind (wpAny_pure ?_)
  refine wpAny_bind ?_
  refine wpAny_bind ?_
  first | refine wpAny_bind (wpAny_typeNameOfWhole_keyiter hit.typeIs (wpAny_pure ?_)) | refine wpAny_bind (wpAny_typeNameOf_keyiter hit.typeIs (wpAny_pure ?_))
  refine wpAny_bind (wpAny_fieldsOf ho hd ?_)
  have hown : Builtin.Dict_items.ownsTuple "dict_keyiterator" = false := by decide
  simp only [hown, Bool.false_eq_true, if_false]
  show wpAny _ _ (if (Value.ref d == Value.none) = true then _ else _) _ _ s
  rw [if_neg (show ¬ ((Value.ref d == Value.none) = true) from Bool.false_ne_true)]
  refine wpAny_bind (wpAny_pure ?_)
  refine wpAny_bind (wpAny_dictEntries hod hdd ?_)
  rw [if_neg (by rw [hsz]; simp)]
  refine wpAny_bind (wpAny_pure ?_)
  refine wpAny_bind (wpAny_dictEpoch hod hdd ?_)
  rw [if_neg (by simp)]
  refine wpAny_pure ?_
  obtain ⟨hlt', hen⟩ := Array.getElem?_eq_some_iff.mp hx
  simp only [show ¬ ((i : Int) < 0) from by omega, if_false, Int.toNat_natCast, Array.getElem?_eq_getElem hlt']
  refine wpAny_bind ?_
  first | refine wpAny_bind (wpAny_typeNameOfWhole_keyiter hit.typeIs (wpAny_pure ?_)) | refine wpAny_bind (wpAny_typeNameOf_keyiter hit.typeIs (wpAny_pure ?_))
  refine wpAny_bind (wpAny_isOneOf_keyiter hit.typeIs ?_)
  show wpAny _ _ (setField (.ref it) 1 (rawInt ((i : Int) + 1)) >>= _) _ _ s
  refine wpAny_bind (wpAny_setField ho hd (by simp) ?_)
  have hit' : (s.heap.update it (Obj.mapFields (·.setIfInBounds 1 (rawInt ((i : Int) + 1))))).IsKeyIter it d (i + 1) n ep :=
    ⟨_, Heap.get?_update_self _ ho (Obj.isFreed_of_fields (Obj.data_mapFields hd _)), (Obj.cls_mapFields ..).trans hc, by rw [Obj.data_mapFields hd]; simp [rawInt]⟩
  refine wpAny_bind (wpAny_holding ?_)
  refine wpAny_bind (wpAny_isOneOf_keyiter (s := { s with heap := s.heap.update it (Obj.mapFields (·.setIfInBounds 1 (rawInt ((i : Int) + 1)))) }) hit'.typeIs ?_)
  show wpAny _ _ (pure es[i].key) _ _ _
  rw [hen]
  exact wpAny_pure (wpAny_pure ⟨_, rfl, wpAny_pure (hQ _ hit' (Heap.SameBut.update ..))⟩)
theorem nextOf_key_end {it d : Addr} {i n ep : Nat} {od : Obj} {es : Array DictEntry} {Q : Value → Shared → Prop} (hh : A.handled = none) (hit : s.heap.IsKeyIter it d i n ep) (hod : s.heap.get? d = some od) (hdd : od.data = .dict es ep)
    (hsz : es.size = n) (hge : n ≤ i) (hE : ∀ h' e, Heap.ExtBut it s.heap h' → (∃ o, h'.get? e = some o ∧ o.cls = .type "StopIteration") → E (.ref e) { s with heap := h' }) : wpAny (model prog w) A (Builtin.SmallTypes.nextOf (.ref it)) Q E s := by
  obtain ⟨o, ho, hc, hd⟩ := id hit
  unfold Builtin.SmallTypes.nextOf
  refine wpAny_bind (wpAny_callSpecial?_slot (name := Str.ofString "__next__") hit.typeIs F.slot_dict_keyiterator_next
    (wpAny_call_entry F.slot_dict_keyiterator_next hit.typeIs F.entry_dict_keyiterator_next ?_ (F.args_dict_keyiterator_next_1 _)))
  refine wpAny_bind (wpAny_pure ?_)
  refine wpAny_bind ?_
  refine wpAny_bind ?_
  first | refine wpAny_bind (wpAny_typeNameOfWhole_keyiter hit.typeIs (wpAny_pure ?_)) | refine wpAny_bind (wpAny_typeNameOf_keyiter hit.typeIs (wpAny_pure ?_))
  refine wpAny_bind (wpAny_fieldsOf ho hd ?_)
  have hown : Builtin.Dict_items.ownsTuple "dict_keyiterator" = false := by decide
  simp only [hown, Bool.false_eq_true, if_false]
  show wpAny _ _ (if (Value.ref d == Value.none) = true then _ else _) _ _ s
  rw [if_neg (show ¬ ((Value.ref d == Value.none) = true) from Bool.false_ne_true)]
  refine wpAny_bind (wpAny_pure ?_)
  refine wpAny_bind (wpAny_dictEntries hod hdd ?_)
  rw [if_neg (by rw [hsz]; simp)]
  refine wpAny_bind (wpAny_pure ?_)
  refine wpAny_bind (wpAny_dictEpoch hod hdd ?_)
  rw [if_neg (by simp)]
  refine wpAny_pure ?_
  have hge' : es.size ≤ i := by rw [hsz]; exact hge
  simp only [show ¬ ((i : Int) < 0) from by omega, if_false, Int.toNat_natCast, Array.getElem?_eq_none hge']
  refine wpAny_bind ?_
  first | refine wpAny_bind (wpAny_typeNameOfWhole_keyiter hit.typeIs (wpAny_pure ?_)) | refine wpAny_bind (wpAny_typeNameOf_keyiter hit.typeIs (wpAny_pure ?_))
  show wpAny _ _ (setField (.ref it) 0 .none >>= _) _ _ s
  refine wpAny_bind (wpAny_setField ho hd (by simp) ?_)
  show wpAny _ _ (newExc (.type "StopIteration") [] >>= _) _ _ _
  refine wpAny_bind ?_
  simp only [newExc, newTuple]
  refine wpAny_bind (wpAny_newObj_type ?_ (by size_fits))
  refine wpAny_bind (m := firstArgMember _ _) (wpAny_of_eq (a := Value.none) (by first | rfl | (simp only [firstArgMember]; rfl)) ?_)
  refine wpAny_newObj_type ?_ (by size_fits)
  simp only [raiseNew]
  refine wpAny_bind (wpAny_handled ?_)
  first | rw [show A.in1.handled = none from hh] | rw [hh]
  refine wpAny_bind (wpAny_pure (wpAny_throw ?_))
  exact hE _ _ (((Heap.SameBut.update ..).extBut.push _).push _) ⟨_, Heap.get?_push_size _ rfl, rfl⟩
end
theorem draws_keys {prog : Program} {w : World} {A : Around} (hh : A.handled = none) {it d : Addr} {ep : Nat} {od : Obj} {es : Array DictEntry} (hne : d ≠ it) (hdd : od.data = .dict es ep) :
    Draws prog w A it [it, d] es.size (fun i v => ∃ en : DictEntry, es[i]? = some en ∧ v = en.key) (fun i h => h.IsKeyIter it d i es.size ep ∧ h.get? d = some od) where
  live := fun i h st => by obtain ⟨⟨o, ho, _⟩, _⟩ := st; exact ⟨o, ho⟩
  frame := fun i h h' st hk => ⟨st.1.at fun o e => hk it (by simp) o e, hk d (by simp) od st.2⟩
  item := fun i s Q E hi st hQ => nextOf_key_item st.1 st.2 hdd rfl (Array.getElem?_eq_getElem hi) fun h' st' sb => hQ _ h' s.toks ⟨_, Array.getElem?_eq_getElem hi, rfl⟩ ⟨st', (sb.2 d hne).trans st.2⟩ sb
  done := fun s Q E st hE => nextOf_key_end hh st.1 st.2 hdd rfl (Nat.le_refl _) hE
theorem begins_dict {d : Addr} {od : Obj} {es : Array DictEntry} {ep : Nat} (hs : (d == sysModules) = false) (hx : od.ExactDict) (hdd : od.data = .dict es ep) : Begins (.ref d) { cls := .type "dict_keyiterator", data := .fields #[.ref d, .int 0 0, .int es.size 0, .int ep 0] } fun h => h.get? d = some od where
  iter := fun prog w A E s Q h hq => iter_keys hs h hx hdd hq
  keeps := fun h h' e hk => hk d od e
  free := rfl
set_option maxHeartbeats 1000000 in
theorem meets_enum1 {v : Value} {o : Obj} {H : Heap → Prop} (B : Begins v o H) :
    Meets (Builtin.«enumerate.__new__» ⟨[.type "enumerate", v], []⟩) (fun _ R s => H s.heap ∧
      R (.ok (.ret (.ref (s.heap.push o).objs.size))) { s with heap := (s.heap.push o).push { cls := .type "enumerate", data := .fields #[.none, .bool false, .ref s.heap.objs.size, rawInt 0, .none, .none] } }) :=
  .of_wp fun prog w A R s h => by
    obtain ⟨hp, g, d, tk, os⟩ := s; obtain ⟨h1, h⟩ := h
    have hsub := sub_enumerate
    have q1 : ∀ {A' : Around} {E : Value → Shared → Prop} {Q : Value → Shared → Prop}, Q (.ref hp.objs.size) ⟨hp.push o, g, d, tk, os⟩ → wpAny (model prog w) A' (pyIter v) Q E ⟨hp, g, d, tk, os⟩ :=
      fun q => B.iter prog w _ _ ⟨hp, g, d, tk, os⟩ _ h1 q
    wp_walk using q1
    refine wpAny_stack_any fun st => wpAny_pure ?_
    split
    · rename_i c _ _ _ _ _
      cases (c == Value.type "enumerate")
      · wp_walk using q1
        exact ⟨_, rfl, h⟩
      · wp_walk using q1
        exact ⟨_, rfl, h⟩
    · wp_walk using q1
      exact ⟨_, rfl, h⟩
theorem enum_begins1 {prog : Program} {w : World} {A : Around} {E : Value → Shared → Prop} {s : Shared} {v : Value} {o : Obj} {H : Heap → Prop} {Q : Value → Shared → Prop} (B : Begins v o H) (h1 : H s.heap)
    (h : ∀ h', IsEnum h' (s.heap.objs.size + 1) s.heap.objs.size 0 .none → h'.get? s.heap.objs.size = some o → h'.objs.size = s.heap.objs.size + 2 →
      (∀ b o, s.heap.get? b = some o → h'.get? b = some o) → Q (.ref (s.heap.objs.size + 1)) { s with heap := h' }) :
    wpAny (model prog w) A (call (.type "enumerate") [v]) Q E s := by
  refine callType_new F.called_enumerate (by decide) (F.typeCall_enumerate_1 _) (F.newCall_enumerate_1 _) (fun obj => F.args_object_init_2 obj _) F.entry_enumerate_new
    (meets_enum1 B) ⟨h1, ?_⟩
  have hz : (s.heap.push o).objs.size = s.heap.objs.size + 1 := Heap.size_push ..
  show _ ∧ _
  rw [hz]
  have he : IsEnum ((s.heap.push o).push { cls := .type "enumerate", data := .fields #[.none, .bool false, .ref s.heap.objs.size, rawInt 0, .none, .none] }) (s.heap.objs.size + 1) s.heap.objs.size 0 .none := by
    have := Heap.get?_push_size (s.heap.push o) (o := { cls := .type "enumerate", data := .fields #[.none, .bool false, .ref s.heap.objs.size, rawInt 0, .none, .none] }) rfl
    rw [hz] at this; exact this
  refine ⟨⟨_, he, rfl⟩, h _ he (Heap.get?_push_of_some _ (Heap.get?_push_size _ B.free)) (by rw [Heap.size_push, hz]) fun b o x => Heap.get?_push_of_some _ (Heap.get?_push_of_some _ x)⟩
/-- (number, key) of the locked dict at d, each in a new pair -/
def IteK (d : Addr) (o : Obj) (kvs : List (Key × V)) : It :=
  ⟨fun i H => H d = some (.frz o (.dK kvs)) ∧ i < kvs.length, fun i H v H' => ∃ T k x, kvs[i]? = some (k, x) ∧ v = .ref T ∧ H T = none ∧ H' = upd H T (.tup [.int (i : Nat), kV k]), fun i H => H d = some (.frz o (.dK kvs)) ∧ kvs.length ≤ i⟩
theorem turn_enumK {P : Program} {w : World} {K : PySem.W.Frag} {elts : List Expr} {kk : Nat} {tpos : Pos} {d : Addr} {o : Obj} {es : Array DictEntry} {ep : Nat} {kvs : List (Key × V)} (e it : Addr) (hod : o.data = .dict es ep) (hei : e ≠ it) (hed : e ≠ d) (hdi : d ≠ it) :
    Turn P w K (.Tuple elts kk tpos) (IteK d o kvs) [e, it] e (fun i h => i ≤ kvs.length ∧ (∃ old, IsEnum h e it ((i : Nat) : Int) old) ∧ h.IsKeyIter it d i kvs.length ep) where
  mem := by simp
  obj := fun i h st b hb => by
    obtain ⟨_, ⟨old, he⟩, ⟨o, ho, hc, hd⟩⟩ := st
    have e' : b = e ∨ b = it := by simpa using hb
    rcases e' with z | z
    · rw [z]; exact ⟨_, he, fun v q => nomatch q⟩
    · rw [z]; exact ⟨o, ho, fun v q => by rw [hd] at q; cases q⟩
  keep := fun i h h' st k => let ⟨hle, ⟨old, he⟩, hi⟩ := st; ⟨hle, ⟨old, k e (by simp) _ he⟩, hi.at fun o q => k it (by simp) o q⟩
  item := by
    intro X hP hw hK hc i pins s σ H E I hf st hg
    subst hP hw hK
    obtain ⟨hle, ⟨old, he⟩, hit⟩ := st
    obtain ⟨hd, hi⟩ := hg
    obtain ⟨hs, hgd, hx, es', ep', vs, hdt, hsz, kv, hm⟩ := I.frzK hd
    obtain ⟨rfl, rfl⟩ := dict_ep hod hdt
    obtain ⟨⟨k, v⟩, hkv⟩ : ∃ p, kvs[i]? = some p := ⟨kvs[i], List.getElem?_eq_getElem hi⟩
    obtain ⟨u, hu, ru⟩ := kv_get kv hkv
    obtain ⟨od2, es2, hod2, _, hdd2, _, hp, _⟩ := id hm
    rw [hgd] at hod2
    cases hod2
    obtain ⟨rfl, _⟩ := dict_ep hod hdd2
    have hil : i < es2.size := by omega
    have hkey := (hp.get? (e := es2[i]) (by simp [hil]) hu).1
    have hel : e < s.heap.objs.size := Heap.lt_size he
    have hil' : it < s.heap.objs.size := by obtain ⟨_, q, _⟩ := hit; exact Heap.lt_size q
    rw [← hsz] at hit
    refine wpAny_pyNext_enum_itemD (draws_keys (prog := X.prog) (w := X.w) (A := X.A.in1) (I.ok.hd hc) hdi hod) he ⟨hit, hgd⟩ hil hei (by simp [hei, hed]) fun x h' tk hx' ho hst' hT hsz' hk => ?_
    obtain ⟨en, hen, rfl⟩ := hx'
    rw [Array.getElem?_eq_getElem hil] at hen
    cases hen
    refine ⟨_, rfl, wpAny_letOwnedTupleGo_enum (s := { s with heap := h', toks := tk + 1 }) ho fun h'' he' sb => ?_⟩
    have hT2 : h''.get? s.heap.objs.size = some { cls := .type "tuple", data := .seq #[.int i tk, es2[i].key] } := (sb.2 _ (Nat.ne_of_gt hel)).trans hT
    have new : ObjOk X.prog X.w (upd H s.heap.objs.size (.tup [.int (i : Nat), kV k])) h'' s.heap.objs.size (.tup [.int (i : Nat), kV k]) :=
      ⟨by show 2 ≤ sizeLine; decide, [.int i tk, es2[i].key], .cons ⟨_, rfl⟩ (.cons (relV_key hkey) .nil), ⟨_, hT2, rfl, _, rfl⟩⟩
    have I1 : Inv X pins σ (upd H s.heap.objs.size (.tup [.int (i : Nat), kV k])) { s with heap := h'', toks := tk + 1 } :=
      I.turnedNew (ch := [e, it]) (fun b ob hb q => (sb.2 b (fun z => hb (by simp [z]))).trans (hk b ob (fun z => hb (by simp [z])) (fun z => hb (by simp [z])) q)) hf (Nat.le_refl _) new
    refine ⟨.ref s.heap.objs.size, _, I1, rfl, ⟨_, k, v, hkv, rfl, I.hok.fresh (Nat.le_refl _), rfl⟩, ⟨by omega, ⟨es2[i].key, ?_⟩, ?_⟩, fun b hb => ?_⟩
    · have e1 : ((i + 1 : Nat) : Int) = (i : Int) + 1 := by omega
      rw [e1]; exact he'
    · rw [← hsz]; exact hst'.1.at fun o q => (sb.2 it (Ne.symm hei)).trans q
    · have hb' : b < s.heap.objs.size := by
        have e' : b = e ∨ b = it := by simpa using hb
        rcases e' with z | z
        · rw [z]; exact hel
        · rw [z]; exact hil'
      rw [upd_ne (Nat.ne_of_lt hb')]
      exact (hf b hb).1
  done := by
    intro X hP hw hK hc i pins s σ H E I hf st hg
    subst hP hw hK
    obtain ⟨hle, ⟨old, he⟩, hit⟩ := st
    obtain ⟨hd, hi⟩ := hg
    obtain ⟨hs, hgd, hx, es', ep', vs, hdt, hsz, kv, hm⟩ := I.frzK hd
    obtain ⟨rfl, rfl⟩ := dict_ep hod hdt
    obtain ⟨f0, f1, f2, f3, f4, f5⟩ := hf it (by simp)
    obtain rfl : i = kvs.length := by omega
    rw [← hsz] at hit
    exact wpAny_pyNext_enum_endD (draws_keys (prog := X.prog) (w := X.w) (A := X.A.in1) (I.ok.hd hc) hdi hod) he ⟨hit, hgd⟩ fun h' eb => ⟨rfl, I.turned (t' := s.toks) (fun b o hb q => eb b o hb q) f0 f1 f3 f4 f5⟩
  self := fun A i s Q E st h => let ⟨_, ⟨_, he⟩, _⟩ := st; wpAny_pyIter_enum he h
def iEnK (td : TA) : TI := fun σ H R => td σ H fun vs H1 => ∃ d o kvs, vs = [.ref d] ∧ H1 d = some (.frz o (.dK kvs)) ∧ R (IteK d o kvs) H1
open PySem.Spec PyProof.Rows in
theorem pi_enumK {X : Cx} {e : Expr} {ta : TA} {p pos tpos : Pos} {elts : List Expr} {kk : Nat} (hg : Gl X "enumerate") (hm : X.mg "enumerate" = none) (ha : PA X [e] ta) (hs : starEach [e] X.env = [(false, eval e X.env)] := by rfl) :
    PI X (.Tuple elts kk tpos) (.Call (.Name "enumerate" p) [e] [] pos) (iEnK ta) := by
  refine ⟨fun pins s σ H R I h => ?_⟩
  refine Call_ (ld_blt I hg hm boot_enumerate (PyProof.Rows.callWith_type1 (thn (ha.run pos pins s σ H _ I h) fun us s1 ⟨vs, H1, I1, r1, q1⟩ => ?_) hs rfl))
  obtain ⟨d, o, kvs, ex, hd, q⟩ := q1
  subst ex
  cases r1 with
  | cons r rr =>
    cases rr
    cases r
    obtain ⟨hs', hgd, hx, es, ep, vs, hdt, hsz, kv, hm'⟩ := I1.frzK hd
    have hdl : d < s1.heap.objs.size := Heap.lt_size hgd
    refine enum_begins1 (begins_dict hs' hx hdt) hgd fun h' he hit hsz' hk => wpAny_pyIter_enum he ?_
    have I2 : Inv X pins σ H1 { s1 with heap := h' } := I1.kept (t' := s1.toks) hk
    refine ⟨s1.heap.objs.size + 1, [s1.heap.objs.size + 1, s1.heap.objs.size], _, _, H1, rfl, I2, turn_enumK (s1.heap.objs.size + 1) s1.heap.objs.size hdt (Nat.succ_ne_self _) (Nat.ne_of_gt (Nat.lt_succ_of_lt hdl)) (Nat.ne_of_lt hdl), ⟨Nat.zero_le _, ⟨.none, he⟩, ⟨_, hit, rfl, by rw [hsz] <;> rfl⟩⟩, fun b hb => ?_, q⟩
    have e' : b = s1.heap.objs.size + 1 ∨ b = s1.heap.objs.size := by simpa using hb
    have hle : s1.heap.objs.size ≤ b := by
      rcases e' with z | z
      · rw [z]; exact Nat.le_add_right _ _
      · rw [z]; exact Nat.le_refl _
    exact I1.fpOk hle (I1.hok.fresh hle)
theorem iteK_r {K : PySem.W.Frag} {mg : Str → Option Value} {I : Hp} {a : Addr} {o : Obj} {es : List (Key × D)} {kvs : List (Key × V)} (h : I a = some (.frz o (.dK kvs))) (r : RpK K mg I es kvs) : ItR K mg I (IteK a o kvs) (enD (es.map fun q => keyT q.1)) := fun i I1 H1 e1 e2 => by
  have h1 := e2 _ _ (e1 _ _ h)
  have hl : es.length = kvs.length := by have := congrArg List.length (rpK_keys r); simpa using this.symm
  refine ⟨fun d hd => ?_, fun hl' => ⟨h1, by unfold enD at hl'; simp at hl'; omega⟩⟩
  unfold enD at hd
  rw [List.getElem?_mapIdx, List.getElem?_map] at hd
  obtain ⟨y, hy, rfl⟩ := Option.map_eq_some_iff.mp hd
  obtain ⟨q, hq, rfl⟩ := Option.map_eq_some_iff.mp hy
  obtain ⟨v, hv⟩ := rpK_at r (i := i) (k := q.1) (by rw [List.getElem?_map, hq]; rfl)
  refine ⟨⟨h1, (List.getElem?_eq_some_iff.mp hv).1⟩, fun y H2 hy => ?_⟩
  obtain ⟨T, k', v', hk, rfl, hT, rfl⟩ := hy
  rw [hv] at hk
  cases hk
  exact ⟨_, .new T _ hT, rp_tup e2 hT (RpL.cons rp_int (RpL.cons rp_key RpL.nil))⟩
def iEnKy (m : M D) : M (List D) := fun e => (m e).bind fun x => match x.1 with
  | .dict es => some (enD (es.map fun q => keyT q.1), x.2)
  | _ => none
def fEnumK : List D → Option (List D)
  | [.dict es] => some (enD (es.map fun q => keyT q.1))
  | _ => none
theorem si_enumK {X : Cx} {a : Expr} {ma : M (List Arg)} {p pos tpos : Pos} {elts : List Expr} {kk : Nat} (hg : Gl X "enumerate") (hm : X.mg "enumerate" = none) (ha : SA X [a] ma) (hs : starEach [a] X.env = [(false, eval a X.env)] := by rfl) : SI X (.Tuple elts kk tpos) (.Call (.Name "enumerate" p) [a] [] pos) (iArgs fEnumK ma) :=
  PI.imp (pi_enumK hg hm ha hs) fun σ H Q h => by
    refine iargs_run (P := fun vs H1 => ∃ d o kvs, vs = [.ref d] ∧ H1 d = some (.frz o (.dK kvs)) ∧ Q (IteK d o kvs) H1) (fun I' H' ds rs vs s hf r k => ?_) h
    unfold fEnumK at hf
    split at hf
    · cases hf
      obtain ⟨v, rfl, h1⟩ := r.one
      simp only [Rp] at h1
      obtain ⟨l, o, kvs, rfl, h2, h3⟩ := h1
      exact ⟨l, o, kvs, rfl, s _ _ h2, k _ (iteK_r h2 h3)⟩
    · cases hf
@[simp] theorem fEnumK_s {es : List (Key × D)} : fEnumK [.dict es] = some (enD (es.map fun q => keyT q.1)) := rfl
end MV

namespace L2
open PySem PySem.Spec PyProof.Rows
/-! ### tuples known by their object -/
section
variable {X : Cx}
def FrzT (H : Hp) (p : Addr) (ys : List V) : Prop := ∃ o : Obj, H p = some (.frz o (.tup ys)) ∧ o.cls = .type "tuple" ∧ o.dict = none
theorem call_tuple_ofF : CallR X (.type "tuple") (fun xs H Q => ∃ p ys, xs = [.ref p] ∧ ((SqL X.K H p ys ∧ ∀ l o, H l = none → o.cls = .type "tuple" → o.dict = none → Q (.ref l) (upd H l (.frz o (.tup ys)))) ∨ (SqT X.K H p ys ∧ Q (.ref p) H))) := by
  intro pins s σ H xs us Q I r h
  obtain ⟨p, ys, rfl, h⟩ := h
  obtain ⟨u, rfl, rx⟩ := vals1 r
  cases rx
  rcases h with ⟨hq, q⟩ | ⟨hq, q⟩
  · obtain ⟨its, r', pl, hz⟩ := I.list hq
    have hlen := r'.length
    refine call_tuple_list pl.isList (fun h' kp => ?_) (by simp only [List.size_toArray] <;> omega)
    have I1 : Inv X pins σ H { s with heap := h' } := I.kept (t' := s.toks) kp
    have hg : (h'.push { cls := .type "tuple", data := .seq its.toArray }).get? h'.objs.size = some { cls := .type "tuple", data := .seq its.toArray } := Heap.get?_push_size _ rfl
    have I2 : Inv X pins σ (upd H h'.objs.size (.frz { cls := .type "tuple", data := .seq its.toArray } (.tup ys))) { s with heap := h'.push { cls := .type "tuple", data := .seq its.toArray } } :=
      I1.laid (t' := s.toks) (fun b o e => Heap.get?_push_of_some _ e) (Nat.le_refl _) (show ObjOk X.prog X.w _ _ _ (.frz _ (.tup ys)) from ⟨hg, hz, its, r', IsTup.new _ _⟩)
    exact ⟨.ref h'.objs.size, _, I2, rfl, q _ _ (I1.hok.fresh (Nat.le_refl _)) rfl rfl⟩
  · obtain ⟨its, r', pl, hz⟩ := I.tuple hq
    exact call_tuple_same pl ⟨.ref p, H, I, rfl, q⟩
/-- a method of such a tuple -/
def tBMF (r : V → List V → Hp → VK → Prop) (to : TE) (t : TA) : TE := fun σ H Q => to σ H fun x H1 => (∃ p ys, x = .ref p ∧ FrzT H1 p ys) ∧ t σ H1 fun xs H2 => r x xs H2 Q
theorem pe_bmF {o e : Expr} {es : List Expr} {to : TE} {t : TA} {name : Str} {apos cpos : Pos} {id : String} {r : V → List V → Hp → VK → Prop} (pa : PlainAttrs "tuple") (slot : Slot "tuple" name id) (hty : typeOf (.builtin id) = pure (.type "method_descriptor")) (hm : MtR X id r) (ho : PE X o to) (ha : PA X (e :: es) t)
    (hbase : attributeBase o name X.env (eval o X.env) = eval o X.env := by rfl)
    (hfew : ((backTo cpos (starEach (e :: es) X.env)).all (fun x => !x.1) && (backToKw cpos (keywordEach [] X.env)).all (fun x => x.1.isSome)
      && decide ((e :: es).length + ([] : List Keyword).length + (if ([] : List Keyword).isEmpty then 0 else 1) < 30)) = true := by rfl)
    (hline : (apos.endLine == cpos.line) = true := by rfl) (hs : starEach (e :: es) X.env = (false, eval e X.env) :: starEach es X.env := by rfl) (hplain : (backTo cpos (starEach es X.env)).any (·.1) = false := by rfl) :
    PE X (.Call (.Attribute o name apos) (e :: es) [] cpos) (tBMF r to t) := by
  refine ⟨fun pins s σ H Q I h => ?_⟩
  refine wpAny_Call_method_late hbase hfew hline rfl (thn (ho.run pins s σ H _ I h) fun v s1 ⟨x, H1, I1, r1, ⟨p, ys, ex, ob, hp, hc, hd⟩, q1⟩ => ?_)
  subst ex
  cases r1
  have hg : s1.heap.get? p = some ob := (I1.hok p _ hp).1
  refine ⟨"tuple", id, pa, slot, hty, ⟨ob, hg, hc⟩, fun a e => ⟨ob, by cases e; exact hg, hd⟩, ?_⟩
  have hA := ha.run cpos pins s1 σ H1 _ I1 q1
  rw [hs] at hA ⊢
  refine Calls.callWith_builtin (by show (false || (backTo cpos (starEach es X.env)).any (·.1)) = false; rw [hplain] <;> rfl) (Calls.evalArgs_plain ?_)
  exact thn hA fun us s2 ⟨vs, H2, I2, r2, q2⟩ => hm pins s2 σ H2 (.ref p) vs (.ref p) us Q I2 rfl r2 q2
end
end L2
namespace MV
open PySem L2
variable [TB]
section
variable {K : PySem.W.Frag} {mg : Str → Option Value} {I H : Hp}
theorem ft_tup {ds : List D} {v : V} (h : Rp K mg I (.ft ds) v) : Rp K mg I (.tup ds) v := by
  simp only [Rp] at h ⊢
  obtain ⟨a, o, xs, rfl, h1, _, _, h2⟩ := h
  exact ⟨a, xs, rfl, .inl (.inr ⟨o, h1⟩), h2⟩
/-- tuple(x), the tuple known by its object -/
def fTupleF : List D → Option D
  | [.lst ds] => some (.ft ds)
  | [.fl ds] => some (.ft ds)
  | [.ft ds] => some (.ft ds)
  | _ => none
theorem cd_tupleF : CallD K mg (fun xs H Q => ∃ p ys, xs = [.ref p] ∧ ((SqL K H p ys ∧ ∀ l o, H l = none → o.cls = .type "tuple" → o.dict = none → Q (.ref l) (upd H l (.frz o (.tup ys)))) ∨ (SqT K H p ys ∧ Q (.ref p) H))) fTupleF := by
  intro I H ds z vs Q s r e k
  have mk : ∀ {xs : List V} {es : List D} {l : Addr} {o : Obj}, RpL K mg I es xs → H l = none → o.cls = .type "tuple" → o.dict = none → Rp K mg (upd I l (.frz o (.tup xs))) (.ft es) (.ref l) := fun h hl hc hd => by
    simp only [Rp]
    exact ⟨_, _, _, rfl, upd_same, hc, hd, h.new s hl⟩
  unfold fTupleF at e
  split at e
  · cases e
    obtain ⟨v, rfl, h⟩ := r.one
    simp only [Rp] at h
    obtain ⟨a, xs, rfl, h1, h2⟩ := h
    exact ⟨a, xs, rfl, .inl ⟨.of (s _ _ h1), fun l o hl hc hd => k _ _ _ (.new l _ hl) (mk h2 hl hc hd)⟩⟩
  · cases e
    obtain ⟨v, rfl, h⟩ := r.one
    simp only [Rp] at h
    obtain ⟨a, xs, rfl, h1, h2⟩ := h
    exact ⟨a, xs, rfl, .inl ⟨ex_l s h1, fun l o hl hc hd => k _ _ _ (.new l _ hl) (mk h2 hl hc hd)⟩⟩
  · cases e
    obtain ⟨v, rfl, h⟩ := r.one
    have h' := h
    simp only [Rp] at h
    obtain ⟨a, o, xs, rfl, h1, _, _, h2⟩ := h
    exact ⟨a, xs, rfl, .inr ⟨.inl (.inr ⟨o, s _ _ h1⟩), k _ _ _ .same h'⟩⟩
  · cases e
end
def dUnft : D → Option D
  | .ft ds => some (.tup ds)
  | d => some d
@[simp] theorem unft_ft {ds : List D} : dUnft (.ft ds) = some (.tup ds) := rfl
@[simp] theorem tupleF_l {ds : List D} : fTupleF [.lst ds] = some (.ft ds) := rfl
@[simp] theorem tupleF_f {ds : List D} : fTupleF [.ft ds] = some (.ft ds) := rfl
theorem se_unft {X : Cx} {a : Expr} {m : M D} (h : SE X a m) : SE X a (mUn dUnft m) := by
  refine PE.imp h fun σ H Q ⟨I, e, Fs, R, d, e', hm, k⟩ => ?_
  obtain ⟨⟨x, e1⟩, h1, hm⟩ := Option.bind_eq_some_iff.mp hm
  obtain ⟨z, h3, hm⟩ := Option.map_eq_some_iff.mp hm
  cases hm
  refine ⟨I, e, Fs, R, x, e1, h1, fun v I' Fs' H' R' x' r => k v I' Fs' H' R' x' ?_⟩
  cases x with
  | ft ds => cases h3; exact ft_tup r
  | _ => cases h3; exact r
theorem sv_unft {X : Cx} {a : Expr} {m : P D} (h : SV X a m) : SV X a (vUn dUnft m) := by
  refine PE.imp h fun σ H Q ⟨I, e, Fs, R, d, hm, k⟩ => ?_
  obtain ⟨x, h1, hm⟩ := Option.bind_eq_some_iff.mp hm
  refine ⟨I, e, Fs, R, x, h1, fun v I' H' g r => k v I' H' g ?_⟩
  cases x with
  | ft ds => cases hm; exact ft_tup r
  | _ => cases hm; exact r
/-! ### t.index(x), a tuple of texts -/
def dIdxT : D → D → Option D
  | .ft ds, .str z => (strsD ds).bind fun ys => (ys.findIdx? fun y => decide (y = z)).map fun (j : Nat) => D.int (j : Int)
  | _, _ => none
section
variable {X : Cx} {o a : Expr} {mo ma : M D} {apos cpos : Pos}
theorem se_idxT (ho : SE X o mo) (ha : SE X a ma)
    (hbase : attributeBase o "index" X.env (eval o X.env) = eval o X.env := by rfl)
    (hfew : ((backTo cpos (starEach [a] X.env)).all (fun x => !x.1) && (backToKw cpos (keywordEach [] X.env)).all (fun x => x.1.isSome)
      && decide ([a].length + ([] : List Keyword).length + (if ([] : List Keyword).isEmpty then 0 else 1) < 30)) = true := by rfl)
    (hline : (apos.endLine == cpos.line) = true := by rfl) (hs : starEach [a] X.env = (false, eval a X.env) :: starEach [] X.env := by rfl) (hplain : (backTo cpos (starEach [] X.env)).any (·.1) = false := by rfl) :
    SE X (.Call (.Attribute o "index" apos) [a] [] cpos) (mOp dIdxT mo ma) := PE.imp (pe_bmF PySem.F.plainAttrs_tuple PySem.F.slot_tuple_index PySem.F.type_tuple_index mt_tup_index ho (pa_one ha hs) hbase hfew hline hs hplain) fun σ H Q ⟨I, e, Fs, R, d, e', hm, k⟩ => by
  obtain ⟨⟨x, e1⟩, h1, hm⟩ := Option.bind_eq_some_iff.mp hm
  obtain ⟨⟨y, e2⟩, h2, hm⟩ := Option.bind_eq_some_iff.mp hm
  obtain ⟨z, h3, hm⟩ := Option.map_eq_some_iff.mp hm
  cases hm
  refine ⟨I, e, Fs, R, x, e1, h1, fun v I1 F1 H1 R1 x1 r1 => ?_⟩
  cases x with
  | ft ds =>
    cases y with
    | str z0 =>
      obtain ⟨ys, h4, h3⟩ := Option.bind_eq_some_iff.mp (show ((strsD ds).bind fun ys => (ys.findIdx? fun y => decide (y = z0)).map fun (j : Nat) => D.int (j : Int)) = some _ from h3)
      obtain ⟨j, hj, rfl⟩ := Option.map_eq_some_iff.mp h3
      simp only [Rp] at r1
      obtain ⟨b, ob, xs, rfl, hb, hc, hd, hr⟩ := r1
      refine ⟨⟨b, xs, rfl, ob, R1.sub _ _ hb, hc, hd⟩, I1, e1, F1, R1, _, e2, h2, fun u I2 F2 H2 R2 x2 r2 => ?_⟩
      simp only [Rp] at r2
      obtain ⟨hl, hj1, hj2⟩ := List.findIdx?_eq_some_iff_getElem.mp hj
      have hxs := strs_v h4 hr
      subst hxs
      have hz : ys[j] = z0 := by simpa using hj1
      refine ⟨b, ys, z0, j, rfl, by rw [r2], .inl (.inr ⟨ob, R2.sub _ _ (x2.g.ex _ _ hb)⟩), by rw [List.getElem?_eq_getElem hl, hz], fun m hm hz' => ?_, k _ I2 F2 H2 R2 (x1.trans x2) rp_int⟩
      obtain ⟨hml, e3⟩ := List.getElem?_eq_some_iff.mp hz'
      have := hj2 m hm
      simp [e3] at this
    | _ => cases h3
  | _ => cases h3
end
end MV

namespace L2
open PySem PySem.Spec PyProof.Rows
/-! ### len of a locked dict -/
theorem call_lenF {X : Cx} : CallR X (.builtin "len") (fun xs H Q => ∃ a kvs, xs = [V.ref a] ∧ Rd H a (.dK kvs) ∧ Q (.int kvs.length) H) := by
  intro pins s σ H xs us Q I r ⟨a, kvs, e, ha, q⟩
  subst e
  obtain ⟨u, eu, ru⟩ := vals1 r
  subst eu
  obtain rfl : u = Value.ref a := ru
  exact d_len I ha fun t s' J => ⟨.int kvs.length, H, J, ⟨t, rfl⟩, q⟩
end L2
namespace MV
open PySem L2
variable [TB]
def fLenK : List D → Option D
  | [.dict es] => some (.int es.length)
  | _ => none
theorem rpK_len {K : PySem.W.Frag} {mg : Str → Option Value} {I : Hp} : ∀ {es : List (Key × D)} {kvs : List (Key × V)}, RpK K mg I es kvs → kvs.length = es.length
  | [], kvs, h => by simp only [RpK] at h; subst h; rfl
  | (k, d) :: es, kvs, h => by
    simp only [RpK] at h
    obtain ⟨x, r, rfl, h1, h2⟩ := h
    simp [rpK_len h2]
theorem cd_lenK {K : PySem.W.Frag} {mg : Str → Option Value} : CallD K mg (fun xs H Q => ∃ a kvs, xs = [V.ref a] ∧ Rd H a (.dK kvs) ∧ Q (.int kvs.length) H) fLenK := by
  intro I H ds z vs Q s r e k
  unfold fLenK at e
  split at e
  · obtain ⟨v, rfl, h⟩ := r.one
    cases e
    simp only [Rp] at h
    obtain ⟨a, o, kvs, rfl, h1, h2⟩ := h
    refine ⟨_, kvs, rfl, .inr ⟨o, s _ _ h1⟩, ?_⟩
    rw [rpK_len h2]
    exact k _ _ _ .same rp_int
  · cases e
@[simp] theorem fLenK_s {es : List (Key × D)} : fLenK [.dict es] = some (.int es.length) := rfl
end MV

namespace LamK
open PySem PySem.Spec PyProof.Rows L2 LamX
/-! ### a lambda of one parameter, called by a built-in -/
/-- one parameter y; else captured names and globals -/
structure LamP (sc scope : Scope) (y : Str) : Prop where
  kind : scope.kind = .function
  co : scope.isCoroutine = false
  gen : scope.isGenerator = false
  par : scope.names.lookup y = some .local
  own : ∀ z ∈ scope.names, z.2 ≠ .cell ∧ (z.2 = .local → z.1 = y)
  free : ∀ z ∈ scope.names, z.2 = .free → sc.names.lookup z.1 = some .cell ∨ sc.names.lookup z.1 = some .free
def lamPB (sc scope : Scope) (y : Str) : Bool :=
  decide (scope.kind = .function) && !scope.isCoroutine && !scope.isGenerator && decide (scope.names.lookup y = some .local) &&
    scope.names.all fun z => !decide (z.2 = .cell) && (!decide (z.2 = .local) || decide (z.1 = y)) && (!decide (z.2 = .free) || (decide (sc.names.lookup z.1 = some .cell) || decide (sc.names.lookup z.1 = some .free)))
theorem lamP_by {sc scope : Scope} {y : Str} (h : lamPB sc scope y = true) : LamP sc scope y := by
  unfold lamPB at h
  simp only [Bool.and_eq_true, Bool.or_eq_true, Bool.not_eq_true', decide_eq_true_eq, decide_eq_false_iff_not, List.all_eq_true] at h
  obtain ⟨⟨⟨⟨h1, h2⟩, h3⟩, h4⟩, h5⟩ := h
  refine ⟨h1, h2, h3, h4, fun z hz => ⟨(h5 z hz).1.1, fun e => ?_⟩, fun z hz e => ?_⟩
  · rcases (h5 z hz).1.2 with q | q
    · exact absurd e q
    · exact q
  · rcases (h5 z hz).2 with q | q
    · exact absurd e q
    · exact q
theorem LamP.has {X : Cx} {scope : Scope} {y : Str} (L : LamP X.env.scope scope y) (ok : X.Ok) : ∀ z ∈ scope.names, z.2 = .free → ∃ c, X.env.cells.lookup z.1 = some c := fun z hz e => by
  rcases L.free z hz e with k | k
  · exact ok.has _ (.inl k)
  · exact ok.has _ (.inr k)
section
variable {X : Cx} {pins : List (Addr × Obj)} {σ : L2.St} {H : Hp} {s : Shared}
theorem lamP_start {A : Around} {E : XK} {scope : Scope} {f c' : Addr} {h₁ : Heap} {tk j : Nat} {y : Str} {v : V} {u : Value} (I : Inv X pins σ H s) (L : LamP X.env.scope scope y) (e0 : Env0 X.prog X.w X.K X.mg X.base A X.stack s H) (hd : A.handled = none)
    (hns : h₁.Ns s.heap.objs.size fun z => ([(y, u)] : List (Str × Value)).reverse.lookup z) (kp : ∀ b o, s.heap.get? b = some o → h₁.get? b = some o) (hj : X.N[j]? = some y) (nd : X.N.Nodup) (r : RelV v u) :
    Inv (lamCx X A X.stack s H E scope f c') [] (σ.set j (some v)) H { s with heap := h₁, toks := tk } := by
  have hfree := L.has I.ok
  have cm : ∀ {y c}, (cloFrom X.env.cells scope.names []).lookup y = some c → X.env.cells.lookup y = some c := fun {y c} e => by
    rcases cloFrom_mem (PySem.mem_of_lookup e) with hm | ⟨h1, h2⟩
    · cases hm
    · obtain ⟨c1, hc⟩ := hfree _ h1 rfl
      have hc : X.env.cells.lookup y = some c1 := hc
      have e2 : c = c1 := by
        rw [h2, hc] <;> rfl
      rw [e2]; exact hc
  have look : ∀ {z}, scope.names.lookup z = some .free → ∃ c, (cloFrom X.env.cells scope.names []).lookup z = some c := fun {z} hl =>
    mem_lookup (cloFrom_has (cells := X.env.cells) (acc := []) (show (z, NameKind.free) ∈ scope.names from PySem.mem_of_lookup hl))
  have cellK : ∀ {c : Addr} {v : Option Value}, s.heap.IsCell c v → h₁.IsCell c v := fun {c v} ⟨o, ho, hd⟩ => ⟨o, kp _ _ ho, hd⟩
  have noA : ∀ b : Addr, b ∉ (lamCx X A X.stack s H E scope f c').ex := fun b z => absurd (show b ∈ ([] : List Addr) from z) (by simp)
  have nocell : ∀ z, scope.names.lookup z ≠ some .cell := fun z k => absurd rfl (L.own _ (PySem.mem_of_lookup k)).1
  refine ⟨⟨e0.mod, L.kind, rfl, rfl, Nat.le_refl _, fun y z c e1 e2 => I.ok.inj y z c (cm e1) (cm e2), fun z hz => ?_, fun z c q _ => ?_, fun _ => hd, Around.frames_deeper e0.frames, .inr ⟨rfl, rfl⟩, fun b z => absurd z (noA b), e0.bs, e0.bsz, fun b _ _ => noA b,
      fun b z => absurd z (noA b), e0.funs, e0.frf⟩,
    rfl, e0.bare, Un.kept kp, ⟨_, hns, fun i z w e1 e2 e3 => ?_⟩, fun z c e => ?_, e0.hok.fresh (Nat.le_refl _), fun z c e => I.freeC z c (cm e), fun q hq => absurd (show q ∈ ([] : List (Addr × Obj)) ++ [] from hq) (by simp), e0.hok.kept kp, by rw [List.length_set]; exact I.len⟩
  · have hz : scope.names.lookup z = some .cell ∨ scope.names.lookup z = some .free := hz
    rcases hz with hz | hz
    · exact absurd hz (nocell z)
    · exact look hz
  · have q : false = true := q
    cases q
  · have e3 : Vis scope z := e3
    have e1 : X.N[i]? = some z := e1
    have hji : z = y → i = j := fun q => by
      have a1 := (List.getElem?_eq_some_iff.mp e1).1
      exact (List.getElem?_inj a1 nd).mp (by rw [e1, hj, q])
    by_cases hij : i = j
    · subst hij
      rw [hj] at e1
      cases e1
      have hl : i < σ.length := by
        have := (List.getElem?_eq_some_iff.mp e2).1
        simpa using this
      rw [List.getElem?_set_self hl] at e2
      cases e2
      exact ⟨u, r, .inl ⟨L.par, by simp⟩⟩
    · rw [List.getElem?_set_ne (Ne.symm hij)] at e2
      rcases e3 with k | k | k
      · exact absurd (hji ((L.own _ (PySem.mem_of_lookup k)).2 rfl)) hij
      · exact absurd k (nocell z)
      · obtain ⟨m, hn, hl⟩ := I.loc
        have fz := L.free _ (PySem.mem_of_lookup k) rfl
        obtain ⟨w', r', q⟩ := hl i z w e1 e2 (fz.elim (fun k => .inr (.inl k)) (fun k => .inr (.inr k)))
        obtain ⟨c2, h2⟩ := look k
        refine ⟨w', r', .inr ⟨.inr k, c2, h2, ?_⟩⟩
        have c1 := cm h2
        rcases q with ⟨k', _⟩ | ⟨_, c3, e', q3⟩
        · have k' : X.env.scope.names.lookup z = some .local := k'
          rcases fz with k2 | k2 <;> rw [show X.env.scope.names.lookup z = _ from k2] at k' <;> cases k'
        · rw [c1] at e'
          cases e'
          exact cellK q3
  · obtain ⟨w', q⟩ := I.cell z c (cm e)
    exact ⟨w', cellK q⟩
/-- the lambda at f is called with u -/
theorem lamP_call {A : Around} {scope : Scope} {params : Arguments} {body : Expr} {f c' : Addr} {pm ctv : Value} {k j : Nat} {y : Str} {v : V} {u : Value} {tb : TE} {Q : VK} (I : Inv X pins σ H s) (L : LamP X.env.scope scope y) (hA : A.frames = X.A.frames) (hr : Room (k + 1) A)
    (hf : s.heap.get? f = some (PySem.W.kla_obj "<lambda>" (X.env.qual ++ "<lambda>") params body scope (cloFrom X.env.cells scope.names []) pm c' ctv)) (hc : H c' = some (CodeO c' (X.env.qual ++ "<lambda>")))
    (hbind : bindArgs (PySem.W.kla_fn "<lambda>" (X.env.qual ++ "<lambda>") params body scope (cloFrom X.env.cells scope.names []) pm (.ref c') ctv) ⟨[u], []⟩ = pure [(y, u)])
    (hj : X.N[j]? = some y) (nd : X.N.Nodup) (r : RelV v u) (hb : PE (lamCx X A X.stack s H (fun _ _ _ => False) scope f c') body tb) (hq : tb (σ.set j (some v)) H Q) :
    wpAny (model X.prog X.w) A (call (.ref f) [u]) (EP X pins σ Q) (fun _ _ => False) s := by
  have e0 : Env0 X.prog X.w X.K X.mg X.base A X.stack s H := by
    have e := I.env0
    exact ⟨hA.trans e.frames, e.mod, e.bs, e.bsz, e.funs, e.frf, e.hok, e.bare⟩
  obtain ⟨⟨oc, vs, t, hoc, hdc, hvc⟩, _, _⟩ := I.hok c' _ hc
  have rc : codeAny (model X.prog X.w) A (.call (.ref f) ⟨[u], []⟩) (CR (L2.CX X.prog X.w) X.stack X.prog X.w H s Q (fun _ _ _ => False)) s := by
    refine PySem.W.kla_callFunE hr.depth hf rfl L.co L.gen rfl ⟨c', oc, vs, t, rfl, hoc, hdc, hvc⟩ ?_
    rw [hbind]
    refine wpAny_pure (wpAny_newFunctionEnv (fun z hz => (L.own z hz).1) (fun z hz => ?_) (fun h₁ hns hsb => ⟨I.nolimit.fresh _ hsb, ?_⟩) L.kind)
    · rw [List.mem_singleton.mp hz]; exact L.par
    show codeAny _ _ (.expr body (lamEnv X scope s.heap.objs.size f c')) _ _
    have kp : ∀ b o, s.heap.get? b = some o → h₁.get? b = some o := fun b o e => hsb.extBut b o (Nat.ne_of_lt (Heap.lt_size e)) (Heap.get?_push_of_some _ e)
    have J : Inv (lamCx X A X.stack s H (fun _ _ _ => False) scope f c') [] (σ.set j (some v)) H { s with heap := h₁, toks := s.toks + ([(y, u)] : List (Str × Value)).length } := lamP_start I L e0 hr.hd hns kp hj nd r
    refine PySem.W.kla_codeExpr (wpAny_mono (hb.run [] _ _ H Q J hq) (fun v s' hq => ?_) fun e s' hq => hq)
    obtain ⟨w', H', J', rv, q⟩ := hq
    exact ⟨w', H', J'.os, J'.bare, J'.base, J'.hok, rv, q⟩
  refine wpAny_call (codeAny_mono rc fun r s' hq => ?_)
  cases r with
  | error e =>
    have hq : L2.CX X.prog X.w X.stack H s (fun _ _ _ => False) e s' := hq
    obtain ⟨_, _, _, _, _, _, _, _, _, _, _, _, _, _, _, _, z⟩ := hq
  | ok fl =>
    cases fl with
    | ret u => exact I.after hq
    | next => exact False.elim hq
    | brk => exact False.elim hq
    | cont => exact False.elim hq
end
end LamK

namespace LamK
open PySem PySem.Spec PyProof.Rows L2 LamX
/-! ### min(t, key=f), t a tuple of numbers, f a lambda -/
/-- the first of the least -/
def First (ks : Nat → Int) (n i : Nat) : Prop := ∀ m, m < n → ks i ≤ ks m ∧ (m < i → ks i < ks m)
section
variable {X : Cx} {pins : List (Addr × Obj)} {σ : L2.St} {J : Hp → Prop} {xs : List V} {ks : Nat → Int} {a f S it : Addr} {fo : Obj} {R : Result → Shared → Prop}
/-- one call of the key -/
def KeyTurn (X : Cx) (σ : L2.St) (J : Hp → Prop) (xs : List V) (ks : Nat → Int) (f : Addr) (fo : Obj) : Prop :=
  ∀ (i : Nat) (x : V) (u : Value), xs[i]? = some x → RelV x u → ∀ (pl : List (Addr × Obj)) (s : Shared) (H : Hp), J H → (f, fo) ∈ pl → Inv X pl σ H s →
    wpAny (model X.prog X.w) X.A.in1 (call (.ref f) [u]) (fun z s' => ∃ t H', z = .int (ks i) t ∧ J H' ∧ Inv X pl σ H' s') (fun _ _ => False) s
theorem pinsSI {H : Hp} {s : Shared} {oS oI : Obj} (I : Inv X pins σ H s) (fS : FpOk X pins H S) (fI : FpOk X pins H it) (gS : s.heap.get? S = some oS) (gI : s.heap.get? it = some oI) (dS : ∀ v, oS.data ≠ .cell v) (dI : ∀ v, oI.data ≠ .cell v) :
    Inv X (pins ++ [(S, oS), (it, oI)]) σ H s := I.pins_of fun p hp => by
  rcases List.mem_append.mp hp with hp | hp
  · exact I.pin p (List.mem_append_right _ hp)
  · simp only [List.mem_cons, List.not_mem_nil, or_false] at hp
    rcases hp with rfl | rfl
    · exact ⟨gS, fS.1, fS.2.1, fS.2.2.1, dS⟩
    · exact ⟨gI, fI.1, fI.2.1, fI.2.2.1, dI⟩
theorem keyLoop (hc : X.calm = true) (hJ : ∀ H, J H → SqT X.K H a xs) (hf : (f, fo) ∈ pins) (turn : KeyTurn X σ J xs ks f fo) (hS : ∀ H', H' S = none → FpOk X pins H' S) (hI : ∀ H', H' it = none → FpOk X pins H' it) (hSI : S ≠ it)
    (hR : ∀ i x v H' s', xs[i]? = some x → RelV x v → First ks xs.length i → J H' → Inv X pins σ H' s' → R (.ok (.ret v)) s') :
    ∀ (r j i : Nat) (s : Shared) (H : Hp) (vb : Value) (x : V) (tb : Tok) (c : Nat), xs.length - (j + 1) = r → j + 1 ≤ xs.length → Inv X pins σ H s → J H → H S = none → H it = none →
      s.heap.get? S = some (seqObj "list" #[vb, .int (ks i) tb] c) → s.heap.IsTupleIter it a (j + 1) → xs[i]? = some x → RelV x vb → First ks (j + 1) i → i ≤ j →
      codeAny (model X.prog X.w) X.A (.builtin "min.loop" ⟨[.ref it, .ref f, .ref S], []⟩) R s := by
  have hh : X.calm = true := hc
  have nm : (toString "min" ++ toString ".loop" : String) = "min.loop" := by decide
  intro r
  induction r with
  | zero =>
    intro j i s H vb x tb c hr hj I g nS nI gS gI hx rx hb hij
    have hl : j + 1 = xs.length := by omega
    obtain ⟨its, rv, p, hz⟩ := I.tuple (hJ H g)
    have ln := rv.length
    have f1 := hI H nI
    have f2 := hS H nS
    refine codeAny_builtin PySem.F.entry_min_loop ?_
    rw [Around.under_plainId PySem.F.plain_min_loop _]
    show wpAny _ X.A.in1 (seqItems? (.ref S) >>= _) _ _ _
    refine wpAny_bind (wpAny_seqItems gS rfl ?_)
    show wpAny _ X.A.in1 (tryCatch (pyNext (.ref it)) _ >>= _) _ _ _
    refine wpAny_bind (wpAny_tryCatch (wpAny_pyNext_tuple_end (show X.A.in1.handled = none from I.ok.hd hc) gI (show s.heap.IsTuple a its.toArray from p) (by simp; omega) fun h' eb => ?_))
    have I1 : Inv X pins σ H { s with heap := h' } := I.turned (t' := s.toks) (fun b o hb e => eb b o hb e) f1.1 f1.2.1 f1.2.2.2.1 f1.2.2.2.2.1 f1.2.2.2.2.2
    have g1 := eb S _ hSI gS
    show wpAny _ X.A.in1 (updateSeq S (fun _ => #[]) >>= _) _ _ _
    refine wpAny_bind (wpAny_updateSeq g1 rfl (wpAny_bind (wpAny_letGo (wpAny_pure ?_))))
    refine hR i x vb H _ hx rx (hl ▸ hb) g ?_
    exact I1.turned (t' := s.toks) (fun b o hb e => (Heap.get?_update_ne _ _ _ _ hb).trans e) f2.1 f2.2.1 f2.2.2.2.1 f2.2.2.2.2.1 f2.2.2.2.2.2
  | succ r ih =>
    intro j i s H vb x tb c hr hj I g nS nI gS gI hx rx hb hij
    have hl : j + 1 < xs.length := by omega
    obtain ⟨its, rv, p, hz⟩ := I.tuple (hJ H g)
    obtain ⟨y, hy⟩ : ∃ y, xs[j + 1]? = some y := ⟨_, List.getElem?_eq_getElem hl⟩
    obtain ⟨u, hu, ru⟩ := rv.get hy
    have f1 := hI H nI
    refine codeAny_builtin PySem.F.entry_min_loop ?_
    rw [Around.under_plainId PySem.F.plain_min_loop _]
    show wpAny _ X.A.in1 (seqItems? (.ref S) >>= _) _ _ _
    refine wpAny_bind (wpAny_seqItems gS rfl ?_)
    show wpAny _ X.A.in1 (tryCatch (pyNext (.ref it)) _ >>= _) _ _ _
    refine wpAny_bind (wpAny_tryCatch (wpAny_pyNext_tuple_item gI (show s.heap.IsTuple a its.toArray from p) (x := u) (by simpa using hu) fun h' gI1 sb => ?_))
    have I1 : Inv X pins σ H { s with heap := h' } := I.turned (t' := s.toks) (fun b o hb e => (sb.2 b hb).trans e) f1.1 f1.2.1 f1.2.2.2.1 f1.2.2.2.2.1 f1.2.2.2.2.2
    have g1 : h'.get? S = some (seqObj "list" #[vb, .int (ks i) tb] c) := (sb.2 S hSI).trans gS
    obtain ⟨oI, e1, e2, e3⟩ := id gI1
    have I2 := pinsSI I1 (hS H nS) f1 g1 e1 (fun v z => by cases z) (fun v z => by rw [e3] at z; cases z)
    show wpAny _ X.A.in1 (tryCatch (holding [u] (call (.ref f) [u])) _ >>= _) _ _ _
    refine wpAny_bind (wpAny_tryCatch (wpAny_holding (wpAny_mono (turn (j + 1) y u hy ru _ _ H g (List.mem_append_left _ hf) I2) (fun z s2 he => ?_) fun _ _ q => q.elim)))
    obtain ⟨t2, H2, rfl, j2, I3⟩ := he
    have q1 := I3.pin (S, _) (List.mem_append_right _ (List.mem_append_right _ (.head _)))
    have q2 := I3.pin (it, _) (List.mem_append_right _ (List.mem_append_right _ (.tail _ (.head _))))
    have I4 : Inv X pins σ H2 s2 := I3.unpinned
    have gI2 : s2.heap.IsTupleIter it a (j + 1 + 1) := ⟨oI, q2.1, e2, e3⟩
    have gS2 : s2.heap.get? S = some (seqObj "list" #[vb, .int (ks i) tb] c) := q1.1
    show wpAny _ X.A.in1 (tryCatch (holding [u, .int (ks (j + 1)) t2] (richCompare .Lt (.int (ks (j + 1)) t2) (.int (ks i) tb) >>= _)) _ >>= _) _ _ _
    refine wpAny_bind (wpAny_tryCatch (wpAny_holding (wpAny_bind (CmpOf.ints_lt (prog := X.prog) (w := X.w) (A := X.A.in1) (P := fun i v => ∃ t, v = .int (ks i) t) ks (fun i v h => h) (j + 1) i _ _ _ _ _ ⟨t2, rfl⟩ ⟨tb, rfl⟩ ?_))))
    refine wpAny_bind (wpAny_holding (wpAny_truthy_bool ?_))
    refine wpAny_bind (wpAny_letGo (wpAny_pure ?_))
    by_cases lt : ks (j + 1) < ks i
    · obtain ⟨c2, hc2⟩ : ∃ c2, (s2.heap.update S (Obj.mapSeq fun _ => #[u, .int (ks (j + 1)) t2])).get? S = some (seqObj "list" #[u, .int (ks (j + 1)) t2] c2) := ⟨_, get?_update_seq gS2 fun _ => #[u, .int (ks (j + 1)) t2]⟩
      have f2 := hS H2 q1.2.1
      simp only [lt, decide_true, if_true]
      refine wpAny_bind ?_
      refine wpAny_updateSeq gS2 rfl (wpAny_bind (wpAny_letGo ?_))
      rw [nm]
      refine wpAny_pure ⟨plainId_quiet PySem.F.plain_min_loop _, ih (j + 1) (j + 1) _ H2 u y t2 c2 (by omega) hl ?_ j2 q1.2.1 q2.2.1 hc2 ?_ hy ru (fun m hm => ?_) (Nat.le_refl _)⟩
      · exact I4.turned (t' := s2.toks) (fun b o hb e => (Heap.get?_update_ne _ _ _ _ hb).trans e) f2.1 f2.2.1 f2.2.2.2.1 f2.2.2.2.2.1 f2.2.2.2.2.2
      · exact ⟨oI, (Heap.get?_update_ne _ _ _ _ hSI.symm).trans q2.1, e2, e3⟩
      · by_cases e : m = j + 1
        · subst e
          exact ⟨by omega, fun _ => by omega⟩
        · have := (hb m (by omega)).1
          exact ⟨by omega, fun _ => by omega⟩
    · simp only [lt, decide_false, Bool.false_eq_true, if_false]
      refine wpAny_bind (wpAny_letGo ?_)
      rw [nm]
      refine wpAny_pure ⟨plainId_quiet PySem.F.plain_min_loop _, ih (j + 1) i _ H2 vb x tb c (by omega) hl I4 j2 q1.2.1 q2.2.1 gS2 gI2 hx rx (fun m hm => ?_) (by omega)⟩
      by_cases e : m = j + 1
      · subst e
        exact ⟨by omega, fun q => by omega⟩
      · exact hb m (by omega)
/-- min(t, key=f): the built-in entered -/
theorem min_key (hc : X.calm = true) (hJ : ∀ H, J H → SqT X.K H a xs) (turn : KeyTurn X σ J xs ks f fo) (hne : 0 < xs.length) (hf : (f, fo) ∈ pins) {s : Shared} {H : Hp} (I : Inv X pins σ H s) (g : J H) {Q : Value → Shared → Prop} {E : Value → Shared → Prop}
    (hQ : ∀ i x v H' s', xs[i]? = some x → RelV x v → First ks xs.length i → J H' → Inv X pins σ H' s' → Q v s') :
    wpAny (model X.prog X.w) X.A (call (.builtin "min") [.ref a] [(Str.ofString "key", .ref f)]) Q E s := by
  have nm : (toString "min" ++ toString ".loop" : String) = "min.loop" := by decide
  obtain ⟨its, rv, p, hz⟩ := I.tuple (hJ H g)
  obtain ⟨y, hy⟩ : ∃ y, xs[0]? = some y := ⟨_, List.getElem?_eq_getElem hne⟩
  obtain ⟨u, hu, ru⟩ := rv.get hy
  refine kmk_tree PySem.F.kind_min PySem.F.plain_min PySem.F.entry_min (kmk_min_key _ _) ?_
  show wpAny _ X.A.in1 (Builtin.Builtins.bindParams "min" ["key", "default"] 0 ⟨[], [(Str.ofString "key", .ref f)]⟩ >>= _) _ _ s
  refine wpAny_bind (wpAny_of_eq (show Builtin.Builtins.bindParams "min" ["key", "default"] 0 ⟨[], [(Str.ofString "key", .ref f)]⟩ = pure [some (.ref f), none] from rfl) ?_)
  refine wpAny_bind (wpAny_pure ?_)
  refine wpAny_bind (wpAny_pyIter_tuple (show s.heap.IsTuple a its.toArray from p) ?_)
  refine wpAny_bind (wpAny_newList ?_ (Nat.zero_le _))
  rw [nm]
  refine wpAny_pure ⟨plainId_quiet PySem.F.plain_min_loop _, ?_⟩
  have hs1 : (s.heap.push { cls := .type "tuple_iterator", data := .fields #[.ref a, .int 0 0] }).objs.size = s.heap.objs.size + 1 := size_push' ..
  have hSI : (s.heap.push { cls := .type "tuple_iterator", data := .fields #[.ref a, .int 0 0] }).objs.size ≠ s.heap.objs.size := by rw [hs1]; exact Nat.ne_of_gt (Nat.lt_succ_self _)
  have I0 : Inv X pins σ H { s with heap := (s.heap.push { cls := .type "tuple_iterator", data := .fields #[.ref a, .int 0 0] }).push (seqObj "list" #[] 0) } := I.kept (t' := s.toks) fun b o e => Heap.get?_push_of_some _ (Heap.get?_push_of_some _ e)
  have oI : ∀ H', H' s.heap.objs.size = none → FpOk X pins H' s.heap.objs.size := fun H' n => I.fpOk (Nat.le_refl _) n
  have oS : ∀ H', H' (s.heap.push { cls := .type "tuple_iterator", data := .fields #[.ref a, .int 0 0] }).objs.size = none → FpOk X pins H' (s.heap.push { cls := .type "tuple_iterator", data := .fields #[.ref a, .int 0 0] }).objs.size := fun H' n => I.fpOk (by rw [hs1]; exact Nat.le_succ _) n
  have nI : H s.heap.objs.size = none := I.hok.fresh (Nat.le_refl _)
  have nS : H (s.heap.push { cls := .type "tuple_iterator", data := .fields #[.ref a, .int 0 0] }).objs.size = none := I.hok.fresh (by rw [hs1]; exact Nat.le_succ _)
  have g0 : ((s.heap.push { cls := .type "tuple_iterator", data := .fields #[.ref a, .int 0 0] }).push (seqObj "list" #[] 0)).IsTupleIter s.heap.objs.size a 0 := ⟨_, Heap.get?_push_of_some _ (Heap.get?_push_size _ rfl), rfl, rfl⟩
  have gS : ((s.heap.push { cls := .type "tuple_iterator", data := .fields #[.ref a, .int 0 0] }).push (seqObj "list" #[] 0)).get? (s.heap.push { cls := .type "tuple_iterator", data := .fields #[.ref a, .int 0 0] }).objs.size = some (seqObj "list" #[] 0) := Heap.get?_push_size _ rfl
  have f1 := oI H nI
  obtain ⟨its2, rv2, p2, _⟩ := I0.tuple (hJ H g)
  obtain ⟨u2, hu2, ru2⟩ := rv2.get hy
  refine codeAny_builtin PySem.F.entry_min_loop ?_
  rw [Around.under_plainId PySem.F.plain_min_loop _]
  show wpAny _ X.A.in1 (seqItems? (.ref _) >>= _) _ _ _
  refine wpAny_bind (wpAny_seqItems gS rfl ?_)
  show wpAny _ X.A.in1 (tryCatch (pyNext (.ref s.heap.objs.size)) _ >>= _) _ _ _
  refine wpAny_bind (wpAny_tryCatch (wpAny_pyNext_tuple_item g0 p2 (x := u2) (by simpa using hu2) fun h' gI1 sb => ?_))
  have I1 : Inv X pins σ H { s with heap := h' } := I0.turned (t' := s.toks) (fun b o hb e => (sb.2 b hb).trans e) f1.1 f1.2.1 f1.2.2.2.1 f1.2.2.2.2.1 f1.2.2.2.2.2
  have g1 := (sb.2 _ hSI).trans gS
  obtain ⟨ob, e1, e2, e3⟩ := id gI1
  have I2 := pinsSI I1 (oS H nS) f1 g1 e1 (fun v z => by cases z) (fun v z => by rw [e3] at z; cases z)
  show wpAny _ X.A.in1 (tryCatch (holding [u2] (call (.ref f) [u2])) _ >>= _) _ _ _
  refine wpAny_bind (wpAny_tryCatch (wpAny_holding (wpAny_mono (turn 0 y u2 hy ru2 _ _ H g (List.mem_append_left _ hf) I2) (fun z s2 he => ?_) fun _ _ q => q.elim)))
  obtain ⟨t2, H2, rfl, j2, I3⟩ := he
  have q1 := I3.pin (_, _) (List.mem_append_right _ (List.mem_append_right _ (.head _)))
  have q2 := I3.pin (s.heap.objs.size, _) (List.mem_append_right _ (List.mem_append_right _ (.tail _ (.head _))))
  have I4 : Inv X pins σ H2 s2 := I3.unpinned
  obtain ⟨c2, hc2⟩ : ∃ c2, (s2.heap.update (s.heap.push { cls := .type "tuple_iterator", data := .fields #[.ref a, .int 0 0] }).objs.size (Obj.mapSeq fun _ => #[u2, .int (ks 0) t2])).get? (s.heap.push { cls := .type "tuple_iterator", data := .fields #[.ref a, .int 0 0] }).objs.size = some (seqObj "list" #[u2, .int (ks 0) t2] c2) := ⟨_, get?_update_seq q1.1 fun _ => #[u2, .int (ks 0) t2]⟩
  have f2 := oS H2 q1.2.1
  refine wpAny_bind ?_
  refine wpAny_updateSeq q1.1 rfl ?_
  rw [nm]
  refine wpAny_pure ⟨plainId_quiet PySem.F.plain_min_loop _, keyLoop hc hJ hf turn oS oI hSI (fun i x v H' s' a1 a2 a3 a4 a5 => hQ i x v H' s' a1 a2 a3 a4 a5) _ 0 0 _ H2 u2 y t2 c2 rfl hne ?_ j2 q1.2.1 q2.2.1 hc2 ⟨ob, (Heap.get?_update_ne _ _ _ _ hSI.symm).trans q2.1, e2, e3⟩ hy ru2 (fun m hm => ?_) (Nat.le_refl _)⟩
  · exact I4.turned (t' := s2.toks) (fun b o hb e => (Heap.get?_update_ne _ _ _ _ hb).trans e) f2.1 f2.2.1 f2.2.2.2.1 f2.2.2.2.2.1 f2.2.2.2.2.2
  · obtain rfl : m = 0 := by omega
    exact ⟨Int.le_refl _, fun q => absurd q (Nat.lt_irrefl _)⟩
end
end LamK

namespace LamK
open PySem PySem.Spec PyProof.Rows L2 LamX
/-! ### a lambda is made: what becomes of the tables -/
/-- the table at P got one more entry, or nothing changed -/
def Made (P : Addr) (q : Str) (c : Addr) (H H1 : Hp) : Prop :=
  H1 c = some (CodeO c q) ∧ (H1 = H ∨ ∃ ps more : Array Value, H P = some (.tbl ps) ∧ H c = none ∧ H1 = upd (upd H P (.tbl (ps ++ more))) c (CodeO c q))
theorem Made.extN {P c : Addr} {q : Str} {H H1 : Hp} (m : Made P q c H H1) : ExtN H H1 := by
  rcases m.2 with rfl | ⟨ps, more, hP, nc, rfl⟩
  · exact .refl _
  · intro b o e nt
    have e1 : b ≠ P := fun z => by
      subst z; rw [hP] at e
      exact nt ps (Option.some.inj e).symm
    rw [upd_ne (ne_of_none e nc), upd_ne e1]
    exact e
theorem Made.tl {P c : Addr} {q : Str} {H H1 : Hp} (m : Made P q c H H1) (a : Addr) (rs : Array Value) (h : H a = some (.tbl rs)) : ∃ us, H1 a = some (.tbl us) := by
  rcases m.2 with rfl | ⟨ps, more, hP, nc, rfl⟩
  · exact ⟨rs, h⟩
  · rw [upd_ne (ne_of_none h nc)]
    by_cases z : a = P
    · subst z; rw [upd_same]; exact ⟨_, rfl⟩
    · rw [upd_ne z]; exact ⟨rs, h⟩
theorem codeO_nt {c : Addr} {q : Str} : ∀ ps : Array Value, CodeO c q ≠ .tbl ps := codeO_ne
section
variable {X : Cx} {pins : List (Addr × Obj)} {σ : L2.St} {H : Hp} {s : Shared}
theorem lam_done {T : List (Addr × Str)} {cd P : Addr} {prs : Arguments} {bd : Expr} {sc : Scope} {at_ : Pos} {E Q : Value → Shared → Prop} (J : Inv X pins σ H s) (TB : TabB X.base X.mg cd P) (hcd : X.env.code = .ref cd)
    (inT : (P, X.env.qual ++ "<lambda>") ∈ T) (only : ∀ p ∈ T, p.1 = P → p.2 = X.env.qual ++ "<lambda>") (tabs : Tabs T H) (nodef : defaultsOf prs X.env = ([], [])) (caps : ∀ y ∈ sc.names, y.2 = .free → ∃ c, X.env.cells.lookup y.1 = some c)
    (k : ∀ (f c : Addr) (pm ctv : Value) (H1 : Hp) (s1 : Shared), Inv X pins σ H1 s1 → Made P (X.env.qual ++ "<lambda>") c H H1 → Tabs T H1 → s.heap.objs.size ≤ f → s1.heap.get? f = some (PySem.W.kla_obj "<lambda>" (X.env.qual ++ "<lambda>") prs bd sc (cloFrom X.env.cells sc.names []) pm c ctv) → H1 f = none → f ∉ frs X.stack → Q (.ref f) s1) :
    wpAny (model X.prog X.w) X.A (eval (.Lambda prs bd sc at_) X.env) Q E s := by
  obtain ⟨tb, hP, tok, ent⟩ := tabs _ inT
  have bltP : s.heap.BuiltinsAt X.mg P := TB.bm.keeps J.bk
  have objP : s.heap.get? P = some { cls := .none, data := .fields tb } := J.hok P _ hP
  have young : ∀ f, s.heap.objs.size ≤ f → f ∉ frs X.stack := fun f le z => (List.mem_cons.mp (J.stkSub _ z)).elim (fun e => by have := J.lt; rw [← e] at this; exact absurd this (Nat.not_lt.mpr le)) (J.nofs le)
  refine PySem.W.kla_eval nodef ?_
  cases hit : codeAmong at_ tb.toList with
  | some cv =>
    obtain ⟨c, rfl, isc⟩ := ent at_ cv hit
    refine PySem.W.kla_makeFunctionHit (mg := X.mg) (c := cd) (P := P) (ps := tb) (closure_ok caps) J.ok.glob (J.mod.glob.keeps J.bk) hcd (TB.code.keeps J.bk) objP tok hit bltP fun ctv g tk grow le => ?_
    exact k g.objs.size c ((X.mg "__name__").getD .none) ctv H _ (J.kept fun b o e => Heap.get?_push_of_some _ (grow b o e)) ⟨isc, .inl rfl⟩ tabs le (Heap.get?_push_size _ rfl) (J.hok.fresh le) (young _ le)
  | none =>
    refine PySem.W.kla_makeFunction (mg := X.mg) (c := cd) (P := P) (ps := tb) (closure_ok caps) J.ok.glob (J.mod.glob.keeps J.bk) hcd (TB.code.keeps J.bk) objP tok hit TB.gP bltP fun c ctv g tk grow ge lt rec tbl => ?_
    obtain ⟨c2, oc, vs, t, e2, hoc, hd, hv⟩ := rec
    cases e2
    have le : s.heap.objs.size ≤ g.objs.size := Nat.le_trans ge (Nat.le_of_lt lt)
    have nc : H c = none := J.hok.fresh ge
    have nPc : P ≠ c := ne_of_none hP nc
    have J1 := inv_table (t' := tk) (more := #[rawInt at_.line, rawInt at_.col, .ref c]) (h' := g.push (PySem.W.kla_obj "<lambda>" (X.env.qual ++ "<lambda>") prs bd sc (cloFrom X.env.cells sc.names []) ((X.mg "__name__").getD .none) c ctv)) J hP
      (fun b o hb e => Heap.get?_push_of_some _ (grow b o hb e)) (Heap.get?_push_of_some _ tbl) ge ⟨oc, vs, t, Heap.get?_push_of_some _ hoc, hd, hv⟩
    have M : Made P (X.env.qual ++ "<lambda>") c H (upd (upd H P (.tbl (tb ++ #[rawInt at_.line, rawInt at_.col, .ref c]))) c (CodeO c (X.env.qual ++ "<lambda>"))) := ⟨upd_same, .inr ⟨tb, _, hP, nc, rfl⟩⟩
    have eL : (tb ++ #[rawInt at_.line, rawInt at_.col, .ref c]).toList = tb.toList ++ [rawInt at_.line, rawInt at_.col, .ref c] := by simp
    refine k g.objs.size c ((X.mg "__name__").getD .none) ctv _ _ J1 M (fun p hp => ?_) le (Heap.get?_push_size _ rfl) ?_ (young _ le)
    · by_cases hb : p.1 = P
      · rw [only p hp hb, hb]
        refine ⟨_, by rw [upd_ne nPc, upd_same], by rw [eL]; exact PySem.TriplesOk_snoc _ _ _ _ tok, fun p' cv hcv => ?_⟩
        rw [eL] at hcv
        rcases among_app _ tok hcv with z | z
        · obtain ⟨c0, e1, e2⟩ := ent p' cv z
          exact ⟨c0, e1, M.extN _ _ e2 codeO_nt⟩
        · exact ⟨c, z, upd_same⟩
      · obtain ⟨ps', a1, a2, a3⟩ := tabs p hp
        refine ⟨ps', by rw [upd_ne (ne_of_none a1 nc), upd_ne hb]; exact a1, a2, fun p' cv hcv => ?_⟩
        obtain ⟨c0, e1, e2⟩ := a3 p' cv hcv
        exact ⟨c0, e1, M.extN _ _ e2 codeO_nt⟩
    · have n1 : g.objs.size ≠ c := Nat.ne_of_gt lt
      have n2 : g.objs.size ≠ P := Nat.ne_of_gt (Nat.lt_of_lt_of_le (Heap.lt_size objP) le)
      rw [upd_ne n1, upd_ne n2]
      exact J.hok.fresh le
end
end LamK
namespace MV
open PySem L2 LamX
variable [TB]
variable {K : PySem.W.Frag} {mg : Str → Option Value} {I H H1 : Hp} {e : Env} {Fs : Fp} {σ : L2.St}
/-- the making of a lambda leaves the state as it is -/
theorem Rel.lam {P c : Addr} {q : Str} (R : Rel K mg I e Fs σ H) (m : LamK.Made P q c H H1) (t : Tabs TB.T H1) (hP : ∃ q', (P, q') ∈ TB.T) : Rel K mg I e Fs σ H1 ∧ Ext Fs I H Fs I H1 := by
  have ex : ∀ M : Addr → Prop, Gx M I H I H1 := fun M => ⟨Ex.refl _, fun a o h _ nt => m.extN a o h nt, fun a h => .inl h, fun tb => ⟨t, tb.2⟩, fun a ps h _ => m.tl a ps h⟩
  have sub : Ex I H1 := fun a o h => by
    have h1 := R.sub a o h
    rcases m.2 with z | ⟨ps, more, hp, nc, z⟩
    · rw [z]; exact h1
    · subst z
      obtain ⟨q', hq⟩ := hP
      have e1 : a ≠ P := fun z => by
        subst z
        rw [R.tb.2 _ hq] at h
        cases h
      rw [upd_ne (ne_of_none h1 nc), upd_ne e1]
      exact h1
  exact ⟨R.frame (ex fun _ => False) sub fun _ _ z => z, ⟨ex _, fun a h => .inl h⟩⟩
end MV

namespace MV
open PySem PySem.Spec PyProof.Rows L2 LamX LamK
variable [TB]
/-! ### min(t, key=lambda y: ..) -/
/-- a def whose text makes lambdas: its code object and its table -/
structure LamF (K : PySem.W.Frag) (mg : Str → Option Value) (base : Heap) (p : He.Defn) (q : Str) : Prop where
  tb : TabB base mg (He.codeOf K p) (He.tabOf K (He.codeOf K p))
  mem : (He.tabOf K (He.codeOf K p), q) ∈ TB.T
  only : ∀ r ∈ TB.T, r.1 = He.tabOf K (He.codeOf K p) → r.2 = q
def kInt : D → Option Int
  | .int n => some n
  | _ => none
def keyL (j : Nat) (fb : P D) (e : Env) : List D → Option (List Int)
  | [] => some []
  | d :: r => ((fb (e.set j (some (.p d)))).bind kInt).bind fun k => (keyL j fb e r).map (k :: ·)
def bk : Int → D → List Int → List D → D
  | k, d, k' :: ks, d' :: ds => if k' < k then bk k' d' ks ds else bk k d ks ds
  | _, d, _, _ => d
def bestK : List Int → List D → Option D
  | k :: ks, d :: ds => some (bk k d ks ds)
  | _, _ => none
def minT (j : Nat) (fb : P D) (e : Env) : D → Option D
  | .tup ds => (keyL j fb e ds).bind fun ks => bestK ks ds
  | _ => none
def mMinKey (j : Nat) (fb : P D) (mt : M D) : M D := fun e => (mt e).bind fun x => (minT j fb x.2 x.1).map fun d => (d, x.2)
theorem keyL_get {j : Nat} {fb : P D} {e : Env} : ∀ {ds : List D} {ks : List Int}, keyL j fb e ds = some ks → ks.length = ds.length ∧ ∀ (i : Nat) (d : D), ds[i]? = some d → ∃ k, ks[i]? = some k ∧ fb (e.set j (some (.p d))) = some (.int k)
  | [], ks, h => by
    cases h
    exact ⟨rfl, fun i d q => by simp at q⟩
  | d :: r, ks, h => by
    obtain ⟨k, h1, h⟩ := Option.bind_eq_some_iff.mp h
    obtain ⟨l, h2, h⟩ := Option.map_eq_some_iff.mp h
    subst h
    obtain ⟨z, h3, h4⟩ := Option.bind_eq_some_iff.mp h1
    have hz : z = .int k := by
      cases z with
      | int n => cases h4; rfl
      | _ => cases h4
    subst hz
    obtain ⟨a, b⟩ := keyL_get h2
    refine ⟨by simp [a], fun i y q => ?_⟩
    cases i with
    | zero => cases q; exact ⟨k, rfl, h3⟩
    | succ i => exact b i y q
theorem bk_first : ∀ (ks : List Int) (ds : List D) (k : Int) (d : D) (i : Nat), ks.length = ds.length → i < ks.length + 1 → First (fun m => ((k :: ks)[m]?).getD 0) (ks.length + 1) i → (d :: ds)[i]? = some (bk k d ks ds)
  | [], [], k, d, i, hl, hi, h => by
    obtain rfl : i = 0 := by simp at hi; exact hi
    rfl
  | [], _ :: _, k, d, i, hl, hi, h => by simp at hl
  | _ :: _, [], k, d, i, hl, hi, h => by simp at hl
  | k' :: ks, d' :: ds, k, d, i, hl, hi, h => by
    have hl' : ks.length = ds.length := by simpa using hl
    simp only [bk]
    have at0 := h 0 (by simp)
    have at1 := h 1 (by simp)
    simp only [List.getElem?_cons_zero, List.getElem?_cons_succ, Option.getD_some] at at0 at1
    have rest : ∀ m, m < ks.length → (((k :: k' :: ks)[i]?).getD 0) ≤ (ks[m]?).getD 0 ∧ (m + 2 < i → (((k :: k' :: ks)[i]?).getD 0) < (ks[m]?).getD 0) := fun m hm => by
      have := h (m + 2) (by simp; omega)
      simpa using this
    rcases i with _ | _ | i
    · have nl : ¬ k' < k := by
        have := at1.1
        simp at this
        omega
      rw [if_neg nl]
      have := bk_first ks ds k d 0 hl' (by omega) fun m hm => by
        cases m with
        | zero => exact ⟨Int.le_refl _, fun q => absurd q (Nat.lt_irrefl _)⟩
        | succ m =>
          have := (rest m (by omega)).1
          exact ⟨by simpa using this, fun q => absurd q (by omega)⟩
      simpa using this
    · have hlt : k' < k := by
        have := at0.2 (by omega)
        simpa using this
      rw [if_pos hlt]
      have := bk_first ks ds k' d' 0 hl' (by omega) fun m hm => by
        cases m with
        | zero => exact ⟨Int.le_refl _, fun q => absurd q (Nat.lt_irrefl _)⟩
        | succ m =>
          have := (rest m (by omega)).1
          exact ⟨by simpa using this, fun q => absurd q (by omega)⟩
      simpa using this
    · have a0 := at0.2 (by omega)
      have a1 := at1.2 (by omega)
      simp only [List.getElem?_cons_succ] at a0 a1 rest
      have go : ∀ (b : Int) (x : D), ((ks[i]?).getD 0) < b → (x :: ds)[i + 1]? = some (bk b x ks ds) := fun b x hb => by
        refine bk_first ks ds b x (i + 1) hl' (by simp at hi; omega) fun m hm => ?_
        cases m with
        | zero => exact ⟨by simp; omega, fun _ => by simp; omega⟩
        | succ m =>
          have := rest m (by omega)
          exact ⟨by simpa using this.1, fun q => by simpa using this.2 (by omega)⟩
      by_cases q : k' < k
      · rw [if_pos q]
        have := go k' d' a1
        simpa using this
      · rw [if_neg q]
        have := go k d a0
        simpa using this
end MV

namespace MV
open PySem PySem.Spec PyProof.Rows L2 LamX LamK
variable [TB]
theorem RpL.back_ {K : PySem.W.Frag} {mg : Str → Option Value} {I : Hp} : ∀ {ds : List D} {xs : List V} {i : Nat} {x : V}, RpL K mg I ds xs → xs[i]? = some x → ∃ d, ds[i]? = some d ∧ Rp K mg I d x
  | [], xs, i, x, h, e => by
    simp only [RpL] at h
    subst h
    simp at e
  | d :: ds, xs, i, x, h, e => by
    simp only [RpL] at h
    obtain ⟨y, r, rfl, h1, h2⟩ := h
    cases i with
    | zero => cases e; exact ⟨d, rfl, h1⟩
    | succ i => exact RpL.back_ (ds := ds) (xs := r) (i := i) h2 e
theorem se_minKey {X : Cx} {ex body : Expr} {params : Arguments} {scope : Scope} {nm : Str} {p lp kp pos : Pos} {j : Nat} {y q : Str} {fb : P D} {mt : M D} {c : Addr} {df : He.Defn}
    (hc : X.calm = true) (nd : X.N.Nodup) (hj : X.N[j]? = some y) (hg : Gl X nm) (hm : X.mg nm = none) (hv : bootBuiltins nm = some (.builtin "min")) (he : SE X ex mt) (hcode : X.env.code = .ref c) (hcc : c = He.codeOf X.K df) (hq : X.env.qual ++ "<lambda>" = q) (LF : LamF X.K X.mg X.base df q)
    (L : LamP X.env.scope scope y) (hdef : defaultsOf params X.env = ([], [])) (hr : Room 2 X.A)
    (hbind : ∀ (q : Str) (cl : List (Str × Addr)) (pm cv ctv u : Value), bindArgs (PySem.W.kla_fn "<lambda>" q params body scope cl pm cv ctv) ⟨[u], []⟩ = pure [(y, u)])
    (hb : ∀ (A : Around) (s : Shared) (H : Hp) (E : XK) (f c' : Addr), Room 0 (A.deeper (lamEnv X scope s.heap.objs.size f c')) → SV (lamCx X A X.stack s H E scope f c') body fb)
    (hn : nm ≠ "__name__" := by decide) (hdb : (nm == ("__debug__" : Str)) = false := by decide)
    (hs : starEach [ex] X.env = (false, eval ex X.env) :: starEach [] X.env := by rfl)
    (h1 : backTo pos (starEach [ex] X.env) = (false, eval ex X.env) :: backTo pos (starEach [] X.env) := by rfl) (h2 : (backTo pos (starEach [ex] X.env)).any (·.1) = false := by rfl)
    (h3 : (backToKw pos (keywordEach [⟨some "key", .Lambda params body scope lp, kp⟩] X.env)).all (·.1.isSome) = true := by rfl) (h4 : (backToKw pos (keywordEach [⟨some "key", .Lambda params body scope lp, kp⟩] X.env)).any (·.1.isNone) = false := by rfl)
    (h5 : (backToKw pos (keywordEach [⟨some "key", .Lambda params body scope lp, kp⟩] X.env)).filterMap (·.1) = [Str.ofString "key"] := by rfl) :
    SE X (.Call (.Name nm p) [ex] [⟨some "key", .Lambda params body scope lp, kp⟩] pos) (mMinKey j fb mt) := by
  refine ⟨fun pins s σ H Q I h => ?_⟩
  obtain ⟨I0, e, Fs, R, d, e', hmm, k⟩ := h
  obtain ⟨⟨dt, e1⟩, hmt, hmm⟩ := Option.bind_eq_some_iff.mp hmm
  obtain ⟨db, hmin, hmm⟩ := Option.map_eq_some_iff.mp hmm
  cases hmm
  cases dt with
  | tup ds => _
  | _ => cases hmin
  obtain ⟨ks, hks, hbest⟩ := Option.bind_eq_some_iff.mp hmin
  obtain ⟨lk, getk⟩ := keyL_get hks
  refine wpAny_Call_Name_kw (ld_blt I hg hm hv ?_ hn hdb)
  refine PyProof.Rows.callWith_kw (thn ((pa_one he hs).run pos pins s σ H (fun vs H1 => ∃ v I1 F1, vs = [v] ∧ Rel X.K X.mg I1 e1 F1 σ H1 ∧ Ext Fs I0 H F1 I1 H1 ∧ Rp X.K X.mg I1 (.tup ds) v) I ⟨I0, e, Fs, R, _, e1, hmt, fun v I1 F1 H1 R1 x1 r1 => ⟨v, I1, F1, rfl, R1, x1, r1⟩⟩) fun us s1 ⟨vs, H1, I1, r1, v, J1, F1, hvs, R1, x1, rt⟩ => ?_) h1 h2 h3 h4
  subst hvs
  simp only [Rp] at rt
  obtain ⟨a, xs, rfl, hT, rl⟩ := rt
  rw [Vals.ref1 r1]
  refine kws_cons (lam_done I1 LF.tb (hcode.trans (by rw [hcc])) (by rw [hq]; exact LF.mem) (by rw [hq]; exact LF.only) R1.tb.1 hdef (L.has I1.ok) fun f c' pm ctv H2 s2 I2 M T2 le hf hfn hfr => ?_)
  refine kws_nil ?_
  rw [h5]
  have nfs : f ∉ X.fs := I1.nofs le
  have nL : f ≠ X.env.locals := fun z => by have := I1.lt; rw [← z] at this; exact absurd this (Nat.not_lt.mpr le)
  obtain ⟨R2, x2⟩ := R1.lam M T2 ⟨q, LF.mem⟩
  have I3 : Inv X (pins ++ [(f, PySem.W.kla_obj "<lambda>" (X.env.qual ++ "<lambda>") params body scope (cloFrom X.env.cells scope.names []) pm c' ctv)]) σ H2 s2 := I2.pins_of fun w hw => by
    rcases List.mem_append.mp hw with hw | hw
    · exact I2.pin w (List.mem_append_right _ hw)
    · rw [List.mem_singleton.mp hw]
      exact ⟨hf, hfn, nL, nfs, fun v z => by cases z⟩
  have ln : xs.length = ds.length := rl.length.symm
  have hne : 0 < xs.length := by
    rw [ln]
    cases ds with
    | nil => cases ks <;> cases hbest
    | cons d ds => simp
  refine min_key (J := fun H' => ∃ I', Rel X.K X.mg I' e1 F1 σ H' ∧ Ext F1 J1 H1 F1 I' H' ∧ H' c' = some (CodeO c' (X.env.qual ++ "<lambda>"))) (xs := xs) (ks := fun i => (ks[i]?).getD 0) hc (fun H' ⟨I', R', x', _⟩ => ex_t R'.sub (ex_t x'.g.ex hT)) (fun i x u hx rx pl s' H' ⟨I', R', x', hc'⟩ hpl Ip => ?_) hne (List.mem_append_right _ (.head _)) I3 ⟨J1, R2, x2, M.1⟩ fun i x v H' s' hx rx hF ⟨I', R', x', _⟩ I9 => ?_
  · obtain ⟨di, hdi, rdi⟩ := RpL.back_ rl hx
    obtain ⟨ki, hki, hfb⟩ := getk i di hdi
    have rr : Room 1 X.A.in1 := Room.in1 (k := 1) hr
    refine wpAny_mono (lamP_call Ip L rfl rr (Ip.pin _ (List.mem_append_right _ hpl)).1 hc' (hbind _ _ _ _ _ _) hj nd rx (hb _ _ _ _ _ _ (Room.deeper (k := 0) rr _)) (Q := fun z H'' => z = .int ki ∧ ∃ I'', Rel X.K X.mg I'' e1 F1 σ H'' ∧ Ext F1 J1 H1 F1 I'' H'' ∧ H'' c' = some (CodeO c' (X.env.qual ++ "<lambda>")))
      ⟨I', _, _, R'.putD (Rp.mono x'.g.ex _ _ rdi), .int ki, hfb, fun z I'' H'' g r => ?_⟩) (fun z s'' hz => ?_) fun _ _ q => q
    · simp only [Rp] at r
      obtain ⟨R'', x''⟩ := g.rel R'
      exact ⟨r, I'', R'', x'.trans x'', g.heap _ _ hc'⟩
    · obtain ⟨w, H'', J'', rw', rfl, hJ⟩ := hz
      obtain ⟨t, rfl⟩ := rw'
      exact ⟨t, H'', by show Value.int ki t = Value.int ((ks[i]?).getD 0) t; rw [hki]; rfl, hJ, J''⟩
  · obtain ⟨di, hdi, rdi⟩ := RpL.back_ rl hx
    have hd : ds[i]? = some d := by
      cases ks with
      | nil => cases ds <;> cases hbest
      | cons k0 kr =>
        cases ds with
        | nil => cases hbest
        | cons d0 dr =>
          cases hbest
          have l2 : kr.length = dr.length := by simpa using lk
          have hi : i < kr.length + 1 := by
            have := (List.getElem?_eq_some_iff.mp hdi).1
            simp at this
            omega
          exact bk_first kr dr k0 d0 i l2 hi (by rw [ln] at hF; simpa [l2] using hF)
    rw [hd] at hdi
    cases hdi
    exact ⟨x, H', I9.unpinned, rx, k x _ F1 H' R' (x1.trans x') (Rp.mono x'.g.ex _ _ rdi)⟩
end MV

namespace MV
open PySem L2 LamX
variable [TB]
variable {P : Program} {w : World} {K : PySem.W.Frag} {mg : Str → Option Value} {base : Heap}
/-- a def whose text makes lambdas: its code object is told -/
theorem fn_semL {x qual : Str} {params : Arguments} {body : List Stmt} {scope : Scope} {dvs : List V} {kws : List (Str × V)} {fd : FuncData} {N ps : List Str} {k : Nat} {io : List Bool} {m : S} (df : He.Defn)
    (F : FunD K x qual params body scope dvs kws (He.fAd K df) fd) (Sc : FnScope N ps scope) (hio : io.length = ps.length)
    (hb : ∀ (cdv : Value) (hcd : cdv = .ref (He.codeOf K df)) (A : Around) (outer : List PySem.Env) (s : Shared) (H : Hp) (E : XK), Room k (A.deeper (PyProof.Rows.envOfC qual scope s.heap.objs.size (He.fAd K df) cdv)) →
      Ctz (cxOf (L2N.CX P w) P w K mg base N qual scope (He.fAd K df) cdv A outer s H E) (WB E) → SB (cxOf (L2N.CX P w) P w K mg base N qual scope (He.fAd K df) cdv A outer s H E) (ioA io) (WB E) body m) :
    FnOk P w K mg base (L2N.CX P w) (k + 1) (He.fAd K df) fd ps (spF K mg ps.length (fsem N.length io m)) := by
  have hpl : ps.length ≤ N.length := by have := congrArg List.length Sc.pre; rw [List.length_take] at this; omega
  obtain ⟨oc, od, dV, kV, doc, pm, an, cdv, ct, osl, rfl, lk, hcd, _, _⟩ := F.ex
  obtain ⟨c, hc⟩ := He.codeIn_ref hcd
  have e : cdv = .ref (He.codeOf K df) := by rw [hc, He.codeOf_eq lk (c := c) hc]
  refine fn_of lk hcd Sc (fun vs H Q E h => spF_len h) fun A outer s H vs Q E hr h => ?_
  exact ⟨tS K mg (ioA io) (WB E) m, hb cdv e A outer s H E hr Ctz.body, fsem_run hio hpl h⟩
theorem tabs_new {cs : List (Addr × Str)} {H : Hp} (h : ∀ p ∈ cs, H p.1 = some (.tbl #[])) : LamX.Tabs cs H := fun p hp => .nil (h p hp)
/-- the facts of a def that makes lambdas, at the law's end -/
theorem lamF_of {df : He.Defn} {q : Str} (h : ∀ p ∈ [He.cT K df], TabB base mg p.1 p.2) (hm : (He.tabOf K (He.codeOf K df), q) ∈ TB.T) (ho : ∀ r ∈ TB.T, r.1 = He.tabOf K (He.codeOf K df) → r.2 = q) : LamF K mg base df q :=
  ⟨h _ (.head _), hm, ho⟩
end MV

namespace SrtT
open PySem PySem.Spec PyProof.Rows L2 Srt SrtO
section
variable {prog : Program} {w : World} {A : Around} {E : Value → Shared → Prop} {s : Shared}
/-- what collect leaves behind -/
abbrev gath (h : Heap) (vs : List Value) : Heap := (h.push (seqObj "list" #[] 0)).update h.objs.size (Obj.mapSeq (· ++ vs.toArray))
theorem gath_size (h : Heap) (vs : List Value) : (gath h vs).objs.size = h.objs.size + 1 := by rw [Heap.size_update, size_push']
theorem gath_old {h : Heap} {vs : List Value} {b : Addr} {o : Obj} (e : h.get? b = some o) : (gath h vs).get? b = some o := by
  have lt := Heap.lt_size e
  exact (Heap.get?_update_ne _ _ _ _ (Nat.ne_of_lt lt)).trans (Heap.get?_push_of_some _ e)
/-- the items of a tuple are gathered into a new list -/
theorem gather_tup {t : Addr} {vs : List Value} {Q : List Value → Shared → Prop} (ht : s.heap.IsTuple t vs.toArray) (hz : vs.length ≤ sizeLine) (h : Q vs { s with heap := gath s.heap vs }) : wpAny (model prog w) A (collect (.ref t)) Q E s := by
  obtain ⟨o, g, cl, n, dt⟩ := id ht
  have g1 : (s.heap.push (seqObj "list" #[] 0)).get? t = some o := Heap.get?_push_of_some _ g
  have room : (#[] ++ vs.toArray : Array Value).size ≤ sizeLine + 1 := by
    simp only [Array.size_append, List.size_toArray, List.length_nil]
    omega
  have isT : (Value.type "tuple" == Value.type "tuple") = true := by rfl
  unfold collect
  refine wpAny_bind (wpAny_runValue (codeAny_builtin entry_proto_collect' ?_))
  show wpAny _ _ (do again (.builtin "list.__iadd__" ⟨[← newList [], .ref t], []⟩)) _ _ s
  refine wpAny_bind (wpAny_newList (wpAny_pure ⟨Code.quiet_builtin _ (by decide +kernel), codeAny_builtin entry_list_iadd' ?_⟩))
  show wpAny _ _ (Builtin.List.listExtendWith (.ref s.heap.objs.size) (.ref t) (.ref s.heap.objs.size)) _ _ { s with heap := s.heap.push (seqObj "list" #[] 0) }
  unfold Builtin.List.listExtendWith
  refine wpAny_bind (wpAny_typeOf (T := "tuple") ⟨o, g1, cl⟩ ?_)
  rw [if_pos (by rw [isT]; simp)]
  refine wpAny_bind (listItems_at g1 dt (wpAny_bind (listItems_at (xs := #[]) (n := 0) (Heap.get?_push_size _ rfl) rfl ?_)))
  rw [if_neg (by simp)]
  refine wpAny_bind (listUpdate_at (xs := #[]) (n := 0) (Heap.get?_push_size _ rfl) rfl ?_ (Nat.zero_le _) room)
  refine wpAny_pure ?_
  refine wpAny_bind (wpAny_load (get?_update_seq (Heap.get?_push_size _ rfl) _) ?_)
  have e : ((#[] : Array Value) ++ vs.toArray).toList = vs := by simp
  show wpAny _ _ (pure ((#[] : Array Value) ++ vs.toArray).toList) Q E _
  rw [e]
  exact wpAny_pure h
theorem sorted_tup {t : Addr} {vs : List Value} {ltv : Value → Value → Bool} {Q : Value → Shared → Prop} (O : Swo ltv) (ht : s.heap.IsTuple t vs.toArray) (hz : vs.length ≤ sizeLine)
    (can : 2 ≤ vs.length → ∀ (h₁ : Heap) (a : Addr), SortableO prog w A.in1.in1 { s with heap := h₁ } a vs ltv)
    (h : ∀ out : List Value, Srtd ltv out → Stb ltv out vs → Q (.ref (s.heap.objs.size + 1)) { s with heap := sortedAll s.heap vs out.toArray }) :
    wpAny (model prog w) A (call (.builtin "sorted") [.ref t]) Q E s := by
  have at_ : ((gath s.heap vs).push (seqObj "list" vs.toArray 0)).get? (s.heap.objs.size + 1) = some (seqObj "list" vs.toArray 0) := by
    rw [← gath_size s.heap vs]; exact Heap.get?_push_size _ rfl
  refine Calls.call_function_entry kind_sorted plain_sorted entry_sorted (args_sorted1 _) ?_
  unfold Builtin.«sorted»
  refine wpAny_bind (m := checkCount "sorted" 1 1 _) (wpAny_pure (wpAny_bind (gather_tup ht hz (wpAny_bind (wpAny_newList ?_ hz)))))
  show wpAny _ _ _ _ _ { s with heap := (gath s.heap vs).push (seqObj "list" vs.toArray 0) }
  rw [gath_size]
  exact wpAny_bind (wpAny_holding (wpAny_call_entry slot_list_sort ⟨_, at_, rfl⟩ entry_list_sort (list_sort_ord O at_ hz (fun h2 => can h2 _ _) fun out a b => ⟨_, rfl, wpAny_pure ⟨_, rfl, h out a b⟩⟩) (args_list_sort _)))
end
/-- sorted(t), a tuple of ints -/
def rSortTp (K : PySem.W.Frag) : List V → Hp → VK → Prop := fun vs H Q => ∃ (a : Addr) (ns : List Int), vs = [V.ref a] ∧ SqT K H a (ns.map V.int) ∧
  ∀ (ns' : List Int) (p : Addr), ns'.Perm ns → ns'.Pairwise (· ≤ ·) → H p = none → Q (.ref p) (upd H p (.lst (ns'.map V.int)))
theorem cr_sortTp {X : Cx} : CallR X (.builtin "sorted") (rSortTp X.K) := by
  intro pins s σ H vs us Q I r h
  obtain ⟨a, ns, rfl, hs, q⟩ := h
  obtain ⟨its, rv, ht, hz⟩ := I.tuple hs
  rw [Vals.ref1 r]
  have hi := rv.ints
  refine sorted_tup swo_int ht (by rw [← rv.length]; exact hz) (fun h2 h₁ a' => ints_sortable hi h2) fun out h1 h2 => ?_
  obtain ⟨k1, k2, k3⟩ := ints_out hi h1 h2
  obtain ⟨ep, he⟩ := sortedAll_at s.heap its out.toArray
  have len : ((out.map iv).map V.int).length ≤ sizeLine := by
    rw [List.length_map] at hz
    rw [List.length_map, k2.length_eq]; exact hz
  exact ⟨.ref _, upd H (s.heap.objs.size + 1) (.lst ((out.map iv).map V.int)), I.laid (t' := s.toks) (fun _ _ => sortedAll_old) (Nat.le_succ _) ⟨len, out, ep, vals_of_ints k1, he⟩, rfl, q _ _ k2 k3 (I.hok.fresh (Nat.le_succ _))⟩
end SrtT
namespace MV
open PySem L2
variable [TB]
/-- sorted of a list or a tuple of ints, any number of them -/
def fSortA : List D → Option D
  | [.lst ds] => (intsD ds).bind fun ns => some (.lst ((isort ns).map .int))
  | [.tup ds] => (intsD ds).bind fun ns => some (.lst ((isort ns).map .int))
  | _ => none
def rSortA (K : PySem.W.Frag) : List V → Hp → VK → Prop := fun vs H Q => rSortedI K vs H Q ∨ SrtT.rSortTp K vs H Q
theorem cr_sortA {X : Cx} : CallR X (.builtin "sorted") (rSortA X.K) := by
  intro pins s σ H vs us Q I r h
  rcases h with h | h
  · exact cr_sortedI pins s σ H vs us Q I r h
  · exact SrtT.cr_sortTp pins s σ H vs us Q I r h
theorem cd_sortA {K : PySem.W.Frag} {mg : Str → Option Value} : CallD K mg (rSortA K) fSortA := by
  intro I H ds z vs Q s r e k
  unfold fSortA at e
  split at e
  · obtain ⟨ns, e1, e⟩ := Option.bind_eq_some_iff.mp e
    cases e
    obtain ⟨v, rfl, h⟩ := r.one
    simp only [Rp] at h
    obtain ⟨a, xs, rfl, h1, h2⟩ := h
    have := ints_v e1 h2
    subst this
    refine .inl ⟨a, ns, rfl, .of (s _ _ h1), fun ys p hp hs hn => ?_⟩
    rw [sorted_is hp hs]
    exact k _ _ _ (.new p _ hn) (rp_lst s hn (rpl_ints _))
  · obtain ⟨ns, e1, e⟩ := Option.bind_eq_some_iff.mp e
    cases e
    obtain ⟨v, rfl, h⟩ := r.one
    simp only [Rp] at h
    obtain ⟨a, xs, rfl, h1, h2⟩ := h
    have := ints_v e1 h2
    subst this
    refine .inr ⟨a, ns, rfl, ex_t s h1, fun ys p hp hs hn => ?_⟩
    rw [sorted_is hp hs]
    exact k _ _ _ (.new p _ hn) (rp_lst s hn (rpl_ints _))
  · cases e
end MV

namespace MV
open PySem L2
variable [TB]
/-! ### enumerate over a tuple -/
/-- (number, item) of the tuple at a, each in a new pair -/
def IteT (K : PySem.W.Frag) (a : Addr) : It :=
  ⟨fun i H => ∃ (xs : List V) (x : V), SqT K H a xs ∧ xs[i]? = some x, fun i H v H' => ∃ T x, v = .ref T ∧ H T = none ∧ H' = upd H T (.tup [.int (i : Nat), x]) ∧ ∀ xs, SqT K H a xs → xs[i]? = some x, fun i H => ∃ xs : List V, SqT K H a xs ∧ xs.length ≤ i⟩
/-- nothing is left to draw -/
theorem draws_end {prog : Program} {w : World} {A : Around} (hh : A.handled = none) (it t : Addr) (items : Array Value) (n : Nat) (hn : items[n]? = none) :
    Draws prog w A it [it, t] n (fun _ _ => True) (fun j h => j = n ∧ h.IsTupleIter it t n ∧ h.IsTuple t items) where
  live := fun _ _ st => let ⟨o, ho, _⟩ := st.2.1; ⟨o, ho⟩
  frame := fun _ _ _ st hk => ⟨st.1, st.2.1.at fun o e => hk it (by simp) o e, st.2.2.at fun o e => hk t (by simp) o e⟩
  item := fun i s Q E hi st _ => absurd st.1 (Nat.ne_of_lt hi)
  done := fun s Q E st hE => wpAny_nextOf_tuple_end hh st.2.1 st.2.2 hn hE
theorem turn_enumT {P : Program} {w : World} {K : PySem.W.Frag} {elts : List Expr} {kk : Nat} {tpos : Pos} {a : Addr} (e it : Addr) (hei : e ≠ it) (hea : e ≠ a) (hai : a ≠ it) :
    Turn P w K (.Tuple elts kk tpos) (IteT K a) [e, it] e (fun i h => (∃ old, IsEnum h e it ((i : Nat) : Int) old) ∧ h.IsTupleIter it a i) where
  mem := by simp
  obj := fun i h st b hb => by
    obtain ⟨⟨old, he⟩, ⟨o, ho, hc, hd⟩⟩ := st
    have e' : b = e ∨ b = it := by simpa using hb
    rcases e' with z | z
    · rw [z]; exact ⟨_, he, fun v q => nomatch q⟩
    · rw [z]; exact ⟨o, ho, fun v q => by rw [hd] at q; cases q⟩
  keep := fun i h h' st k => ⟨let ⟨old, he⟩ := st.1; ⟨old, k e (by simp) _ he⟩, st.2.at fun o q => k it (by simp) o q⟩
  item := by
    intro X hP hw hK hc i pins s σ H E I hf st hg
    subst hP hw hK
    obtain ⟨⟨old, he⟩, hit⟩ := st
    obtain ⟨xs, x, hq, hx⟩ := hg
    obtain ⟨its, rv, p, hz⟩ := I.tuple hq
    obtain ⟨u, hu, ru⟩ := rv.get hx
    have hel : e < s.heap.objs.size := Heap.lt_size he
    have hil' : it < s.heap.objs.size := by obtain ⟨_, q, _⟩ := hit; exact Heap.lt_size q
    have hil : i < its.toArray.size := by
      have := (List.getElem?_eq_some_iff.mp hu).1
      simpa using this
    refine wpAny_pyNext_enum_itemD (Draws.tuple (prog := X.prog) (w := X.w) (A := X.A.in1) (I.ok.hd hc) it a hai its.toArray) he ⟨hit, p⟩ hil hei (by simp [hei, hea]) fun y h' tk hy ho hst' hT hsz' hk => ?_
    have hyu : y = u := by
      have h1 : its.toArray[i]? = some y := hy
      have h2 : its.toArray[i]? = some u := by simpa using hu
      rw [h1] at h2
      exact Option.some.inj h2
    subst hyu
    refine ⟨_, rfl, wpAny_letOwnedTupleGo_enum (s := { s with heap := h', toks := tk + 1 }) ho fun h'' he' sb => ?_⟩
    have hT2 : h''.get? s.heap.objs.size = some { cls := .type "tuple", data := .seq #[.int i tk, y] } := (sb.2 _ (Nat.ne_of_gt hel)).trans hT
    have new : ObjOk X.prog X.w (upd H s.heap.objs.size (.tup [.int (i : Nat), x])) h'' s.heap.objs.size (.tup [.int (i : Nat), x]) :=
      ⟨by show 2 ≤ sizeLine; decide, [.int i tk, y], .cons ⟨_, rfl⟩ (.cons ru .nil), ⟨_, hT2, rfl, _, rfl⟩⟩
    have I1 : Inv X pins σ (upd H s.heap.objs.size (.tup [.int (i : Nat), x])) { s with heap := h'', toks := tk + 1 } :=
      I.turnedNew (ch := [e, it]) (fun b ob hb q => (sb.2 b (fun z => hb (by simp [z]))).trans (hk b ob (fun z => hb (by simp [z])) (fun z => hb (by simp [z])) q)) hf (Nat.le_refl _) new
    refine ⟨.ref s.heap.objs.size, _, I1, rfl, ⟨_, x, rfl, I.hok.fresh (Nat.le_refl _), rfl, fun ys hy => by rw [I.tuple_inj hy hq]; exact hx⟩, ⟨⟨y, ?_⟩, hst'.1.at fun o q => (sb.2 it (Ne.symm hei)).trans q⟩, fun b hb => ?_⟩
    · have e1 : ((i + 1 : Nat) : Int) = (i : Int) + 1 := by omega
      rw [e1]; exact he'
    · have hb' : b < s.heap.objs.size := by
        have e' : b = e ∨ b = it := by simpa using hb
        rcases e' with z | z
        · rw [z]; exact hel
        · rw [z]; exact hil'
      rw [upd_ne (Nat.ne_of_lt hb')]
      exact (hf b hb).1
  done := by
    intro X hP hw hK hc i pins s σ H E I hf st hg
    subst hP hw hK
    obtain ⟨⟨old, he⟩, hit⟩ := st
    obtain ⟨xs, hq, hx⟩ := hg
    obtain ⟨its, rv, p, hz⟩ := I.tuple hq
    obtain ⟨f0, f1, f2, f3, f4, f5⟩ := hf it (by simp)
    have hl := rv.length
    exact wpAny_pyNext_enum_endD (draws_end (prog := X.prog) (w := X.w) (A := X.A.in1) (I.ok.hd hc) it a its.toArray i (by simp; omega)) he ⟨rfl, hit, p⟩ fun h' eb => ⟨rfl, I.turned (t' := s.toks) (fun b o hb q => eb b o hb q) f0 f1 f3 f4 f5⟩
  self := fun A i s Q E st h => let ⟨⟨_, he⟩, _⟩ := st; wpAny_pyIter_enum he h
def iEnT (K : PySem.W.Frag) (td : TA) : TI := fun σ H R => td σ H fun vs H1 => ∃ a xs, vs = [.ref a] ∧ SqT K H1 a xs ∧ R (IteT K a) H1
open PySem.Spec PyProof.Rows in
theorem pi_enumT {X : Cx} {e : Expr} {ta : TA} {p pos tpos : Pos} {elts : List Expr} {kk : Nat} (hg : Gl X "enumerate") (hm : X.mg "enumerate" = none) (ha : PA X [e] ta) (hs : starEach [e] X.env = [(false, eval e X.env)] := by rfl) :
    PI X (.Tuple elts kk tpos) (.Call (.Name "enumerate" p) [e] [] pos) (iEnT X.K ta) := by
  refine ⟨fun pins s σ H R I h => ?_⟩
  refine Call_ (ld_blt I hg hm boot_enumerate (PyProof.Rows.callWith_type1 (thn (ha.run pos pins s σ H _ I h) fun us s1 ⟨vs, H1, I1, r1, q1⟩ => ?_) hs rfl))
  obtain ⟨a, xs, ex, hq, q⟩ := q1
  subst ex
  cases r1 with
  | cons r rr =>
    cases rr
    cases r
    obtain ⟨its, rv, p', hz⟩ := I1.tuple hq
    have hal : a < s1.heap.objs.size := by obtain ⟨_, g, _⟩ := id p'; exact Heap.lt_size g
    refine enum_begins1 (begins_tuple a its.toArray) p' fun h' he hit hsz' hk => wpAny_pyIter_enum he ?_
    have I2 : Inv X pins σ H1 { s1 with heap := h' } := I1.kept (t' := s1.toks) hk
    refine ⟨s1.heap.objs.size + 1, [s1.heap.objs.size + 1, s1.heap.objs.size], _, _, H1, rfl, I2, turn_enumT (s1.heap.objs.size + 1) s1.heap.objs.size (Nat.succ_ne_self _) (Nat.ne_of_gt (Nat.lt_succ_of_lt hal)) (Nat.ne_of_lt hal), ⟨⟨.none, he⟩, ⟨_, hit, rfl, rfl⟩⟩, fun b hb => ?_, q⟩
    have e' : b = s1.heap.objs.size + 1 ∨ b = s1.heap.objs.size := by simpa using hb
    have hle : s1.heap.objs.size ≤ b := by
      rcases e' with z | z
      · rw [z]; exact Nat.le_add_right _ _
      · rw [z]; exact Nat.le_refl _
    exact I1.fpOk hle (I1.hok.fresh hle)
theorem iteT_r {K : PySem.W.Frag} {mg : Str → Option Value} {I : Hp} {a : Addr} {ds : List D} {xs : List V} (h : SqT K I a xs) (r : RpL K mg I ds xs) : ItR K mg I (IteT K a) (enD ds) := fun i I1 H1 e1 e2 => by
  have h1 := ex_t e2 (ex_t e1 h)
  refine ⟨fun d hd => ?_, fun hl' => ⟨xs, h1, by unfold enD at hl'; simp at hl'; rw [← r.length]; omega⟩⟩
  unfold enD at hd
  rw [List.getElem?_mapIdx] at hd
  obtain ⟨y, hy, rfl⟩ := Option.map_eq_some_iff.mp hd
  obtain ⟨x, hx, rx⟩ := r.get hy
  refine ⟨⟨xs, x, h1, hx⟩, fun v H2 hv => ?_⟩
  obtain ⟨T, x', rfl, hT, rfl, hx'⟩ := hv
  have := hx' xs h1
  rw [hx] at this
  cases this
  exact ⟨_, .new T _ hT, rp_tup e2 hT (RpL.cons rp_int (RpL.cons (rx.mono e1 _ _) RpL.nil))⟩
def fEnumT : List D → Option (List D)
  | [.tup ds] => some (enD ds)
  | _ => none
theorem si_enumT {X : Cx} {a : Expr} {ma : M (List Arg)} {p pos tpos : Pos} {elts : List Expr} {kk : Nat} (hg : Gl X "enumerate") (hm : X.mg "enumerate" = none) (ha : SA X [a] ma) (hs : starEach [a] X.env = [(false, eval a X.env)] := by rfl) : SI X (.Tuple elts kk tpos) (.Call (.Name "enumerate" p) [a] [] pos) (iArgs fEnumT ma) :=
  PI.imp (pi_enumT hg hm ha hs) fun σ H Q h => by
    refine iargs_run (P := fun vs H1 => ∃ a xs, vs = [.ref a] ∧ SqT X.K H1 a xs ∧ Q (IteT X.K a) H1) (fun I' H' ds rs vs s hf r k => ?_) h
    unfold fEnumT at hf
    split at hf
    · cases hf
      obtain ⟨v, rfl, h1⟩ := r.one
      simp only [Rp] at h1
      obtain ⟨l, xs, rfl, h2, h3⟩ := h1
      exact ⟨l, xs, rfl, ex_t s h2, k _ (iteT_r h2 h3)⟩
    · cases hf
/-- one of two readings of an iterable -/
theorem si_alt {X : Cx} {tg l : Expr} {m1 m2 m : M (List D)} (h1 : SI X tg l m1) (h2 : SI X tg l m2) (ho : ∀ e r, m e = some r → m1 e = some r ∨ m2 e = some r) : SI X tg l m := ⟨fun pins s σ H R I h => by
  obtain ⟨I0, e, Fs, R0, ds, e', hm, k⟩ := h
  rcases ho e _ hm with q | q
  · exact h1.run pins s σ H R I ⟨I0, e, Fs, R0, ds, e', q, k⟩
  · exact h2.run pins s σ H R I ⟨I0, e, Fs, R0, ds, e', q, k⟩⟩
def fEnumA : List D → Option (List D)
  | [.lst ds] => some (enD ds)
  | [.tup ds] => some (enD ds)
  | _ => none
theorem si_enumA {X : Cx} {a : Expr} {ma : M (List Arg)} {p pos tpos : Pos} {elts : List Expr} {kk : Nat} (hg : Gl X "enumerate") (hm : X.mg "enumerate" = none) (ha : SA X [a] ma) (hs : starEach [a] X.env = [(false, eval a X.env)] := by rfl) : SI X (.Tuple elts kk tpos) (.Call (.Name "enumerate" p) [a] [] pos) (iArgs fEnumA ma) :=
  si_alt (si_enum hg hm ha hs) (si_enumT hg hm ha hs) fun e r h => by
    unfold iArgs at h ⊢
    obtain ⟨x, h1, h⟩ := Option.bind_eq_some_iff.mp h
    obtain ⟨ds, h2, h⟩ := Option.bind_eq_some_iff.mp h
    obtain ⟨rs, h3, h⟩ := Option.map_eq_some_iff.mp h
    have : fEnum ds = some rs ∨ fEnumT ds = some rs := by
      unfold fEnumA at h3
      split at h3
      · exact .inl h3
      · exact .inr h3
      · cases h3
    rcases this with q | q
    · left
      rw [h1]
      simp only [Option.bind_some, h2, q, Option.map_some, h]
    · right
      rw [h1]
      simp only [Option.bind_some, h2, q, Option.map_some, h]
@[simp] theorem fEnumA_l {ds : List D} : fEnumA [.lst ds] = some (enD ds) := rfl
@[simp] theorem fEnumA_t {ds : List D} : fEnumA [.tup ds] = some (enD ds) := rfl
end MV
namespace Lw
open PySem L2 MV
def top (i : Nat) : Stmt := PySem.Challenge.pw_hiddenrank_k17_orders_that_agree.main.body.getD i (.Pass ⟨0, 0, 0, 0⟩)
abbrev s_x_law_bag : Stmt := (top 11)
abbrev N_x_law_bag : List Str := ["_law_script"]
theorem sc_x_law_bag : FnScope N_x_law_bag ["_law_script"] (defScope s_x_law_bag) := ⟨rfl, rfl, rfl, by decide +kernel, rfl, by decide +kernel, by decide +kernel⟩
abbrev s_x_law_same : Stmt := (top 16)
abbrev N_x_law_same : List Str := ["_law_found", "_law_due", "_law_one", "_law_two"]
theorem sc_x_law_same : FnScope N_x_law_same ["_law_found", "_law_due"] (defScope s_x_law_same) := ⟨rfl, rfl, rfl, by decide +kernel, rfl, by decide +kernel, by decide +kernel⟩
abbrev s_x_law_pull : Stmt := (top 12)
abbrev N_x_law_pull : List Str := ["_law_bag_here", "_law_sides", "_law_cell", "_law_digit", "_law_twice"]
theorem sc_x_law_pull : FnScope N_x_law_pull ["_law_bag_here", "_law_sides"] (defScope s_x_law_pull) := ⟨rfl, rfl, rfl, by decide +kernel, rfl, by decide +kernel, by decide +kernel⟩
abbrev s_x_law_pairs : Stmt := (top 17)
abbrev N_x_law_pairs : List Str := ["_law_bag_here", "_law_size_z", "_law_most", "_law_found", "_law_k", "_law_one"]
theorem sc_x_law_pairs : FnScope N_x_law_pairs ["_law_bag_here", "_law_size_z", "_law_most"] (defScope s_x_law_pairs) := ⟨rfl, rfl, rfl, by decide +kernel, rfl, by decide +kernel, by decide +kernel⟩
abbrev s_x_law_part : Stmt := (top 15)
abbrev N_x_law_part : List Str := ["_law_bag_here", "_law_some", "_law_one"]
theorem sc_x_law_part : FnScope N_x_law_part ["_law_bag_here", "_law_some"] (defScope s_x_law_part) := ⟨rfl, rfl, rfl, by decide +kernel, rfl, by decide +kernel, by decide +kernel⟩
abbrev s_x_law_of : Stmt := (top 13)
abbrev N_x_law_of : List Str := ["_law_bag_here", "_law_some"]
theorem sc_x_law_of : FnScope N_x_law_of ["_law_bag_here", "_law_some"] (defScope s_x_law_of) := ⟨rfl, rfl, rfl, by decide +kernel, rfl, by decide +kernel, by decide +kernel⟩
abbrev s_x_law_reports : Stmt := (top 18)
abbrev N_x_law_reports : List Str := ["_law_bag_here", "_law_size_z", "_law_most", "_law_found", "_law_k", "_law_slots", "_law_good", "_law_slot"]
theorem sc_x_law_reports : FnScope N_x_law_reports ["_law_bag_here", "_law_size_z", "_law_most"] (defScope s_x_law_reports) := ⟨rfl, rfl, rfl, by decide +kernel, rfl, by decide +kernel, by decide +kernel⟩
abbrev s_x_law_problem : Stmt := (top 19)
abbrev N_x_law_problem : List Str := ["_law_bag_here", "_law_most", "_law_size_z"]
theorem sc_x_law_problem : FnScope N_x_law_problem ["_law_bag_here", "_law_most"] (defScope s_x_law_problem) := ⟨rfl, rfl, rfl, by decide +kernel, rfl, by decide +kernel, by decide +kernel⟩
abbrev s_x_law_mixed : Stmt := (top 14)
abbrev N_x_law_mixed : List Str := ["_law_bag_here", "_law_some", "_law_found", "_law_one"]
theorem sc_x_law_mixed : FnScope N_x_law_mixed ["_law_bag_here", "_law_some"] (defScope s_x_law_mixed) := ⟨rfl, rfl, rfl, by decide +kernel, rfl, by decide +kernel, by decide +kernel⟩
abbrev s_x_law_bent_order : Stmt := (top 23)
abbrev N_x_law_bent_order : List Str := ["_law_bag_here", "_law_order_z", "_law_at", "_law_way"]
theorem sc_x_law_bent_order : FnScope N_x_law_bent_order ["_law_bag_here", "_law_order_z"] (defScope s_x_law_bent_order) := ⟨rfl, rfl, rfl, by decide +kernel, rfl, by decide +kernel, by decide +kernel⟩
abbrev s_x_law_agrees : Stmt := (top 22)
abbrev N_x_law_agrees : List Str := ["_law_pairs_z", "_law_reports_z", "_law_order_z", "_law_one", "_law_two", "_law_slots", "_law_good", "_law_slot"]
theorem sc_x_law_agrees : FnScope N_x_law_agrees ["_law_pairs_z", "_law_reports_z", "_law_order_z"] (defScope s_x_law_agrees) := ⟨rfl, rfl, rfl, by decide +kernel, rfl, by decide +kernel, by decide +kernel⟩
abbrev s_is_ascending : Stmt := (top 7)
abbrev N_is_ascending : List Str := ["some", "size", "good", "slot", "one", "other"]
theorem sc_is_ascending : FnScope N_is_ascending ["some", "size"] (defScope s_is_ascending) := ⟨rfl, rfl, rfl, by decide +kernel, rfl, by decide +kernel, by decide +kernel⟩
abbrev s_check_problem : Stmt := (top 8)
abbrev N_check_problem : List Str := ["size", "pairs", "reports", "at", "one", "other", "slots", "good", "known", "slot"]
theorem sc_check_problem : FnScope N_check_problem ["size", "pairs", "reports"] (defScope s_check_problem) := ⟨rfl, rfl, rfl, by decide +kernel, rfl, by decide +kernel, by decide +kernel⟩
abbrev s_agrees : Stmt := (top 9)
abbrev N_agrees : List Str := ["size", "pairs", "reports", "order", "place", "at", "slot", "one", "other", "slots", "good"]
theorem sc_agrees : FnScope N_agrees ["size", "pairs", "reports", "order"] (defScope s_agrees) := ⟨rfl, rfl, rfl, by decide +kernel, rfl, by decide +kernel, by decide +kernel⟩
abbrev s_x_law_free : Stmt := (top 20)
abbrev N_x_law_free : List Str := ["_law_slot", "_law_left", "_law_pairs_z", "_law_reports_z", "_law_slots", "_law_good", "_law_one", "_law_two"]
theorem sc_x_law_free : FnScope N_x_law_free ["_law_slot", "_law_left", "_law_pairs_z", "_law_reports_z"] (defScope s_x_law_free) := ⟨rfl, rfl, rfl, by decide +kernel, rfl, by decide +kernel, by decide +kernel⟩
abbrev s_x_law_layers : Stmt := (top 21)
abbrev N_x_law_layers : List Str := ["_law_size_z", "_law_pairs_z", "_law_reports_z", "_law_found", "_law_left", "_law_turn", "_law_layer", "_law_slot"]
theorem sc_x_law_layers : FnScope N_x_law_layers ["_law_size_z", "_law_pairs_z", "_law_reports_z"] (defScope s_x_law_layers) := ⟨rfl, rfl, rfl, by decide +kernel, rfl, by decide +kernel, by decide +kernel⟩
abbrev s_law : Stmt := (top 24)
abbrev N_law : List Str := ["_law_script", "_law_bag_here", "_law_turn", "_law_size_z", "_law_pairs_z", "_law_reports_z", "_law_order_z", "_law_layer", "_law_due", "_law_handed", "_law_found"]
theorem sc_law : FnScope N_law ["_law_script"] (defScope s_law) := ⟨rfl, rfl, rfl, by decide +kernel, rfl, by decide +kernel, by decide +kernel⟩
/-! ### meanings -/
def m_x_law_bag : S := (sRet (mOlW (wCons (mP (mDisp fList (aD (mSl dSl (mVar 0) mNoI (mOptI (mC (.int 63)))) aNil))) (wCons (mP (mC (.int 0))) (wCons (mP (mC (.int 0))) (wCons (mP (mC (.int 9485))) wNil))))))
def f_x_law_bag : FSem := fsem 1 [false] m_x_law_bag
def b_x_law_same_0 (rec : FSem) : M D := (mGetP (mCall rec (aD (mVar 2) (aD (mVar 3) aNil))))
def m_x_law_same (rec : FSem) : S := (sSeq (sIf (mBool (mOp dIsN (mVar 1) (mC .none))) ((sRet (mP (mOp dIsN (mVar 0) (mC .none))))) (sNext))
  (sSeq (sIf (mOr (mTru (mUn (dIsi "bool") (mVar 1))) (mTru (mUn (dIsi "bool") (mVar 0)))) ((sRet (mP (mAndV (mUn (dIsi "bool") (mVar 1)) (mAndV (mUn (dIsi "bool") (mVar 0)) (mOp dEq (mVar 0) (mVar 1))))))) (sNext))
  (sSeq (sIf (mOr (mTru (mUn (dIsi "int") (mVar 1))) (mTru (mUn (dIsi "str") (mVar 1)))) ((sRet (mP (mAndV (mOp dEq (mUn (dIsi "int") (mVar 0)) (mUn (dIsi "int") (mVar 1))) (mAndV (mOp dEq (mUn (dIsi "str") (mVar 0)) (mUn (dIsi "str") (mVar 1))) (mOp dEq (mVar 0) (mVar 1))))))) (sNext))
  (sSeq (sIf (mOr (mBool (mOp dNe (mUn (dIsi "list") (mVar 1)) (mUn (dIsi "list") (mVar 0)))) (mBool (mOp dNe (mUn (dIsi "tuple") (mVar 1)) (mUn (dIsi "tuple") (mVar 0))))) ((sRet (mP (mC (.bool false))))) (sNext))
  (sRet (mP (mAndV (mOp dEq (mDisp fLen (aD (mVar 0) aNil)) (mDisp fLen (aD (mVar 1) aNil))) (mDisp fAll (aD (mLc [2, 3] (iArgs fZip (aD (mVar 0) (aD (mVar 1) aNil))) (gT 2 (gsCons (gN 2) (gsCons (gN 3) gsNil))) (fun e => some (true, e)) (b_x_law_same_0 rec)) aNil)))))))))
def f_x_law_same : Nat → FSem
  | 0 => fun _ => none
  | n + 1 => fsem 4 [false, false] (m_x_law_same (f_x_law_same n))
def m_x_law_pull : S := (sSeq (sIf (mAnd (mBool (mOp dEq (mIxO 0 (mC (.int 2))) (mC (.int 0)))) (mBool (mOp dLt (mIxO 0 (mC (.int 1))) (mDisp fLen (aD (mIxO 0 (mC (.int 0))) aNil))))) ((sSeq (sSet 2 (mP (mOp dIx (mIxO 0 (mC (.int 0))) (mIxO 0 (mC (.int 1))))))
  (sSeq (sSetIx 0 (mC (.int 1)) (mOp dAdd (mIxO 0 (mC (.int 1))) (mC (.int 1))))
  (sIf (mBool (mOp dGe (mDisp fAbs (aD (mVar 2) aNil)) (mOp dPow (mC (.int 10)) (mC (.int 18))))) ((sSetIx 0 (mC (.int 2)) (mDisp fAbs (aD (mVar 2) aNil)))) ((sSetIx 0 (mC (.int 3)) (mOp dMod (mOp dAdd (mOp dAdd (mOp dMul (mIxO 0 (mC (.int 3))) (mC (.int 48271))) (mOp dMul (mOp dMod (mVar 2) (mC (.int 1000003))) (mC (.int 911)))) (mC (.int 7))) (mC (.int 2147483647))))))))) (sNext))
  (sSeq (sIf (mBool (mOp dGt (mIxO 0 (mC (.int 2))) (mC (.int 0)))) ((sSeq (sSet 3 (mP (mOp dMod (mIxO 0 (mC (.int 2))) (mVar 1))))
  (sSeq (sSetIx 0 (mC (.int 2)) (mOp dDiv (mIxO 0 (mC (.int 2))) (mVar 1)))
  (sRet (mP (mVar 3)))))) (sNext))
  (sSeq (sSet 4 (mP (mOp dMod (mOp dMul (mIxO 0 (mC (.int 3))) (mIxO 0 (mC (.int 3)))) (mC (.int 2147483629)))))
  (sSeq (sSetIx 0 (mC (.int 3)) (mOp dMod (mOp dAdd (mOp dAdd (mOp dMul (mVar 4) (mC (.int 16807))) (mOp dMul (mIxO 0 (mC (.int 3))) (mC (.int 40692)))) (mC (.int 12345))) (mC (.int 2147483647))))
  (sRet (mP (mOp dMod (mOp dDiv (mIxO 0 (mC (.int 3))) (mC (.int 64))) (mVar 1))))))))
def f_x_law_pull : FSem := fsem 5 [true, false] m_x_law_pull
def b_x_law_pairs_0 : S := (sKill [4, 5] (sSeq (sSet 5 (mCall f_x_law_pull (aIO 0 (aD (mVar 1) aNil))))
  (sDrop (mAppO 3 (mP (mDisp fTup (aD (mVar 5) (aD (mOp dMod (mOp dAdd (mOp dAdd (mVar 5) (mC (.int 1))) (mGetP (mCall f_x_law_pull (aIO 0 (aD (mOp dSub (mVar 1) (mC (.int 1))) aNil))))) (mVar 1)) aNil))))))))
def m_x_law_pairs : S := (sSeq (sSet 3 (mOlW wNil))
  (sSeq (sIf (mBool (mOp dGt (mVar 1) (mC (.int 1)))) ((sFor (iArgs fRange1 (aD (mGetP (mCall f_x_law_pull (aIO 0 (aD (mOp dAdd (mVar 2) (mC (.int 1))) aNil)))) aNil)) (gN 4) (b_x_law_pairs_0))) (sNext))
  (sFzL (lName 3) ((sRet (mP (mVar 3)))))))
def f_x_law_pairs : FSem := fsem 6 [true, false, false] m_x_law_pairs
def b_x_law_part_0 : M Bool := (mBool (mOp dEq (mGetP (mCall f_x_law_pull (aIO 0 (aD (mC (.int 2)) aNil)))) (mC (.int 0))))
def m_x_law_part : S := (sRet (mP (mLc [2] (iSeq (mVar 1)) (gN 2) b_x_law_part_0 (mVar 2))))
def f_x_law_part : FSem := fsem 3 [true, false] m_x_law_part
def m_x_law_of : S := (sRet (mP (mOp dIx (mVar 1) (mGetP (mCall f_x_law_pull (aIO 0 (aD (mDisp fLen (aD (mVar 1) aNil)) aNil)))))))
def f_x_law_of : FSem := fsem 2 [true, false] m_x_law_of
def b_x_law_reports_0 : M Bool := (mBool (mOp dEq (mGetP (mCall f_x_law_pull (aIO 0 (aD (mC (.int 3)) aNil)))) (mC (.int 0))))
def b_x_law_reports_1 : S := (sKill [4, 5, 6, 7] (sSeq (sSet 5 (mP (mLc [7] (iArgs fRange1 (aD (mVar 1) aNil)) (gN 7) b_x_law_reports_0 (mVar 7))))
  (sSeq (sSet 5 (mP (mIf (mBool (mOp dNe (mVar 5) (mDisp fLst aNil))) (mVar 5) (mDisp fLst (aD (mGetP (mCall f_x_law_pull (aIO 0 (aD (mVar 1) aNil)))) aNil)))))
  (sSeq (sSet 6 (mP (mIf (mBool (mOp dGt (mGetP (mCall f_x_law_pull (aIO 0 (aD (mC (.int 9)) aNil)))) (mC (.int 0)))) (mGetP (mCall f_x_law_part (aIO 0 (aD (mVar 5) aNil)))) (mDisp fLst aNil))))
  (sSeq (sIf (mAnd (mBool (mOp dEq (mVar 6) (mDisp fLst aNil))) (mBool (mOp dGt (mGetP (mCall f_x_law_pull (aIO 0 (aD (mC (.int 6)) aNil)))) (mC (.int 0))))) ((sSet 6 (mP (mDisp fLst (aD (mGetP (mCall f_x_law_of (aIO 0 (aD (mVar 5) aNil)))) aNil))))) (sNext))
  (sDrop (mAppO 3 (mP (mDisp fTup (aD (mDisp fTuple (aD (mVar 5) aNil)) (aD (mDisp fTuple (aD (mVar 6) aNil)) aNil)))))))))))
def m_x_law_reports : S := (sSeq (sSet 3 (mOlW wNil))
  (sSeq (sIf (mBool (mOp dGt (mVar 1) (mC (.int 0)))) ((sFor (iArgs fRange1 (aD (mGetP (mCall f_x_law_pull (aIO 0 (aD (mOp dAdd (mVar 2) (mC (.int 1))) aNil)))) aNil)) (gN 4) (b_x_law_reports_1))) (sNext))
  (sFzL (lName 3) ((sRet (mP (mVar 3)))))))
def f_x_law_reports : FSem := fsem 8 [true, false, false] m_x_law_reports
def m_x_law_problem : S := (sSeq (sSet 2 (mCall f_x_law_pull (aIO 0 (aD (mOp dAdd (mVar 1) (mC (.int 1))) aNil))))
  (sRet (mTupW (wCons (mP (mVar 2)) (wCons (mCall f_x_law_pairs (aIO 0 (aD (mVar 2) (aD (mC (.int 4)) aNil)))) (wCons (mCall f_x_law_reports (aIO 0 (aD (mVar 2) (aD (mC (.int 5)) aNil)))) wNil))))))
def f_x_law_problem : FSem := fsem 3 [true, false] m_x_law_problem
def b_x_law_mixed_0 : S := (sKill [3] (sDrop (mP (mMetN wIns 2 (aD (mGetP (mCall f_x_law_pull (aIO 0 (aD (mOp dAdd (mV (vObs wLen (lName 2))) (mC (.int 1))) aNil)))) (aD (mVar 3) aNil))))))
def m_x_law_mixed : S := (sSeq (sSet 2 (mOlW wNil))
  (sSeq (sFor (iSeq (mVar 1)) (gN 3) (b_x_law_mixed_0))
  (sFzL (lName 2) ((sRet (mP (mVar 2)))))))
def f_x_law_mixed : FSem := fsem 4 [true, false] m_x_law_mixed
def m_x_law_bent_order : S := (sSeq (sPar [2, 3] (wCons (mCall f_x_law_pull (aIO 0 (aD (mOp dAdd (mDisp fLen (aD (mVar 1) aNil)) (mC (.int 1))) aNil))) (wCons (mCall f_x_law_pull (aIO 0 (aD (mC (.int 5)) aNil))) wNil)))
  (sSeq (sIf (mBool (mOp dEq (mVar 3) (mC (.int 0)))) ((sRet (mP (mOp dAdd (mSl dSl (mVar 1) mNoI (mOptI (mVar 2))) (mSl dSl (mVar 1) (mOptI (mOp dAdd (mVar 2) (mC (.int 1)))) mNoI))))) (sNext))
  (sSeq (sIf (mBool (mOp dEq (mVar 3) (mC (.int 1)))) ((sRet (mP (mOp dAdd (mOp dAdd (mSl dSl (mVar 1) mNoI (mOptI (mVar 2))) (mDisp fLst (aD (mGetP (mCall f_x_law_of (aIO 0 (aD (mDisp fLst (aD (mC (.int 0)) (aD (mUn dNeg (mC (.int 1))) (aD (mDisp fLen (aD (mVar 1) aNil)) (aD (mOp dPow (mC (.int 10)) (mC (.int 18))) aNil))))) aNil)))) aNil))) (mSl dSl (mVar 1) (mOptI (mVar 2)) mNoI))))) (sNext))
  (sSeq (sIf (mAnd (mBool (mOp dEq (mVar 3) (mC (.int 2)))) (mBool (mOp dLt (mVar 2) (mDisp fLen (aD (mVar 1) aNil))))) ((sRet (mP (mOp dAdd (mOp dAdd (mSl dSl (mVar 1) mNoI (mOptI (mVar 2))) (mDisp fLst (aD (mGetP (mCall f_x_law_of (aIO 0 (aD (mVar 1) aNil)))) aNil))) (mSl dSl (mVar 1) (mOptI (mOp dAdd (mVar 2) (mC (.int 1)))) mNoI))))) (sNext))
  (sRet (mP (mVar 1)))))))
def f_x_law_bent_order : FSem := fsem 4 [true, false] m_x_law_bent_order
def b_x_law_agrees_0 : M D := (mOp dGt (mOp dIdx (mVar 2) (mVar 3)) (mOp dIdx (mVar 2) (mVar 4)))
def b_x_law_agrees_1 : M Bool := (mBool (mOp dIn (mVar 7) (mVar 5)))
def b_x_law_agrees_2 : M D := (mOp dIn (mOp dIx (mLc [7] (iSeq (mVar 2)) (gN 7) b_x_law_agrees_1 (mVar 7)) (mC (.int 0))) (mVar 6))
def m_x_law_agrees : S := (sSeq (sIf (mTru (mDisp fAny (aD (mLc [3, 4] (iSeq (mVar 0)) (gT 2 (gsCons (gN 3) (gsCons (gN 4) gsNil))) (fun e => some (true, e)) b_x_law_agrees_0) aNil))) ((sRet (mP (mC (.bool false))))) (sNext))
  (sRet (mP (mDisp fAll (aD (mLc [5, 6] (iSeq (mVar 1)) (gT 2 (gsCons (gN 5) (gsCons (gN 6) gsNil))) (fun e => some (true, e)) b_x_law_agrees_2) aNil)))))
def f_x_law_agrees : FSem := fsem 8 [false, false, false] m_x_law_agrees
def b_is_ascending_0 : M D := (mChain dLe dLt (mC (.int 0)) (mVar 3) (mVar 1))
def b_is_ascending_1 : M D := (mOp dLt (mVar 4) (mVar 5))
def m_is_ascending : S := (sSeq (sSet 2 (mP (mDisp fAll (aD (mLc [3] (iSeq (mVar 0)) (gN 3) (fun e => some (true, e)) b_is_ascending_0) aNil))))
  (sRet (mP (mAndV (mVar 2) (mDisp fAll (aD (mLc [4, 5] (iArgs fZip (aD (mVar 0) (aD (mSl dSl (mVar 0) (mOptI (mC (.int 1))) mNoI) aNil))) (gT 2 (gsCons (gN 4) (gsCons (gN 5) gsNil))) (fun e => some (true, e)) b_is_ascending_1) aNil))))))
def f_is_ascending : FSem := fsem 6 [false, false] m_is_ascending
def b_check_problem_0 : S := (sKill [3, 4, 5] (sIf (mOr (mBool (mOp dEq (mVar 4) (mVar 5))) (mOr (mNot (mBool (mChain dLe dLt (mC (.int 0)) (mVar 4) (mVar 0)))) (mNot (mBool (mChain dLe dLt (mC (.int 0)) (mVar 5) (mVar 0)))))) (sNever) (sNext)))
def b_check_problem_1 : M D := (mOp dIn (mVar 9) (mVar 6))
def b_check_problem_2 : S := (sKill [3, 6, 7, 8, 9] (sSeq (sSet 8 (mP (mAndV (mGetP (mCall f_is_ascending (aD (mVar 6) (aD (mVar 0) aNil)))) (mAndV (mGetP (mCall f_is_ascending (aD (mVar 7) (aD (mVar 0) aNil)))) (mOp dGt (mDisp fLen (aD (mVar 6) aNil)) (mC (.int 0)))))))
  (sIf (mOr (mNot (mTru (mVar 8))) (mNot (mTru (mDisp fAll (aD (mLc [9] (iSeq (mVar 7)) (gN 9) (fun e => some (true, e)) b_check_problem_1) aNil))))) (sNever) (sNext))))
def m_check_problem : S := (sSeq (sIf (mNot (mBool (mChain dLe dLe (mC (.int 0)) (mVar 0) (mC (.int 30))))) (sNever) (sNext))
  (sSeq (sFor (iArgs fEnum (aD (mVar 1) aNil)) (gT 2 (gsCons (gN 3) (gsCons (gT 2 (gsCons (gN 4) (gsCons (gN 5) gsNil))) gsNil))) (b_check_problem_0))
  (sFor (iArgs fEnum (aD (mVar 2) aNil)) (gT 2 (gsCons (gN 3) (gsCons (gT 2 (gsCons (gN 6) (gsCons (gN 7) gsNil))) gsNil))) (b_check_problem_2))))
def f_check_problem : FSem := fsem 10 [false, false, false] m_check_problem
def b_agrees_0 : M D := (mOp dGt (mV (vRead (lKey (lName 4) (vVar 7)))) (mV (vRead (lKey (lName 4) (vVar 8)))))
def b_agrees_1 : M D := (mOp dIn (mMinKey 6 (vRead (lKey (lName 4) (vVar 6))) (mVar 9)) (mVar 10))
def m_agrees : S := (sSeq (sDrop (mCall f_check_problem (aD (mVar 0) (aD (mVar 1) (aD (mVar 2) aNil)))))
  (sSeq (sIf (mBool (mOp dNe (mDisp fSortA (aD (mVar 3) aNil)) (mListRg rg1 (mVar 0)))) ((sRet (mP (mC (.bool false))))) (sNext))
  (sSeq (sSet 4 (mDc [5, 6] (iArgs fEnumA (aD (mVar 3) aNil)) (gT 2 (gsCons (gN 5) (gsCons (gN 6) gsNil))) (fun e => some (true, e)) (mVar 6) (mP (mVar 5))))
  (sSeq (sIf (mTru (mDisp fAny (aD (mLc [7, 8] (iSeq (mVar 1)) (gT 2 (gsCons (gN 7) (gsCons (gN 8) gsNil))) (fun e => some (true, e)) b_agrees_0) aNil))) ((sRet (mP (mC (.bool false))))) (sNext))
  (sRet (mP (mDisp fAll (aD (mLc [9, 10] (iSeq (mVar 2)) (gT 2 (gsCons (gN 9) (gsCons (gN 10) gsNil))) (fun e => some (true, e)) b_agrees_1) aNil))))))))
def f_agrees : FSem := fsem 11 [false, false, false, false] m_agrees
def b_x_law_free_0 : M D := (mAndV (mOp dEq (mVar 7) (mVar 0)) (mOp dIn (mVar 6) (mVar 1)))
def b_x_law_free_1 : M D := (mOp dIn (mVar 6) (mVar 1))
def b_x_law_free_2 : S := (sKill [4, 5, 6] (sIf (mAnd (mBool (mOp dIn (mVar 0) (mVar 4))) (mAnd (mBool (mOp dNotIn (mVar 0) (mVar 5))) (mTru (mDisp fAll (aD (mLc [6] (iSeq (mVar 4)) (gN 6) (fun e => some (true, e)) b_x_law_free_1) aNil))))) ((sRet (mP (mC (.bool false))))) (sNext)))
def m_x_law_free : S := (sSeq (sIf (mTru (mDisp fAny (aD (mLc [6, 7] (iSeq (mVar 2)) (gT 2 (gsCons (gN 6) (gsCons (gN 7) gsNil))) (fun e => some (true, e)) b_x_law_free_0) aNil))) ((sRet (mP (mC (.bool false))))) (sNext))
  (sSeq (sFor (iSeq (mVar 3)) (gT 2 (gsCons (gN 4) (gsCons (gN 5) gsNil))) (b_x_law_free_2))
  (sRet (mP (mC (.bool true))))))
def f_x_law_free : FSem := fsem 8 [false, false, false, false] m_x_law_free
def b_x_law_layers_0 : M Bool := (mTru (mGetP (mCall f_x_law_free (aD (mVar 7) (aD (mVar 4) (aD (mVar 1) (aD (mVar 2) aNil)))))))
def b_x_law_layers_1 : M Bool := (mBool (mOp dNotIn (mVar 7) (mVar 6)))
def b_x_law_layers_2 : S := (sKill [5, 6, 7] (sSeq (sSet 6 (mP (mLc [7] (iSeq (mVar 4)) (gN 7) b_x_law_layers_0 (mVar 7))))
  (sIf (mBool (mOp dNe (mVar 6) (mDisp fLst aNil))) ((sSeq (sDrop (mAppO 3 (mP (mVar 6))))
  (sSet 4 (mP (mLc [7] (iSeq (mVar 4)) (gN 7) b_x_law_layers_1 (mVar 7)))))) (sNext))))
def m_x_law_layers : S := (sSeq (sPar [3, 4] (wCons (mOlW wNil) (wCons (mP (mListRg rg1 (mVar 0))) wNil)))
  (sSeq (sFor (iArgs fRange1 (aD (mVar 0) aNil)) (gN 5) (b_x_law_layers_2))
  (sFzL (lName 3) ((sRet (mP (mDisp fTup (aD (mVar 3) (aD (mVar 4) aNil)))))))))
def f_x_law_layers : FSem := fsem 8 [false, false, false] m_x_law_layers
def b_law_0 : S := (sKill [7] (sSet 6 (mP (mOp dAdd (mVar 6) (mVar 7)))))
def b_law_1 : S := (sKill [2, 3, 4, 5, 6, 7, 8, 9, 10] (sSeq (sAsg (gT 3 (gsCons (gN 3) (gsCons (gN 4) (gsCons (gN 5) gsNil)))) (mGetP (mCall f_x_law_problem (aIO 1 (aD (mC (.int 6)) aNil)))))
  (sSeq (sSet 6 (mCall f_x_law_mixed (aIO 1 (aD (mListRg rg1 (mVar 3)) aNil))))
  (sSeq (sIf (mBool (mOp dEq (mGetP (mCall f_x_law_pull (aIO 1 (aD (mC (.int 3)) aNil)))) (mC (.int 0)))) ((sSeq (sSet 6 (mP (mDisp fLst aNil)))
  (sFor (iSeq (mOp dIx (mGetP (mCall f_x_law_layers (aD (mVar 3) (aD (mVar 4) (aD (mVar 5) aNil))))) (mC (.int 0)))) (gN 7) (b_law_0)))) (sNext))
  (sSeq (sSet 6 (mCall f_x_law_bent_order (aIO 1 (aD (mVar 6) aNil))))
  (sSeq (sSet 8 (mP (mAndV (mOp dEq (mDisp fSortI (aD (mVar 6) aNil)) (mListRg rg1 (mVar 3))) (mGetP (mCall f_x_law_agrees (aD (mVar 4) (aD (mVar 5) (aD (mVar 6) aNil))))))))
  (sSeq (sSet 9 (mP (mDisp fLst (aD (mDisp fList (aD (mVar 4) aNil)) (aD (mDisp fList (aD (mVar 5) aNil)) (aD (mDisp fList (aD (mVar 6) aNil)) aNil))))))
  (sSeq (sSet 10 (mP (mDisp fLst (aD (mGetP (mCall f_agrees (aD (mVar 3) (aD (mOp dIx (mVar 9) (mC (.int 0))) (aD (mOp dIx (mVar 9) (mC (.int 1))) (aD (mOp dIx (mVar 9) (mC (.int 2))) aNil)))))) (aD (mGetP (mCall f_agrees (aPerm [3, 2, 1, 0] (aD (mDisp fTuple (aD (mVar 6) aNil)) (aD (mVar 5) (aD (mVar 4) (aD (mVar 3) aNil))))))) aNil)))))
  (sIf (mOr (mNot (mTru (mGetP (mCall (f_x_law_same 10) (aD (mVar 10) (aD (mDisp fLst (aD (mVar 8) (aD (mVar 8) aNil))) aNil)))))) (mBool (mOp dNe (mVar 9) (mDisp fLst (aD (mVar 4) (aD (mVar 5) (aD (mVar 6) aNil))))))) ((sRet (mP (mC (.bool false))))) (sNext))))))))))
def m_law : S := (sSeq (sSet 1 (mCall f_x_law_bag (aD (mVar 0) aNil)))
  (sSeq (sFor (iArgs fRange1 (aD (mC (.int 8)) aNil)) (gN 2) (b_law_1))
  (sRet (mCall (f_x_law_same 10) (aD (mDisp fLst (aD (mGetP (mCall f_agrees (aD (mC (.int 0)) (aD (mDisp fLst aNil) (aD (mDisp fLst aNil) (aD (mDisp fLst aNil) aNil)))))) (aD (mGetP (mCall f_agrees (aD (mC (.int 1)) (aD (mDisp fLst aNil) (aD (mDisp fLst (aD (mDisp fTup (aD (mDisp fTup (aD (mC (.int 0)) aNil)) (aD (mDisp fTup aNil) aNil))) aNil)) (aD (mDisp fLst (aD (mC (.int 0)) aNil)) aNil)))))) aNil))) (aD (mDisp fLst (aD (mC (.bool true)) (aD (mC (.bool false)) aNil))) aNil))))))
def f_law : FSem := fsem 11 [false] m_law
/-! ### the text's facts -/
structure Facts (K : PySem.W.Frag) (mg : Str → Option Value) : Prop where
  g_x_law_bag : mg "_law_bag" = some (.ref (He.ga K "_law_bag"))
  g_x_law_same : mg "_law_same" = some (.ref (He.ga K "_law_same"))
  g_x_law_pull : mg "_law_pull" = some (.ref (He.ga K "_law_pull"))
  g_x_law_pairs : mg "_law_pairs" = some (.ref (He.ga K "_law_pairs"))
  g_x_law_part : mg "_law_part" = some (.ref (He.ga K "_law_part"))
  g_x_law_of : mg "_law_of" = some (.ref (He.ga K "_law_of"))
  g_x_law_reports : mg "_law_reports" = some (.ref (He.ga K "_law_reports"))
  g_x_law_problem : mg "_law_problem" = some (.ref (He.ga K "_law_problem"))
  g_x_law_mixed : mg "_law_mixed" = some (.ref (He.ga K "_law_mixed"))
  g_x_law_bent_order : mg "_law_bent_order" = some (.ref (He.ga K "_law_bent_order"))
  g_x_law_agrees : mg "_law_agrees" = some (.ref (He.ga K "_law_agrees"))
  g_is_ascending : mg "is_ascending" = some (.ref (He.ga K "is_ascending"))
  g_check_problem : mg "check_problem" = some (.ref (He.ga K "check_problem"))
  g_agrees : mg "agrees" = some (.ref (He.ga K "agrees"))
  g_x_law_free : mg "_law_free" = some (.ref (He.ga K "_law_free"))
  g_x_law_layers : mg "_law_layers" = some (.ref (He.ga K "_law_layers"))
  g_law : mg "law" = some (.ref (He.ga K "law"))
  n_abs : mg "abs" = none
  n_all : mg "all" = none
  n_any : mg "any" = none
  n_bool : mg "bool" = none
  n_enumerate : mg "enumerate" = none
  n_int : mg "int" = none
  n_isinstance : mg "isinstance" = none
  n_len : mg "len" = none
  n_list : mg "list" = none
  n_min : mg "min" = none
  n_range : mg "range" = none
  n_sorted : mg "sorted" = none
  n_str : mg "str" = none
  n_tuple : mg "tuple" = none
  n_zip : mg "zip" = none
  c_MAX_SLOTS : ∃ t, mg "MAX_SLOTS" = some (.int 30 t)
  d_x_law_bag : ∃ fd, FunD K "_law_bag" "_law_bag" (defArgs s_x_law_bag) (defBody s_x_law_bag) (defScope s_x_law_bag) [] [] (He.ga K "_law_bag") fd
  d_x_law_same : ∃ fd, FunD K "_law_same" "_law_same" (defArgs s_x_law_same) (defBody s_x_law_same) (defScope s_x_law_same) [] [] (He.ga K "_law_same") fd
  d_x_law_pull : ∃ fd, FunD K "_law_pull" "_law_pull" (defArgs s_x_law_pull) (defBody s_x_law_pull) (defScope s_x_law_pull) [] [] (He.ga K "_law_pull") fd
  d_x_law_pairs : ∃ fd, FunD K "_law_pairs" "_law_pairs" (defArgs s_x_law_pairs) (defBody s_x_law_pairs) (defScope s_x_law_pairs) [] [] (He.ga K "_law_pairs") fd
  d_x_law_part : ∃ fd, FunD K "_law_part" "_law_part" (defArgs s_x_law_part) (defBody s_x_law_part) (defScope s_x_law_part) [] [] (He.ga K "_law_part") fd
  d_x_law_of : ∃ fd, FunD K "_law_of" "_law_of" (defArgs s_x_law_of) (defBody s_x_law_of) (defScope s_x_law_of) [] [] (He.ga K "_law_of") fd
  d_x_law_reports : ∃ fd, FunD K "_law_reports" "_law_reports" (defArgs s_x_law_reports) (defBody s_x_law_reports) (defScope s_x_law_reports) [] [] (He.ga K "_law_reports") fd
  d_x_law_problem : ∃ fd, FunD K "_law_problem" "_law_problem" (defArgs s_x_law_problem) (defBody s_x_law_problem) (defScope s_x_law_problem) [] [] (He.ga K "_law_problem") fd
  d_x_law_mixed : ∃ fd, FunD K "_law_mixed" "_law_mixed" (defArgs s_x_law_mixed) (defBody s_x_law_mixed) (defScope s_x_law_mixed) [] [] (He.ga K "_law_mixed") fd
  d_x_law_bent_order : ∃ fd, FunD K "_law_bent_order" "_law_bent_order" (defArgs s_x_law_bent_order) (defBody s_x_law_bent_order) (defScope s_x_law_bent_order) [] [] (He.ga K "_law_bent_order") fd
  d_x_law_agrees : ∃ fd, FunD K "_law_agrees" "_law_agrees" (defArgs s_x_law_agrees) (defBody s_x_law_agrees) (defScope s_x_law_agrees) [] [] (He.ga K "_law_agrees") fd
  d_is_ascending : ∃ fd, FunD K "is_ascending" "is_ascending" (defArgs s_is_ascending) (defBody s_is_ascending) (defScope s_is_ascending) [] [] (He.ga K "is_ascending") fd
  d_check_problem : ∃ fd, FunD K "check_problem" "check_problem" (defArgs s_check_problem) (defBody s_check_problem) (defScope s_check_problem) [] [] (He.ga K "check_problem") fd
  d_agrees : ∃ fd, FunD K "agrees" "agrees" (defArgs s_agrees) (defBody s_agrees) (defScope s_agrees) [] [] (He.ga K "agrees") fd
  d_x_law_free : ∃ fd, FunD K "_law_free" "_law_free" (defArgs s_x_law_free) (defBody s_x_law_free) (defScope s_x_law_free) [] [] (He.ga K "_law_free") fd
  d_x_law_layers : ∃ fd, FunD K "_law_layers" "_law_layers" (defArgs s_x_law_layers) (defBody s_x_law_layers) (defScope s_x_law_layers) [] [] (He.ga K "_law_layers") fd
  d_law : ∃ fd, FunD K "law" "law" (defArgs s_law) (defBody s_law) (defScope s_law) [] [] (He.ga K "law") fd
section
variable [TB] {P : Program} {w : World} {K : PySem.W.Frag} {mg : Str → Option Value} {base : Heap}
theorem ok_x_law_bag (T : Facts K mg)  : Fn P w K mg base 1 "_law_bag" ["_law_script"] f_x_law_bag := by
  obtain ⟨fd, F⟩ := T.d_x_law_bag
  exact ⟨_, fd, T.g_x_law_bag, F.kp, FunD.bindsN F (fun _ _ _ _ _ _ us hl => match us, hl with | [_], _ => rfl), fn_sem F sc_x_law_bag rfl fun cdv A outer s H E hr z => (sb_one (ss_ret (so_lstW (saw_cons (so_p (se_callTy call_list_of cd_list rfl T.n_list (by rfl) (sa_d (se_slice (se_var (pv 0)) spo_none (spo_some se_int)) sa_nil))) (saw_cons (so_p se_int) (saw_cons (so_p se_int) (saw_cons (so_p se_int) saw_nil)))))))⟩
theorem ok_x_law_same (T : Facts K mg)  : ∀ n : Nat, Fn P w K mg base (n + 1) "_law_same" ["_law_found", "_law_due"] (f_x_law_same n)
  | 0 => by
    obtain ⟨fd, F⟩ := T.d_x_law_same
    exact ⟨_, fd, T.g_x_law_same, F.kp, FunD.bindsN F (fun _ _ _ _ _ _ us hl => match us, hl with | [_, _], _ => rfl), fn_none⟩
  | n + 1 => by
    have REC := ok_x_law_same T  n
    obtain ⟨fd, F⟩ := T.d_x_law_same
    refine ⟨_, fd, T.g_x_law_same, F.kp, FunD.bindsN F (fun _ _ _ _ _ _ us hl => match us, hl with | [_, _], _ => rfl), ?_⟩
    rw [show n + 1 + 1 = (n + 1) + 1 by omega]
    exact fn_sem F sc_x_law_same rfl fun cdv A outer s H E hr z => (sb_cons (ss_if (st_cmp op_isN1 od_isN (se_var (pv 1)) se_non (nomark _)) (sb_one (ss_ret (so_p (se_cmp op_isN1 od_isN (se_var (pv 0)) se_non (nomark _))))) sb_nil) (sb_cons (ss_if (SW.st (sw_or (st_tru (se_isi (T := "bool") (by decide) (by decide) rfl T.n_isinstance rfl T.n_bool (by rfl) (se_var (pv 1))) (fun _ => rfl)) (sw_or1 (st_tru (se_isi (T := "bool") (by decide) (by decide) rfl T.n_isinstance rfl T.n_bool (by rfl) (se_var (pv 0))) (fun _ => rfl))))) (sb_one (ss_ret (so_p (se_and (se_isi (T := "bool") (by decide) (by decide) rfl T.n_isinstance rfl T.n_bool (by rfl) (se_var (pv 1))) (se_and (se_isi (T := "bool") (by decide) (by decide) rfl T.n_isinstance rfl T.n_bool (by rfl) (se_var (pv 0))) (se_one (se_cmp (op_eq2 hr.u64) od_eq (se_var (pv 0)) (se_var (pv 1)) (nomark _)))))))) sb_nil) (sb_cons (ss_if (SW.st (sw_or (st_tru (se_isi (T := "int") (by decide) (by decide) rfl T.n_isinstance rfl T.n_int (by rfl) (se_var (pv 1))) (fun _ => rfl)) (sw_or1 (st_tru (se_isi (T := "str") (by decide) (by decide) rfl T.n_isinstance rfl T.n_str (by rfl) (se_var (pv 1))) (fun _ => rfl))))) (sb_one (ss_ret (so_p (se_and (se_cmp (op_eq2 hr.u64) od_eq (se_isi (T := "int") (by decide) (by decide) rfl T.n_isinstance rfl T.n_int (by rfl) (se_var (pv 0))) (se_isi (T := "int") (by decide) (by decide) rfl T.n_isinstance rfl T.n_int (by rfl) (se_var (pv 1))) (nomark _)) (se_and (se_cmp (op_eq2 hr.u64) od_eq (se_isi (T := "str") (by decide) (by decide) rfl T.n_isinstance rfl T.n_str (by rfl) (se_var (pv 0))) (se_isi (T := "str") (by decide) (by decide) rfl T.n_isinstance rfl T.n_str (by rfl) (se_var (pv 1))) (nomark _)) (se_one (se_cmp (op_eq2 hr.u64) od_eq (se_var (pv 0)) (se_var (pv 1)) (nomark _)))))))) sb_nil) (sb_cons (ss_if (SW.st (sw_or (st_cmp (op_ne2 hr.u64) od_ne (se_isi (T := "list") (by decide) (by decide) rfl T.n_isinstance rfl T.n_list (by rfl) (se_var (pv 1))) (se_isi (T := "list") (by decide) (by decide) rfl T.n_isinstance rfl T.n_list (by rfl) (se_var (pv 0))) (nomark _)) (sw_or1 (st_cmp (op_ne2 hr.u64) od_ne (se_isi (T := "tuple") (by decide) (by decide) rfl T.n_isinstance rfl T.n_tuple (by rfl) (se_var (pv 1))) (se_isi (T := "tuple") (by decide) (by decide) rfl T.n_isinstance rfl T.n_tuple (by rfl) (se_var (pv 0))) (nomark _))))) (sb_one (ss_ret (so_p se_bl))) sb_nil) (sb_one (ss_ret (so_p (se_and (se_cmp (op_eq2 hr.u64) od_eq (se_callB call_len cd_len rfl T.n_len boot_len (sa_d (se_var (pv 0)) sa_nil)) (se_callB call_len cd_len rfl T.n_len boot_len (sa_d (se_var (pv 1)) sa_nil)) (nomark _)) (se_one (se_callB (cr_all rfl) cd_all rfl T.n_all (by rfl) (sa_d (se_lc (own := [("_law_one", 2), ("_law_two", 3)]) rfl sc_x_law_same.nd (blkOk_by (N := N_x_law_same) (sc := (defScope s_x_law_same)) (by decide +kernel)) (si_zip rfl T.n_zip (sa_d (se_var (pv 0)) (sa_d (se_var (pv 1)) sa_nil))) (fun _ _ _ _ _ => (sg_tup (n := 2) rfl (sgs_cons (sg_name (i := 2) rfl sc_x_law_same.nd rfl (Or.inl rfl)) (sgs_cons (sg_name (i := 3) rfl sc_x_law_same.nd rfl (Or.inl rfl)) sgs_nil)))) (fun _ _ _ _ _ => sts_nil) (fun _ _ _ _ _ => (se_o (so_fn takesN0 REC (hr.mono (by omega)) rfl (sa_d (se_var (pv 2)) (sa_d (se_var (pv 3)) sa_nil)) (len_d (len_d len_nil)))))) sa_nil)))))))))))
theorem ok_x_law_pull (T : Facts K mg)  : Fn P w K mg base 1 "_law_pull" ["_law_bag_here", "_law_sides"] f_x_law_pull := by
  obtain ⟨fd, F⟩ := T.d_x_law_pull
  exact ⟨_, fd, T.g_x_law_pull, F.kp, FunD.bindsN F (fun _ _ _ _ _ _ us hl => match us, hl with | [_, _], _ => rfl), fn_sem F sc_x_law_pull rfl fun cdv A outer s H E hr z => (sb_cons (ss_if (SW.st (sw_and (st_cmp (op_eq2 hr.u64) od_eq (se_ixO (pv 0) se_int (fun _ _ => rfl)) se_int (nomark _)) (sw_and1 (st_cmp op_lt od_lt (se_ixO (pv 0) se_int (fun _ _ => rfl)) (se_callB call_len cd_len rfl T.n_len boot_len (sa_d (se_ixO (pv 0) se_int (fun _ _ => rfl)) sa_nil)) (nomark _))))) (sb_cons (ss_set (i := 2) rfl sc_x_law_pull.nd rfl (Or.inl rfl) (so_p (se_ix (se_ixO (pv 0) se_int (fun _ _ => rfl)) (se_ixO (pv 0) se_int (fun _ _ => rfl)) (fun _ _ => rfl)))) (sb_cons (ss_setIx (se_op op_addD od_add (se_ixO (pv 0) se_int (fun _ _ => rfl)) se_int) (pv 0) se_int) (sb_one (ss_if (st_cmp op_ge od_ge (se_callB call_abs cd_abs rfl T.n_abs (by rfl) (sa_d (se_var (pv 2)) sa_nil)) (se_op op_pow od_pow se_int se_int) (nomark _)) (sb_one (ss_setIx (se_callB call_abs cd_abs rfl T.n_abs (by rfl) (sa_d (se_var (pv 2)) sa_nil)) (pv 0) se_int)) (sb_one (ss_setIx (se_op op_mod od_mod (se_op op_addD od_add (se_op op_addD od_add (se_op op_mulD od_mul (se_ixO (pv 0) se_int (fun _ _ => rfl)) se_int) (se_op op_mulD od_mul (se_op op_mod od_mod (se_var (pv 2)) se_int) se_int)) se_int) se_int) (pv 0) se_int)))))) sb_nil) (sb_cons (ss_if (st_cmp op_gt od_gt (se_ixO (pv 0) se_int (fun _ _ => rfl)) se_int (nomark _)) (sb_cons (ss_set (i := 3) rfl sc_x_law_pull.nd rfl (Or.inl rfl) (so_p (se_op op_mod od_mod (se_ixO (pv 0) se_int (fun _ _ => rfl)) (se_var (pv 1))))) (sb_cons (ss_setIx (se_op op_fdiv od_div (se_ixO (pv 0) se_int (fun _ _ => rfl)) (se_var (pv 1))) (pv 0) se_int) (sb_one (ss_ret (so_p (se_var (pv 3))))))) sb_nil) (sb_cons (ss_set (i := 4) rfl sc_x_law_pull.nd rfl (Or.inl rfl) (so_p (se_op op_mod od_mod (se_op op_mulD od_mul (se_ixO (pv 0) se_int (fun _ _ => rfl)) (se_ixO (pv 0) se_int (fun _ _ => rfl))) se_int))) (sb_cons (ss_setIx (se_op op_mod od_mod (se_op op_addD od_add (se_op op_addD od_add (se_op op_mulD od_mul (se_var (pv 4)) se_int) (se_op op_mulD od_mul (se_ixO (pv 0) se_int (fun _ _ => rfl)) se_int)) se_int) se_int) (pv 0) se_int) (sb_one (ss_ret (so_p (se_op op_mod od_mod (se_op op_fdiv od_div (se_ixO (pv 0) se_int (fun _ _ => rfl)) se_int) (se_var (pv 1))))))))))⟩
theorem ok_x_law_pairs (T : Facts K mg) (F_x_law_pull : Fn P w K mg base 1 "_law_pull" ["_law_bag_here", "_law_sides"] f_x_law_pull) : Fn P w K mg base 2 "_law_pairs" ["_law_bag_here", "_law_size_z", "_law_most"] f_x_law_pairs := by
  obtain ⟨fd, F⟩ := T.d_x_law_pairs
  exact ⟨_, fd, T.g_x_law_pairs, F.kp, FunD.bindsN F (fun _ _ _ _ _ _ us hl => match us, hl with | [_, _, _], _ => rfl), fn_sem F sc_x_law_pairs rfl fun cdv A outer s H E hr z => (sb_cons (ss_set (i := 3) rfl sc_x_law_pairs.nd rfl (Or.inl rfl) (so_lstW saw_nil)) (sb_cons (ss_if (st_cmp op_gt od_gt (se_var (pv 1)) se_int (nomark _)) (sb_one (ss_for z.po rfl (si_range1 rfl T.n_range (sa_d (se_o (so_fn takesN0 F_x_law_pull (hr.mono (by first | decide | omega)) rfl (sa_io (pv 0) (sa_d (se_op op_addD od_add (se_var (pv 2)) se_int) sa_nil)) (len_io (len_d len_nil)))) sa_nil)) (sg_name (i := 4) rfl sc_x_law_pairs.nd rfl (Or.inl rfl)) (sb_kill [4, 5] (sb_cons (ss_set (i := 5) rfl sc_x_law_pairs.nd rfl (Or.inl rfl) (so_fn z.tk F_x_law_pull (hr.mono (by first | decide | omega)) rfl (sa_io (pv 0) (sa_d (se_var (pv 1)) sa_nil)) (len_io (len_d len_nil)))) (sb_one (ss_drop (so_appO (pv 3) (so_p (se_tup (sa_d (se_var (pv 5)) (sa_d (se_op op_mod od_mod (se_op op_addD od_add (se_op op_addD od_add (se_var (pv 5)) se_int) (se_o (so_fn takesN0 F_x_law_pull (hr.mono (by first | decide | omega)) rfl (sa_io (pv 0) (sa_d (se_op op_sub od_sub (se_var (pv 1)) se_int) sa_nil)) (len_io (len_d len_nil))))) (se_var (pv 1))) sa_nil))))))))))) sb_nil) (sb_one (ss_fzL (lName 3) (ss_ret (so_p (se_var (pv 3))))))))⟩
theorem ok_x_law_part (T : Facts K mg) (F_x_law_pull : Fn P w K mg base 1 "_law_pull" ["_law_bag_here", "_law_sides"] f_x_law_pull) : Fn P w K mg base 2 "_law_part" ["_law_bag_here", "_law_some"] f_x_law_part := by
  obtain ⟨fd, F⟩ := T.d_x_law_part
  exact ⟨_, fd, T.g_x_law_part, F.kp, FunD.bindsN F (fun _ _ _ _ _ _ us hl => match us, hl with | [_, _], _ => rfl), fn_sem F sc_x_law_part rfl fun cdv A outer s H E hr z => (sb_one (ss_ret (so_p (se_lc (own := [("_law_one", 2)]) rfl sc_x_law_part.nd (blkOk_by (N := N_x_law_part) (sc := (defScope s_x_law_part)) (by decide +kernel)) (si_seq (se_var (pv 1))) (fun _ _ _ _ _ => (sg_name (i := 2) rfl sc_x_law_part.nd rfl (Or.inl rfl))) (fun _ _ _ _ _ => (sts_one (st_cmp (op_eq2 hr.u64) od_eq (se_o (so_fn takesN0 F_x_law_pull (hr.mono (by first | decide | omega)) rfl (sa_io (pv 0) (sa_d se_int sa_nil)) (len_io (len_d len_nil)))) se_int (nomark _)))) (fun _ _ _ _ _ => (se_var (pv 2)))))))⟩
theorem ok_x_law_of (T : Facts K mg) (F_x_law_pull : Fn P w K mg base 1 "_law_pull" ["_law_bag_here", "_law_sides"] f_x_law_pull) : Fn P w K mg base 2 "_law_of" ["_law_bag_here", "_law_some"] f_x_law_of := by
  obtain ⟨fd, F⟩ := T.d_x_law_of
  exact ⟨_, fd, T.g_x_law_of, F.kp, FunD.bindsN F (fun _ _ _ _ _ _ us hl => match us, hl with | [_, _], _ => rfl), fn_sem F sc_x_law_of rfl fun cdv A outer s H E hr z => (sb_one (ss_ret (so_p (se_ix (se_var (pv 1)) (se_o (so_fn takesN0 F_x_law_pull (hr.mono (by first | decide | omega)) rfl (sa_io (pv 0) (sa_d (se_callB call_len cd_len rfl T.n_len boot_len (sa_d (se_var (pv 1)) sa_nil)) sa_nil)) (len_io (len_d len_nil)))) (fun _ _ => rfl)))))⟩
theorem ok_x_law_reports (T : Facts K mg) (F_x_law_of : Fn P w K mg base 2 "_law_of" ["_law_bag_here", "_law_some"] f_x_law_of) (F_x_law_part : Fn P w K mg base 2 "_law_part" ["_law_bag_here", "_law_some"] f_x_law_part) (F_x_law_pull : Fn P w K mg base 1 "_law_pull" ["_law_bag_here", "_law_sides"] f_x_law_pull) : Fn P w K mg base 3 "_law_reports" ["_law_bag_here", "_law_size_z", "_law_most"] f_x_law_reports := by
  obtain ⟨fd, F⟩ := T.d_x_law_reports
  exact ⟨_, fd, T.g_x_law_reports, F.kp, FunD.bindsN F (fun _ _ _ _ _ _ us hl => match us, hl with | [_, _, _], _ => rfl), fn_sem F sc_x_law_reports rfl fun cdv A outer s H E hr z => (sb_cons (ss_set (i := 3) rfl sc_x_law_reports.nd rfl (Or.inl rfl) (so_lstW saw_nil)) (sb_cons (ss_if (st_cmp op_gt od_gt (se_var (pv 1)) se_int (nomark _)) (sb_one (ss_for z.po rfl (si_range1 rfl T.n_range (sa_d (se_o (so_fn takesN0 F_x_law_pull (hr.mono (by first | decide | omega)) rfl (sa_io (pv 0) (sa_d (se_op op_addD od_add (se_var (pv 2)) se_int) sa_nil)) (len_io (len_d len_nil)))) sa_nil)) (sg_name (i := 4) rfl sc_x_law_reports.nd rfl (Or.inl rfl)) (sb_kill [4, 5, 6, 7] (sb_cons (ss_setLc (i := 5) (own := [("_law_slot", 7)]) rfl rfl sc_x_law_reports.nd rfl rfl (sw_true rfl rfl rfl (by decide +kernel)) (blkOk_by (N := N_x_law_reports) (sc := (defScope s_x_law_reports)) (by decide +kernel)) (si_range1 rfl T.n_range (sa_d (se_var (pv 1)) sa_nil)) (fun _ _ _ _ _ => (sg_name (i := 7) rfl sc_x_law_reports.nd rfl (Or.inl rfl))) (fun _ _ _ _ _ => (sts_one (st_cmp (op_eq2 hr.u64) od_eq (se_o (so_fn takesN0 F_x_law_pull (hr.mono (by first | decide | omega)) rfl (sa_io (pv 0) (sa_d se_int sa_nil)) (len_io (len_d len_nil)))) se_int (nomark _)))) (fun _ _ _ _ _ => (se_var (pv 7)))) (sb_cons (ss_set (i := 5) rfl sc_x_law_reports.nd rfl (Or.inl rfl) (so_p (se_if (st_cmp (op_ne2 hr.u64) od_ne (se_var (pv 5)) (se_lst sa_nil) (nomark _)) (se_var (pv 5)) (se_lst (sa_d (se_o (so_fn takesN0 F_x_law_pull (hr.mono (by first | decide | omega)) rfl (sa_io (pv 0) (sa_d (se_var (pv 1)) sa_nil)) (len_io (len_d len_nil)))) sa_nil))))) (sb_cons (ss_set (i := 6) rfl sc_x_law_reports.nd rfl (Or.inl rfl) (so_p (se_if (st_cmp op_gt od_gt (se_o (so_fn takesN0 F_x_law_pull (hr.mono (by first | decide | omega)) rfl (sa_io (pv 0) (sa_d se_int sa_nil)) (len_io (len_d len_nil)))) se_int (nomark _)) (se_o (so_fn takesN0 F_x_law_part (hr.mono (by first | decide | omega)) rfl (sa_io (pv 0) (sa_d (se_var (pv 5)) sa_nil)) (len_io (len_d len_nil)))) (se_lst sa_nil)))) (sb_cons (ss_if (SW.st (sw_and (st_cmp (op_eq2 hr.u64) od_eq (se_var (pv 6)) (se_lst sa_nil) (nomark _)) (sw_and1 (st_cmp op_gt od_gt (se_o (so_fn takesN0 F_x_law_pull (hr.mono (by first | decide | omega)) rfl (sa_io (pv 0) (sa_d se_int sa_nil)) (len_io (len_d len_nil)))) se_int (nomark _))))) (sb_one (ss_set (i := 6) rfl sc_x_law_reports.nd rfl (Or.inl rfl) (so_p (se_lst (sa_d (se_o (so_fn takesN0 F_x_law_of (hr.mono (by first | decide | omega)) rfl (sa_io (pv 0) (sa_d (se_var (pv 5)) sa_nil)) (len_io (len_d len_nil)))) sa_nil))))) sb_nil) (sb_one (ss_drop (so_appO (pv 3) (so_p (se_tup (sa_d (se_callTy call_tuple_of cd_tuple rfl T.n_tuple (by rfl) (sa_d (se_var (pv 5)) sa_nil)) (sa_d (se_callTy call_tuple_of cd_tuple rfl T.n_tuple (by rfl) (sa_d (se_var (pv 6)) sa_nil)) sa_nil)))))))))))))) sb_nil) (sb_one (ss_fzL (lName 3) (ss_ret (so_p (se_var (pv 3))))))))⟩
theorem ok_x_law_problem (T : Facts K mg) (F_x_law_pairs : Fn P w K mg base 2 "_law_pairs" ["_law_bag_here", "_law_size_z", "_law_most"] f_x_law_pairs) (F_x_law_pull : Fn P w K mg base 1 "_law_pull" ["_law_bag_here", "_law_sides"] f_x_law_pull) (F_x_law_reports : Fn P w K mg base 3 "_law_reports" ["_law_bag_here", "_law_size_z", "_law_most"] f_x_law_reports) : Fn P w K mg base 4 "_law_problem" ["_law_bag_here", "_law_most"] f_x_law_problem := by
  obtain ⟨fd, F⟩ := T.d_x_law_problem
  exact ⟨_, fd, T.g_x_law_problem, F.kp, FunD.bindsN F (fun _ _ _ _ _ _ us hl => match us, hl with | [_, _], _ => rfl), fn_sem F sc_x_law_problem rfl fun cdv A outer s H E hr z => (sb_cons (ss_set (i := 2) rfl sc_x_law_problem.nd rfl (Or.inl rfl) (so_fn z.tk F_x_law_pull (hr.mono (by first | decide | omega)) rfl (sa_io (pv 0) (sa_d (se_op op_addD od_add (se_var (pv 1)) se_int) sa_nil)) (len_io (len_d len_nil)))) (sb_one (ss_ret (so_tupW (saw_cons (so_p (se_var (pv 2))) (saw_cons (so_fn z.tk F_x_law_pairs (hr.mono (by first | decide | omega)) rfl (sa_io (pv 0) (sa_d (se_var (pv 2)) (sa_d se_int sa_nil))) (len_io (len_d (len_d len_nil)))) (saw_cons (so_fn z.tk F_x_law_reports (hr.mono (by first | decide | omega)) rfl (sa_io (pv 0) (sa_d (se_var (pv 2)) (sa_d se_int sa_nil))) (len_io (len_d (len_d len_nil)))) saw_nil)))))))⟩
theorem ok_x_law_mixed (T : Facts K mg) (F_x_law_pull : Fn P w K mg base 1 "_law_pull" ["_law_bag_here", "_law_sides"] f_x_law_pull) : Fn P w K mg base 2 "_law_mixed" ["_law_bag_here", "_law_some"] f_x_law_mixed := by
  obtain ⟨fd, F⟩ := T.d_x_law_mixed
  exact ⟨_, fd, T.g_x_law_mixed, F.kp, FunD.bindsN F (fun _ _ _ _ _ _ us hl => match us, hl with | [_, _], _ => rfl), fn_sem F sc_x_law_mixed rfl fun cdv A outer s H E hr z => (sb_cons (ss_set (i := 2) rfl sc_x_law_mixed.nd rfl (Or.inl rfl) (so_lstW saw_nil)) (sb_cons (ss_for z.po rfl (si_seq (se_var (pv 1))) (sg_name (i := 3) rfl sc_x_law_mixed.nd rfl (Or.inl rfl)) (sb_kill [3] (sb_one (ss_drop (so_p (se_metN PySem.F.slot_list_insert PySem.F.type_list_insert mt_insert met_insert mtt_insert (pv 2) (sa_d (se_o (so_fn takesN0 F_x_law_pull (hr.mono (by first | decide | omega)) rfl (sa_io (pv 0) (sa_d (se_op op_addD od_add (SV.se (sv_lenW rfl T.n_len (sl_name (pv 2)))) se_int) sa_nil)) (len_io (len_d len_nil)))) (sa_d (se_var (pv 3)) sa_nil)))))))) (sb_one (ss_fzL (lName 2) (ss_ret (so_p (se_var (pv 2))))))))⟩
theorem ok_x_law_bent_order (T : Facts K mg) (F_x_law_of : Fn P w K mg base 2 "_law_of" ["_law_bag_here", "_law_some"] f_x_law_of) (F_x_law_pull : Fn P w K mg base 1 "_law_pull" ["_law_bag_here", "_law_sides"] f_x_law_pull) : Fn P w K mg base 3 "_law_bent_order" ["_law_bag_here", "_law_order_z"] f_x_law_bent_order := by
  obtain ⟨fd, F⟩ := T.d_x_law_bent_order
  exact ⟨_, fd, T.g_x_law_bent_order, F.kp, FunD.bindsN F (fun _ _ _ _ _ _ us hl => match us, hl with | [_, _], _ => rfl), fn_sem F sc_x_law_bent_order rfl fun cdv A outer s H E hr z => (sb_cons (ss_par2 rfl rfl rfl sc_x_law_bent_order.nd (i := 2) (j := 3) rfl rfl (by decide) rfl rfl (saw_cons (so_fn z.tk F_x_law_pull (hr.mono (by first | decide | omega)) rfl (sa_io (pv 0) (sa_d (se_op op_addD od_add (se_callB call_len cd_len rfl T.n_len boot_len (sa_d (se_var (pv 1)) sa_nil)) se_int) sa_nil)) (len_io (len_d len_nil))) (saw_cons (so_fn z.tk F_x_law_pull (hr.mono (by first | decide | omega)) rfl (sa_io (pv 0) (sa_d se_int sa_nil)) (len_io (len_d len_nil))) saw_nil)) rfl) (sb_cons (ss_if (st_cmp (op_eq2 hr.u64) od_eq (se_var (pv 3)) se_int (nomark _)) (sb_one (ss_ret (so_p (se_op op_addD od_add (se_slice (se_var (pv 1)) spo_none (spo_some (se_var (pv 2)))) (se_slice (se_var (pv 1)) (spo_some (se_op op_addD od_add (se_var (pv 2)) se_int)) spo_none))))) sb_nil) (sb_cons (ss_if (st_cmp (op_eq2 hr.u64) od_eq (se_var (pv 3)) se_int (nomark _)) (sb_one (ss_ret (so_p (se_op op_addD od_add (se_op op_addD od_add (se_slice (se_var (pv 1)) spo_none (spo_some (se_var (pv 2)))) (se_lst (sa_d (se_o (so_fn takesN0 F_x_law_of (hr.mono (by first | decide | omega)) rfl (sa_io (pv 0) (sa_d (se_lst (sa_d se_int (sa_d (se_neg se_int) (sa_d (se_callB call_len cd_len rfl T.n_len boot_len (sa_d (se_var (pv 1)) sa_nil)) (sa_d (se_op op_pow od_pow se_int se_int) sa_nil))))) sa_nil)) (len_io (len_d len_nil)))) sa_nil))) (se_slice (se_var (pv 1)) (spo_some (se_var (pv 2))) spo_none))))) sb_nil) (sb_cons (ss_if (SW.st (sw_and (st_cmp (op_eq2 hr.u64) od_eq (se_var (pv 3)) se_int (nomark _)) (sw_and1 (st_cmp op_lt od_lt (se_var (pv 2)) (se_callB call_len cd_len rfl T.n_len boot_len (sa_d (se_var (pv 1)) sa_nil)) (nomark _))))) (sb_one (ss_ret (so_p (se_op op_addD od_add (se_op op_addD od_add (se_slice (se_var (pv 1)) spo_none (spo_some (se_var (pv 2)))) (se_lst (sa_d (se_o (so_fn takesN0 F_x_law_of (hr.mono (by first | decide | omega)) rfl (sa_io (pv 0) (sa_d (se_var (pv 1)) sa_nil)) (len_io (len_d len_nil)))) sa_nil))) (se_slice (se_var (pv 1)) (spo_some (se_op op_addD od_add (se_var (pv 2)) se_int)) spo_none))))) sb_nil) (sb_one (ss_ret (so_p (se_var (pv 1)))))))))⟩
theorem ok_x_law_agrees (T : Facts K mg)  : Fn P w K mg base 1 "_law_agrees" ["_law_pairs_z", "_law_reports_z", "_law_order_z"] f_x_law_agrees := by
  obtain ⟨fd, F⟩ := T.d_x_law_agrees
  exact ⟨_, fd, T.g_x_law_agrees, F.kp, FunD.bindsN F (fun _ _ _ _ _ _ us hl => match us, hl with | [_, _, _], _ => rfl), fn_sem F sc_x_law_agrees rfl fun cdv A outer s H E hr z => (sb_cons (ss_if (st_tru (se_callB (cr_any rfl) cd_any rfl T.n_any (by rfl) (sa_d (se_lc (own := [("_law_one", 3), ("_law_two", 4)]) rfl sc_x_law_agrees.nd (blkOk_by (N := N_x_law_agrees) (sc := (defScope s_x_law_agrees)) (by decide +kernel)) (si_seq (se_var (pv 0))) (fun _ _ _ _ _ => (sg_tup (n := 2) rfl (sgs_cons (sg_name (i := 3) rfl sc_x_law_agrees.nd rfl (Or.inl rfl)) (sgs_cons (sg_name (i := 4) rfl sc_x_law_agrees.nd rfl (Or.inl rfl)) sgs_nil)))) (fun _ _ _ _ _ => sts_nil) (fun _ _ _ _ _ => (se_cmp op_gt od_gt (se_idx (se_var (pv 2)) (se_var (pv 3))) (se_idx (se_var (pv 2)) (se_var (pv 4))) (nomark _)))) sa_nil)) (fun _ => rfl)) (sb_one (ss_ret (so_p se_bl))) sb_nil) (sb_one (ss_ret (so_p (se_callB (cr_all rfl) cd_all rfl T.n_all (by rfl) (sa_d (se_lc (own := [("_law_slots", 5), ("_law_good", 6)]) rfl sc_x_law_agrees.nd (blkOk_by (N := N_x_law_agrees) (sc := (defScope s_x_law_agrees)) (by decide +kernel)) (si_seq (se_var (pv 1))) (fun _ _ _ _ _ => (sg_tup (n := 2) rfl (sgs_cons (sg_name (i := 5) rfl sc_x_law_agrees.nd rfl (Or.inr rfl)) (sgs_cons (sg_name (i := 6) rfl sc_x_law_agrees.nd rfl (Or.inl rfl)) sgs_nil)))) (fun _ _ _ _ _ => sts_nil) (fun _ _ _ _ _ => (se_cmp (op_inG hr.u65) od_in (se_ix (se_lc (own := [("_law_slot", 7)]) rfl sc_x_law_agrees.nd (blkOk_by (N := N_x_law_agrees) (sc := (relS _ (defScope s_x_law_agrees))) (by decide +kernel)) (si_seq (se_var (pv 2))) (fun _ _ _ _ _ => (sg_name (i := 7) rfl sc_x_law_agrees.nd rfl (Or.inl rfl))) (fun _ _ _ _ _ => (sts_one (st_cmp (op_inG hr.u65) od_in (se_var (pv 7)) (se_var (pv 5)) (by with_unfolding_all rfl)))) (fun _ _ _ _ _ => (se_var (pv 7)))) se_int (fun _ _ => rfl)) (se_var (pv 6)) (by with_unfolding_all rfl)))) sa_nil))))))⟩
theorem ok_is_ascending (T : Facts K mg)  : Fn P w K mg base 1 "is_ascending" ["some", "size"] f_is_ascending := by
  obtain ⟨fd, F⟩ := T.d_is_ascending
  exact ⟨_, fd, T.g_is_ascending, F.kp, FunD.bindsN F (fun _ _ _ _ _ _ us hl => match us, hl with | [_, _], _ => rfl), fn_sem F sc_is_ascending rfl fun cdv A outer s H E hr z => (sb_cons (ss_set (i := 2) rfl sc_is_ascending.nd rfl (Or.inl rfl) (so_p (se_callB (cr_all rfl) cd_all rfl T.n_all (by rfl) (sa_d (se_lc (own := [("slot", 3)]) rfl sc_is_ascending.nd (blkOk_by (N := N_is_ascending) (sc := (defScope s_is_ascending)) (by decide +kernel)) (si_seq (se_var (pv 0))) (fun _ _ _ _ _ => (sg_name (i := 3) rfl sc_is_ascending.nd rfl (Or.inl rfl))) (fun _ _ _ _ _ => sts_nil) (fun _ _ _ _ _ => (se_chain op_le od_le op_lt od_lt se_int (se_var (pv 3)) (se_var (pv 1))))) sa_nil)))) (sb_one (ss_ret (so_p (se_and (se_var (pv 2)) (se_one (se_callB (cr_all rfl) cd_all rfl T.n_all (by rfl) (sa_d (se_lc (own := [("one", 4), ("other", 5)]) rfl sc_is_ascending.nd (blkOk_by (N := N_is_ascending) (sc := (defScope s_is_ascending)) (by decide +kernel)) (si_zip rfl T.n_zip (sa_d (se_var (pv 0)) (sa_d (se_slice (se_var (pv 0)) (spo_some se_int) spo_none) sa_nil))) (fun _ _ _ _ _ => (sg_tup (n := 2) rfl (sgs_cons (sg_name (i := 4) rfl sc_is_ascending.nd rfl (Or.inl rfl)) (sgs_cons (sg_name (i := 5) rfl sc_is_ascending.nd rfl (Or.inl rfl)) sgs_nil)))) (fun _ _ _ _ _ => sts_nil) (fun _ _ _ _ _ => (se_cmp op_lt od_lt (se_var (pv 4)) (se_var (pv 5)) (nomark _)))) sa_nil))))))))⟩
theorem ok_check_problem (T : Facts K mg) (F_is_ascending : Fn P w K mg base 1 "is_ascending" ["some", "size"] f_is_ascending) : Fn P w K mg base 2 "check_problem" ["size", "pairs", "reports"] f_check_problem := by
  obtain ⟨fd, F⟩ := T.d_check_problem
  exact ⟨_, fd, T.g_check_problem, F.kp, FunD.bindsN F (fun _ _ _ _ _ _ us hl => match us, hl with | [_, _, _], _ => rfl), fn_sem F sc_check_problem rfl fun cdv A outer s H E hr z => (sb_cons (ss_if (st_not (st_chain op_le od_le op_le od_le se_int (se_var (pv 0)) (se_globI rfl T.c_MAX_SLOTS))) (sb_one ss_never) sb_nil) (sb_cons (ss_for z.po rfl (si_enum rfl T.n_enumerate (sa_d (se_var (pv 1)) sa_nil)) (sg_tup (n := 2) rfl (sgs_cons (sg_name (i := 3) rfl sc_check_problem.nd rfl (Or.inl rfl)) (sgs_cons (sg_tup (n := 2) rfl (sgs_cons (sg_name (i := 4) rfl sc_check_problem.nd rfl (Or.inl rfl)) (sgs_cons (sg_name (i := 5) rfl sc_check_problem.nd rfl (Or.inl rfl)) sgs_nil))) sgs_nil))) (sb_kill [3, 4, 5] (sb_one (ss_if (SW.st (sw_or (st_cmp (op_eq2 hr.u64) od_eq (se_var (pv 4)) (se_var (pv 5)) (nomark _)) (sw_or (st_not (st_chain op_le od_le op_lt od_lt se_int (se_var (pv 4)) (se_var (pv 0)))) (sw_or1 (st_not (st_chain op_le od_le op_lt od_lt se_int (se_var (pv 5)) (se_var (pv 0)))))))) (sb_one ss_never) sb_nil)))) (sb_one (ss_for z.po rfl (si_enum rfl T.n_enumerate (sa_d (se_var (pv 2)) sa_nil)) (sg_tup (n := 2) rfl (sgs_cons (sg_name (i := 3) rfl sc_check_problem.nd rfl (Or.inl rfl)) (sgs_cons (sg_tup (n := 2) rfl (sgs_cons (sg_name (i := 6) rfl sc_check_problem.nd rfl (Or.inr rfl)) (sgs_cons (sg_name (i := 7) rfl sc_check_problem.nd rfl (Or.inl rfl)) sgs_nil))) sgs_nil))) (sb_kill [3, 6, 7, 8, 9] (sb_cons (ss_set (i := 8) rfl sc_check_problem.nd rfl (Or.inl rfl) (so_p (se_and (se_o (so_fn takesN0 F_is_ascending (hr.mono (by first | decide | omega)) rfl (sa_d (se_var (pv 6)) (sa_d (se_var (pv 0)) sa_nil)) (len_d (len_d len_nil)))) (se_and (se_o (so_fn takesN0 F_is_ascending (hr.mono (by first | decide | omega)) rfl (sa_d (se_var (pv 7)) (sa_d (se_var (pv 0)) sa_nil)) (len_d (len_d len_nil)))) (se_one (se_cmp op_gt od_gt (se_callB call_len cd_len rfl T.n_len boot_len (sa_d (se_var (pv 6)) sa_nil)) se_int (nomark _))))))) (sb_one (ss_if (SW.st (sw_or (st_not (st_tru (se_var (pv 8)) (fun _ => rfl))) (sw_or1 (st_not (st_tru (se_callB (cr_all rfl) cd_all rfl T.n_all (by rfl) (sa_d (se_lc (own := [("slot", 9)]) rfl sc_check_problem.nd (blkOk_by (N := N_check_problem) (sc := (defScope s_check_problem)) (by decide +kernel)) (si_seq (se_var (pv 7))) (fun _ _ _ _ _ => (sg_name (i := 9) rfl sc_check_problem.nd rfl (Or.inl rfl))) (fun _ _ _ _ _ => sts_nil) (fun _ _ _ _ _ => (se_cmp (op_inG hr.u65) od_in (se_var (pv 9)) (se_var (pv 6)) (by with_unfolding_all rfl)))) sa_nil)) (fun _ => rfl)))))) (sb_one ss_never) sb_nil))))))))⟩
theorem okk_agrees (T : Facts K mg) (F_check_problem : Fn P w K mg base 2 "check_problem" ["size", "pairs", "reports"] f_check_problem) (LF_agrees : LamF K mg base ("agrees", none) ((("agrees" : Str) ++ ".<locals>.") ++ "<lambda>")) : Fn P w K mg base 3 "agrees" ["size", "pairs", "reports", "order"] f_agrees ∧ FnK P w K mg base 3 "agrees" ["size", "pairs", "reports", "order"] ["order", "reports", "pairs", "size"] [3, 2, 1, 0] f_agrees := by
  obtain ⟨fd, F⟩ := T.d_agrees
  have FO : FnOk P w K mg base (L2N.CX P w) 3 _ fd ["size", "pairs", "reports", "order"] (spF K mg 4 f_agrees) := fn_semL ("agrees", none) F sc_agrees rfl fun cdv hcd A outer s H E hr z => (sb_cons (ss_drop (so_fn z.tk F_check_problem (hr.mono (by first | decide | omega)) rfl (sa_d (se_var (pv 0)) (sa_d (se_var (pv 1)) (sa_d (se_var (pv 2)) sa_nil))) (len_d (len_d (len_d len_nil))))) (sb_cons (ss_if (st_cmp (op_ne2 hr.u64) od_ne (se_callB cr_sortA cd_sortA rfl T.n_sorted (by rfl) (sa_d (se_var (pv 3)) sa_nil)) (se_listRg1 rfl rfl T.n_list rfl T.n_range (se_var (pv 0))) (nomark _)) (sb_one (ss_ret (so_p se_bl))) sb_nil) (sb_cons (ss_set (i := 4) rfl sc_agrees.nd rfl (Or.inr rfl) (so_dc (own := [("at", 5), ("slot", 6)]) rfl sc_agrees.nd (blkOk_by (N := N_agrees) (sc := (defScope s_agrees)) (by decide +kernel)) (si_enumA rfl T.n_enumerate (sa_d (se_var (pv 3)) sa_nil)) (fun _ _ _ _ _ => (sg_tup (n := 2) rfl (sgs_cons (sg_name (i := 5) rfl sc_agrees.nd rfl (Or.inl rfl)) (sgs_cons (sg_name (i := 6) rfl sc_agrees.nd rfl (Or.inl rfl)) sgs_nil)))) (fun _ _ _ _ _ => sts_nil) (fun _ _ _ _ _ => (se_var (pv 6))) (fun _ _ _ _ _ => (so_p (se_var (pv 5)))))) (sb_cons (ss_if (st_tru (se_callB (cr_any rfl) cd_any rfl T.n_any (by rfl) (sa_d (se_lc (own := [("one", 7), ("other", 8)]) rfl sc_agrees.nd (blkOk_by (N := N_agrees) (sc := (defScope s_agrees)) (by decide +kernel)) (si_seq (se_var (pv 1))) (fun _ _ _ _ _ => (sg_tup (n := 2) rfl (sgs_cons (sg_name (i := 7) rfl sc_agrees.nd rfl (Or.inl rfl)) (sgs_cons (sg_name (i := 8) rfl sc_agrees.nd rfl (Or.inl rfl)) sgs_nil)))) (fun _ _ _ _ _ => sts_nil) (fun _ _ _ _ _ => (se_cmp op_gt od_gt (SV.se (sv_read (sl_key hr.u1 (sl_name (pv 4)) (sv_var (pv 7)) (fun _ _ => rfl)))) (SV.se (sv_read (sl_key hr.u1 (sl_name (pv 4)) (sv_var (pv 8)) (fun _ _ => rfl)))) (nomark _)))) sa_nil)) (fun _ => rfl)) (sb_one (ss_ret (so_p se_bl))) sb_nil) (sb_one (ss_ret (so_p (se_callB (cr_all rfl) cd_all rfl T.n_all (by rfl) (sa_d (se_lc (own := [("slots", 9), ("good", 10)]) rfl sc_agrees.nd (blkOk_by (N := N_agrees) (sc := (defScope s_agrees)) (by decide +kernel)) (si_seq (se_var (pv 2))) (fun _ _ _ _ _ => (sg_tup (n := 2) rfl (sgs_cons (sg_name (i := 9) rfl sc_agrees.nd rfl (Or.inl rfl)) (sgs_cons (sg_name (i := 10) rfl sc_agrees.nd rfl (Or.inl rfl)) sgs_nil)))) (fun _ _ _ _ _ => sts_nil) (fun _ _ _ _ _ => (se_cmp (op_inG hr.u65) od_in (se_minKey rfl sc_agrees.nd (j := 6) rfl rfl T.n_min (by rfl) (se_var (pv 9)) hcd rfl rfl LF_agrees (LamK.lamP_by (sc := (relS _ (defScope s_agrees))) (by decide +kernel)) rfl (hr.mono (by decide)) (fun _ _ _ _ _ _ => rfl) (fun _ _ _ _ _ _ hr => (sv_read (sl_key hr.u1 (sl_name (pv 4)) (sv_var (pv 6)) (fun _ _ => rfl))))) (se_var (pv 10)) (by with_unfolding_all rfl)))) sa_nil)))))))))
  exact ⟨⟨_, fd, T.g_agrees, F.kp, FunD.bindsN F (fun _ _ _ _ _ _ us hl => match us, hl with | [_, _, _, _], _ => rfl), FO⟩, ⟨_, fd, T.g_agrees, F.kp, FunD.kb F (fun _ _ _ _ _ _ us hl => match us, hl with | [_, _, _, _], _ => rfl), FO⟩⟩
theorem ok_agrees (T : Facts K mg) (F_check_problem : Fn P w K mg base 2 "check_problem" ["size", "pairs", "reports"] f_check_problem) (LF_agrees : LamF K mg base ("agrees", none) ((("agrees" : Str) ++ ".<locals>.") ++ "<lambda>")) : Fn P w K mg base 3 "agrees" ["size", "pairs", "reports", "order"] f_agrees := (okk_agrees T F_check_problem LF_agrees).1
theorem kw_0 (T : Facts K mg) (F_check_problem : Fn P w K mg base 2 "check_problem" ["size", "pairs", "reports"] f_check_problem) (LF_agrees : LamF K mg base ("agrees", none) ((("agrees" : Str) ++ ".<locals>.") ++ "<lambda>")) : FnK P w K mg base 3 "agrees" ["size", "pairs", "reports", "order"] ["order", "reports", "pairs", "size"] [3, 2, 1, 0] f_agrees := (okk_agrees T F_check_problem LF_agrees).2
theorem ok_x_law_free (T : Facts K mg)  : Fn P w K mg base 1 "_law_free" ["_law_slot", "_law_left", "_law_pairs_z", "_law_reports_z"] f_x_law_free := by
  obtain ⟨fd, F⟩ := T.d_x_law_free
  exact ⟨_, fd, T.g_x_law_free, F.kp, FunD.bindsN F (fun _ _ _ _ _ _ us hl => match us, hl with | [_, _, _, _], _ => rfl), fn_sem F sc_x_law_free rfl fun cdv A outer s H E hr z => (sb_cons (ss_if (st_tru (se_callB (cr_any rfl) cd_any rfl T.n_any (by rfl) (sa_d (se_lc (own := [("_law_one", 6), ("_law_two", 7)]) rfl sc_x_law_free.nd (blkOk_by (N := N_x_law_free) (sc := (defScope s_x_law_free)) (by decide +kernel)) (si_seq (se_var (pv 2))) (fun _ _ _ _ _ => (sg_tup (n := 2) rfl (sgs_cons (sg_name (i := 6) rfl sc_x_law_free.nd rfl (Or.inl rfl)) (sgs_cons (sg_name (i := 7) rfl sc_x_law_free.nd rfl (Or.inl rfl)) sgs_nil)))) (fun _ _ _ _ _ => sts_nil) (fun _ _ _ _ _ => (se_and (se_cmp (op_eq2 hr.u64) od_eq (se_var (pv 7)) (se_var (pv 0)) (nomark _)) (se_one (se_cmp (op_inG hr.u65) od_in (se_var (pv 6)) (se_var (pv 1)) (by with_unfolding_all rfl)))))) sa_nil)) (fun _ => rfl)) (sb_one (ss_ret (so_p se_bl))) sb_nil) (sb_cons (ss_for z.po rfl (si_seq (se_var (pv 3))) (sg_tup (n := 2) rfl (sgs_cons (sg_name (i := 4) rfl sc_x_law_free.nd rfl (Or.inl rfl)) (sgs_cons (sg_name (i := 5) rfl sc_x_law_free.nd rfl (Or.inl rfl)) sgs_nil))) (sb_kill [4, 5, 6] (sb_one (ss_if (SW.st (sw_and (st_cmp (op_inG hr.u65) od_in (se_var (pv 0)) (se_var (pv 4)) (by with_unfolding_all rfl)) (sw_and (st_cmp (op_ninG hr.u65) od_notIn (se_var (pv 0)) (se_var (pv 5)) (by with_unfolding_all rfl)) (sw_and1 (st_tru (se_callB (cr_all rfl) cd_all rfl T.n_all (by rfl) (sa_d (se_lc (own := [("_law_one", 6)]) rfl sc_x_law_free.nd (blkOk_by (N := N_x_law_free) (sc := (defScope s_x_law_free)) (by decide +kernel)) (si_seq (se_var (pv 4))) (fun _ _ _ _ _ => (sg_name (i := 6) rfl sc_x_law_free.nd rfl (Or.inl rfl))) (fun _ _ _ _ _ => sts_nil) (fun _ _ _ _ _ => (se_cmp (op_inG hr.u65) od_in (se_var (pv 6)) (se_var (pv 1)) (by with_unfolding_all rfl)))) sa_nil)) (fun _ => rfl)))))) (sb_one (ss_ret (so_p se_bl))) sb_nil)))) (sb_one (ss_ret (so_p se_bl)))))⟩
theorem ok_x_law_layers (T : Facts K mg) (F_x_law_free : Fn P w K mg base 1 "_law_free" ["_law_slot", "_law_left", "_law_pairs_z", "_law_reports_z"] f_x_law_free) : Fn P w K mg base 2 "_law_layers" ["_law_size_z", "_law_pairs_z", "_law_reports_z"] f_x_law_layers := by
  obtain ⟨fd, F⟩ := T.d_x_law_layers
  exact ⟨_, fd, T.g_x_law_layers, F.kp, FunD.bindsN F (fun _ _ _ _ _ _ us hl => match us, hl with | [_, _, _], _ => rfl), fn_sem F sc_x_law_layers rfl fun cdv A outer s H E hr z => (sb_cons (ss_parT (is := [3, 4]) rfl rfl (pgs_cons (pg_name (i := 3) sc_x_law_layers.nd rfl (Or.inl rfl)) (pgs_cons (pg_name (i := 4) sc_x_law_layers.nd rfl (Or.inr rfl)) pgs_nil)) (saw_cons (so_lstW saw_nil) (saw_cons (so_p (se_listRg1 rfl rfl T.n_list rfl T.n_range (se_var (pv 0)))) saw_nil))) (sb_cons (ss_for z.po rfl (si_range1 rfl T.n_range (sa_d (se_var (pv 0)) sa_nil)) (sg_name (i := 5) rfl sc_x_law_layers.nd rfl (Or.inl rfl)) (sb_kill [5, 6, 7] (sb_cons (ss_set (i := 6) rfl sc_x_law_layers.nd rfl (Or.inr rfl) (so_p (se_lc (own := [("_law_slot", 7)]) rfl sc_x_law_layers.nd (blkOk_by (N := N_x_law_layers) (sc := (defScope s_x_law_layers)) (by decide +kernel)) (si_seq (se_var (pv 4))) (fun _ _ _ _ _ => (sg_name (i := 7) rfl sc_x_law_layers.nd rfl (Or.inl rfl))) (fun _ _ _ _ _ => (sts_one (st_tru (se_o (so_fn takesN0 F_x_law_free (hr.mono (by first | decide | omega)) rfl (sa_d (se_var (pv 7)) (sa_d (se_var (pv 4)) (sa_d (se_var (pv 1)) (sa_d (se_var (pv 2)) sa_nil)))) (len_d (len_d (len_d (len_d len_nil)))))) (fun _ => rfl)))) (fun _ _ _ _ _ => (se_var (pv 7)))))) (sb_one (ss_if (st_cmp (op_ne2 hr.u64) od_ne (se_var (pv 6)) (se_lst sa_nil) (nomark _)) (sb_cons (ss_drop (so_appO (pv 3) (so_p (se_var (pv 6))))) (sb_one (ss_set (i := 4) rfl sc_x_law_layers.nd rfl (Or.inr rfl) (so_p (se_lc (own := [("_law_slot", 7)]) rfl sc_x_law_layers.nd (blkOk_by (N := N_x_law_layers) (sc := (defScope s_x_law_layers)) (by decide +kernel)) (si_seq (se_var (pv 4))) (fun _ _ _ _ _ => (sg_name (i := 7) rfl sc_x_law_layers.nd rfl (Or.inl rfl))) (fun _ _ _ _ _ => (sts_one (st_cmp (op_ninG hr.u65) od_notIn (se_var (pv 7)) (se_var (pv 6)) (by with_unfolding_all rfl)))) (fun _ _ _ _ _ => (se_var (pv 7)))))))) sb_nil))))) (sb_one (ss_fzL (lName 3) (ss_ret (so_p (se_tup (sa_d (se_var (pv 3)) (sa_d (se_var (pv 4)) sa_nil)))))))))⟩
theorem okd_law (T : Facts K mg) (F_x_law_agrees : Fn P w K mg base 1 "_law_agrees" ["_law_pairs_z", "_law_reports_z", "_law_order_z"] f_x_law_agrees) (F_x_law_bag : Fn P w K mg base 1 "_law_bag" ["_law_script"] f_x_law_bag) (F_x_law_bent_order : Fn P w K mg base 3 "_law_bent_order" ["_law_bag_here", "_law_order_z"] f_x_law_bent_order) (F_x_law_layers : Fn P w K mg base 2 "_law_layers" ["_law_size_z", "_law_pairs_z", "_law_reports_z"] f_x_law_layers) (F_x_law_mixed : Fn P w K mg base 2 "_law_mixed" ["_law_bag_here", "_law_some"] f_x_law_mixed) (F_x_law_problem : Fn P w K mg base 4 "_law_problem" ["_law_bag_here", "_law_most"] f_x_law_problem) (F_x_law_pull : Fn P w K mg base 1 "_law_pull" ["_law_bag_here", "_law_sides"] f_x_law_pull) (F_x_law_same : Fn P w K mg base 11 "_law_same" ["_law_found", "_law_due"] (f_x_law_same 10)) (F_agrees : Fn P w K mg base 3 "agrees" ["size", "pairs", "reports", "order"] f_agrees) (K0 : FnK P w K mg base 3 "agrees" ["size", "pairs", "reports", "order"] ["order", "reports", "pairs", "size"] [3, 2, 1, 0] f_agrees) {fd : FuncData} (F : FunD K "law" "law" (defArgs s_law) (defBody s_law) (defScope s_law) [] [] (He.ga K "law") fd) : FnOk P w K mg base (L2N.CX P w) 12 (He.ga K "law") fd ["_law_script"] (spF K mg 1 f_law) := fn_sem F sc_law rfl fun cdv A outer s H E hr z => (sb_cons (ss_set (i := 1) rfl sc_law.nd rfl (Or.inl rfl) (so_fn z.tk F_x_law_bag (hr.mono (by first | decide | omega)) rfl (sa_d (se_var (pv 0)) sa_nil) (len_d len_nil))) (sb_cons (ss_for z.po rfl (si_range1 rfl T.n_range (sa_d se_int sa_nil)) (sg_name (i := 2) rfl sc_law.nd rfl (Or.inl rfl)) (sb_kill [2, 3, 4, 5, 6, 7, 8, 9, 10] (sb_cons (ss_asg (se_o (so_fn takesN0 F_x_law_problem (hr.mono (by first | decide | omega)) rfl (sa_io (pv 1) (sa_d se_int sa_nil)) (len_io (len_d len_nil)))) (sg_tup (n := 3) rfl (sgs_cons (sg_name (i := 3) rfl sc_law.nd rfl (Or.inl rfl)) (sgs_cons (sg_name (i := 4) rfl sc_law.nd rfl (Or.inl rfl)) (sgs_cons (sg_name (i := 5) rfl sc_law.nd rfl (Or.inl rfl)) sgs_nil))))) (sb_cons (ss_set (i := 6) rfl sc_law.nd rfl (Or.inl rfl) (so_fn z.tk F_x_law_mixed (hr.mono (by first | decide | omega)) rfl (sa_io (pv 1) (sa_d (se_listRg1 rfl rfl T.n_list rfl T.n_range (se_var (pv 3))) sa_nil)) (len_io (len_d len_nil)))) (sb_cons (ss_if (st_cmp (op_eq2 hr.u64) od_eq (se_o (so_fn takesN0 F_x_law_pull (hr.mono (by first | decide | omega)) rfl (sa_io (pv 1) (sa_d se_int sa_nil)) (len_io (len_d len_nil)))) se_int (nomark _)) (sb_cons (ss_set (i := 6) rfl sc_law.nd rfl (Or.inl rfl) (so_p (se_lst sa_nil))) (sb_one (ss_for z.po rfl (si_seq (se_ix (se_o (so_fn takesN0 F_x_law_layers (hr.mono (by first | decide | omega)) rfl (sa_d (se_var (pv 3)) (sa_d (se_var (pv 4)) (sa_d (se_var (pv 5)) sa_nil))) (len_d (len_d (len_d len_nil))))) se_int (fun _ _ => rfl))) (sg_name (i := 7) rfl sc_law.nd rfl (Or.inl rfl)) (sb_kill [7] (sb_one (ss_set (i := 6) rfl sc_law.nd rfl (Or.inl rfl) (so_p (se_op op_addD od_add (se_var (pv 6)) (se_var (pv 7)))))))))) sb_nil) (sb_cons (ss_set (i := 6) rfl sc_law.nd rfl (Or.inl rfl) (so_fn z.tk F_x_law_bent_order (hr.mono (by first | decide | omega)) rfl (sa_io (pv 1) (sa_d (se_var (pv 6)) sa_nil)) (len_io (len_d len_nil)))) (sb_cons (ss_set (i := 8) rfl sc_law.nd rfl (Or.inl rfl) (so_p (se_and (se_cmp (op_eq2 hr.u64) od_eq (se_callB cr_sorted cd_sortI rfl T.n_sorted (by rfl) (sa_d (se_var (pv 6)) sa_nil)) (se_listRg1 rfl rfl T.n_list rfl T.n_range (se_var (pv 3))) (nomark _)) (se_one (se_o (so_fn takesN0 F_x_law_agrees (hr.mono (by first | decide | omega)) rfl (sa_d (se_var (pv 4)) (sa_d (se_var (pv 5)) (sa_d (se_var (pv 6)) sa_nil))) (len_d (len_d (len_d len_nil))))))))) (sb_cons (ss_set (i := 9) rfl sc_law.nd rfl (Or.inl rfl) (so_p (se_lst (sa_d (se_callTy call_list_of cd_list rfl T.n_list (by rfl) (sa_d (se_var (pv 4)) sa_nil)) (sa_d (se_callTy call_list_of cd_list rfl T.n_list (by rfl) (sa_d (se_var (pv 5)) sa_nil)) (sa_d (se_callTy call_list_of cd_list rfl T.n_list (by rfl) (sa_d (se_var (pv 6)) sa_nil)) sa_nil)))))) (sb_cons (ss_set (i := 10) rfl sc_law.nd rfl (Or.inl rfl) (so_p (se_lst (sa_d (se_o (so_fn takesN0 F_agrees (hr.mono (by first | decide | omega)) rfl (sa_d (se_var (pv 3)) (sa_d (se_ix (se_var (pv 9)) se_int (fun _ _ => rfl)) (sa_d (se_ix (se_var (pv 9)) se_int (fun _ _ => rfl)) (sa_d (se_ix (se_var (pv 9)) se_int (fun _ _ => rfl)) sa_nil)))) (len_d (len_d (len_d (len_d len_nil)))))) (sa_d (se_o (so_fnK takesN0 K0 (hr.mono (by first | decide | omega)) rfl (sk_d (se_callTy call_tuple_of cd_tuple rfl T.n_tuple (by rfl) (sa_d (se_var (pv 6)) sa_nil)) (sk_d (se_var (pv 5)) (sk_d (se_var (pv 4)) (sk_d (se_var (pv 3)) sk_nil)))) (len_perm (by decide) (by decide) (len_d (len_d (len_d (len_d len_nil))))) (len_d (len_d (len_d (len_d len_nil)))))) sa_nil))))) (sb_one (ss_if (SW.st (sw_or (st_not (st_tru (se_o (so_fn takesN0 F_x_law_same (hr.mono (by first | decide | omega)) rfl (sa_d (se_var (pv 10)) (sa_d (se_lst (sa_d (se_var (pv 8)) (sa_d (se_var (pv 8)) sa_nil))) sa_nil)) (len_d (len_d len_nil)))) (fun _ => rfl))) (sw_or1 (st_cmp (op_ne2 hr.u64) od_ne (se_var (pv 9)) (se_lst (sa_d (se_var (pv 4)) (sa_d (se_var (pv 5)) (sa_d (se_var (pv 6)) sa_nil)))) (nomark _))))) (sb_one (ss_ret (so_p se_bl))) sb_nil))))))))))) (sb_one (ss_ret (so_fn z.tk F_x_law_same (hr.mono (by first | decide | omega)) rfl (sa_d (se_lst (sa_d (se_o (so_fn takesN0 F_agrees (hr.mono (by first | decide | omega)) rfl (sa_d se_int (sa_d (se_lst sa_nil) (sa_d (se_lst sa_nil) (sa_d (se_lst sa_nil) sa_nil)))) (len_d (len_d (len_d (len_d len_nil)))))) (sa_d (se_o (so_fn takesN0 F_agrees (hr.mono (by first | decide | omega)) rfl (sa_d se_int (sa_d (se_lst sa_nil) (sa_d (se_lst (sa_d (se_tup (sa_d (se_tup (sa_d se_int sa_nil)) (sa_d (se_tup sa_nil) sa_nil))) sa_nil)) (sa_d (se_lst (sa_d se_int sa_nil)) sa_nil)))) (len_d (len_d (len_d (len_d len_nil)))))) sa_nil))) (sa_d (se_lst (sa_d se_bl (sa_d se_bl sa_nil))) sa_nil)) (len_d (len_d len_nil)))))))
theorem all_law (T : Facts K mg) (LF_agrees : LamF K mg base ("agrees", none) ((("agrees" : Str) ++ ".<locals>.") ++ "<lambda>")) {fd : FuncData} (F : FunD K "law" "law" (defArgs s_law) (defBody s_law) (defScope s_law) [] [] (He.ga K "law") fd) : FnOk P w K mg base (L2N.CX P w) 12 (He.ga K "law") fd ["_law_script"] (spF K mg 1 f_law) := by
  have F_x_law_bag : Fn P w K mg base 1 "_law_bag" ["_law_script"] f_x_law_bag := ok_x_law_bag T 
  have F_x_law_same : Fn P w K mg base 11 "_law_same" ["_law_found", "_law_due"] (f_x_law_same 10) := ok_x_law_same T  10
  have F_x_law_pull : Fn P w K mg base 1 "_law_pull" ["_law_bag_here", "_law_sides"] f_x_law_pull := ok_x_law_pull T 
  have F_x_law_pairs : Fn P w K mg base 2 "_law_pairs" ["_law_bag_here", "_law_size_z", "_law_most"] f_x_law_pairs := ok_x_law_pairs T F_x_law_pull
  have F_x_law_part : Fn P w K mg base 2 "_law_part" ["_law_bag_here", "_law_some"] f_x_law_part := ok_x_law_part T F_x_law_pull
  have F_x_law_of : Fn P w K mg base 2 "_law_of" ["_law_bag_here", "_law_some"] f_x_law_of := ok_x_law_of T F_x_law_pull
  have F_x_law_reports : Fn P w K mg base 3 "_law_reports" ["_law_bag_here", "_law_size_z", "_law_most"] f_x_law_reports := ok_x_law_reports T F_x_law_of F_x_law_part F_x_law_pull
  have F_x_law_problem : Fn P w K mg base 4 "_law_problem" ["_law_bag_here", "_law_most"] f_x_law_problem := ok_x_law_problem T F_x_law_pairs F_x_law_pull F_x_law_reports
  have F_x_law_mixed : Fn P w K mg base 2 "_law_mixed" ["_law_bag_here", "_law_some"] f_x_law_mixed := ok_x_law_mixed T F_x_law_pull
  have F_x_law_bent_order : Fn P w K mg base 3 "_law_bent_order" ["_law_bag_here", "_law_order_z"] f_x_law_bent_order := ok_x_law_bent_order T F_x_law_of F_x_law_pull
  have F_x_law_agrees : Fn P w K mg base 1 "_law_agrees" ["_law_pairs_z", "_law_reports_z", "_law_order_z"] f_x_law_agrees := ok_x_law_agrees T 
  have F_is_ascending : Fn P w K mg base 1 "is_ascending" ["some", "size"] f_is_ascending := ok_is_ascending T 
  have F_check_problem : Fn P w K mg base 2 "check_problem" ["size", "pairs", "reports"] f_check_problem := ok_check_problem T F_is_ascending
  have F_agrees : Fn P w K mg base 3 "agrees" ["size", "pairs", "reports", "order"] f_agrees := ok_agrees T F_check_problem LF_agrees
  have K0 : FnK P w K mg base 3 "agrees" ["size", "pairs", "reports", "order"] ["order", "reports", "pairs", "size"] [3, 2, 1, 0] f_agrees := kw_0 T F_check_problem LF_agrees
  have F_x_law_free : Fn P w K mg base 1 "_law_free" ["_law_slot", "_law_left", "_law_pairs_z", "_law_reports_z"] f_x_law_free := ok_x_law_free T 
  have F_x_law_layers : Fn P w K mg base 2 "_law_layers" ["_law_size_z", "_law_pairs_z", "_law_reports_z"] f_x_law_layers := ok_x_law_layers T F_x_law_free
  exact okd_law T F_x_law_agrees F_x_law_bag F_x_law_bent_order F_x_law_layers F_x_law_mixed F_x_law_problem F_x_law_pull F_x_law_same F_agrees K0 F
end
end Lw
namespace Lw
open PySem L2 MV
/-! ### the bag -/
def bagW (ns : List Int) (a b c : Int) : W := .ol [.p (.lst (ns.map .int)), .p (.int a), .p (.int b), .p (.int c)]
def BagW (w : W) : Prop := ∃ ns a b c, w = bagW ns a b c ∧ 0 ≤ a ∧ a ≤ (ns.length : Int) ∧ 0 ≤ b ∧ 0 ≤ c ∧ c < 2147483647
theorem atI_ints {ns : List Int} {a : Int} (h0 : 0 ≤ a) (h1 : a < (ns.length : Int)) : ∃ v, L2.atI (ns.map D.int) a = some (.int v) := by
  refine ⟨ns[a.toNat]'(by omega), ?_⟩
  rw [atI_nn h0]
  simp
theorem pull_ok {w : W} (h : BagW w) {s : Int} (h0 : 0 < s) (h1 : s ≤ 1000000) : ∃ r w', f_x_law_pull [w, .p (.int s)] = some (.p (.int r), [some w', none]) ∧ 0 ≤ r ∧ r < s ∧ BagW w' := by
  obtain ⟨ns, a, b, c, rfl, ha, ha', hb, hc, hc'⟩ := h
  have hp : CPow 10 18 := by unfold CPow; decide
  have hcc : CMul c c := .inl (by omega)
  have cm1 : ∀ x : Int, CMul x 48271 := fun x => .inr (by omega)
  have cm2 : ∀ x : Int, CMul x 911 := fun x => .inr (by omega)
  have cm3 : ∀ x : Int, CMul x 16807 := fun x => .inr (by omega)
  have cm4 : ∀ x : Int, CMul x 40692 := fun x => .inr (by omega)
  have m1 : ∀ x : Int, 0 ≤ x % 2147483647 ∧ x % 2147483647 < 2147483647 := fun x => ⟨Int.emod_nonneg _ (by decide), Int.emod_lt_of_pos _ (by decide)⟩
  have m2 : ∀ x : Int, 0 ≤ x % s ∧ x % s < s := fun x => ⟨Int.emod_nonneg _ (by omega), Int.emod_lt_of_pos _ h0⟩
  have d1 : ∀ x : Int, CDiv x 64 := fun x => ⟨by decide, by decide⟩
  have d2 : ∀ x : Int, CDiv x s := fun x => ⟨h0, by omega⟩
  have hm : ∀ x : Int, CMul (x % 2147483647) (x % 2147483647) := fun x => .inl (by have := m1 x; omega)
  have fin : ∀ (ns : List Int) (a b c : Int), 0 ≤ a → a ≤ (ns.length : Int) → 0 ≤ b → 0 ≤ c → c < 2147483647 → BagW (bagW ns a b c) := fun ns a b c h1 h2 h3 h4 h5 => ⟨ns, a, b, c, rfl, h1, h2, h3, h4, h5⟩
  unfold f_x_law_pull fsem m_x_law_pull
  by_cases hb0 : b = 0
  · by_cases hal : a < (ns.length : Int)
    · obtain ⟨v, hv⟩ := atI_ints ha hal
      by_cases hv0 : v < 0
      · by_cases hg : (10 : Int) ^ 18 ≤ -v
        · have hg' : (1000000000000000000 : Int) ≤ -v := hg
          have hg2 : 0 < -v := by omega
          simp [bagW, hb0, hal, hv, hv0, hp, hg, hg', h0, d2, outs]
          refine ⟨_, _, ⟨rfl, rfl⟩, (m2 _).1, (m2 _).2, ?_⟩
          exact fin ns (a+1) _ c (by omega) (by omega) (Int.ediv_nonneg (by omega) (by omega)) hc hc'
        · have hg' : ¬ (1000000000000000000 : Int) ≤ -v := hg
          simp [bagW, hb0, hal, hv, hv0, hp, hg, hg', h0, d1, d2, cm1, cm2, cm3, cm4, hm, outs]
          exact ⟨_, _, ⟨rfl, rfl⟩, (m2 _).1, (m2 _).2, fin ns (a+1) 0 _ (by omega) (by omega) (by omega) (m1 _).1 (m1 _).2⟩
      · by_cases hg : (10 : Int) ^ 18 ≤ v
        · have hg' : (1000000000000000000 : Int) ≤ v := hg
          have hg2 : 0 < v := by omega
          simp [bagW, hb0, hal, hv, hv0, hp, hg, hg', hg2, h0, d2, outs]
          refine ⟨_, _, ⟨rfl, rfl⟩, (m2 _).1, (m2 _).2, ?_⟩
          exact fin ns (a+1) _ c (by omega) (by omega) (Int.ediv_nonneg (by omega) (by omega)) hc hc'
        · have hg' : ¬ (1000000000000000000 : Int) ≤ v := hg
          simp [bagW, hb0, hal, hv, hv0, hp, hg, hg', h0, d1, d2, cm1, cm2, cm3, cm4, hm, outs]
          exact ⟨_, _, ⟨rfl, rfl⟩, (m2 _).1, (m2 _).2, fin ns (a+1) 0 _ (by omega) (by omega) (by omega) (m1 _).1 (m1 _).2⟩
    · simp [bagW, hb0, hal, h0, hcc, d1, d2, cm1, cm2, cm3, cm4, hm, outs]
      exact ⟨_, _, ⟨rfl, rfl⟩, (m2 _).1, (m2 _).2, fin ns a 0 _ (by omega) (by omega) (by omega) (m1 _).1 (m1 _).2⟩
  · have hb1 : 0 < b := by omega
    simp [bagW, hb0, hb1, h0, d2, outs]
    exact ⟨_, _, ⟨rfl, rfl⟩, (m2 _).1, (m2 _).2, fin ns a _ c (by omega) (by omega) (Int.ediv_nonneg (by omega) (by omega)) hc hc'⟩
end Lw

namespace Lw
open PySem L2 MV
/-! ### the same -/
def Sm : Nat → D → Prop
  | 0, _ => False
  | _ + 1, .none => True
  | _ + 1, .bool _ => True
  | _ + 1, .int _ => True
  | _ + 1, .str _ => True
  | n + 1, .lst ds => ds.length ≤ 1000000 ∧ ∀ x ∈ ds, Sm n x
  | n + 1, .tup ds => ds.length ≤ 1000000 ∧ ∀ x ∈ ds, Sm n x
  | _ + 1, _ => False
theorem zip_self : ∀ ds : List D, zipD ds ds = ds.map fun d => .tup [d, d]
  | [] => rfl
  | d :: ds => by rw [zipD, zip_self ds]; rfl
theorem bools_same : ∀ ds : List D, boolsD (ds.map fun _ => .bool true) = some (ds.map fun _ => true) := fun ds => boolsD_map
theorem isi_t : ∀ s : String, isiT s s = true := fun s => by unfold isiT; simp
theorem same_refl : ∀ (n : Nat) (d : D), Sm n d → f_x_law_same n [.p d, .p d] = some (.p (.bool true), [none, none])
  | 0, d, h => by cases d <;> exact h.elim
  | n + 1, d, h => by
    have h1 : isiT "list" "bool" = false := by decide
    have h2 : isiT "list" "int" = false := by decide
    have h3 : isiT "list" "str" = false := by decide
    have h4 : isiT "list" "tuple" = false := by decide
    have h5 : isiT "tuple" "bool" = false := by decide
    have h6 : isiT "tuple" "int" = false := by decide
    have h7 : isiT "tuple" "str" = false := by decide
    have h8 : isiT "tuple" "list" = false := by decide
    have h9 : isiT "int" "bool" = false := by decide
    have h10 : isiT "str" "bool" = false := by decide
    have h11 : isiT "str" "int" = false := by decide
    have h12 : isiT "int" "str" = false := by decide
    have lc : ∀ (a b : Option W) (ds : List D), (∀ x ∈ ds, Sm n x) → lcRun [2, 3] (gT 2 (gsCons (gN 2) (gsCons (gN 3) gsNil))) (fun e => some (true, e)) (mGetP (mCall (f_x_law_same n) (aD (mVar 2) (aD (mVar 3) aNil)))) (zipD ds ds) [a, b, none, none] = some (ds.map (fun _ => .bool true), [a, b, none, none]) := fun a b ds hs => by
      rw [zip_self, lcRun_map (fun _ => .bool true)]
      · simp
      · intro d hd
        obtain ⟨x, hx, rfl⟩ := List.mem_map.mp hd
        have := same_refl n x (hs x hx)
        exact ⟨[a, b, some (.p x), some (.p x)], _, [a, b, some (.p x), some (.p x)], by simp, rfl, by simp [this], by simp⟩
    have zl : ∀ ds : List D, (zipD ds ds).length = ds.length := fun ds => by rw [zip_self]; simp
    cases d with
    | none => simp [f_x_law_same, fsem, m_x_law_same, b_x_law_same_0, outs]
    | bool b => simp [f_x_law_same, fsem, m_x_law_same, b_x_law_same_0, isi_t, outs]
    | int b => simp [f_x_law_same, fsem, m_x_law_same, b_x_law_same_0, isi_t, h9, h12, outs]
    | str b => simp [f_x_law_same, fsem, m_x_law_same, b_x_law_same_0, isi_t, h10, h11, outs]
    | lst ds => simp [f_x_law_same, fsem, m_x_law_same, b_x_law_same_0, isi_t, h1, h2, h3, h4, h.1, outs, lc _ _ ds h.2, zl, bools_same]
    | tup ds => simp [f_x_law_same, fsem, m_x_law_same, b_x_law_same_0, isi_t, h5, h6, h7, h8, h.1, outs, lc _ _ ds h.2, zl, bools_same]
    | fl ds => exact h.elim
    | ft ds => exact h.elim
    | exc _ _ _ _ => exact h.elim
    | dict es => exact h.elim
    | inst _ _ => exact h.elim
end Lw

namespace Lw
open PySem L2 MV
theorem LIM_le {n : Nat} (h : n ≤ 1000000) : n ≤ LIM := by unfold LIM; omega
theorem bag_nex {w : W} (h : BagW w) : nex w = true := by obtain ⟨_, _, _, _, rfl, _⟩ := h; rfl
theorem of_l {w : W} (hw : BagW w) {ds : List D} (h0 : 0 < ds.length) (h1 : ds.length ≤ 1000000) : ∃ d w', f_x_law_of [w, .p (.lst ds)] = some (.p d, [some w', none]) ∧ d ∈ ds ∧ BagW w' := by
  obtain ⟨r, w', e, h2, h3, h4⟩ := pull_ok hw (s := ds.length) (by omega) (by omega)
  have hr : r.toNat < ds.length := by omega
  have ha : L2.atI ds r = some (ds[r.toNat]'hr) := by rw [atI_nn h2, List.getElem?_eq_getElem hr]
  refine ⟨ds[r.toNat]'hr, w', ?_, List.getElem_mem hr, h4⟩
  simp [f_x_law_of, fsem, m_x_law_of, e, outs, ha]
theorem bag_ok (ns : List Int) (h : ns.length ≤ 63) : ∃ w, f_x_law_bag [.p (.fl (ns.map .int))] = some (w, [none]) ∧ BagW w := by
  refine ⟨bagW (ns.take 63) 0 0 9485, ?_, ⟨_, _, _, _, rfl, by omega, by omega, by omega, by omega, by omega⟩⟩
  have ct : cutD (ns.map D.int) none (some 63) = (ns.take 63).map D.int := by
    unfold cutD
    rw [show HT.sIx (ns.map D.int).length 0 none = 0 from rfl, List.drop_zero, Nat.sub_zero]
    have : HT.sIx (ns.map D.int).length (ns.map D.int).length (some 63) = min 63 ns.length := by
      rw [List.length_map]
      rfl
    rw [this, ← List.map_take]
    congr 1
    rw [List.take_eq_take_iff]
    omega
  simp [f_x_law_bag, fsem, m_x_law_bag, dSl, ct, outs, bagW]
theorem orX_bag {w : W} (h : BagW w) {e : MV.Env} {r : SR} : orX w e r = r := orX_ne (bag_nex h)
end Lw

namespace Lw
open PySem L2 MV
theorem rng_mem {n : Nat} {d : D} {lo : Int} (h : d ∈ rngD lo n) : ∃ i : Int, d = .int i ∧ lo ≤ i ∧ i < lo + n := by
  unfold rngD at h
  obtain ⟨i, hi, rfl⟩ := List.mem_map.mp h
  exact ⟨_, rfl, by omega, by have := List.mem_range.mp hi; omega⟩
theorem rng_len {n : Nat} {lo : Int} : (rngD lo n).length = n := by simp [rngD]
theorem sIx_nn {n d : Nat} {k : Int} (h : 0 ≤ k) : HT.sIx n d (some k) = min k.toNat n := by
  show (if k < 0 then _ else _) = _
  rw [if_neg (by omega)]
theorem cutD_to {ds : List D} {k : Int} (h : 0 ≤ k) : cutD ds none (some k) = ds.take k.toNat := by
  unfold cutD
  rw [sIx_nn h, show HT.sIx ds.length 0 none = 0 from rfl, List.drop_zero, Nat.sub_zero]
  rw [List.take_eq_take_iff]
  omega
theorem cutD_from {ds : List D} {k : Int} (h : 0 ≤ k) : cutD ds (some k) none = ds.drop k.toNat := by
  unfold cutD
  rw [sIx_nn h, show HT.sIx ds.length ds.length none = ds.length from rfl]
  by_cases hk : k.toNat ≤ ds.length
  · rw [Nat.min_eq_left hk, List.take_of_length_le (by simp)]
  · rw [Nat.min_eq_right (by omega), List.drop_eq_nil_of_le (by omega), List.drop_eq_nil_of_le (by omega)]; simp
theorem fs_gN {b : S} {i : Nat} {d : D} {e : MV.Env} : forStep (gN i) b d e = b (e.set i (some (.p d))) := by
  cases h : b (e.set i (some (.p d))) <;> simp [forStep, h]
end Lw

namespace Lw
/-! ### problems: who is free, layers, orders -/
abbrev Pr := Int × Int
abbrev Rt := List Int × List Int
def hinP (S : List Int) (s : Int) (p : Pr) : Bool := decide (p.2 = s) && decide (p.1 ∈ S)
def hinR (S : List Int) (s : Int) (r : Rt) : Bool := decide (s ∈ r.1) && (!decide (s ∈ r.2) && r.1.all fun x => decide (x ∈ S))
section
variable (ps : List Pr) (rs : List Rt)
def blk (S : List Int) (s : Int) : Nat := ps.countP (hinP S s) + rs.countP (hinR S s)
def isFree (S : List Int) (s : Int) : Bool := blk ps rs S s == 0
def layer (S : List Int) : List Int := S.filter (isFree ps rs S)
def restOf (S : List Int) : List Int := S.filter fun s => !isFree ps rs S s
def peel : Nat → List Int → List (List Int) × List Int
  | 0, S => ([], S)
  | k + 1, S => if layer ps rs S = [] then ([], S) else (layer ps rs S :: (peel k (restOf ps rs S)).1, (peel k (restOf ps rs S)).2)
/-- an order, the strongest first: each one is free among itself and what follows -/
def agr : List Int → Prop
  | [] => True
  | s :: B => isFree ps rs (s :: B) s = true ∧ agr B
/-- none can be taken -/
def stuck (X : List Int) : Prop := ∀ s ∈ X, isFree ps rs X s = false
end
section
variable {ps : List Pr} {rs : List Rt}
theorem isFree_iff {S : List Int} {s : Int} : isFree ps rs S s = true ↔ (∀ p ∈ ps, hinP S s p = false) ∧ ∀ r ∈ rs, hinR S s r = false := by
  unfold isFree blk
  rw [beq_iff_eq, Nat.add_eq_zero_iff, List.countP_eq_zero, List.countP_eq_zero]
  simp
theorem hinP_mono {X S : List Int} {s : Int} {p : Pr} (h : ∀ x ∈ X, x ∈ S) (q : hinP X s p = true) : hinP S s p = true := by
  unfold hinP at q ⊢
  simp only [Bool.and_eq_true, decide_eq_true_eq] at q ⊢
  exact ⟨q.1, h _ q.2⟩
theorem hinR_mono {X S : List Int} {s : Int} {r : Rt} (h : ∀ x ∈ X, x ∈ S) (q : hinR X s r = true) : hinR S s r = true := by
  unfold hinR at q ⊢
  simp only [Bool.and_eq_true, decide_eq_true_eq, List.all_eq_true] at q ⊢
  exact ⟨q.1, q.2.1, fun x hx => h _ (q.2.2 x hx)⟩
theorem free_mono {X S : List Int} {s : Int} (h : ∀ x ∈ X, x ∈ S) (q : isFree ps rs S s = true) : isFree ps rs X s = true := by
  rw [isFree_iff] at q ⊢
  refine ⟨fun p hp => ?_, fun r hr => ?_⟩
  · cases e : hinP X s p with
    | false => rfl
    | true => exact absurd (q.1 p hp) (by rw [hinP_mono h e]; decide)
  · cases e : hinR X s r with
    | false => rfl
    | true => exact absurd (q.2 r hr) (by rw [hinR_mono h e]; decide)
theorem free_congr {X S : List Int} {s : Int} (h : ∀ x, x ∈ X ↔ x ∈ S) : isFree ps rs X s = isFree ps rs S s := by
  cases e : isFree ps rs S s with
  | true => exact free_mono (fun x hx => (h x).mp hx) e
  | false => cases e2 : isFree ps rs X s with
    | false => rfl
    | true => rw [free_mono (fun x hx => (h x).mpr hx) e2] at e; cases e
theorem filter_perm {f : Int → Bool} : ∀ S : List Int, S.Perm (S.filter f ++ S.filter fun s => !f s)
  | [] => List.Perm.refl _
  | a :: S => by
    cases e : f a with
    | true => simp only [List.filter_cons, e]; simpa using filter_perm (f := f) S
    | false =>
      simp only [List.filter_cons, e]
      exact ((filter_perm (f := f) S).cons a).trans List.perm_middle.symm
theorem rest_len {S : List Int} (h : layer ps rs S ≠ []) : (restOf ps rs S).length < S.length := by
  have h1 : (layer ps rs S).length + (restOf ps rs S).length = S.length := by
    have := (filter_perm (f := isFree ps rs S) S).length_eq
    rw [List.length_append] at this
    exact this.symm
  have h2 : (layer ps rs S).length ≠ 0 := fun z => h (List.eq_nil_of_length_eq_zero z)
  omega
theorem layer_nil {S : List Int} : layer ps rs S = [] ↔ stuck ps rs S := by
  unfold layer stuck
  rw [List.filter_eq_nil_iff]
  simp
theorem peel_stuck : ∀ {k : Nat} {S : List Int}, S.length ≤ k → stuck ps rs (peel ps rs k S).2
  | 0, S, h => by
    have : S = [] := List.eq_nil_of_length_eq_zero (by omega)
    subst this
    intro s hs
    exact absurd hs (by simp [peel])
  | k + 1, S, h => by
    unfold peel
    split
    · rename_i e; exact layer_nil.mp e
    · rename_i e
      have := rest_len e
      exact peel_stuck (by omega)
theorem peel_sub : ∀ {k : Nat} {S : List Int}, (peel ps rs k S).2.Sublist S
  | 0, S => List.Sublist.refl _
  | k + 1, S => by
    unfold peel
    split
    · exact List.Sublist.refl _
    · exact (peel_sub (k := k)).trans List.filter_sublist
theorem peel_max : ∀ {k : Nat} {S X : List Int}, (∀ x ∈ X, x ∈ S) → stuck ps rs X → ∀ x ∈ X, x ∈ (peel ps rs k S).2
  | 0, S, X, h, _ => h
  | k + 1, S, X, h, st => by
    unfold peel
    split
    · exact h
    · refine peel_max (fun x hx => ?_) st
      unfold restOf
      rw [List.mem_filter]
      refine ⟨h x hx, ?_⟩
      cases e : isFree ps rs S x with
      | false => rfl
      | true => have := st x hx; rw [free_mono h e] at this; cases this
theorem peel_perm : ∀ {k : Nat} {S : List Int}, S.Perm ((peel ps rs k S).1.flatten ++ (peel ps rs k S).2)
  | 0, S => by simp [peel]
  | k + 1, S => by
    unfold peel
    split
    · simp
    · rw [List.flatten_cons, List.append_assoc]
      exact (filter_perm (f := isFree ps rs S) S).trans (List.Perm.append_left _ peel_perm)
theorem agr_append {S : List Int} : ∀ {A B : List Int}, (∀ x ∈ A, isFree ps rs S x = true) → (∀ x ∈ A ++ B, x ∈ S) → agr ps rs B → agr ps rs (A ++ B)
  | [], B, _, _, h => h
  | a :: A, B, h1, h2, h => ⟨free_mono (fun x hx => h2 x hx) (h1 a (by simp)), agr_append (fun x hx => h1 x (by simp [hx])) (fun x hx => h2 x (by simp at hx ⊢; exact .inr hx)) h⟩
theorem peel_agr : ∀ {k : Nat} {S : List Int}, (peel ps rs k S).2 = [] → agr ps rs (peel ps rs k S).1.flatten
  | 0, S, _ => trivial
  | k + 1, S, h => by
    unfold peel at h ⊢
    split
    · exact trivial
    · rename_i e
      rw [if_neg e] at h
      rw [List.flatten_cons]
      refine agr_append (S := S) (fun x hx => (List.mem_filter.mp hx).2) (fun x hx => ?_) (peel_agr h)
      rcases List.mem_append.mp hx with hx | hx
      · exact (List.mem_filter.mp hx).1
      · have := (peel_perm (ps := ps) (rs := rs) (k := k) (S := restOf ps rs S)).mem_iff (a := x)
        exact (List.mem_filter.mp (this.mpr (by simp [hx]))).1
/-- no stuck set lies in an agreeing order -/
theorem agr_no_stuck : ∀ {O X : List Int}, agr ps rs O → (∀ x ∈ X, x ∈ O) → stuck ps rs X → X = []
  | [], X, _, h, _ => by
    cases X with
    | nil => rfl
    | cons a X => exact absurd (h a (by simp)) (by simp)
  | s :: O, X, ha, h, st => by
    by_cases hs : s ∈ X
    · have := st s hs
      rw [free_mono h ha.1] at this
      cases this
    · exact agr_no_stuck ha.2 (fun x hx => by
        rcases List.mem_cons.mp (h x hx) with rfl | q
        · exact absurd hx hs
        · exact q) st
/-- an agreeing order exists exactly if none remain -/
theorem peel_iff {k : Nat} {S : List Int} (hk : S.length ≤ k) : (peel ps rs k S).2 = [] ↔ ∃ O, O.Perm S ∧ agr ps rs O := by
  constructor
  · intro h
    refine ⟨_, ?_, peel_agr h⟩
    have := (peel_perm (ps := ps) (rs := rs) (k := k) (S := S))
    rw [h, List.append_nil] at this
    exact this.symm
  · rintro ⟨O, p, a⟩
    exact agr_no_stuck a (fun x hx => p.mem_iff.mpr (peel_sub.subset hx)) (peel_stuck hk)
end
end Lw

namespace Lw
/-! ### orders told by places -/
def ixI (O : List Int) (s : Int) : Int := (O.idxOf s : Nat)
def fstO (O L : List Int) : Int := (O.find? fun s => decide (s ∈ L)).getD 0
def agB (ps : List Pr) (rs : List Rt) (O : List Int) : Bool := (!ps.any fun p => decide (ixI O p.2 < ixI O p.1)) && rs.all fun r => decide (fstO O r.1 ∈ r.2)
theorem agr_split {ps : List Pr} {rs : List Rt} : ∀ {O : List Int}, agr ps rs O ↔ ∀ A s B, O = A ++ s :: B → isFree ps rs (s :: B) s = true
  | [] => ⟨fun _ A s B h => (by cases A <;> cases h), fun _ => trivial⟩
  | a :: O => by
    constructor
    · intro h A s B e
      cases A with
      | nil => cases e; exact h.1
      | cons b A => cases e; exact agr_split.mp h.2 A s B rfl
    · intro h
      exact ⟨h [] a O rfl, agr_split.mpr fun A s B e => h (a :: A) s B (by rw [e]; rfl)⟩
theorem fstO_split {O L : List Int} (h0 : L ≠ []) (hs : ∀ x ∈ L, x ∈ O) : ∃ A B, O = A ++ fstO O L :: B ∧ fstO O L ∈ L ∧ (∀ x ∈ A, x ∉ L) := by
  unfold fstO
  cases e : O.find? fun s => decide (s ∈ L) with
  | none =>
    rw [List.find?_eq_none] at e
    cases L with
    | nil => exact absurd rfl h0
    | cons x L => exact absurd (e x (hs x (by simp))) (by simp)
  | some m =>
    obtain ⟨h1, A, B, h2, h3⟩ := List.find?_eq_some_iff_append.mp e
    exact ⟨A, B, h2, by simpa using h1, fun x hx => by simpa using h3 x hx⟩
theorem ix_le {O A B : List Int} {m x : Int} (nd : O.Nodup) (e : O = A ++ m :: B) (hx : x ∈ O) (hA : x ∉ A) : ixI O m ≤ ixI O x ∧ (x ≠ m → ixI O m < ixI O x) := by
  subst e
  have hm : m ∉ A := fun z => by
    rw [List.nodup_append] at nd
    exact nd.2.2 m z m (by simp) rfl
  have e1 : (A ++ m :: B).idxOf m = A.length := by rw [List.idxOf_append, if_neg hm]; simp
  have e2 : (A ++ m :: B).idxOf x = (m :: B).idxOf x + A.length := by rw [List.idxOf_append, if_neg hA]
  unfold ixI
  rw [e1, e2]
  refine ⟨by omega, fun z => ?_⟩
  have e3 : (m :: B).idxOf x = B.idxOf x + 1 := by
    have q : (m == x) = false := by simpa using fun q => z (Eq.symm q)
    rw [List.idxOf_cons, q]
    rfl
  rw [e3]
  omega
theorem ag_iff {ps : List Pr} {rs : List Rt} {O : List Int} (nd : O.Nodup) (hp : ∀ p ∈ ps, p.1 ≠ p.2 ∧ p.1 ∈ O ∧ p.2 ∈ O) (hr : ∀ r ∈ rs, r.1 ≠ [] ∧ ∀ x ∈ r.1, x ∈ O) : agB ps rs O = true ↔ agr ps rs O := by
  unfold agB
  simp only [Bool.and_eq_true, Bool.not_eq_true', List.any_eq_false, decide_eq_true_eq, List.all_eq_true]
  rw [agr_split]
  constructor
  · rintro ⟨h1, h2⟩ A s B e
    rw [isFree_iff]
    refine ⟨fun p q => ?_, fun r q => ?_⟩
    · obtain ⟨p1, p2, p3⟩ := hp p q
      cases z : hinP (s :: B) s p with
      | false => rfl
      | true =>
        unfold hinP at z
        simp only [Bool.and_eq_true, decide_eq_true_eq] at z
        obtain ⟨rfl, z2⟩ := z
        have nA : p.1 ∉ A := fun q => by
          rw [e, List.nodup_append] at nd
          exact nd.2.2 _ q _ z2 rfl
        exact absurd ((ix_le nd e p2 nA).2 p1) (h1 p q)
    · obtain ⟨r1, r2⟩ := hr r q
      cases z : hinR (s :: B) s r with
      | false => rfl
      | true =>
        unfold hinR at z
        simp only [Bool.and_eq_true, decide_eq_true_eq, Bool.not_eq_true', decide_eq_false_iff_not, List.all_eq_true] at z
        obtain ⟨z1, z2, z3⟩ := z
        obtain ⟨A', B', e', m1, m2⟩ := fstO_split r1 r2
        have hms := z3 _ m1
        have hsm : s = fstO O r.1 := by
          have nA : fstO O r.1 ∉ A := fun q => by
            rw [e, List.nodup_append] at nd
            exact nd.2.2 _ q _ hms rfl
          have nA' : s ∉ A' := fun q => m2 s q z1
          have a1 := ix_le nd e (r2 _ m1) nA
          have a2 := ix_le nd e' (r2 _ z1) nA'
          by_cases y : s = fstO O r.1
          · exact y
          · have := a2.2 y
            have := a1.1
            omega
        exact absurd (h2 r q) (by rw [← hsm]; exact z2)
  · intro h
    refine ⟨fun p q => ?_, fun r q => ?_⟩
    · obtain ⟨p1, p2, p3⟩ := hp p q
      intro lt
      obtain ⟨A, B, e⟩ := List.append_of_mem p3
      have f := (isFree_iff.mp (h A p.2 B e)).1 p q
      unfold hinP at f
      have nB : p.1 ∉ p.2 :: B := by simpa using f
      have hA : p.1 ∈ A := by
        rw [e] at p2
        rcases List.mem_append.mp p2 with y | y
        · exact y
        · exact absurd y nB
      obtain ⟨A1, A2, eA⟩ := List.append_of_mem hA
      have e3 : O = A1 ++ p.1 :: (A2 ++ p.2 :: B) := by rw [e, eA]; simp
      have nA : p.2 ∉ A1 := fun y => by
        rw [e3, List.nodup_append] at nd
        exact nd.2.2 _ y p.2 (by simp) rfl
      have := (ix_le nd e3 p3 nA).1
      omega
    · obtain ⟨r1, r2⟩ := hr r q
      obtain ⟨A, B, e, m1, m2⟩ := fstO_split r1 r2
      have f := (isFree_iff.mp (h A _ B e)).2 r q
      unfold hinR at f
      have all : (r.1.all fun x => decide (x ∈ fstO O r.1 :: B)) = true := List.all_eq_true.mpr fun x hx => decide_eq_true (by
        have := r2 x hx
        rw [e] at this
        rcases List.mem_append.mp this with y | y
        · exact absurd hx (m2 x y)
        · exact y)
      rw [all] at f
      simpa [m1] using f
end Lw

namespace Lw
/-! ### what taking a slot changes -/
def badOf (S : List Int) (r : Rt) : List Int := if (r.1.all fun x => decide (x ∈ S)) = true then r.1.filter fun s => decide (s ∉ r.2) else []
def wkOf (ps : List Pr) (s : Int) : List Int := (ps.filter fun p => decide (p.1 = s)).map (·.2)
def wdOf (rs : List Rt) (s : Int) : List Nat := (rs.zipIdx.filter fun q => decide (s ∈ q.1.1)).map (·.2)
def without (S : List Int) (k : Int) : List Int := S.filter fun s => decide (s ≠ k)
theorem mem_without {S : List Int} {k x : Int} : x ∈ without S k ↔ x ∈ S ∧ x ≠ k := by unfold without; simp
theorem pairs_take {S : List Int} {k s : Int} (hk : k ∈ S) : ∀ ps : List Pr, ps.countP (hinP S s) = ps.countP (hinP (without S k) s) + (wkOf ps k).count s
  | [] => rfl
  | p :: ps => by
    have ih := pairs_take hk (s := s) ps
    unfold wkOf at ih ⊢
    rw [List.countP_cons, List.countP_cons, ih]
    by_cases h1 : p.1 = k
    · by_cases h2 : p.2 = s
      · have e1 : hinP S s p = true := by simp [hinP, h2, h1, hk]
        have e2 : hinP (without S k) s p = false := by simp [hinP, h1, mem_without]
        simp [e1, e2, List.filter_cons, h1, h2, List.count_cons]
        omega
      · have e1 : hinP S s p = false := by simp [hinP, h2]
        have e2 : hinP (without S k) s p = false := by simp [hinP, h2]
        simp [e1, e2, List.filter_cons, h1, h2, List.count_cons]
    · have e : hinP (without S k) s p = hinP S s p := by simp [hinP, mem_without, h1]
      simp [e, List.filter_cons, h1]
      omega
theorem count_filter_nd {f : Int → Bool} {s : Int} : ∀ {l : List Int}, l.Nodup → (l.filter f).count s = if s ∈ l ∧ f s = true then 1 else 0 := by
  intro l nd
  have h := (nd.filter f)
  by_cases z : s ∈ l.filter f
  · have h1 := List.nodup_iff_count.mp h s
    have h2 := List.count_pos_iff.mpr z
    rw [show (l.filter f).count s = 1 by omega]
    rw [List.mem_filter] at z
    rw [if_pos z]
  · rw [List.count_eq_zero_of_not_mem z]
    rw [List.mem_filter] at z
    rw [if_neg z]
theorem bad_count {S : List Int} {s : Int} {r : Rt} (nd : r.1.Nodup) : (badOf S r).count s = if hinR S s r = true then 1 else 0 := by
  unfold badOf hinR
  by_cases h : (r.1.all fun x => decide (x ∈ S)) = true
  · rw [if_pos h, count_filter_nd nd, h]
    simp
  · rw [if_neg h]
    simp only [Bool.not_eq_true] at h
    rw [h]
    simp
theorem reports_take {S : List Int} {k s : Int} (hk : k ∈ S) : ∀ rs : List Rt, (∀ r ∈ rs, r.1.Nodup) → rs.countP (hinR S s) = rs.countP (hinR (without S k) s) + ((rs.filter fun r => decide (k ∈ r.1)).map fun r => (badOf S r).count s).sum
  | [], _ => rfl
  | r :: rs, nd => by
    have ih := reports_take hk (s := s) rs fun r hr => nd r (by simp [hr])
    rw [List.countP_cons, List.countP_cons, ih]
    by_cases h1 : k ∈ r.1
    · have e2 : hinR (without S k) s r = false := by
        unfold hinR
        have : (r.1.all fun x => decide (x ∈ without S k)) = false := by
          rw [List.all_eq_false]
          exact ⟨k, h1, by simp [mem_without]⟩
        rw [this]
        simp
      have e3 := bad_count (S := S) (s := s) (nd r (by simp))
      simp only [List.filter_cons, h1, decide_true, if_true, List.map_cons, List.sum_cons, e3, e2]
      simp
      omega
    · have e : hinR (without S k) s r = hinR S s r := by
        unfold hinR
        congr 2
        refine Bool.eq_iff_iff.mpr ?_
        rw [List.all_eq_true, List.all_eq_true]
        constructor
        · intro h x hx
          have := h x hx
          simp [mem_without] at this ⊢
          exact this.1
        · intro h x hx
          have := h x hx
          simp [mem_without] at this ⊢
          exact ⟨this, fun z => h1 (z ▸ hx)⟩
      simp only [List.filter_cons, h1, decide_false, e]
      simp
      omega
theorem blk_take {ps : List Pr} {rs : List Rt} {S : List Int} {k s : Int} (hk : k ∈ S) (nd : ∀ r ∈ rs, r.1.Nodup) :
    blk ps rs S s = blk ps rs (without S k) s + (wkOf ps k).count s + ((rs.filter fun r => decide (k ∈ r.1)).map fun r => (badOf S r).count s).sum := by
  unfold blk
  rw [pairs_take hk ps, reports_take hk rs nd]
  omega
theorem bad_take {S : List Int} {k : Int} {r : Rt} (hk : k ∈ S) : badOf (without S k) r = if k ∈ r.1 then [] else badOf S r := by
  unfold badOf
  by_cases h1 : k ∈ r.1
  · rw [if_pos h1]
    have : (r.1.all fun x => decide (x ∈ without S k)) = false := by
      rw [List.all_eq_false]
      exact ⟨k, h1, by simp [mem_without]⟩
    rw [this]
    simp
  · rw [if_neg h1]
    have : (r.1.all fun x => decide (x ∈ without S k)) = (r.1.all fun x => decide (x ∈ S)) := by
      refine Bool.eq_iff_iff.mpr ?_
      rw [List.all_eq_true, List.all_eq_true]
      constructor
      · intro h x hx
        have := h x hx
        simp [mem_without] at this ⊢
        exact this.1
      · intro h x hx
        have := h x hx
        simp [mem_without] at this ⊢
        exact ⟨this, fun z => h1 (z ▸ hx)⟩
    rw [this]
/-- the loop over the reports that hold k -/
def fallC (bads : List (List Int)) (ats : List Nat) (s : Int) : Nat := (ats.map fun a => (bads.getD a []).count s).sum
def fallB (bads : List (List Int)) (ats : List Nat) : List (List Int) := ats.foldl (fun b a => b.set a []) bads
theorem fallB_get {ats : List Nat} : ∀ {bads : List (List Int)} {j : Nat}, (fallB bads ats)[j]? = if j ∈ ats then (bads[j]?).map (fun _ => []) else bads[j]? := by
  induction ats with
  | nil => intro bads j; simp [fallB]
  | cons a ats ih =>
    intro bads j
    show (fallB (bads.set a []) ats)[j]? = _
    rw [ih]
    by_cases h : j ∈ ats
    · simp only [h, if_true, List.mem_cons, or_true]
      by_cases z : a = j
      · subst z; rw [List.getElem?_set]; by_cases hl : a < bads.length <;> simp [hl]
      · rw [List.getElem?_set_ne z]
    · by_cases z : a = j
      · subst z
        rw [if_neg h, if_pos (by simp), List.getElem?_set]
        by_cases hl : a < bads.length <;> simp [hl]
      · have : j ≠ a := fun q => z q.symm
        simp [h, this, List.getElem?_set_ne z]
theorem fallB_len {ats : List Nat} : ∀ {bads : List (List Int)}, (fallB bads ats).length = bads.length := by
  induction ats with
  | nil => intro bads; rfl
  | cons a ats ih => intro bads; show (fallB (bads.set a []) ats).length = _; rw [ih]; simp
theorem wd_mem {rs : List Rt} {k : Int} {j : Nat} : j ∈ wdOf rs k ↔ ∃ r, rs[j]? = some r ∧ k ∈ r.1 := by
  unfold wdOf
  rw [List.mem_map]
  constructor
  · rintro ⟨⟨r, i⟩, h, rfl⟩
    rw [List.mem_filter] at h
    have := List.mem_zipIdx_iff_getElem?.mp h.1
    exact ⟨r, by simpa using this, by simpa using h.2⟩
  · rintro ⟨r, h, hk⟩
    exact ⟨(r, j), List.mem_filter.mpr ⟨List.mem_zipIdx_iff_getElem?.mpr (by simpa using h), by simpa using hk⟩, rfl⟩
theorem wd_nodup {rs : List Rt} {k : Int} : (wdOf rs k).Nodup := by
  unfold wdOf
  refine List.Nodup.sublist (List.filter_sublist.map _) ?_
  rw [List.zipIdx_map_snd]
  exact List.nodup_range'
theorem fallB_take {rs : List Rt} {S : List Int} {k : Int} (hk : k ∈ S) : fallB (rs.map (badOf S)) (wdOf rs k) = rs.map (badOf (without S k)) := by
  refine List.ext_getElem? fun j => ?_
  rw [fallB_get, List.getElem?_map, List.getElem?_map]
  cases e : rs[j]? with
  | none => by_cases h : j ∈ wdOf rs k <;> simp [h]
  | some r =>
    have : j ∈ wdOf rs k ↔ k ∈ r.1 := by
      rw [wd_mem]
      constructor
      · rintro ⟨r', h, hk⟩; rw [e] at h; cases h; exact hk
      · intro h; exact ⟨r, e, h⟩
    simp only [Option.map_some, bad_take hk, this]
    by_cases h : k ∈ r.1 <;> simp [h]
theorem fallC_take {rs : List Rt} {S : List Int} {k s : Int} : fallC (rs.map (badOf S)) (wdOf rs k) s = ((rs.filter fun r => decide (k ∈ r.1)).map fun r => (badOf S r).count s).sum := by
  unfold fallC wdOf
  rw [List.map_map]
  have : ∀ (l : List Rt) (i : Nat), (∀ j r, l[j]? = some r → rs[i + j]? = some r) →
      (((l.zipIdx i).filter fun q => decide (k ∈ q.1.1)).map ((fun a => ((rs.map (badOf S)).getD a []).count s) ∘ fun x => x.2)) = (l.filter fun r => decide (k ∈ r.1)).map fun r => (badOf S r).count s := by
    intro l
    induction l with
    | nil => intro i _; rfl
    | cons r l ih =>
      intro i h
      have ih := ih (i + 1) fun j r' hr => by
        have := h (j + 1) r' (by simpa using hr)
        rw [show i + (j + 1) = i + 1 + j by omega] at this
        exact this
      have h0 := h 0 r rfl
      rw [Nat.add_zero] at h0
      rw [List.zipIdx_cons]
      by_cases hk : k ∈ r.1
      · simp only [List.filter_cons, hk, decide_true, if_true, List.map_cons, ih]
        congr 1
        simp [List.getD, h0]
      · simp only [List.filter_cons, hk, decide_false]
        exact ih
  rw [this rs 0 fun j r h => by simpa using h]
end Lw

namespace Lw
open PySem L2 MV
/-! ### problems as data -/
abbrev intsL (l : List Int) : D := .lst (l.map .int)
abbrev intsT (l : List Int) : D := .tup (l.map .int)
def prD (p : Pr) : D := .tup [.int p.1, .int p.2]
def rtD (r : Rt) : D := .tup [intsT r.1, intsT r.2]
abbrev prsD (ps : List Pr) : D := .lst (ps.map prD)
abbrev rtsD (rs : List Rt) : D := .lst (rs.map rtD)
/-- 0, 1, .. -/
def upto (n : Nat) : List Int := (List.range n).map fun (i : Nat) => (i : Int)
def asc (n : Nat) (l : List Int) : Prop := (∀ s ∈ l, 0 ≤ s ∧ s < (n : Int)) ∧ l.Pairwise (· < ·)
structure Okp (n : Nat) (ps : List Pr) (rs : List Rt) : Prop where
  size : n ≤ 30
  np : ps.length ≤ 600
  nr : rs.length ≤ 100
  pr : ∀ p ∈ ps, p.1 ≠ p.2 ∧ (0 ≤ p.1 ∧ p.1 < (n : Int)) ∧ (0 ≤ p.2 ∧ p.2 < (n : Int))
  rt : ∀ r ∈ rs, asc n r.1 ∧ asc n r.2 ∧ r.1 ≠ [] ∧ ∀ s ∈ r.2, s ∈ r.1
theorem asc_len {n : Nat} {l : List Int} (h : asc n l) : l.length ≤ n := by
  have : ∀ (l : List Int) (k : Int), 0 ≤ k → (∀ s ∈ l, k ≤ s ∧ s < (n : Int)) → l.Pairwise (· < ·) → k + l.length ≤ max k n := by
    intro l
    induction l with
    | nil => intro k hk _ _; simp; omega
    | cons a l ih =>
      intro k hk hl hp
      rw [List.pairwise_cons] at hp
      have ha := hl a (by simp)
      have := ih (a + 1) (by omega) (fun s hs => ⟨by have := hp.1 s hs; omega, (hl s (by simp [hs])).2⟩) hp.2
      simp only [List.length_cons]
      omega
  have := this l 0 (by omega) (fun s hs => h.1 s hs) h.2
  omega
theorem asc_nodup {n : Nat} {l : List Int} (h : asc n l) : l.Nodup := h.2.imp fun h => by omega
theorem map_int_inj {a b : List Int} (h : a.map D.int = b.map D.int) : a = b := by
  induction a generalizing b with
  | nil => cases b with
    | nil => rfl
    | cons y b => cases h
  | cons x a ih => cases b with
    | nil => cases h
    | cons y b => simp at h; rw [h.1, ih h.2]
theorem intsD_map : ∀ l : List Int, intsD (l.map .int) = some l
  | [] => rfl
  | i :: l => by show (intsD (l.map .int)).map _ = _; rw [intsD_map l]; rfl
theorem rng_upto (n : Nat) : rngD 0 n = (upto n).map .int := by
  unfold rngD upto
  rw [List.map_map]
  apply List.map_congr_left
  intro i _
  simp
theorem upto_mem {n : Nat} {s : Int} : s ∈ upto n ↔ 0 ≤ s ∧ s < (n : Int) := by
  unfold upto
  constructor
  · intro h
    obtain ⟨i, hi, rfl⟩ := List.mem_map.mp h
    have := List.mem_range.mp hi
    omega
  · intro h
    exact List.mem_map.mpr ⟨s.toNat, List.mem_range.mpr (by omega), by omega⟩
theorem upto_asc (n : Nat) : (upto n).Pairwise (· < ·) := by
  unfold upto
  rw [List.pairwise_map]
  exact List.pairwise_lt_range.imp fun h => by omega
theorem upto_len (n : Nat) : (upto n).length = n := by simp [upto]
theorem toPys_ints : ∀ l : List Int, toPys (l.map .int) = some (l.map .int)
  | [] => by simp [toPys]
  | i :: l => by rw [List.map_cons]; simp only [toPys, toPy]; rw [toPys_ints l]; rfl
theorem toPy_l {l : List Int} : toPy (.lst (l.map .int)) = some (.list (l.map .int)) := by simp only [toPy]; rw [toPys_ints]; rfl
theorem lay_ints : ∀ l : List Int, PyData.canLayAll0 (l.map .int) = true
  | [] => by simp [PyData.canLayAll0]
  | i :: l => by rw [List.map_cons]; simp only [PyData.canLayAll0, PyData.canLay0]; rw [lay_ints l]; rfl
theorem dep_ints : ∀ l : List Int, PyData.depthAll (l.map .int) = 0
  | [] => by simp [PyData.depthAll]
  | i :: l => by rw [List.map_cons]; simp only [PyData.depthAll, PyData.depth]; rw [dep_ints l]; rfl
theorem shp_ints {l : List Int} : SeqAt.shaped (.list (l.map .int)) = true := by
  unfold SeqAt.shaped
  simp [PyData.canLay0, PyData.depth, lay_ints, dep_ints]
theorem eqv_ints : ∀ a b : List Int, PyData.eqvAll (a.map .int) (b.map .int) = decide (a = b)
  | [], [] => by simp [PyData.eqvAll]
  | [], _ :: _ => by simp [PyData.eqvAll]
  | _ :: _, [] => by simp [PyData.eqvAll]
  | x :: a, y :: b => by
    rw [List.map_cons, List.map_cons]
    simp only [PyData.eqvAll, PyData.eqv]
    rw [eqv_ints a b]
    by_cases h : x = y <;> by_cases h2 : a = b <;> simp [h, h2]
theorem eqB_ints {a b : List Int} : eqB (.lst (a.map .int)) (.lst (b.map .int)) = some (decide (a = b)) := by
  show eqDeep _ _ = _
  unfold eqDeep
  rw [toPy_l, toPy_l]
  simp only [Option.bind_some, shp_ints, Bool.and_self, if_true, PyData.eqv, eqv_ints]
theorem eq_ints {a b : List Int} : dEq (.lst (a.map .int)) (.lst (b.map .int)) = some (.bool (decide (a = b))) := by
  unfold dEq
  rw [eqB_ints]
  rfl
theorem ne_ints {a b : List Int} : dNe (.lst (a.map .int)) (.lst (b.map .int)) = some (.bool !decide (a = b)) := by
  unfold dNe
  rw [eqB_ints]
  rfl
theorem eq_ints0 {a : List Int} : dEq (.lst (a.map .int)) (.lst []) = some (.bool (decide (a = []))) := eq_ints (b := [])
theorem ne_ints0 {a : List Int} : dNe (.lst (a.map .int)) (.lst []) = some (.bool !decide (a = [])) := ne_ints (b := [])
/-- x in a list of ints -/
theorem flat_ints {l : List Int} : (l.map D.int).all flatD = true := by simp [flatD]
theorem any_ints {s : Int} {l : List Int} : ((l.map D.int).any fun y => eqF y (.int s)) = decide (s ∈ l) := by
  induction l with
  | nil => rfl
  | cons a l ih =>
    rw [List.map_cons, List.any_cons, ih]
    show (a == s || _) = _
    by_cases h : a = s
    · simp [h]
    · have : s ≠ a := fun z => h z.symm
      simp [h, this]
theorem in_l {s : Int} {l : List Int} : dIn (.int s) (.lst (l.map .int)) = some (.bool (decide (s ∈ l))) := by
  unfold dIn inB
  simp only [flatD, flat_ints, any_ints, Bool.and_self, if_true, Option.map_some]
theorem in_t {s : Int} {l : List Int} : dIn (.int s) (.tup (l.map .int)) = some (.bool (decide (s ∈ l))) := by
  unfold dIn inB
  simp only [flatD, flat_ints, any_ints, Bool.and_self, if_true, Option.map_some]
theorem nin_l {s : Int} {l : List Int} : dNotIn (.int s) (.lst (l.map .int)) = some (.bool !decide (s ∈ l)) := by
  unfold dNotIn inB
  simp only [flatD, flat_ints, any_ints, Bool.and_self, if_true, Option.map_some]
theorem nin_t {s : Int} {l : List Int} : dNotIn (.int s) (.tup (l.map .int)) = some (.bool !decide (s ∈ l)) := by
  unfold dNotIn inB
  simp only [flatD, flat_ints, any_ints, Bool.and_self, if_true, Option.map_some]
end Lw

namespace Lw
open PySem L2 MV
theorem upto_nodup (n : Nat) : (upto n).Nodup := (upto_asc n).imp fun h => by omega
theorem restOf_eq {ps : List Pr} {rs : List Rt} {S : List Int} : (S.filter fun s => decide (s ∉ layer ps rs S)) = restOf ps rs S := by
  unfold restOf layer
  refine List.filter_congr fun s hs => ?_
  cases e : isFree ps rs S s <;> simp [List.mem_filter, hs, e]
theorem layer_len {ps : List Pr} {rs : List Rt} {S : List Int} : (layer ps rs S).length ≤ S.length := List.length_filter_le _ _
theorem upto_le (n : Nat) : (upto n).Pairwise (· ≤ ·) := (upto_asc n).imp fun h => by omega
/-! ### own rounds -/
section
variable (ps : List Pr) (rs : List Rt)
def stp (q : List (List Int) × List Int) : List (List Int) × List Int := if layer ps rs q.2 = [] then q else (q.1 ++ [layer ps rs q.2], restOf ps rs q.2)
def rnd : Nat → List (List Int) × List Int → List (List Int) × List Int
  | 0, q => q
  | k + 1, q => rnd k (stp ps rs q)
end
section
variable {ps : List Pr} {rs : List Rt}
theorem rnd_succ : ∀ (k : Nat) (q : List (List Int) × List Int), rnd ps rs (k + 1) q = stp ps rs (rnd ps rs k q)
  | 0, q => rfl
  | k + 1, q => by show rnd ps rs (k + 1) (stp ps rs q) = _; rw [rnd_succ k]; rfl
theorem rnd_fix {q : List (List Int) × List Int} (h : stp ps rs q = q) : ∀ k, rnd ps rs k q = q
  | 0 => rfl
  | k + 1 => by show rnd ps rs k (stp ps rs q) = q; rw [h]; exact rnd_fix h k
theorem rnd_peel : ∀ (k : Nat) (acc : List (List Int)) (S : List Int), rnd ps rs k (acc, S) = (acc ++ (peel ps rs k S).1, (peel ps rs k S).2)
  | 0, acc, S => by simp [rnd, peel]
  | k + 1, acc, S => by
    by_cases h : layer ps rs S = []
    · have e : stp ps rs (acc, S) = (acc, S) := by simp [stp, h]
      rw [rnd_fix e]
      simp [peel, h]
    · have e : stp ps rs (acc, S) = (acc ++ [layer ps rs S], restOf ps rs S) := by simp [stp, h]
      show rnd ps rs k (stp ps rs (acc, S)) = _
      rw [e, rnd_peel k]
      simp [peel, h]
theorem stp_sub {q : List (List Int) × List Int} : (stp ps rs q).2.Sublist q.2 := by
  unfold stp
  split
  · exact List.Sublist.refl _
  · exact List.filter_sublist
theorem rnd_sub : ∀ (k : Nat) (q : List (List Int) × List Int), (rnd ps rs k q).2.Sublist q.2
  | 0, q => List.Sublist.refl _
  | k + 1, q => (rnd_sub k _).trans stp_sub
theorem rnd_acc : ∀ (k : Nat) (q : List (List Int) × List Int), (rnd ps rs k q).1.length ≤ q.1.length + k
  | 0, q => Nat.le_refl _
  | k + 1, q => by
    have h := rnd_acc k (stp ps rs q)
    have : (stp ps rs q).1.length ≤ q.1.length + 1 := by
      unfold stp
      split <;> simp
    show (rnd ps rs k (stp ps rs q)).1.length ≤ _
    omega
end
end Lw

namespace Lw
open PySem L2 MV
theorem LIM_of {n : Nat} (h : n ≤ 1000000) : n ≤ LIM := by unfold LIM; omega
/-! ### ascending -/
def inB2 (n : Int) (s : Int) : Bool := decide (0 ≤ s) && decide (s < n)
def adjB (l : List Int) : Bool := (l.zip l.tail).all fun p => decide (p.1 < p.2)
def ascB (n : Int) (l : List Int) : Bool := l.all (inB2 n) && adjB l
theorem adj_iff : ∀ l : List Int, adjB l = true ↔ l.Pairwise (· < ·)
  | [] => by simp [adjB]
  | [x] => by simp [adjB]
  | x :: y :: l => by
    have ih := adj_iff (y :: l)
    have e : adjB (x :: y :: l) = (decide (x < y) && adjB (y :: l)) := rfl
    rw [e, Bool.and_eq_true, decide_eq_true_eq, ih]
    constructor
    · intro h
      refine List.pairwise_cons.mpr ⟨fun z hz => ?_, h.2⟩
      rcases List.mem_cons.mp hz with rfl | hz
      · exact h.1
      · have := (List.pairwise_cons.mp h.2).1 z hz
        have := h.1
        omega
    · intro h
      have h' := List.pairwise_cons.mp h
      exact ⟨h'.1 y (by simp), h'.2⟩
theorem ascB_iff {n : Nat} {l : List Int} : ascB n l = true ↔ asc n l := by
  unfold ascB asc
  rw [Bool.and_eq_true, adj_iff, List.all_eq_true]
  simp [inB2]
theorem zip_ints : ∀ a b : List Int, zipD (a.map .int) (b.map .int) = (a.zip b).map fun p => D.tup [.int p.1, .int p.2]
  | [], b => rfl
  | _ :: _, [] => rfl
  | x :: a, y :: b => by rw [List.map_cons, List.map_cons, zipD, zip_ints a b]; rfl
theorem all_bools {α : Type} {xs : List α} {f : α → Bool} : fAll [.lst (xs.map fun x => .bool (f x))] = some (.bool (xs.all f)) := by
  rw [fAll_l, boolsD_map]
  simp only [Option.map_some, List.all_map]
  rfl
theorem any_bools {α : Type} {xs : List α} {f : α → Bool} : fAny [.lst (xs.map fun x => .bool (f x))] = some (.bool (xs.any f)) := by
  show (boolsD _).map _ = _
  rw [boolsD_map]
  simp only [Option.map_some, List.any_map]
  rfl
theorem sIx_1 (n d : Nat) : HT.sIx n d (some 1) = min 1 n := rfl
theorem sl_tail {ds : List D} : cutD ds (some 1) none = ds.tail := by
  unfold cutD
  rw [sIx_1, show HT.sIx ds.length ds.length none = ds.length from rfl]
  cases ds with
  | nil => rfl
  | cons d ds =>
    have : min 1 (d :: ds).length = 1 := by simp
    rw [this]
    simp
/-- a list or a tuple of these ints -/
def Sq (d : D) (l : List Int) : Prop := d = intsL l ∨ d = intsT l
theorem asc_ok {d : D} {l : List Int} {n : Int} (h : Sq d l) (hl : l.length ≤ 1000) : f_is_ascending [.p d, .p (.int n)] = some (.p (.bool (ascB n l)), [none, none]) := by
  have e1 : ∀ {a u v w : Option W}, lcRun [3] (gN 3) (fun e => some (true, e)) b_is_ascending_0 (l.map .int) [a, some (.p (.int n)), u, none, v, w] = some (l.map fun s => .bool (inB2 n s), [a, some (.p (.int n)), u, none, v, w]) :=
    lcRun_mp _ fun s _ => by simp [lcStep, b_is_ascending_0, inB2]
  have e2 : ∀ {a b c d : Option W}, lcRun [4, 5] (gT 2 (gsCons (gN 4) (gsCons (gN 5) gsNil))) (fun e => some (true, e)) b_is_ascending_1 ((l.zip l.tail).map fun p => D.tup [.int p.1, .int p.2]) [a, b, c, d, none, none] = some ((l.zip l.tail).map fun p => .bool (decide (p.1 < p.2)), [a, b, c, d, none, none]) :=
    lcRun_mp _ fun s _ => by simp [lcStep, b_is_ascending_1]
  have h1 : ∀ k, 1000 ≤ k → l.length ≤ k := fun k h => by omega
  have ez : (zipD (List.map D.int l) (List.map D.int l).tail) = (l.zip l.tail).map fun p => D.tup [.int p.1, .int p.2] := by rw [← List.map_tail, zip_ints]
  have ab1 : fAll [.lst (l.map fun s => .bool (inB2 n s))] = some (.bool (l.all (inB2 n))) := all_bools
  have ab2 : fAll [.lst ((l.zip l.tail).map fun p => .bool (decide (p.1 < p.2)))] = some (.bool (adjB l)) := all_bools
  have hz : (l.zip l.tail).length ≤ 1000000 := by rw [List.length_zip]; omega
  unfold f_is_ascending fsem m_is_ascending ascB
  rcases h with rfl | rfl
  · simp [-fAll_l, e1, e2, h1, ab1, ab2, outs, dSl, sl_tail, ez, hz]
  · simp [-fAll_l, e1, e2, h1, ab1, ab2, outs, dSl, sl_tail, ez, hz]
end Lw

namespace Lw
open PySem L2 MV
/-! ### check_problem -/
theorem enD_map {α : Type} {f : α → D} (xs : List α) : enD (xs.map f) = xs.zipIdx.map fun p => .tup [.int (p.2 : Int), f p.1] := by
  unfold enD
  rw [List.mapIdx_eq_zipIdx_map, List.zipIdx_map, List.map_map]
  rfl
theorem zi_mem {α : Type} {xs : List α} {p : α × Nat} (h : p ∈ xs.zipIdx) : p.1 ∈ xs := by
  obtain ⟨x, i⟩ := p
  exact (List.mem_zipIdx h).2.2 ▸ List.getElem_mem _
theorem check_ok {n : Nat} {ps : List Pr} {rs : List Rt} (h : Okp n ps rs) : f_check_problem [.p (.int n), .p (prsD ps), .p (rtsD rs)] = some (.p .none, [none, none, none]) := by
  have l1 : forRun (gT 2 (gsCons (gN 3) (gsCons (gT 2 (gsCons (gN 4) (gsCons (gN 5) gsNil))) gsNil))) b_check_problem_0 (enD (ps.map prD)) [some (.p (.int n)), some (.p (prsD ps)), some (.p (rtsD rs)), none, none, none, none, none, none, none] = some (.nx [some (.p (.int n)), some (.p (prsD ps)), some (.p (rtsD rs)), none, none, none, none, none, none, none]) := by
    rw [enD_map]
    refine forRun_same fun p hp => ?_
    obtain ⟨q1, ⟨q2, q3⟩, q4, q5⟩ := h.pr p.1 (zi_mem hp)
    simp [forStep, b_check_problem_0, prD, q1, q2, q3, q4, q5]
  have l2 : forRun (gT 2 (gsCons (gN 3) (gsCons (gT 2 (gsCons (gN 6) (gsCons (gN 7) gsNil))) gsNil))) b_check_problem_2 (enD (rs.map rtD)) [some (.p (.int n)), some (.p (prsD ps)), some (.p (rtsD rs)), none, none, none, none, none, none, none] = some (.nx [some (.p (.int n)), some (.p (prsD ps)), some (.p (rtsD rs)), none, none, none, none, none, none, none]) := by
    rw [enD_map]
    refine forRun_same fun p hp => ?_
    have hr := zi_mem hp
    generalize p.1 = r at *
    obtain ⟨q1, q2, q3, q4⟩ := h.rt r hr
    have s1 := h.size
    have a1 := asc_len q1
    have a2 := asc_len q2
    have b1 : ∀ k, 1000 ≤ k → r.1.length ≤ k := fun k h => by omega
    have b2 : ∀ k, 1000 ≤ k → r.2.length ≤ k := fun k h => by omega
    have c1 := asc_ok (n := n) (l := r.1) (.inr rfl) (by omega)
    have c2 := asc_ok (n := n) (l := r.2) (.inr rfl) (by omega)
    rw [ascB_iff.mpr q1] at c1
    rw [ascB_iff.mpr q2] at c2
    have c3 : 0 < r.1.length := by
      have : r.1.length ≠ 0 := fun z => q3 (List.eq_nil_of_length_eq_zero z)
      omega
    have c4 : (r.2.all fun s => decide (s ∈ r.1)) = true := List.all_eq_true.mpr fun s hs => decide_eq_true (q4 s hs)
    have c5 : fAll [.lst (r.2.map fun s => .bool (decide (s ∈ r.1)))] = some (.bool true) := by rw [all_bools, c4]
    have c6 : ∀ {a b c d u v w x : Option W}, lcRun [9] (gN 9) (fun e => some (true, e)) b_check_problem_1 (r.2.map .int) [a, b, c, d, u, v, some (.p (intsT r.1)), w, x, none] = some (r.2.map fun s => .bool (decide (s ∈ r.1)), [a, b, c, d, u, v, some (.p (intsT r.1)), w, x, none]) :=
      lcRun_mp _ fun s _ => by simp [lcStep, b_check_problem_1, in_t]
    simp [-fAll_l, forStep, b_check_problem_2, rtD, c1, c2, c3, c5, c6, b2]
  have s1 : (0 : Int) ≤ n ∧ (n : Int) ≤ 30 := by have := h.size; omega
  unfold f_check_problem fsem m_check_problem
  simp [fEnum, s1.1, s1.2] at l1 l2 ⊢
  simp [l1, l2, outs]
end Lw

namespace Lw
open PySem L2 MV
/-! ### agrees -/
def mkK (j : Nat) (fb : P D) : Option (D × MV.Env) → Option (D × MV.Env)
  | some x => (minT j fb x.2 x.1).map fun d => (d, x.2)
  | none => none
@[simp] theorem ev_minKey {j : Nat} {fb : P D} {mt : M D} {e : MV.Env} : mMinKey j fb mt e = mkK j fb (mt e) := by
  unfold mMinKey mkK
  cases mt e <;> rfl
@[simp] theorem mkK_s {j : Nat} {fb : P D} {d : D} {e : MV.Env} : mkK j fb (some (d, e)) = (minT j fb e d).map fun d => (d, e) := rfl
abbrev plG (O : List Int) (s : Int) : W := .p (.int (ixI O s))
theorem keyL_map {j : Nat} {fb : P D} {e : MV.Env} {f : Int → Int} : ∀ {L : List Int}, (∀ s ∈ L, fb (e.set j (some (.p (.int s)))) = some (.int (f s))) → keyL j fb e (L.map .int) = some (L.map f)
  | [], _ => rfl
  | s :: L, h => by
    have ih := keyL_map (L := L) fun t ht => h t (by simp [ht])
    show ((fb (e.set j (some (.p (.int s))))).bind kInt).bind (fun k => (keyL j fb e (L.map .int)).map (k :: ·)) = _
    rw [h s (by simp), ih]
    rfl
theorem best_fst {O L : List Int} (nd : O.Nodup) (h0 : L ≠ []) (hs : ∀ x ∈ L, x ∈ O) : bestK (L.map (ixI O)) (L.map .int) = some (.int (fstO O L)) := by
  obtain ⟨A, B, e, m1, m2⟩ := fstO_split h0 hs
  have le : ∀ x ∈ L, ixI O (fstO O L) ≤ ixI O x ∧ (x ≠ fstO O L → ixI O (fstO O L) < ixI O x) := fun x hx => ix_le nd e (hs x hx) fun z => m2 x z hx
  have hi : L.idxOf (fstO O L) < L.length := List.idxOf_lt_length_iff.mpr m1
  have gi : L[L.idxOf (fstO O L)]? = some (fstO O L) := by
    rw [List.getElem?_eq_getElem hi]
    exact congrArg some (List.getElem_idxOf hi)
  have key : LamK.First (fun m => ((L.map (ixI O))[m]?).getD 0) L.length (L.idxOf (fstO O L)) := fun m hm => by
    have g1 : ((L.map (ixI O))[L.idxOf (fstO O L)]?).getD 0 = ixI O (fstO O L) := by rw [List.getElem?_map, gi]; rfl
    have g2 : ((L.map (ixI O))[m]?).getD 0 = ixI O L[m] := by rw [List.getElem?_map, List.getElem?_eq_getElem hm]; rfl
    show ((L.map (ixI O))[L.idxOf (fstO O L)]?).getD 0 ≤ ((L.map (ixI O))[m]?).getD 0 ∧ (m < L.idxOf (fstO O L) → ((L.map (ixI O))[L.idxOf (fstO O L)]?).getD 0 < ((L.map (ixI O))[m]?).getD 0)
    rw [g1, g2]
    refine ⟨(le _ (List.getElem_mem hm)).1, fun lt => (le _ (List.getElem_mem hm)).2 fun z => ?_⟩
    have := List.not_of_lt_findIdx (p := fun y => y == fstO O L) (xs := L) (i := m) lt
    simp [z] at this
  cases L with
  | nil => exact absurd rfl h0
  | cons k L =>
    have q := bk_first (L.map (ixI O)) (L.map .int) (ixI O k) (.int k) ((k :: L).idxOf (fstO O (k :: L))) (by simp) (by simpa using hi) (by simpa using key)
    have q2 : ((D.int k :: L.map D.int))[(k :: L).idxOf (fstO O (k :: L))]? = some (.int (fstO O (k :: L))) := by
      rw [← List.map_cons, List.getElem?_map, gi]; rfl
    rw [q2] at q
    show some (bk (ixI O k) (.int k) (L.map (ixI O)) (L.map .int)) = _
    exact q.symm
theorem min_fst {j : Nat} {fb : P D} {e : MV.Env} {O L : List Int} (nd : O.Nodup) (h0 : L ≠ []) (hs : ∀ x ∈ L, x ∈ O) (h : ∀ s ∈ L, fb (e.set j (some (.p (.int s)))) = some (.int (ixI O s))) : minT j fb e (.tup (L.map .int)) = some (.int (fstO O L)) := by
  show (keyL j fb e (L.map .int)).bind (fun ks => bestK ks (L.map .int)) = _
  rw [keyL_map h]
  exact best_fst nd h0 hs
theorem isort_nodup {O : List Int} {n : Nat} (h : isort O = upto n) : O.Nodup ∧ (∀ s, s ∈ O ↔ 0 ≤ s ∧ s < (n : Int)) ∧ O.length = n := by
  have p : O.Perm (upto n) := by rw [← h]; exact (isort_perm O).symm
  exact ⟨p.nodup_iff.mpr (upto_nodup n), fun s => by rw [p.mem_iff, upto_mem], by rw [p.length_eq, upto_len]⟩
theorem dc_pl {O : List Int} (nd : O.Nodup) (hl : O.length < 1000000) {a0 a1 a2 a3 a4 a7 a8 a9 a10 : Option W} : ∀ (S A : List Int), O = A ++ S →
    dcRun [5, 6] (gT 2 (gsCons (gN 5) (gsCons (gN 6) gsNil))) (fun e => some (true, e)) (mVar 6) (mP (mVar 5)) ((S.zipIdx A.length).map fun p => .tup [.int (p.2 : Int), .int p.1]) (dmap A (plG O)) [a0, a1, a2, a3, a4, none, none, a7, a8, a9, a10] = some (dmap O (plG O), [a0, a1, a2, a3, a4, none, none, a7, a8, a9, a10])
  | [], A, e => by
    rw [List.append_nil] at e
    subst e
    simp [dcRun]
  | s :: S, A, e => by
    have hs : s ∉ A := fun q => by
      rw [e, List.nodup_append] at nd
      exact nd.2.2 s q s (by simp) rfl
    have ix : ixI O s = (A.length : Int) := by
      unfold ixI
      rw [e, List.idxOf_append, if_neg hs]
      simp
    have hp : dputW (dmap A (plG O)) (.inl s) (.p (.int (A.length : Int))) = some (dmap (A ++ [s]) (plG O)) := by
      unfold dputW putKW
      rw [dmap_any, decide_eq_false hs, dmap_len]
      simp only [Bool.not_false, Bool.or_true, if_true, Bool.false_eq_true, if_false]
      rw [if_pos (by rw [e] at hl; simp at hl; omega)]
      simp [dmap, ix]
    have ih := dc_pl nd hl (a0 := a0) (a1 := a1) (a2 := a2) (a3 := a3) (a4 := a4) (a7 := a7) (a8 := a8) (a9 := a9) (a10 := a10) S (A ++ [s]) (by rw [e]; simp)
    rw [show (A ++ [s]).length = A.length + 1 by simp] at ih
    rw [List.zipIdx_cons, List.map_cons]
    simp [dcRun, nex, hp, ih]
theorem agrees_ok {n : Nat} {ps : List Pr} {rs : List Rt} {O : List Int} {d : D} (hd : Sq d O) (h : Okp n ps rs) : f_agrees [.p (.int n), .p (prsD ps), .p (rtsD rs), .p d] = some (.p (.bool (decide (isort O = upto n) && agB ps rs O)), [none, none, none, none]) := by
  have hn := h.size
  have c := check_ok h
  have hr : (-1000000 : Int) ≤ n ∧ (n : Int) ≤ 1000000 := by omega
  have st : fSortA [d] = some (.lst ((isort O).map .int)) := by
    rcases hd with rfl | rfl
    · show (intsD _).bind _ = _
      rw [intsD_map]
      rfl
    · show (intsD _).bind _ = _
      rw [intsD_map]
      rfl
  have en : fEnumA [d] = some (enD (O.map .int)) := by rcases hd with rfl | rfl <;> rfl
  have ne := ne_ints (a := isort O) (b := upto n)
  unfold f_agrees fsem m_agrees
  by_cases z : isort O = upto n
  · obtain ⟨nd, mem, len⟩ := isort_nodup z
    have d1 : ∀ {a0 a1 a2 a3 a4 a7 a8 a9 a10 : Option W}, dcRun [5, 6] (gT 2 (gsCons (gN 5) (gsCons (gN 6) gsNil))) (fun e => some (true, e)) (mVar 6) (mP (mVar 5)) (enD (O.map .int)) [] [a0, a1, a2, a3, a4, none, none, a7, a8, a9, a10] = some (dmap O (plG O), [a0, a1, a2, a3, a4, none, none, a7, a8, a9, a10]) := by
      intro a0 a1 a2 a3 a4 a7 a8 a9 a10
      rw [enD_map]
      exact dc_pl nd (by omega) O [] rfl
    have rd : ∀ {a0 a1 a2 a3 a5 a6 a7 a8 a9 a10 : Option W} {g : P D} {s : Int}, s ∈ O → g [a0, a1, a2, a3, some (.od (dmap O (plG O))), a5, a6, a7, a8, a9, a10] = some (.int s) → vRead (lKey (lName 4) g) [a0, a1, a2, a3, some (.od (dmap O (plG O))), a5, a6, a7, a8, a9, a10] = some (.int (ixI O s)) := by
      intro a0 a1 a2 a3 a5 a6 a7 a8 a9 a10 g s hs hg
      simp [hg, valW_in hs]
    have l1 : ∀ {a0 a1 a2 a3 a5 a6 a9 a10 : Option W}, lcRun [7, 8] (gT 2 (gsCons (gN 7) (gsCons (gN 8) gsNil))) (fun e => some (true, e)) b_agrees_0 (ps.map prD) [a0, a1, a2, a3, some (.od (dmap O (plG O))), a5, a6, none, none, a9, a10] = some (ps.map fun p => .bool (decide (ixI O p.2 < ixI O p.1)), [a0, a1, a2, a3, some (.od (dmap O (plG O))), a5, a6, none, none, a9, a10]) :=
      lcRun_mp _ fun p hp => by
        obtain ⟨q1, q2, q4⟩ := h.pr p hp
        have m1 := (mem p.1).mpr q2
        have m2 := (mem p.2).mpr q4
        simp [lcStep, b_agrees_0, prD, valW_in m1, valW_in m2]
    have l2 : ∀ {a0 a1 a2 a3 a5 a6 a7 a8 : Option W}, lcRun [9, 10] (gT 2 (gsCons (gN 9) (gsCons (gN 10) gsNil))) (fun e => some (true, e)) b_agrees_1 (rs.map rtD) [a0, a1, a2, a3, some (.od (dmap O (plG O))), a5, a6, a7, a8, none, none] = some (rs.map fun r => .bool (decide (fstO O r.1 ∈ r.2)), [a0, a1, a2, a3, some (.od (dmap O (plG O))), a5, a6, a7, a8, none, none]) :=
      lcRun_mp _ fun r hr => by
        obtain ⟨q1, q2, q3, q4⟩ := h.rt r hr
        have ms : ∀ x ∈ r.1, x ∈ O := fun x hx => (mem x).mpr (q1.1 x hx)
        have mm : ∀ {a0 a1 a2 a3 a5 a6 a7 a8 a9 a10 : Option W}, minT 6 (vRead (lKey (lName 4) (vVar 6))) [a0, a1, a2, a3, some (.od (dmap O (plG O))), a5, a6, a7, a8, a9, a10] (.tup (r.1.map .int)) = some (.int (fstO O r.1)) := fun {a0 a1 a2 a3 a5 a6 a7 a8 a9 a10} => min_fst nd q3 ms fun s hs => rd (ms s hs) rfl
        simp [lcStep, b_agrees_1, rtD, mm, in_t]
    have a1 : fAny [.lst (ps.map fun p => .bool (decide (ixI O p.2 < ixI O p.1)))] = some (.bool (ps.any fun p => decide (ixI O p.2 < ixI O p.1))) := any_bools
    have a2 : fAll [.lst (rs.map fun r => .bool (decide (fstO O r.1 ∈ r.2)))] = some (.bool (rs.all fun r => decide (fstO O r.1 ∈ r.2))) := all_bools
    have hps : ps.length ≤ 1000000 := by have := h.np; omega
    have hrs : rs.length ≤ 1000000 := by have := h.nr; omega
    have ne' : dNe (.lst ((upto n).map .int)) (.lst ((upto n).map .int)) = some (.bool false) := by rw [ne_ints]; simp
    cases q : ps.any fun p => decide (ixI O p.2 < ixI O p.1) with
    | true =>
      have ag : agB ps rs O = false := by unfold agB; rw [q]; rfl
      simp [-fAll_l, -fAny_l, c, st, ne', hr, rng_upto, z, d1, l1, a1, q, ag, hps, en, outs]
    | false =>
      have ag : agB ps rs O = rs.all fun r => decide (fstO O r.1 ∈ r.2) := by unfold agB; rw [q]; rfl
      simp [-fAll_l, -fAny_l, c, st, ne', hr, rng_upto, z, d1, l1, l2, a1, a2, q, ag, hps, hrs, en, outs]
  · rw [decide_eq_false z] at ne
    simp [-fAll_l, -fAny_l, c, st, ne, hr, rng_upto, z, outs]
end Lw

namespace Lw
open PySem L2 MV
/-! ### the law's own agrees -/
theorem idxF_map {s : Int} : ∀ {O : List Int}, s ∈ O → dIdx (.lst (O.map .int)) (.int s) = some (.int (ixI O s)) := by
  intro O hs
  have e : ((fun y => eqF y (.int s)) ∘ D.int) = fun x : Int => x == s := by
    funext x
    show eqF (.int x) (.int s) = _
    simp [eqF]
  show (if (flatD (.int s) && (O.map D.int).all flatD) = true then ((O.map D.int).findIdx? fun y => eqF y (.int s)).map fun (j : Nat) => D.int (j : Int) else none) = _
  rw [if_pos (by simp [flatD]), List.findIdx?_map, e]
  rw [(List.findIdx?_eq_some_iff_findIdx_eq (i := O.idxOf s)).mpr ⟨List.idxOf_lt_length_iff.mpr hs, rfl⟩]
  rfl
theorem x_agrees_ok {n : Nat} {ps : List Pr} {rs : List Rt} {O : List Int} (h : Okp n ps rs) (pm : O.Perm (upto n)) : f_x_law_agrees [.p (prsD ps), .p (rtsD rs), .p (intsL O)] = some (.p (.bool (agB ps rs O)), [none, none, none]) := by
  have hn := h.size
  have mem : ∀ s, (0 ≤ s ∧ s < (n : Int)) → s ∈ O := fun s h => pm.mem_iff.mpr (upto_mem.mpr h)
  have hlen : O.length ≤ 1000000 := by rw [pm.length_eq, upto_len]; omega
  have l1 : ∀ {a0 a1 a5 a6 a7 : Option W}, lcRun [3, 4] (gT 2 (gsCons (gN 3) (gsCons (gN 4) gsNil))) (fun e => some (true, e)) b_x_law_agrees_0 (ps.map prD) [a0, a1, some (.p (intsL O)), none, none, a5, a6, a7] = some (ps.map fun p => .bool (decide (ixI O p.2 < ixI O p.1)), [a0, a1, some (.p (intsL O)), none, none, a5, a6, a7]) :=
    lcRun_mp _ fun p hp => by
      obtain ⟨q1, q2, q4⟩ := h.pr p hp
      have m1 := idxF_map (mem _ q2)
      have m2 := idxF_map (mem _ q4)
      simp [lcStep, b_x_law_agrees_0, prD, m1, m2]
  have l2 : ∀ {a0 a1 a3 a4 : Option W}, lcRun [5, 6] (gT 2 (gsCons (gN 5) (gsCons (gN 6) gsNil))) (fun e => some (true, e)) b_x_law_agrees_2 (rs.map rtD) [a0, a1, some (.p (intsL O)), a3, a4, none, none, none] = some (rs.map fun r => .bool (decide (fstO O r.1 ∈ r.2)), [a0, a1, some (.p (intsL O)), a3, a4, none, none, none]) :=
    lcRun_mp _ fun r hr => by
      obtain ⟨q1, q2, q3, q4⟩ := h.rt r hr
      have ms : ∀ x ∈ r.1, x ∈ O := fun x hx => mem x (q1.1 x hx)
      obtain ⟨A, B, e, m1, _⟩ := fstO_split q3 ms
      have li : ∀ {a0 a1 a3 a4 a6 : Option W}, lcRun [7] (gN 7) b_x_law_agrees_1 (mVar 7) (O.map .int) [a0, a1, some (.p (intsL O)), a3, a4, some (.p (intsT r.1)), a6, none] = some ((O.filter fun s => decide (s ∈ r.1)).map .int, [a0, a1, some (.p (intsL O)), a3, a4, some (.p (intsT r.1)), a6, none]) := fun {a0 a1 a3 a4 a6} =>
        lcRun_ft D.int (fun s => decide (s ∈ r.1)) fun s _ => by
          cases z : decide (s ∈ r.1) <;> simp [lcStep, b_x_law_agrees_1, in_t, z]
      have hd : (O.filter fun s => decide (s ∈ r.1)).head? = some (fstO O r.1) := by
        rw [List.head?_filter]
        unfold fstO
        cases q : O.find? fun s => decide (s ∈ r.1) with
        | some m => rfl
        | none =>
          rw [List.find?_eq_none] at q
          exact absurd (decide_eq_true m1) (q _ (ms _ m1))
      have hx : L2.atI ((O.filter fun s => decide (s ∈ r.1)).map D.int) 0 = some (.int (fstO O r.1)) := by
        rw [show (0 : Int) = ((0 : Nat) : Int) from rfl, atI_cast, List.getElem?_map, ← List.head?_eq_getElem?, hd]; rfl
      simp [lcStep, b_x_law_agrees_2, rtD, li, hx, in_t, hlen]
  have a1 : fAny [.lst (ps.map fun p => .bool (decide (ixI O p.2 < ixI O p.1)))] = some (.bool (ps.any fun p => decide (ixI O p.2 < ixI O p.1))) := any_bools
  have a2 : fAll [.lst (rs.map fun r => .bool (decide (fstO O r.1 ∈ r.2)))] = some (.bool (rs.all fun r => decide (fstO O r.1 ∈ r.2))) := all_bools
  have hps : ps.length ≤ 1000000 := by have := h.np; omega
  have hrs : rs.length ≤ 1000000 := by have := h.nr; omega
  unfold f_x_law_agrees fsem m_x_law_agrees
  cases q : ps.any fun p => decide (ixI O p.2 < ixI O p.1) with
  | true =>
    have ag : agB ps rs O = false := by unfold agB; rw [q]; rfl
    simp [-fAll_l, -fAny_l, l1, a1, q, ag, hps, outs]
  | false =>
    have ag : agB ps rs O = rs.all fun r => decide (fstO O r.1 ∈ r.2) := by unfold agB; rw [q]; rfl
    simp [-fAll_l, -fAny_l, l1, l2, a1, a2, q, ag, hps, hrs, outs]
end Lw

namespace Lw
open PySem L2 MV
/-! ### drawn things -/
theorem of_ints {w : W} (hw : BagW w) {l : List Int} (h0 : l ≠ []) (h1 : l.length ≤ 1000000) : ∃ s w', f_x_law_of [w, .p (intsL l)] = some (.p (.int s), [some w', none]) ∧ s ∈ l ∧ BagW w' := by
  obtain ⟨d, w', e, hd, hw'⟩ := of_l hw (ds := l.map .int) (by rw [List.length_map]; exact List.length_pos_iff.mpr h0) (by simpa using h1)
  obtain ⟨s, hs, rfl⟩ := List.mem_map.mp hd
  exact ⟨s, w', e, hs, hw'⟩
theorem part_ok {w : W} (hw : BagW w) {l : List Int} (h1 : l.length ≤ 1000000) : ∃ l' w', f_x_law_part [w, .p (intsL l)] = some (.p (intsL l'), [some w', none]) ∧ l'.Sublist l ∧ BagW w' := by
  obtain ⟨ys, e', h, w', hw', rfl, l', rfl, hs⟩ := lcRun_st (own := [2]) (tg := gN 2) (c := b_x_law_part_0) (m := mVar 2) (g := D.int) (fun pre acc e => ∃ w', BagW w' ∧ e = [some w', some (.p (intsL l)), none] ∧ ∃ l' : List Int, acc = l'.map .int ∧ l'.Sublist pre) l (by
    rintro pre x post acc e hx ⟨w', hw', rfl, l', rfl, hs⟩
    obtain ⟨r, w2, e2, r0, r1, hw2⟩ := pull_ok hw' (s := 2) (by omega) (by omega)
    by_cases z : r = 0
    · refine ⟨some (.int x), [some w2, some (.p (intsL l)), none], ?_, w2, hw2, rfl, l' ++ [x], by simp, hs.append (List.Sublist.refl _)⟩
      simp [lcStep, b_x_law_part_0, e2, z]
    · refine ⟨none, [some w2, some (.p (intsL l)), none], ?_, w2, hw2, rfl, l', by simp, hs.trans (List.sublist_append_left _ _)⟩
      simp [lcStep, b_x_law_part_0, e2, z]) [some w, some (.p (intsL l)), none] ⟨w, hw, rfl, [], rfl, List.Sublist.refl _⟩
  refine ⟨l', w', ?_, hs, hw'⟩
  unfold f_x_law_part fsem m_x_law_part
  simp [h1, h, outs]
def OkPr (n : Nat) (p : Pr) : Prop := p.1 ≠ p.2 ∧ (0 ≤ p.1 ∧ p.1 < (n : Int)) ∧ (0 ≤ p.2 ∧ p.2 < (n : Int))
def OkRt (n : Nat) (r : Rt) : Prop := asc n r.1 ∧ asc n r.2 ∧ r.1 ≠ [] ∧ ∀ s ∈ r.2, s ∈ r.1
theorem pairs_ok {w : W} (hw : BagW w) {n m : Nat} (hn : n ≤ 30) (hm : m ≤ 500) : ∃ ps w', f_x_law_pairs [w, .p (.int n), .p (.int m)] = some (.p (prsD ps), [some w', none, none]) ∧ ps.length ≤ m ∧ (∀ p ∈ ps, OkPr n p) ∧ BagW w' := by
  unfold f_x_law_pairs fsem m_x_law_pairs
  by_cases h1 : (1 : Int) < n
  · obtain ⟨r, w1, e1, r0, r1, hw1⟩ := pull_ok hw (s := m + 1) (by omega) (by omega)
    obtain ⟨e', h2, ps, w2, hw2, hl, hp, rfl⟩ := forRun_any (tg := gN 4) (b := b_x_law_pairs_0) (P := fun j e => ∃ ps w', BagW w' ∧ ps.length = j ∧ (∀ p ∈ ps, OkPr n p) ∧ e = [some w', some (.p (.int n)), some (.p (.int m)), some (.ol (ps.map fun p => .p (prD p))), none, none]) (rngD 0 r.toNat) (by
      rintro j d e hd hj ⟨ps, w', hw', hl, hp, rfl⟩
      rw [rng_len] at hj
      obtain ⟨a, w2, e2, a0, a1, hw2⟩ := pull_ok hw' (s := n) (by omega) (by omega)
      obtain ⟨b, w3, e3, b0, b1, hw3⟩ := pull_ok hw2 (s := n - 1) (by omega) (by omega)
      have hdv : ∀ x : Int, CDiv x n := fun x => ⟨by omega, by omega⟩
      have hl' : ps.length < 1000000 := by omega
      have h2 : (2 : Nat) ≤ LIM := by unfold LIM; omega
      have hn0 : 0 < n := by omega
      refine ⟨_, ?_, ps ++ [(a, (a + 1 + b) % n)], w3, hw3, by simp [hl], fun p hp' => ?_, rfl⟩
      · simp [forStep, b_x_law_pairs_0, e2, e3, hdv, hl', h2, prD, hn0]
      · rcases List.mem_append.mp hp' with q | q
        · exact hp p q
        · rw [List.mem_singleton] at q
          subst q
          have m1 := Int.emod_nonneg (a + 1 + b) (b := (n : Int)) (by omega)
          have m2 := Int.emod_lt_of_pos (a + 1 + b) (b := (n : Int)) (by omega)
          refine ⟨?_, ⟨a0, a1⟩, m1, m2⟩
          intro z
          have z : a = (a + 1 + b) % n := z
          by_cases y : a + 1 + b < n
          · rw [Int.emod_eq_of_lt (by omega) y] at z; omega
          · have : (a + 1 + b) % n = (a + 1 + b - n) % n := by rw [Int.sub_emod_right]
            rw [this, Int.emod_eq_of_lt (by omega) (by omega)] at z
            omega) [some w1, some (.p (.int n)), some (.p (.int m)), some (.ol []), none, none] ⟨[], w1, hw1, rfl, by simp, rfl⟩
    rw [rng_len] at hl
    refine ⟨ps, w2, ?_, by omega, hp, hw2⟩
    have hr : (-1000000 : Int) ≤ r ∧ r ≤ 1000000 := by omega
    simp [h1, e1, hr, h2, outs]
  · refine ⟨[], w, ?_, by simp, by simp, hw⟩
    simp [h1, outs]
theorem reports_ok {w : W} (hw : BagW w) {n m : Nat} (hn : n ≤ 30) (hm : m ≤ 90) : ∃ rs w', f_x_law_reports [w, .p (.int n), .p (.int m)] = some (.p (rtsD rs), [some w', none, none]) ∧ rs.length ≤ m ∧ (∀ r ∈ rs, OkRt n r) ∧ BagW w' := by
  have h2l : (2 : Nat) ≤ LIM := by unfold LIM; omega
  have h1l : (1 : Nat) ≤ LIM := by unfold LIM; omega
  have body : ∀ (w : W) (rs : List Rt) (d : D), 0 < n → rs.length < 1000 → BagW w → ∃ r w', OkRt n r ∧ BagW w' ∧ forStep (gN 4) b_x_law_reports_1 d [some w, some (.p (.int n)), some (.p (.int m)), some (.ol (rs.map fun p => .p (rtD p))), none, none, none, none] = some (.nx [some w', some (.p (.int n)), some (.p (.int m)), some (.ol ((rs ++ [r]).map fun p => .p (rtD p))), none, none, none, none]) := by
    intro w rs d h1 hl hw
    obtain ⟨ys, e', hlc, w1, hw1, rfl, sl, rfl, hs⟩ := lcRun_st (own := [7]) (tg := gN 7) (c := b_x_law_reports_0) (m := mVar 7) (g := D.int) (fun pre acc e => ∃ w', BagW w' ∧ e = [some w', some (.p (.int n)), some (.p (.int m)), some (.ol (rs.map fun p => .p (rtD p))), some (.p d), none, none, none] ∧ ∃ l' : List Int, acc = l'.map .int ∧ l'.Sublist pre) (upto n) (by
      rintro pre x post acc e hx ⟨w', hw', rfl, l', rfl, hs⟩
      obtain ⟨r, w2, e2, r0, r1, hw2⟩ := pull_ok hw' (s := 3) (by omega) (by omega)
      by_cases z : r = 0
      · refine ⟨some (.int x), _, ?_, w2, hw2, rfl, l' ++ [x], by simp, hs.append (List.Sublist.refl _)⟩
        simp [lcStep, b_x_law_reports_0, e2, z]
      · refine ⟨none, _, ?_, w2, hw2, rfl, l', by simp, hs.trans (List.sublist_append_left _ _)⟩
        simp [lcStep, b_x_law_reports_0, e2, z]) [some w, some (.p (.int n)), some (.p (.int m)), some (.ol (rs.map fun p => .p (rtD p))), some (.p d), none, none, none] ⟨w, hw, rfl, [], rfl, List.Sublist.refl _⟩
    have ascS : ∀ l : List Int, l.Sublist (upto n) → asc n l := fun l h => ⟨fun s hs => upto_mem.mp (h.subset hs), (upto_asc n).sublist h⟩
    -- the slots, not empty
    obtain ⟨w2, sl2, hw2, hs2, hne, hsl⟩ : ∃ w2 sl2, BagW w2 ∧ sl2.Sublist (upto n) ∧ sl2 ≠ [] ∧
        (mIf (mBool (mOp dNe (mVar 5) (mDisp fLst aNil))) (mVar 5) (mDisp fLst (aD (mGetP (mCall f_x_law_pull (aIO 0 (aD (mVar 1) aNil)))) aNil))) [some w1, some (.p (.int n)), some (.p (.int m)), some (.ol (rs.map fun p => .p (rtD p))), some (.p d), some (.p (intsL sl)), none, none] = some (intsL sl2, [some w2, some (.p (.int n)), some (.p (.int m)), some (.ol (rs.map fun p => .p (rtD p))), some (.p d), some (.p (intsL sl)), none, none]) := by
      by_cases z : sl = []
      · obtain ⟨r, w2, e2, r0, r1, hw2⟩ := pull_ok hw1 (s := n) (by omega) (by omega)
        refine ⟨w2, [r], hw2, List.singleton_sublist.mpr (upto_mem.mpr ⟨r0, r1⟩), by simp, ?_⟩
        subst z
        simp [ne_ints0, e2, h1l, show dNe (.lst []) (.lst []) = some (.bool false) from ne_ints0 (a := [])]
      · exact ⟨w1, sl, hw1, hs, z, by simp [ne_ints0, z]⟩
    have hl2 : sl2.length ≤ 1000000 := by have := hs2.length_le; rw [upto_len] at this; omega
    -- the good ones
    obtain ⟨r9, w3, e3, _, _, hw3⟩ := pull_ok hw2 (s := 9) (by omega) (by omega)
    obtain ⟨w4, g4, hw4, hg4, hgg⟩ : ∃ w4 g4, BagW w4 ∧ g4.Sublist sl2 ∧
        (mIf (mBool (mOp dGt (mGetP (mCall f_x_law_pull (aIO 0 (aD (mC (.int 9)) aNil)))) (mC (.int 0)))) (mGetP (mCall f_x_law_part (aIO 0 (aD (mVar 5) aNil)))) (mDisp fLst aNil)) [some w2, some (.p (.int n)), some (.p (.int m)), some (.ol (rs.map fun p => .p (rtD p))), some (.p d), some (.p (intsL sl2)), none, none] = some (intsL g4, [some w4, some (.p (.int n)), some (.p (.int m)), some (.ol (rs.map fun p => .p (rtD p))), some (.p d), some (.p (intsL sl2)), none, none]) := by
      by_cases z : 0 < r9
      · obtain ⟨l', w4, e4, h4, hw4⟩ := part_ok hw3 hl2
        exact ⟨w4, l', hw4, h4, by simp [e3, z, e4]⟩
      · exact ⟨w3, [], hw3, List.nil_sublist _, by simp [e3, z]⟩
    obtain ⟨w5, g5, hw5, hg5, hif⟩ : ∃ w5 g5, BagW w5 ∧ g5.Sublist sl2 ∧
        (sIf (mAnd (mBool (mOp dEq (mVar 6) (mDisp fLst aNil))) (mBool (mOp dGt (mGetP (mCall f_x_law_pull (aIO 0 (aD (mC (.int 6)) aNil)))) (mC (.int 0))))) ((sSet 6 (mP (mDisp fLst (aD (mGetP (mCall f_x_law_of (aIO 0 (aD (mVar 5) aNil)))) aNil))))) (sNext)) [some w4, some (.p (.int n)), some (.p (.int m)), some (.ol (rs.map fun p => .p (rtD p))), some (.p d), some (.p (intsL sl2)), some (.p (intsL g4)), none] = some (.nx [some w5, some (.p (.int n)), some (.p (.int m)), some (.ol (rs.map fun p => .p (rtD p))), some (.p d), some (.p (intsL sl2)), some (.p (intsL g5)), none]) := by
      by_cases z : g4 = []
      · subst z
        obtain ⟨r6, w5, e5, _, _, hw5⟩ := pull_ok hw4 (s := 6) (by omega) (by omega)
        by_cases y : 0 < r6
        · obtain ⟨s, w6, e6, hs6, hw6⟩ := of_ints hw5 hne hl2
          exact ⟨w6, [s], hw6, List.singleton_sublist.mpr hs6, by simp [eq_ints0, e5, y, e6, h1l]⟩
        · exact ⟨w5, [], hw5, hg4, by simp [eq_ints0, e5, y]⟩
      · exact ⟨w4, g4, hw4, hg4, by simp [eq_ints0, z]⟩
    refine ⟨(sl2, g5), w5, ⟨ascS _ hs2, ascS _ (hg5.trans hs2), hne, fun s h => hg5.subset h⟩, hw5, ?_⟩
    have hr : (-1000000 : Int) ≤ n ∧ (n : Int) ≤ 1000000 := by omega
    have hl' : rs.length < 1000000 := by omega
    have hul : (upto n).length ≤ 1000000 := by rw [upto_len]; omega
    unfold forStep b_x_law_reports_1
    simp [-ev_if, -ev_sif, hr, rng_upto, hul, hlc]
    simp [-ev_if, -ev_sif, hsl, hgg, hif, hl', h2l, fTuple]
    rfl
  unfold f_x_law_reports fsem m_x_law_reports
  by_cases h1 : 0 < n
  · obtain ⟨r, w1, e1, r0, r1, hw1⟩ := pull_ok hw (s := m + 1) (by omega) (by omega)
    obtain ⟨e', h2, rs, w2, hw2, hl, hp, rfl⟩ := forRun_any (tg := gN 4) (b := b_x_law_reports_1) (P := fun j e => ∃ rs w', BagW w' ∧ rs.length = j ∧ (∀ p ∈ rs, OkRt n p) ∧ e = [some w', some (.p (.int n)), some (.p (.int m)), some (.ol (rs.map fun p => .p (rtD p))), none, none, none, none]) (rngD 0 r.toNat) (by
      rintro j d e hd hj ⟨rs, w', hw', hl, hp, rfl⟩
      rw [rng_len] at hj
      obtain ⟨q, w2, hq, hw2, e2⟩ := body w' rs d (by omega) (by omega) hw'
      refine ⟨_, e2, rs ++ [q], w2, hw2, by simp [hl], fun p hp' => ?_, rfl⟩
      rcases List.mem_append.mp hp' with z | z
      · exact hp p z
      · rw [List.mem_singleton] at z; subst z; exact hq) [some w1, some (.p (.int n)), some (.p (.int m)), some (.ol []), none, none, none, none] ⟨[], w1, hw1, rfl, by simp, rfl⟩
    rw [rng_len] at hl
    refine ⟨rs, w2, ?_, by omega, hp, hw2⟩
    have hr : (-1000000 : Int) ≤ r ∧ r ≤ 1000000 := by omega
    simp [h1, e1, hr, h2, outs]
  · refine ⟨[], w, ?_, by simp, by simp, hw⟩
    simp [h1, outs]
end Lw

namespace Lw
open PySem L2 MV
theorem okp_of {n : Nat} {ps : List Pr} {rs : List Rt} (hn : n ≤ 30) (h1 : ps.length ≤ 600) (h2 : rs.length ≤ 100) (h3 : ∀ p ∈ ps, OkPr n p) (h4 : ∀ r ∈ rs, OkRt n r) : Okp n ps rs := ⟨hn, h1, h2, h3, h4⟩
abbrev probD (n : Nat) (ps : List Pr) (rs : List Rt) : D := .tup [.int n, prsD ps, rtsD rs]
/-! ### sublists of an ascending list -/
theorem filter_sub : ∀ {U S : List Int}, S.Sublist U → U.Nodup → (U.filter fun s => decide (s ∈ S)) = S := by
  intro U S h
  induction h with
  | slnil => intro _; rfl
  | @cons S U a h ih =>
    intro nd
    rw [List.nodup_cons] at nd
    have : a ∉ S := fun z => nd.1 (h.subset z)
    simp only [List.filter_cons, this, decide_false]
    exact ih nd.2
  | @cons_cons S U a h ih =>
    intro nd
    rw [List.nodup_cons] at nd
    simp only [List.filter_cons, List.mem_cons, true_or, decide_true, if_true]
    congr 1
    rw [← ih nd.2]
    refine List.filter_congr fun s hs => ?_
    have : s ≠ a := fun z => nd.1 (z ▸ hs)
    simp [this, ih nd.2]
end Lw

namespace Lw
open PySem L2 MV
theorem problem_ok {w : W} (hw : BagW w) {m : Nat} (hm : m ≤ 30) : ∃ n ps rs w', f_x_law_problem [w, .p (.int m)] = some (.p (probD n ps rs), [some w', none]) ∧ n ≤ m ∧ ps.length ≤ 4 ∧ rs.length ≤ 5 ∧ Okp n ps rs ∧ BagW w' := by
  obtain ⟨r, w1, e1, r0, r1, hw1⟩ := pull_ok hw (s := m + 1) (by omega) (by omega)
  obtain ⟨n, rfl⟩ : ∃ n : Nat, r = n := ⟨r.toNat, by omega⟩
  obtain ⟨ps, w2, e2, l2, p2, hw2⟩ := pairs_ok hw1 (n := n) (m := 4) (by omega) (by omega)
  obtain ⟨rs, w3, e3, l3, p3, hw3⟩ := reports_ok hw2 (n := n) (m := 5) (by omega) (by omega)
  refine ⟨n, ps, rs, w3, ?_, by omega, l2, l3, okp_of (by omega) (by omega) (by omega) p2 p3, hw3⟩
  have h3 : (3 : Nat) ≤ LIM := by unfold LIM; omega
  unfold f_x_law_problem fsem m_x_law_problem
  simp at e2 e3
  simp [e1, e2, e3, h3, outs]
end Lw

namespace Lw
open PySem L2 MV
/-! ### who is free, by the law -/
theorem isFree_any {ps : List Pr} {rs : List Rt} {S : List Int} {s : Int} : isFree ps rs S s = (!ps.any (hinP S s) && rs.all fun r => !hinR S s r) := by
  refine Bool.eq_iff_iff.mpr ?_
  rw [isFree_iff]
  simp
theorem free_law {ps : List Pr} {rs : List Rt} {S : List Int} {s : Int} {dl : D} (hd : Sq dl S) (h1 : ps.length ≤ 1000) (h2 : ∀ r ∈ rs, r.1.length ≤ 1000) : f_x_law_free [.p (.int s), .p dl, .p (prsD ps), .p (rtsD rs)] = some (.p (.bool (isFree ps rs S s)), [none, none, none, none]) := by
  have inl : ∀ x, dIn (.int x) dl = some (.bool (decide (x ∈ S))) := fun x => by rcases hd with rfl | rfl; exact in_l; exact in_t
  have e1 : ∀ {c d e f : Option W}, lcRun [6, 7] (gT 2 (gsCons (gN 6) (gsCons (gN 7) gsNil))) (fun e => some (true, e)) b_x_law_free_0 (ps.map prD) [some (.p (.int s)), some (.p dl), c, d, e, f, none, none] = some (ps.map fun p => .bool (hinP S s p), [some (.p (.int s)), some (.p dl), c, d, e, f, none, none]) :=
    lcRun_mp _ fun p _ => by simp [lcStep, b_x_law_free_0, prD, inl, hinP]
  have a1 : fAny [.lst (ps.map fun p => .bool (hinP S s p))] = some (.bool (ps.any (hinP S s))) := any_bools
  have hl : ps.length ≤ 1000000 := by omega
  have l1 := forRun_all (tg := gT 2 (gsCons (gN 4) (gsCons (gN 5) gsNil))) (b := b_x_law_free_2) (e := [some (.p (.int s)), some (.p dl), some (.p (prsD ps)), some (.p (rtsD rs)), none, none, none, none]) (g := rtD) (w := .p (.bool false)) (fun r => !hinR S s r) (xs := rs) (by
    intro r hr
    have hl9 : r.1.length ≤ 1000000 := by have := h2 r hr; omega
    have e2 : ∀ {a c d e f : Option W}, lcRun [6] (gN 6) (fun e => some (true, e)) b_x_law_free_1 (r.1.map .int) [a, some (.p dl), c, d, e, f, none, none] = some (r.1.map fun x => .bool (decide (x ∈ S)), [a, some (.p dl), c, d, e, f, none, none]) :=
      lcRun_mp _ fun p _ => by simp [lcStep, b_x_law_free_1, inl]
    have a2 : fAll [.lst (r.1.map fun x => .bool (decide (x ∈ S)))] = some (.bool (r.1.all fun x => decide (x ∈ S))) := all_bools
    have st : ∃ z, forStep (gT 2 (gsCons (gN 4) (gsCons (gN 5) gsNil))) b_x_law_free_2 (rtD r) [some (.p (.int s)), some (.p dl), some (.p (prsD ps)), some (.p (rtsD rs)), none, none, none, none] = cond (hinR S s r) (some (.rt (.p (.bool false)) z)) (some (.nx [some (.p (.int s)), some (.p dl), some (.p (prsD ps)), some (.p (rtsD rs)), none, none, none, none])) := by
      by_cases z1 : s ∈ r.1
      · by_cases z2 : s ∈ r.2
        · simp [-fAll_l, forStep, b_x_law_free_2, rtD, in_t, nin_t, z1, z2, hinR]
        · generalize hb : (r.1.all fun x => decide (x ∈ S)) = b at a2
          cases b <;> simp [-fAll_l, forStep, b_x_law_free_2, rtD, in_t, nin_t, z1, z2, hinR, hb, hl9, e2, a2]
      · simp [-fAll_l, forStep, b_x_law_free_2, rtD, in_t, nin_t, z1, hinR]
    obtain ⟨z, st⟩ := st
    refine ⟨fun hp => ?_, fun hp => ?_⟩
    · have : hinR S s r = false := by simpa using hp
      rw [st, this]; rfl
    · have : hinR S s r = true := by simpa using hp
      rw [st, this]; exact ⟨z, rfl⟩)
  rw [isFree_any]
  unfold f_x_law_free fsem m_x_law_free
  generalize ps.any (hinP S s) = b at a1
  cases b with
  | true => simp [-fAny_l, e1, a1, hl, outs]
  | false =>
    rcases l1 with ⟨q1, q2⟩ | ⟨q1, z, q2⟩
    · simp [-fAny_l, e1, a1, hl, q2, q1, outs]
    · simp [-fAny_l, e1, a1, hl, q2, q1, outs]
end Lw

namespace Lw
open PySem L2 MV
theorem sm_ints {n : Nat} {l : List Int} (h : l.length ≤ 1000000) : Sm (n + 2) (intsL l) := by
  refine ⟨by simpa using h, fun x hx => ?_⟩
  obtain ⟨i, _, rfl⟩ := List.mem_map.mp hx
  trivial
end Lw

namespace Lw
open PySem L2 MV
theorem ne_nil_ints' {a : List Int} : dNe (.lst (a.map .int)) (.lst []) = some (.bool !decide (a = [])) := ne_ints0
theorem layers_law {n : Nat} {ps : List Pr} {rs : List Rt} (h : Okp n ps rs) : f_x_law_layers [.p (.int n), .p (prsD ps), .p (rtsD rs)] = some (.p (.tup [.lst ((peel ps rs n (upto n)).1.map intsL), intsL (peel ps rs n (upto n)).2]), [none, none, none]) := by
  have hps : ps.length ≤ 1000 := by have := h.np; omega
  have hrs : ∀ r ∈ rs, r.1.length ≤ 1000 := fun r hr => by have := asc_len (h.rt r hr).1; have := h.size; omega
  have hn := h.size
  let st (k : Nat) := rnd ps rs k ([], upto n)
  have hsub : ∀ k, (st k).2.length ≤ n := fun k => by have := (rnd_sub (ps := ps) (rs := rs) k ([], upto n)).length_le; rw [show (([], upto n) : List (List Int) × List Int).2 = upto n from rfl, upto_len] at this; exact this
  have hacc : ∀ k, (st k).1.length ≤ k := fun k => by have := rnd_acc (ps := ps) (rs := rs) k ([], upto n); simpa using this
  have loop := forRun_go (tg := gN 5) (b := b_x_law_layers_2) (g := D.int) (fun pre => [some (.p (.int n)), some (.p (prsD ps)), some (.p (rtsD rs)), some (.ol ((st pre.length).1.map fun l => .p (intsL l))), some (.p (intsL (st pre.length).2)), none, none, none]) (upto n) (by
    intro pre x post hx
    have hk : pre.length < n := by
      have := congrArg List.length hx
      rw [upto_len] at this
      simp at this
      omega
    rw [List.length_append, List.length_singleton, show st (pre.length + 1) = stp ps rs (st pre.length) from rnd_succ _ _]
    have h1 := hsub pre.length
    have h2 := hacc pre.length
    generalize st pre.length = q at h1 h2
    obtain ⟨acc, S⟩ := q
    simp only at h1 h2
    have hS : S.length ≤ 1000000 := by omega
    have hA : acc.length < 1000000 := by omega
    have lc0 : ∀ {a b c : Option W}, lcRun [7] (gN 7) b_x_law_layers_0 (mVar 7) (S.map .int) [a, some (.p (prsD ps)), some (.p (rtsD rs)), b, some (.p (intsL S)), c, none, none] = some ((layer ps rs S).map .int, [a, some (.p (prsD ps)), some (.p (rtsD rs)), b, some (.p (intsL S)), c, none, none]) := fun {a b c} =>
      lcRun_ft D.int (isFree ps rs S) fun s _ => by
        have := free_law (ps := ps) (rs := rs) (S := S) (s := s) (.inl rfl) hps hrs
        simp [lcStep, b_x_law_layers_0, this]
    have lc1 : ∀ {a b c d e : Option W}, lcRun [7] (gN 7) b_x_law_layers_1 (mVar 7) (S.map .int) [a, b, c, d, some (.p (intsL S)), e, some (.p (intsL (layer ps rs S))), none] = some ((restOf ps rs S).map .int, [a, b, c, d, some (.p (intsL S)), e, some (.p (intsL (layer ps rs S))), none]) := fun {a b c d e} => by
      rw [← restOf_eq]
      refine lcRun_ft D.int (fun s => decide (s ∉ layer ps rs S)) fun s _ => ?_
      simp [lcStep, b_x_law_layers_1, nin_l]
    have ne := ne_nil_ints' (a := layer ps rs S)
    by_cases z : layer ps rs S = []
    · rw [z] at lc0 lc1 ne
      simp at ne
      simp [forStep, b_x_law_layers_2, hS, lc0, ne, stp, z]
    · simp [forStep, b_x_law_layers_2, hS, lc0, lc1, ne, stp, z, hA])
  rw [upto_len, show (([] : List Int)).length = 0 from rfl] at loop
  have e1 : st n = ([] ++ (peel ps rs n (upto n)).1, (peel ps rs n (upto n)).2) := rnd_peel n [] (upto n)
  rw [e1] at loop
  simp only [List.nil_append] at loop
  have e0 : st 0 = ([], upto n) := rfl
  rw [e0] at loop
  simp only [List.map_nil] at loop
  have hr : (-1000000 : Int) ≤ n ∧ (n : Int) ≤ 1000000 := by omega
  have l2 : (2 : Nat) ≤ LIM := LIM_le (by omega)
  unfold f_x_law_layers fsem m_x_law_layers
  simp [hr, rng_upto, loop, l2, outs]
end Lw

namespace Lw
open PySem L2 MV
section
variable {α : Type} {g : α → D}
theorem ins_perm (l : List α) (x : α) (k : Nat) : (l.take k ++ [x] ++ l.drop k).Perm (l ++ [x]) := by
  have h := List.take_append_drop k l
  calc (l.take k ++ [x] ++ l.drop k).Perm (l.take k ++ l.drop k ++ [x]) := by
        rw [List.append_assoc, List.append_assoc]
        exact List.Perm.append_left _ List.perm_append_comm
    _ = l ++ [x] := by rw [h]
theorem mixedG_ok {w : W} (hw : BagW w) {l : List α} (h1 : l.length ≤ 900000) : ∃ (l' : List α) (w' : W), f_x_law_mixed [w, .p (.lst (l.map g))] = some (.p (.lst (l'.map g)), [some w', none]) ∧ l'.Perm l ∧ BagW w' := by
  obtain ⟨e', h, l', w', hw', hp, rfl⟩ := forRun_st (tg := gN 3) (b := b_x_law_mixed_0) (g := g) (fun pre e => ∃ (l' : List α) (w' : W), BagW w' ∧ l'.Perm pre ∧ e = [some w', some (.p (.lst (l.map g))), some (.ol (l'.map fun x => .p (g x))), none]) l (by
    rintro pre x post e hx ⟨l', w', hw', hp, rfl⟩
    have hl : pre.length < l.length := by rw [hx]; simp
    have hpl := hp.length_eq
    obtain ⟨r, w2, e2, r0, r1, hw2⟩ := pull_ok hw' (s := l'.length + 1) (by omega) (by omega)
    have hr : r < 1000000 := by omega
    have hl' : l'.length < 1000000 := by omega
    refine ⟨_, .inl ?_, l'.take r.toNat ++ [x] ++ l'.drop r.toNat, w2, hw2, (ins_perm l' x r.toNat).trans (hp.append_right [x]), rfl⟩
    simp [forStep, b_x_law_mixed_0, e2, r0, hr, hl', List.map_take, List.map_drop]) [some w, some (.p (.lst (l.map g))), some (.ol []), none] ⟨[], w, hw, List.Perm.refl _, rfl⟩
  refine ⟨l', w', ?_, hp, hw'⟩
  unfold f_x_law_mixed fsem m_x_law_mixed
  simp [h, outs]
end
end Lw

namespace Lw
open PySem L2 MV
/-! ### the same pairs and reports in another order -/
section
variable {ps ps' : List Pr} {rs rs' : List Rt}
theorem isFree_same (hp : ∀ p, p ∈ ps ↔ p ∈ ps') (hr : ∀ r, r ∈ rs ↔ r ∈ rs') (S : List Int) (s : Int) : isFree ps rs S s = isFree ps' rs' S s := by
  rw [Bool.eq_iff_iff, isFree_iff, isFree_iff]
  constructor
  · exact fun h => ⟨fun p q => h.1 p ((hp p).mpr q), fun r q => h.2 r ((hr r).mpr q)⟩
  · exact fun h => ⟨fun p q => h.1 p ((hp p).mp q), fun r q => h.2 r ((hr r).mp q)⟩
theorem peel_same (hp : ∀ p, p ∈ ps ↔ p ∈ ps') (hr : ∀ r, r ∈ rs ↔ r ∈ rs') : ∀ (k : Nat) (S : List Int), peel ps rs k S = peel ps' rs' k S := by
  intro k
  have e : isFree ps rs = isFree ps' rs' := funext fun S => funext fun s => isFree_same hp hr S s
  have e1 : layer ps rs = layer ps' rs' := by unfold layer; rw [e]
  have e2 : restOf ps rs = restOf ps' rs' := by unfold restOf; rw [e]
  induction k with
  | zero => intro S; rfl
  | succ k ih => intro S; simp only [peel, e1, e2, ih]
end
def canB (n : Nat) (ps : List Pr) (rs : List Rt) : Bool := decide ((peel ps rs n (upto n)).2 = [])
def firstL (n : Nat) (ps : List Pr) (rs : List Rt) (some : List Int) : List Int := some.filter fun s => canB n ps (rs ++ [(some, [s])])
def cmpW (n : Nat) (ps : List Pr) (rs : List Rt) (a b : Int) : Str :=
  if canB n (ps ++ [(a, b)]) rs = true then (if canB n (ps ++ [(b, a)]) rs = true then Str.ofString "open" else Str.ofString "stronger")
  else if canB n (ps ++ [(b, a)]) rs = true then Str.ofString "weaker" else Str.ofString "none"
section
variable {n : Nat} {ps : List Pr} {rs : List Rt}
theorem canB_same {ps' : List Pr} {rs' : List Rt} (hp : ∀ p, p ∈ ps ↔ p ∈ ps') (hr : ∀ r, r ∈ rs ↔ r ∈ rs') : canB n ps rs = canB n ps' rs' := by unfold canB; rw [peel_same hp hr]
end
end Lw

namespace Lw
open PySem L2 MV
/-! ### reasons and deadlocks -/
abbrev Rs := Str × Int
def rsD (r : Rs) : D := .tup [.str r.1, .int r.2]
def wP : Str := Str.ofString "pair"
def wR : Str := Str.ofString "report"
theorem wP_ne : ¬ wP = wR := by decide +kernel
theorem wR_ne : ¬ wR = wP := by decide +kernel
def reasonB (ps : List Pr) (rs : List Rt) (S : List Int) (s : Int) (r : Rs) : Bool :=
  if r.1 = wP then decide (0 ≤ r.2 ∧ r.2 < (ps.length : Int)) && ((ps[r.2.toNat]?).map (hinP S s)).getD false
  else if r.1 = wR then decide (0 ≤ r.2 ∧ r.2 < (rs.length : Int)) && ((rs[r.2.toNat]?).map (hinR S s)).getD false
  else false
section
variable {ps : List Pr} {rs : List Rt} {S : List Int} {s : Int} {dl : D}
theorem prs_at {k : Int} (h0 : 0 ≤ k) (h1 : k < (ps.length : Int)) : ∃ p, ps[k.toNat]? = some p ∧ L2.atI (ps.map prD) k = some (.tup [.int p.1, .int p.2]) := by
  have hk : k.toNat < ps.length := by omega
  exact ⟨ps[k.toNat], List.getElem?_eq_getElem hk, by rw [atI_nn h0, List.getElem?_map, List.getElem?_eq_getElem hk]; rfl⟩
theorem rts_at {k : Int} (h0 : 0 ≤ k) (h1 : k < (rs.length : Int)) : ∃ r, rs[k.toNat]? = some r ∧ L2.atI (rs.map rtD) k = some (.tup [intsT r.1, intsT r.2]) := by
  have hk : k.toNat < rs.length := by omega
  exact ⟨rs[k.toNat], List.getElem?_eq_getElem hk, by rw [atI_nn h0, List.getElem?_map, List.getElem?_eq_getElem hk]; rfl⟩
theorem sq_in (hd : Sq dl S) (x : Int) : dIn (.int x) dl = some (.bool (decide (x ∈ S))) := by rcases hd with rfl | rfl; exact in_l; exact in_t
end
/-! ### whole deadlocks -/
abbrev Dl := List Int × List Rs
def dlD (d : Dl) : D := .tup [intsT d.1, .tup (d.2.map rsD)]
def deadB (n : Nat) (ps : List Pr) (rs : List Rt) (d : Dl) : Bool :=
  !decide (d.1.length = 0) && (decide (d.1.length = d.2.length) && (ascB n d.1 && (d.1.zip d.2).all fun q => reasonB ps rs d.1 q.1 q.2))
theorem zip_map2 {α β : Type} (f : α → D) (g : β → D) : ∀ (a : List α) (b : List β), zipD (a.map f) (b.map g) = (a.zip b).map fun q => D.tup [f q.1, g q.2]
  | [], b => by cases b <;> rfl
  | x :: a, [] => rfl
  | x :: a, y :: b => by show _ :: zipD _ _ = _; rw [zip_map2 f g a b]; rfl
section
variable {n : Nat} {ps : List Pr} {rs : List Rt}
theorem rs_len (h : Okp n ps rs) : ∀ r ∈ rs, r.1.length ≤ 1000 := fun r hr => by have := asc_len (h.rt r hr).1; have := h.size; omega
theorem nat_eq0 {k : Nat} : decide ((k : Int) = 0) = decide (k = 0) := by
  by_cases z : k = 0 <;> simp [z]
theorem nat_eq2 {j k : Nat} : decide ((j : Int) = (k : Int)) = decide (j = k) := by
  by_cases z : j = k
  · simp [z]
  · have : ¬ (j : Int) = (k : Int) := by omega
    simp [z, this]
theorem asc_filter {S : List Int} : (S = (upto n).filter fun s => decide (s ∈ S)) ↔ asc n S := by
  constructor
  · intro e
    have hs : S.Sublist (upto n) := by rw [e]; exact List.filter_sublist
    exact ⟨fun s h => upto_mem.mp (hs.subset h), (upto_asc n).sublist hs⟩
  · intro h
    have p : S.Perm ((upto n).filter fun s => decide (s ∈ S)) := by
      refine (List.perm_ext_iff_of_nodup (asc_nodup h) ((upto_nodup n).filter _)).mpr fun s => ?_
      rw [List.mem_filter, upto_mem]
      simp
      exact fun hs => h.1 s hs
    exact sorted_uniq p (h.2.imp fun h => by omega) (((upto_asc n).filter _).imp fun h => by omega)
end
def every (ps : List Pr) (rs : List Rt) : List Rs := ((List.range ps.length).map fun (i : Nat) => ((wP, (i : Int)) : Rs)) ++ ((List.range rs.length).map fun (i : Nat) => ((wR, (i : Int)) : Rs))
section
variable {n : Nat} {ps : List Pr} {rs : List Rt}
theorem every_len : (every ps rs).length = ps.length + rs.length := by simp [every]
theorem every_has {S : List Int} {s : Int} (h : isFree ps rs S s = false) : ∃ r ∈ every ps rs, reasonB ps rs S s r = true := by
  have h' : ¬ (isFree ps rs S s = true) := by rw [h]; decide
  rw [isFree_iff, Classical.not_and_iff_not_or_not] at h'
  rcases h' with h' | h'
  · simp only [Classical.not_forall] at h'
    obtain ⟨p, hp, e⟩ := h'
    obtain ⟨i, hi, rfl⟩ := List.getElem_of_mem hp
    refine ⟨(wP, (i : Int)), ?_, ?_⟩
    · exact List.mem_append_left _ (List.mem_map.mpr ⟨i, List.mem_range.mpr hi, rfl⟩)
    · unfold reasonB
      rw [if_pos rfl]
      simp only [Int.toNat_natCast, List.getElem?_eq_getElem hi, Option.map_some, Option.getD_some, Bool.and_eq_true, decide_eq_true_eq]
      exact ⟨⟨by omega, by omega⟩, by simpa using e⟩
  · simp only [Classical.not_forall] at h'
    obtain ⟨p, hp, e⟩ := h'
    obtain ⟨i, hi, rfl⟩ := List.getElem_of_mem hp
    refine ⟨(wR, (i : Int)), ?_, ?_⟩
    · exact List.mem_append_right _ (List.mem_map.mpr ⟨i, List.mem_range.mpr hi, rfl⟩)
    · unfold reasonB
      rw [if_neg wR_ne, if_pos rfl]
      simp only [Int.toNat_natCast, List.getElem?_eq_getElem hi, Option.map_some, Option.getD_some, Bool.and_eq_true, decide_eq_true_eq]
      exact ⟨⟨by omega, by omega⟩, by simpa using e⟩
/-- what remains behind the rounds -/
def left (n : Nat) (ps : List Pr) (rs : List Rt) : List Int := (peel ps rs n (upto n)).2
theorem left_stuck : stuck ps rs (left n ps rs) := by unfold left; exact peel_stuck (by rw [upto_len]; exact Nat.le_refl _)
theorem left_sub : (left n ps rs).Sublist (upto n) := by unfold left; exact peel_sub
theorem left_asc : asc n (left n ps rs) := ⟨fun s h => upto_mem.mp (left_sub.subset h), (upto_asc n).sublist left_sub⟩
theorem zip_snoc {α β : Type} : ∀ {a : List α} {b : List β} {x : α} {y : β}, a.length = b.length → (a ++ [x]).zip (b ++ [y]) = a.zip b ++ [(x, y)]
  | [], [], _, _, _ => rfl
  | [], _ :: _, _, _, h => by simp at h
  | _ :: _, [], _, _, h => by simp at h
  | u :: a, v :: b, x, y, h => by
    show (u, v) :: ((a ++ [x]).zip (b ++ [y])) = _
    rw [zip_snoc (by simpa using h)]
    rfl
end
end Lw

namespace Lw
open PySem L2 MV
/-! ### more evidence leaves less -/
section
variable {n : Nat} {ps ps' : List Pr} {rs rs' : List Rt}
theorem free_more (hp : ∀ p ∈ ps, p ∈ ps') (hr : ∀ r ∈ rs, r ∈ rs') {S : List Int} {s : Int} (h : isFree ps' rs' S s = true) : isFree ps rs S s = true := by
  rw [isFree_iff] at h ⊢
  exact ⟨fun p q => h.1 p (hp p q), fun r q => h.2 r (hr r q)⟩
theorem stuck_more (hp : ∀ p ∈ ps, p ∈ ps') (hr : ∀ r ∈ rs, r ∈ rs') {X : List Int} (h : stuck ps rs X) : stuck ps' rs' X := fun s hs => by
  cases e : isFree ps' rs' X s with
  | false => rfl
  | true => exact absurd ((free_more hp hr e).symm.trans (h s hs)) (by decide)
theorem agr_less (hp : ∀ p ∈ ps, p ∈ ps') (hr : ∀ r ∈ rs, r ∈ rs') : ∀ {O : List Int}, agr ps' rs' O → agr ps rs O
  | [], _ => trivial
  | s :: O, h => ⟨free_more hp hr h.1, agr_less hp hr h.2⟩
theorem left_more (hp : ∀ p ∈ ps, p ∈ ps') (hr : ∀ r ∈ rs, r ∈ rs') : ∀ s ∈ left n ps rs, s ∈ left n ps' rs' :=
  peel_max (fun x hx => left_sub.subset hx) (stuck_more hp hr (peel_stuck (by rw [upto_len]; exact Nat.le_refl _)))
theorem left_none (hp : ∀ p ∈ ps, p ∈ ps') (hr : ∀ r ∈ rs, r ∈ rs') (h : left n ps' rs' = []) : left n ps rs = [] := by
  cases e : left n ps rs with
  | nil => rfl
  | cons s l =>
    have := left_more (n := n) hp hr s (by rw [e]; simp)
    rw [h] at this
    cases this
theorem canB_less (hp : ∀ p ∈ ps, p ∈ ps') (hr : ∀ r ∈ rs, r ∈ rs') (h : canB n ps' rs' = true) : canB n ps rs = true := by
  unfold canB at h ⊢
  exact decide_eq_true (left_none hp hr (of_decide_eq_true h))
theorem canB_left : canB n ps rs = true ↔ left n ps rs = [] := by
  unfold canB
  rw [decide_eq_true_eq]
  rfl
theorem order_is (h : left n ps rs = []) : ∃ O, O.Perm (upto n) ∧ agr ps rs O := (peel_iff (by rw [upto_len]; exact Nat.le_refl _)).mp h
theorem can_of {O : List Int} (p : O.Perm (upto n)) (a : agr ps rs O) : canB n ps rs = true := by
  rw [canB_left]
  exact (peel_iff (by rw [upto_len]; exact Nat.le_refl _)).mpr ⟨O, p, a⟩
theorem ag_perm {O : List Int} (p : O.Perm (upto n)) (hp : ∀ q ∈ ps, OkPr n q) (hr : ∀ r ∈ rs, OkRt n r) : agB ps rs O = true ↔ agr ps rs O := by
  have mem : ∀ s, (0 ≤ s ∧ s < (n : Int)) → s ∈ O := fun s h => p.mem_iff.mpr (upto_mem.mpr h)
  exact ag_iff (p.nodup_iff.mpr (upto_nodup n)) (fun q h => ⟨(hp q h).1, mem _ (hp q h).2.1, mem _ (hp q h).2.2⟩) fun r h => ⟨(hr r h).2.2.1, fun x hx => mem x ((hr r h).1.1 x hx)⟩
theorem isort_perm_upto {O : List Int} (p : O.Perm (upto n)) : isort O = upto n := (sorted_is p.symm (upto_le n)).symm
/-- where an order agrees, one of the slots of a report may be the first -/
theorem first_some {O L : List Int} (p : O.Perm (upto n)) (a : agr ps rs O) (hp : ∀ q ∈ ps, OkPr n q) (hr : ∀ r ∈ rs, OkRt n r) (hL : asc n L) (h0 : L ≠ []) : fstO O L ∈ firstL n ps rs L := by
  have sub : ∀ x ∈ L, x ∈ O := fun x hx => p.mem_iff.mpr (upto_mem.mpr (hL.1 x hx))
  obtain ⟨A, B, e, m1, _⟩ := fstO_split h0 sub
  have ok : OkRt n (L, [fstO O L]) := ⟨hL, ⟨fun x hx => by rw [List.mem_singleton] at hx; subst hx; exact hL.1 _ m1, by simp⟩, h0, fun x hx => by rw [List.mem_singleton] at hx; subst hx; exact m1⟩
  have hr' : ∀ r ∈ rs ++ [(L, [fstO O L])], OkRt n r := fun r h => by
    rcases List.mem_append.mp h with h | h
    · exact hr r h
    · rw [List.mem_singleton] at h; subst h; exact ok
  refine List.mem_filter.mpr ⟨m1, can_of p ((ag_perm p hp hr').mp ?_)⟩
  have b := (ag_perm p hp hr).mpr a
  unfold agB at b ⊢
  rw [Bool.and_eq_true] at b
  rw [List.all_append, b.1, b.2]
  simp
theorem can_one {O : List Int} (p : O.Perm (upto n)) (ag : agr ps rs O) (hp : ∀ q ∈ ps, OkPr n q) (hr : ∀ r ∈ rs, OkRt n r) {a b : Int} (hab : OkPr n (a, b)) (h : ixI O a ≤ ixI O b) : canB n (ps ++ [(a, b)]) rs = true := by
  have hp' : ∀ q ∈ ps ++ [(a, b)], OkPr n q := fun q h => by
    rcases List.mem_append.mp h with h | h
    · exact hp q h
    · rw [List.mem_singleton] at h; subst h; exact hab
  refine can_of p ((ag_perm p hp' hr).mp ?_)
  have g := (ag_perm p hp hr).mpr ag
  unfold agB at g ⊢
  rw [Bool.and_eq_true, Bool.not_eq_true'] at g
  rw [List.any_append, g.1, g.2]
  simp
  exact h
end
end Lw

namespace Lw
open PySem L2 MV
theorem pd_ints {n : Nat} {l : List Int} : Pd (n + 1) (intsL l) := fun d hd => by
  obtain ⟨i, _, rfl⟩ := List.mem_map.mp hd
  cases n <;> trivial
theorem pd_intsT {n : Nat} {l : List Int} : Pd (n + 1) (intsT l) := fun d hd => by
  obtain ⟨i, _, rfl⟩ := List.mem_map.mp hd
  cases n <;> trivial
theorem pd_prs {n : Nat} {ps : List Pr} : Pd (n + 2) (prsD ps) := fun d hd => by
  obtain ⟨p, _, rfl⟩ := List.mem_map.mp hd
  intro x hx
  simp only [List.mem_cons, List.not_mem_nil, or_false] at hx
  rcases hx with rfl | rfl <;> cases n <;> trivial
theorem pd_rts {n : Nat} {rs : List Rt} : Pd (n + 3) (rtsD rs) := fun d hd => by
  obtain ⟨p, _, rfl⟩ := List.mem_map.mp hd
  intro x hx
  simp only [List.mem_cons, List.not_mem_nil, or_false] at hx
  rcases hx with rfl | rfl <;> exact pd_intsT
theorem cut_to {O : List Int} {j : Int} (h : 0 ≤ j) : dSl (.lst (O.map .int)) none (some j) = some (.lst ((O.take j.toNat).map .int)) := by
  show some (D.lst (cutD (O.map .int) none (some _))) = _
  rw [cutD_to h, List.map_take]
theorem cut_from {O : List Int} {j : Int} (h : 0 ≤ j) : dSl (.lst (O.map .int)) (some j) none = some (.lst ((O.drop j.toNat).map .int)) := by
  show some (D.lst (cutD (O.map .int) (some _) none)) = _
  rw [cutD_from h, List.map_drop]
theorem bent_ok {w : W} (hw : BagW w) {O : List Int} (hO : O.length ≤ 30) : ∃ (O' : List Int) (w' : W), f_x_law_bent_order [w, .p (intsL O)] = some (.p (intsL O'), [some w', none]) ∧ O'.length ≤ 32 ∧ BagW w' := by
  obtain ⟨r, w1, e1, r0, r1, hw1⟩ := pull_ok hw (s := (O.length : Int) + 1) (by omega) (by omega)
  obtain ⟨y, w2, e2, y0, y1, hw2⟩ := pull_ok hw1 (s := 5) (by omega) (by omega)
  have c1 := cut_to (O := O) r0
  have c2 := cut_from (O := O) r0
  have c3 := cut_from (O := O) (j := r + 1) (by omega)
  have z1 : (1 : Nat) ≤ LIM := LIM_le (by omega)
  have z4 : (4 : Nat) ≤ LIM := LIM_le (by omega)
  have l1 : (O.take r.toNat).length ≤ 30 := by rw [List.length_take]; omega
  have l2 : (O.drop r.toNat).length ≤ 30 := by rw [List.length_drop]; omega
  have l3 : (O.drop (r + 1).toNat).length ≤ 30 := by rw [List.length_drop]; omega
  have s1 : (O.take r.toNat).length + (O.drop r.toNat).length = O.length := by rw [List.length_take, List.length_drop]; omega
  have s2 : (O.take r.toNat).length + (O.drop (r + 1).toNat).length ≤ O.length := by rw [List.length_take, List.length_drop]; omega
  generalize O.take r.toNat = A at c1 l1 s1 s2
  generalize O.drop r.toNat = B at c2 l2 s1
  generalize O.drop (r + 1).toNat = C at c3 l3 s2
  have m1 : A.length + C.length ≤ LIM := LIM_le (by omega)
  have m2 : A.length + 1 ≤ LIM := LIM_le (by omega)
  have m3 : A.length + 1 + B.length ≤ LIM := LIM_le (by omega)
  have m4 : A.length + 1 + C.length ≤ LIM := LIM_le (by omega)
  have m5 : A.length + (1 + B.length) ≤ LIM := LIM_le (by omega)
  have m6 : A.length + (1 + C.length) ≤ LIM := LIM_le (by omega)
  have pw : dPow (.int 10) (.int 18) = some (.int 1000000000000000000) := by with_unfolding_all rfl
  by_cases q0 : y = 0
  · refine ⟨A ++ C, w2, ?_, by simp; omega, hw2⟩
    unfold f_x_law_bent_order fsem m_x_law_bent_order
    simp [e1, e2, q0, c1, c3, dAdd, m1, outs]
  by_cases q1 : y = 1
  · obtain ⟨s, w3, e3, _, hw3⟩ := of_ints hw2 (l := [0, -1, (O.length : Int), 1000000000000000000]) (by simp) (by simp)
    simp only [List.map_cons, List.map_nil, intsL] at e3
    refine ⟨A ++ [s] ++ B, w3, ?_, by simp; omega, hw3⟩
    generalize (1000000000000000000 : Int) = big at pw e3
    unfold f_x_law_bent_order fsem m_x_law_bent_order
    simp [e1, e2, q1, c1, c2, pw, e3, dAdd, z1, z4, m2, m3, m5, outs]
  by_cases q2 : y = 2 ∧ r < (O.length : Int)
  · obtain ⟨s, w3, e3, _, hw3⟩ := of_ints hw2 (l := O) (by intro z; rw [z] at q2; simp at q2; omega) (by omega)
    refine ⟨A ++ [s] ++ C, w3, ?_, by simp; omega, hw3⟩
    unfold f_x_law_bent_order fsem m_x_law_bent_order
    simp [e1, e2, q2.1, q2.2, c1, c3, e3, dAdd, z1, m2, m4, m6, outs]
  · refine ⟨O, w2, ?_, by omega, hw2⟩
    unfold f_x_law_bent_order fsem m_x_law_bent_order
    by_cases q3 : y = 2
    · have q4 : ¬ r < (O.length : Int) := fun z => q2 ⟨q3, z⟩
      simp [e1, e2, q3, q4, outs]
    · simp [e1, e2, q0, q1, q3, outs]
theorem perm_of_isort {O : List Int} {n : Nat} (h : isort O = upto n) : O.Perm (upto n) := by rw [← h]; exact (isort_perm O).symm
theorem loop_ok {S0 : Option W} {n : Nat} {ps : List Pr} {rs : List Rt} {a1 a2 : Option W} (hn : n ≤ 30) (L : List (List Int)) (hL : L.flatten.length ≤ 1000) :
    forRun (gN 7) b_law_0 (L.map intsL) [S0, a1, a2, some (.p (.int n)), some (.p (prsD ps)), some (.p (rtsD rs)), some (.p (.lst [])), none, none, none, none] = some (.nx [S0, a1, a2, some (.p (.int n)), some (.p (prsD ps)), some (.p (rtsD rs)), some (.p (intsL L.flatten)), none, none, none, none]) := by
  obtain ⟨e', h, rfl⟩ := forRun_st (tg := gN 7) (b := b_law_0) (g := intsL) (fun pre e => e = [S0, a1, a2, some (.p (.int n)), some (.p (prsD ps)), some (.p (rtsD rs)), some (.p (intsL pre.flatten)), none, none, none, none]) L (by
    rintro pre x post e hx rfl
    refine ⟨_, .inl ?_, rfl⟩
    have hl : pre.flatten.length + x.length ≤ LIM := LIM_le (by
      rw [hx] at hL
      simp only [List.flatten_append, List.flatten_cons, List.length_append] at hL
      omega)
    have ef : (pre ++ [x]).flatten = pre.flatten ++ x := by simp
    rw [fs_gN, ef]
    generalize pre.flatten = F at hl ⊢
    unfold b_law_0
    simp [dAdd, hl]) [S0, a1, a2, some (.p (.int n)), some (.p (prsD ps)), some (.p (rtsD rs)), some (.p (intsL [])), none, none, none, none] rfl
  exact h
theorem turn_ok {S0 : Option W} {w : W} (hw : BagW w) (d : D) : ∃ w', BagW w' ∧ forStep (gN 2) b_law_1 d [S0, some w, none, none, none, none, none, none, none, none, none] = some (.nx [S0, some w', none, none, none, none, none, none, none, none, none]) := by
  obtain ⟨n, ps, rs, w1, e1, hn, l1, l2, ok, hw1⟩ := problem_ok hw (m := 6) (by omega)
  obtain ⟨O0, w2, e2, pm, hw2⟩ := mixedG_ok (g := D.int) hw1 (l := upto n) (by rw [upto_len]; omega)
  obtain ⟨r, w3, e3, r0, r1, hw3⟩ := pull_ok hw2 (s := 3) (by omega) (by omega)
  have e1' : f_x_law_problem [w, .p (.int 6)] = some (.p (.tup [.int n, prsD ps, rtsD rs]), [some w1, none]) := e1
  have ly := layers_law ok
  have z1 : (1 : Nat) ≤ LIM := LIM_le (by omega)
  have z2 : (2 : Nat) ≤ LIM := LIM_le (by omega)
  have z3 : (3 : Nat) ≤ LIM := LIM_le (by omega)
  have y1 : (-1000000 : Int) ≤ n ∧ (n : Int) ≤ 1000000 := by omega
  have fl : (peel ps rs n (upto n)).1.flatten.length ≤ n := by
    have q := (peel_perm (ps := ps) (rs := rs) (k := n) (S := upto n)).length_eq
    rw [upto_len, List.length_append] at q
    omega
  -- the order before it is bent
  obtain ⟨O1, hO1, hif⟩ : ∃ O1 : List Int, O1.length ≤ 30 ∧ ∀ {a2 : Option W}, (sIf (mBool (mOp dEq (mGetP (mCall f_x_law_pull (aIO 1 (aD (mC (.int 3)) aNil)))) (mC (.int 0)))) ((sSeq (sSet 6 (mP (mDisp fLst aNil)))
  (sFor (iSeq (mOp dIx (mGetP (mCall f_x_law_layers (aD (mVar 3) (aD (mVar 4) (aD (mVar 5) aNil))))) (mC (.int 0)))) (gN 7) (b_law_0)))) (sNext)) [S0, some w2, a2, some (.p (.int n)), some (.p (prsD ps)), some (.p (rtsD rs)), some (.p (intsL O0)), none, none, none, none] =
      some (.nx [S0, some w3, a2, some (.p (.int n)), some (.p (prsD ps)), some (.p (rtsD rs)), some (.p (intsL O1)), none, none, none, none]) := by
    by_cases z : r = 0
    · refine ⟨(peel ps rs n (upto n)).1.flatten, by omega, fun {a2} => ?_⟩
      have lp := loop_ok (S0 := S0) (a1 := some w3) (a2 := a2) (n := n) (ps := ps) (rs := rs) (by omega) (peel ps rs n (upto n)).1 (by omega)
      generalize (peel ps rs n (upto n)).1.flatten = FL at lp ⊢
      generalize (peel ps rs n (upto n)).1 = LY at ly lp
      simp [e3, z, ly, lp]
    · refine ⟨O0, by rw [pm.length_eq, upto_len]; omega, fun {a2} => ?_⟩
      simp [e3, z]
  obtain ⟨O, w4, e4, hO, hw4⟩ := bent_ok hw3 hO1
  obtain ⟨b, hb⟩ : ∃ b : Bool, b = (decide (isort O = upto n) && agB ps rs O) := ⟨_, rfl⟩
  have g1 := agrees_ok (.inl rfl : Sq (intsL O) O) ok
  have g2 := agrees_ok (.inr rfl : Sq (intsT O) O) ok
  rw [← hb] at g1 g2
  have due : ∀ {a0 a2 a7 a9 a10 : Option W}, mAndV (mOp dEq (mDisp fSortI (aD (mVar 6) aNil)) (mListRg rg1 (mVar 3))) (mGetP (mCall f_x_law_agrees (aD (mVar 4) (aD (mVar 5) (aD (mVar 6) aNil))))) [a0, some w4, a2, some (.p (.int n)), some (.p (prsD ps)), some (.p (rtsD rs)), some (.p (intsL O)), a7, none, a9, a10] =
      some (.bool b, [a0, some w4, a2, some (.p (.int n)), some (.p (prsD ps)), some (.p (rtsD rs)), some (.p (intsL O)), a7, none, a9, a10]) := by
    intro a0 a2 a7 a9 a10
    have st : fSortI [.lst (O.map .int)] = some (.lst ((isort O).map .int)) := by
      show (intsD _).bind _ = _
      rw [intsD_map]
      have : O.length < 64 := by omega
      simp [this]
    have eq := eq_ints (a := isort O) (b := upto n)
    by_cases z : isort O = upto n
    · have xa := x_agrees_ok ok (perm_of_isort z)
      have hb2 : agB ps rs O = b := by rw [hb, decide_eq_true z, Bool.true_and]
      rw [hb2] at xa
      rw [decide_eq_true z] at eq
      generalize isort O = IO at st eq
      simp [st, y1, rng_upto, eq, xa]
    · have hb2 : b = false := by rw [hb, decide_eq_false z, Bool.false_and]
      rw [decide_eq_false z] at eq
      subst hb2
      generalize isort O = IO at st eq
      simp [st, y1, rng_upto, eq]
  have sm := same_refl 10 (.lst [.bool b, .bool b]) ⟨by simp, by intro x hx; simp only [List.mem_cons, List.not_mem_nil, or_false] at hx; rcases hx with rfl | rfl <;> trivial⟩
  have nd : dNe (.lst [prsD ps, rtsD rs, intsL O]) (.lst [prsD ps, rtsD rs, intsL O]) = some (.bool false) := by
    have h : Pd 6 (.lst [prsD ps, rtsD rs, intsL O]) := fun x hx => by
      simp only [List.mem_cons, List.not_mem_nil, or_false] at hx
      rcases hx with rfl | rfl | rfl
      · exact pd_prs
      · exact pd_rts
      · exact pd_ints
    rw [ne_pd h h (by omega) (by omega)]
    simp
  refine ⟨w4, hw4, ?_⟩
  rw [fs_gN]
  unfold b_law_1
  simp only [intsL, intsT] at g1 g2 e4 hif due nd
  have g2' : f_agrees [.p (.int n), .p (prsD ps), .p (rtsD rs), .p (.tup (O.map .int))] = some (.p (.bool b), [none, none, none, none]) := g2
  clear hb g2
  simp [-ev_sif, -ev_andV, e1', y1, rng_upto, e2, hif, e4, due, g1, g2', fTuple, fList, z1, z2, z3, sm, nd]
  simp [sm, nd, z2, z3]
theorem law_true (ns : List Int) (h : ns.length ≤ 63) : ∃ oe, f_law [.p (.fl (ns.map .int))] = some (.p (.bool true), oe) := by
  obtain ⟨w0, hb, hw0⟩ := bag_ok ns h
  obtain ⟨S0, hS⟩ : ∃ S, S = some (W.p (.fl (ns.map .int))) := ⟨_, rfl⟩
  obtain ⟨e', h1, w', hw', rfl⟩ := forRun_any (tg := gN 2) (b := b_law_1) (P := fun _ e => ∃ w, BagW w ∧ e = [S0, some w, none, none, none, none, none, none, none, none, none]) (rngD 0 8) (by
    rintro j d e _ _ ⟨w, hw, rfl⟩
    obtain ⟨w', hw', e1⟩ := turn_ok (S0 := S0) hw d
    exact ⟨_, e1, w', hw', rfl⟩) [S0, some w0, none, none, none, none, none, none, none, none, none] ⟨w0, hw0, rfl⟩
  subst hS
  have okA : Okp 0 [] [] := ⟨by omega, by simp, by simp, by simp, by simp⟩
  have okB : Okp 1 [] [([0], [])] := ⟨by omega, by simp, by simp, by simp, fun r hr => by
    rw [List.mem_singleton] at hr
    subst hr
    exact ⟨⟨by simp, by simp⟩, ⟨by simp, by simp⟩, by simp, by simp⟩⟩
  have gA := agrees_ok (.inl rfl : Sq (intsL []) []) okA
  have gB := agrees_ok (.inl rfl : Sq (intsL [0]) [0]) okB
  have vA : (decide (isort [] = upto 0) && agB [] [] []) = true := by decide
  have vB : (decide (isort [0] = upto 1) && agB [] [([0], [])] [0]) = false := by decide
  rw [vA] at gA
  rw [vB] at gB
  have gA' : f_agrees [.p (.int 0), .p (.lst []), .p (.lst []), .p (.lst [])] = some (.p (.bool true), [none, none, none, none]) := gA
  have gB' : f_agrees [.p (.int 1), .p (.lst []), .p (.lst [.tup [.tup [.int 0], .tup []]]), .p (.lst [.int 0])] = some (.p (.bool false), [none, none, none, none]) := gB
  have z1 : (1 : Nat) ≤ LIM := LIM_le (by omega)
  have z2 : (2 : Nat) ≤ LIM := LIM_le (by omega)
  have sm := same_refl 10 (.lst [.bool true, .bool false]) ⟨by simp, by intro x hx; simp only [List.mem_cons, List.not_mem_nil, or_false] at hx; rcases hx with rfl | rfl <;> trivial⟩
  unfold f_law fsem m_law
  simp [hb, orX_bag hw0, h1, gA', gB', z1, z2, sm, outs]
end Lw

/-! ### the head -/
namespace Lw
open PySem PySem.W PySem.Calls PyProof.Rows L2 MV
def d_x_law_bag : He.DefD := ⟨("_law_bag", none), "_law_bag", "_law_bag", defArgs s_x_law_bag, defBody s_x_law_bag, defScope s_x_law_bag, [], []⟩
def d_x_law_same : He.DefD := ⟨("_law_same", none), "_law_same", "_law_same", defArgs s_x_law_same, defBody s_x_law_same, defScope s_x_law_same, [], []⟩
def d_x_law_pull : He.DefD := ⟨("_law_pull", none), "_law_pull", "_law_pull", defArgs s_x_law_pull, defBody s_x_law_pull, defScope s_x_law_pull, [], []⟩
def d_x_law_pairs : He.DefD := ⟨("_law_pairs", none), "_law_pairs", "_law_pairs", defArgs s_x_law_pairs, defBody s_x_law_pairs, defScope s_x_law_pairs, [], []⟩
def d_x_law_part : He.DefD := ⟨("_law_part", none), "_law_part", "_law_part", defArgs s_x_law_part, defBody s_x_law_part, defScope s_x_law_part, [], []⟩
def d_x_law_of : He.DefD := ⟨("_law_of", none), "_law_of", "_law_of", defArgs s_x_law_of, defBody s_x_law_of, defScope s_x_law_of, [], []⟩
def d_x_law_reports : He.DefD := ⟨("_law_reports", none), "_law_reports", "_law_reports", defArgs s_x_law_reports, defBody s_x_law_reports, defScope s_x_law_reports, [], []⟩
def d_x_law_problem : He.DefD := ⟨("_law_problem", none), "_law_problem", "_law_problem", defArgs s_x_law_problem, defBody s_x_law_problem, defScope s_x_law_problem, [], []⟩
def d_x_law_mixed : He.DefD := ⟨("_law_mixed", none), "_law_mixed", "_law_mixed", defArgs s_x_law_mixed, defBody s_x_law_mixed, defScope s_x_law_mixed, [], []⟩
def d_x_law_bent_order : He.DefD := ⟨("_law_bent_order", none), "_law_bent_order", "_law_bent_order", defArgs s_x_law_bent_order, defBody s_x_law_bent_order, defScope s_x_law_bent_order, [], []⟩
def d_x_law_agrees : He.DefD := ⟨("_law_agrees", none), "_law_agrees", "_law_agrees", defArgs s_x_law_agrees, defBody s_x_law_agrees, defScope s_x_law_agrees, [], []⟩
def d_is_ascending : He.DefD := ⟨("is_ascending", none), "is_ascending", "is_ascending", defArgs s_is_ascending, defBody s_is_ascending, defScope s_is_ascending, [], []⟩
def d_check_problem : He.DefD := ⟨("check_problem", none), "check_problem", "check_problem", defArgs s_check_problem, defBody s_check_problem, defScope s_check_problem, [], []⟩
def d_agrees : He.DefD := ⟨("agrees", none), "agrees", "agrees", defArgs s_agrees, defBody s_agrees, defScope s_agrees, [], []⟩
def d_x_law_free : He.DefD := ⟨("_law_free", none), "_law_free", "_law_free", defArgs s_x_law_free, defBody s_x_law_free, defScope s_x_law_free, [], []⟩
def d_x_law_layers : He.DefD := ⟨("_law_layers", none), "_law_layers", "_law_layers", defArgs s_x_law_layers, defBody s_x_law_layers, defScope s_x_law_layers, [], []⟩
def d_law : He.DefD := ⟨("law", none), "law", "law", defArgs s_law, defBody s_law, defScope s_law, [], []⟩
def fn : List He.DefD := [d_x_law_bag, d_x_law_same, d_x_law_pull, d_x_law_pairs, d_x_law_part, d_x_law_of, d_x_law_reports, d_x_law_problem, d_x_law_mixed, d_x_law_bent_order, d_x_law_agrees, d_is_ascending, d_check_problem, d_agrees, d_x_law_free, d_x_law_layers, d_law]
def fa : List He.Fa := [.glo "_law_bag", .glo "_law_same", .glo "_law_pull", .glo "_law_pairs", .glo "_law_part", .glo "_law_of", .glo "_law_reports", .glo "_law_problem", .glo "_law_mixed", .glo "_law_bent_order", .glo "_law_agrees", .glo "is_ascending", .glo "check_problem", .glo "agrees", .glo "_law_free", .glo "_law_layers", .glo "law", .free "abs", .free "all", .free "any", .free "bool", .free "enumerate", .free "int", .free "isinstance", .free "len", .free "list", .free "min", .free "range", .free "sorted", .free "str", .free "tuple", .free "zip", .int "MAX_SLOTS" 30]
abbrev R : PySem.W.OpenRow := PySem.W.OpenLaw.row PySem.Challenge.rw_hiddenrank_k17_orders_that_agree
def tf : List He.Defn := [("agrees", none)]
abbrev hk : PySem.W.Hook := He.hookX 4 fa fn [] tf (fun _ => true)
def ob (s : PySem.W.SharedT) : He.AlX := He.obsX 4 fa fn [] tf (fun _ => true) (HandSHeadRun.getT s)
theorem ob_eq (s : PySem.W.SharedT) : ob s = hk.obs s.abs := He.obsX_eq (HandSHeadRun.getT_eq s)
def names : List PySem.Str := (["RankError", "LimitReached", "InvalidPair", "InvalidReport", "MAX_SLOTS", "is_ascending", "check_problem", "agrees", "_law_bag", "_law_pull", "_law_of", "_law_mixed", "_law_part", "_law_same", "_law_pairs"] : List PySem.Str) ++ (["_law_reports", "_law_problem", "_law_free", "_law_layers", "_law_agrees", "_law_bent_order"] : List PySem.Str)
theorem run (w : World) : HandSHeadRun.RunEq R (PySem.W.view R.prog [24]) hk ob 20000 names w := by
  intro os
  kernel_rfl
theorem facts {K : PySem.W.Frag} {h : Heap} {mg : Str → Option Value} (X : K.In h) (G : h.Ns mainGlobals mg) (c : He.SaysD fa fn K) : Facts K mg where
  g_x_law_bag := He.glo_ok X G (c.fact 0 (f := .glo "_law_bag") rfl)
  g_x_law_same := He.glo_ok X G (c.fact 1 (f := .glo "_law_same") rfl)
  g_x_law_pull := He.glo_ok X G (c.fact 2 (f := .glo "_law_pull") rfl)
  g_x_law_pairs := He.glo_ok X G (c.fact 3 (f := .glo "_law_pairs") rfl)
  g_x_law_part := He.glo_ok X G (c.fact 4 (f := .glo "_law_part") rfl)
  g_x_law_of := He.glo_ok X G (c.fact 5 (f := .glo "_law_of") rfl)
  g_x_law_reports := He.glo_ok X G (c.fact 6 (f := .glo "_law_reports") rfl)
  g_x_law_problem := He.glo_ok X G (c.fact 7 (f := .glo "_law_problem") rfl)
  g_x_law_mixed := He.glo_ok X G (c.fact 8 (f := .glo "_law_mixed") rfl)
  g_x_law_bent_order := He.glo_ok X G (c.fact 9 (f := .glo "_law_bent_order") rfl)
  g_x_law_agrees := He.glo_ok X G (c.fact 10 (f := .glo "_law_agrees") rfl)
  g_is_ascending := He.glo_ok X G (c.fact 11 (f := .glo "is_ascending") rfl)
  g_check_problem := He.glo_ok X G (c.fact 12 (f := .glo "check_problem") rfl)
  g_agrees := He.glo_ok X G (c.fact 13 (f := .glo "agrees") rfl)
  g_x_law_free := He.glo_ok X G (c.fact 14 (f := .glo "_law_free") rfl)
  g_x_law_layers := He.glo_ok X G (c.fact 15 (f := .glo "_law_layers") rfl)
  g_law := He.glo_ok X G (c.fact 16 (f := .glo "law") rfl)
  n_abs := He.free_ok X G (c.fact 17 (f := .free "abs") rfl)
  n_all := He.free_ok X G (c.fact 18 (f := .free "all") rfl)
  n_any := He.free_ok X G (c.fact 19 (f := .free "any") rfl)
  n_bool := He.free_ok X G (c.fact 20 (f := .free "bool") rfl)
  n_enumerate := He.free_ok X G (c.fact 21 (f := .free "enumerate") rfl)
  n_int := He.free_ok X G (c.fact 22 (f := .free "int") rfl)
  n_isinstance := He.free_ok X G (c.fact 23 (f := .free "isinstance") rfl)
  n_len := He.free_ok X G (c.fact 24 (f := .free "len") rfl)
  n_list := He.free_ok X G (c.fact 25 (f := .free "list") rfl)
  n_min := He.free_ok X G (c.fact 26 (f := .free "min") rfl)
  n_range := He.free_ok X G (c.fact 27 (f := .free "range") rfl)
  n_sorted := He.free_ok X G (c.fact 28 (f := .free "sorted") rfl)
  n_str := He.free_ok X G (c.fact 29 (f := .free "str") rfl)
  n_tuple := He.free_ok X G (c.fact 30 (f := .free "tuple") rfl)
  n_zip := He.free_ok X G (c.fact 31 (f := .free "zip") rfl)
  c_MAX_SLOTS := He.int_ok X G (c.fact 32 (f := .int "MAX_SLOTS" 30) rfl)
  d_x_law_bag := c.def_ 0 (d := d_x_law_bag) rfl
  d_x_law_same := c.def_ 1 (d := d_x_law_same) rfl
  d_x_law_pull := c.def_ 2 (d := d_x_law_pull) rfl
  d_x_law_pairs := c.def_ 3 (d := d_x_law_pairs) rfl
  d_x_law_part := c.def_ 4 (d := d_x_law_part) rfl
  d_x_law_of := c.def_ 5 (d := d_x_law_of) rfl
  d_x_law_reports := c.def_ 6 (d := d_x_law_reports) rfl
  d_x_law_problem := c.def_ 7 (d := d_x_law_problem) rfl
  d_x_law_mixed := c.def_ 8 (d := d_x_law_mixed) rfl
  d_x_law_bent_order := c.def_ 9 (d := d_x_law_bent_order) rfl
  d_x_law_agrees := c.def_ 10 (d := d_x_law_agrees) rfl
  d_is_ascending := c.def_ 11 (d := d_is_ascending) rfl
  d_check_problem := c.def_ 12 (d := d_check_problem) rfl
  d_agrees := c.def_ 13 (d := d_agrees) rfl
  d_x_law_free := c.def_ 14 (d := d_x_law_free) rfl
  d_x_law_layers := c.def_ 15 (d := d_x_law_layers) rfl
  d_law := c.def_ 16 (d := d_law) rfl
end Lw
open PySem PySem.W PySem.Calls PyProof.Rows
theorem PySem.Challenge.cw_hiddenrank_k17_orders_that_agree_holds : PySem.Challenge.rw_hiddenrank_k17_orders_that_agree.Holds := by
  w_on; o_law
  refine HandSHeadRun.head_any (r := OpenLaw.row PySem.Challenge.rw_hiddenrank_k17_orders_that_agree) (q := view (OpenLaw.row PySem.Challenge.rw_hiddenrank_k17_orders_that_agree).prog [24]) (H := Lw.hk) (ob := Lw.ob) (M := 20000) (loose := Lw.names) (d := HandSHeadRun.topDef (OpenLaw.row PySem.Challenge.rw_hiddenrank_k17_orders_that_agree).prog 24) (kwd := []) Lw.ob_eq
    (by kernel_rfl) (fun s => by kernel_rfl) Lw.run (by kernel_rfl) (by kernel_rfl) (by kernel_rfl) (by rfl) (by first | assumption | decide +kernel) (by decide +kernel) ⟨rfl, rfl, rfl, rfl, rfl, by decide +kernel⟩ ?hw ?hc
  case hw => w_witness2
  case hc =>
    refine LamX.walk_ofTsE (l := PySem.Challenge.rw_hiddenrank_k17_orders_that_agree) (n := 63) (k := 12) (x := "_law_script") (CX := fun _ => L2.CX0) rfl (by decide) (by kernel_rfl) ⟨rfl, by decide, by decide⟩ ?F (fun _ _ _ _ _ z => z)
    intro w mg fa h Y G hmg0
    obtain ⟨K, KX, c⟩ := Y
    have hmg : mg ("law" : PySem.Str) = some (.ref fa) := by
      have e : (HandSHeadRun.topDef (OpenLaw.row PySem.Challenge.rw_hiddenrank_k17_orders_that_agree).prog 24).name = ("law" : PySem.Str) := by kernel_rfl
      rw [← e]
      exact hmg0
    have T := Lw.facts KX G c.t.d
    obtain ⟨fd, F⟩ := T.d_law
    have e := hmg.symm.trans T.g_law
    cases e
    have hb := L2.FunD.bindsA (ps := ["_law_script"]) F fun _ _ _ _ _ _ us hl => match us, hl with | [_], _ => rfl
    letI : MV.TB := ⟨[(He.tabOf K (He.codeOf K ("agrees", none)), (("agrees" : Str) ++ ".<locals>.") ++ "<lambda>")]⟩
    have one : ∀ {p : Addr × Addr}, p ∈ [He.cT K ("agrees", none)] → p = He.cT K ("agrees", none) := fun hp => List.mem_singleton.mp hp
    refine ⟨K, KX, fd, [He.cT K ("agrees", none)], MV.sp0 (MV.spF K mg 1 Lw.f_law), fun p hp => ?_, fun p hp => ?_, fun p hp => ?_, fun s v => hb s [v] rfl, fun H a ns hl _ hT hS => MV.law_sp Lw.law_true H a ns hl hS (MV.tabs_new fun p hp => ?_), fun base _ _ hTB => MV.fn0 (Lw.all_law T (MV.lamF_of hTB (.head _) fun r hr _ => ?_) F)⟩
    · rw [one hp]; exact c.empty _ (.head _)
    · rw [one hp]; exact c.out _ (.head _)
    · rw [one hp]; exact PySem.W.codeHd_of_K KX (c.hd _ (.head _))
    · rw [List.mem_singleton.mp hp]; exact hT _ (.head _)
    · rw [List.mem_singleton.mp hr]
