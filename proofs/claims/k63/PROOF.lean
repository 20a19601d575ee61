import PyProof.Rows.All
import Wide.All
import OpenK.AllK
import Wide.FinOn
import HandS.ForMost
import HandS.Lambda
import HandS.Exc
import HandS.ExcOwn
import HandS.ExcCtx
import HandS.CallSlots
import HandS.WordsExc
import HandS.Defaults
import HandS.Zip
import HandS.IsInst
import HandS.TupAny
import HandS.Deep
import HandS.HeadEnd
import HandS.Style
import HandS.DictComp
import HandS.Conv
import HandS.More
import HandS.SortKw
import KE.DataMinMax
import PyProof.CollectIter
import PyProof.WalksMore
import HandS.ExcValue
import KE.KRevSl
import HandS.TupMul
import HandS.SetFor
import HandS.Strs
import PyProof.FactsAll.list_3
import HandS.WideBits
import HandS.NoneIn
import PyProof.Draws
import KE.GoesEnum
import KE.KMinKey
import HandS.HeadHook4
import PyProof.Rows.CallKwBuiltin
import HandS.HeadWalk
import HandS.SortInts
import KE.GoesMore
import HandS.ExcInit
import HandS.TryMany
import HandS.HotCalls
import KE.KExcInit
import HandS.ExcField
import HandS.HeadHook3
import HandS.StrSplit
import HandS.Codes
import KE.KStateDown
import Lean
import HandS.Head0
import HandS.Head1
import HandS.Head2
import HandS.HeadHook1
import HandS.HeadHook2
import PySem.Challenge.RW_hiddenrank_k63_texts_that_are_no_command
set_option Elab.async false
set_option linter.all false
set_option maxRecDepth 100000
set_option maxHeartbeats 0
namespace MV
open PySem L2

/-- the tables of code objects of the defs that make lambdas -/
class TB where
  T : List (Addr × Str)
instance (priority := low) tb0 : TB := ⟨[]⟩
def NT (o : HO) : Prop := ∀ ps, o ≠ .tbl ps

/-! ### data -/
inductive D where
  | none | bool (b : Bool) | int (i : Int) | str (x : Str)
  | tup (ds : List D) | ft (ds : List D) | lst (ds : List D) | fl (ds : List D) | dict (es : List (Key × D)) | inst (c : Str) (fs : List (Str × D)) | exc (a dx : Addr) (c : Str) (gs : List (Str × D))

section
variable (K : PySem.W.Frag) (mg : Str → Option Value) (I : Hp)
mutual
def Rp : D → V → Prop
  | .none, v => v = .non
  | .bool b, v => v = .bl b
  | .int i, v => v = .int i
  | .str x, v => v = .str x
  | .lst ds, v => ∃ a xs, v = .ref a ∧ I a = some (.lst xs) ∧ RpL ds xs
  | .fl ds, v => ∃ a xs, v = .ref a ∧ SqL K I a xs ∧ RpL ds xs
  | .tup ds, v => ∃ a xs, v = .ref a ∧ SqT K I a xs ∧ RpL ds xs
  | .ft ds, v => ∃ a o xs, v = .ref a ∧ I a = some (.frz o (.tup xs)) ∧ o.cls = .type "tuple" ∧ o.dict = none ∧ RpL ds xs
  | .dict es, v => ∃ a o kvs, v = .ref a ∧ I a = some (.frz o (.dK kvs)) ∧ RpK es kvs
  | .exc a dx c gs, v => v = .ref a ∧ ∃ C fs, mg c = some (.ref C) ∧ I dx = some (.xd fs) ∧ RpF gs fs
  | .inst c gs, v => ∃ a C dx fs, v = .ref a ∧ mg c = some (.ref C) ∧ I a = some (.ins C dx fs) ∧ RpF gs fs
def RpL : List D → List V → Prop
  | [], xs => xs = []
  | d :: ds, xs => ∃ x r, xs = x :: r ∧ Rp d x ∧ RpL ds r
def RpK : List (Key × D) → List (Key × V) → Prop
  | [], xs => xs = []
  | (k, d) :: ds, xs => ∃ x r, xs = (k, x) :: r ∧ Rp d x ∧ RpK ds r
def RpF : List (Str × D) → List (Str × V) → Prop
  | [], xs => xs = []
  | (k, d) :: ds, xs => ∃ x r, xs = (k, x) :: r ∧ Rp d x ∧ RpF ds r
end
end
/-- a heap goes on -/
def Ex (H H' : Hp) : Prop := ∀ a o, H a = some o → H' a = some o
theorem Ex.refl (H : Hp) : Ex H H := fun _ _ h => h
theorem Ex.trans {H H1 H2 : Hp} (a : Ex H H1) (b : Ex H1 H2) : Ex H H2 := fun x o h => b x o (a x o h)
theorem Ex.new {H : Hp} {p : Addr} {o : HO} (h : H p = none) : Ex H (upd H p o) := fun a u e => by
  rw [upd_ne (ne_of_none e h)]; exact e
section
variable {K : PySem.W.Frag} {mg : Str → Option Value} {I J : Hp}
theorem ex_rd {a : Addr} {u : HO} (e : Ex I J) (h : Rd I a u) : Rd J a u := by
  rcases h with h | ⟨o, h⟩
  · exact Or.inl (e a _ h)
  · exact Or.inr ⟨o, e a _ h⟩
theorem ex_l {a : Addr} {xs : List V} (e : Ex I J) (h : SqL K I a xs) : SqL K J a xs := by
  rcases h with h | h
  · exact Or.inl (ex_rd e h)
  · exact Or.inr h
theorem ex_t {a : Addr} {xs : List V} (e : Ex I J) (h : SqT K I a xs) : SqT K J a xs := by
  rcases h with h | h
  · exact Or.inl (ex_rd e h)
  · exact Or.inr h
mutual
theorem Rp.mono (e : Ex I J) : ∀ (d : D) (v : V), Rp K mg I d v → Rp K mg J d v
  | .none, v, h => by simp only [Rp] at h ⊢; exact h
  | .bool b, v, h => by simp only [Rp] at h ⊢; exact h
  | .int i, v, h => by simp only [Rp] at h ⊢; exact h
  | .str x, v, h => by simp only [Rp] at h ⊢; exact h
  | .lst ds, v, h => by
    simp only [Rp] at h ⊢
    obtain ⟨a, xs, e1, h1, h2⟩ := h
    exact ⟨a, xs, e1, e _ _ h1, RpL.mono e ds xs h2⟩
  | .fl ds, v, h => by
    simp only [Rp] at h ⊢
    obtain ⟨a, xs, e1, h1, h2⟩ := h
    exact ⟨a, xs, e1, ex_l e h1, RpL.mono e ds xs h2⟩
  | .tup ds, v, h => by
    simp only [Rp] at h ⊢
    obtain ⟨a, xs, e1, h1, h2⟩ := h
    exact ⟨a, xs, e1, ex_t e h1, RpL.mono e ds xs h2⟩
  | .ft ds, v, h => by
    simp only [Rp] at h ⊢
    obtain ⟨a, o, xs, e1, h1, c, dn, h2⟩ := h
    exact ⟨a, o, xs, e1, e _ _ h1, c, dn, RpL.mono e ds xs h2⟩
  | .dict es, v, h => by
    simp only [Rp] at h ⊢
    obtain ⟨a, o, xs, e1, h1, h2⟩ := h
    exact ⟨a, o, xs, e1, e _ _ h1, RpK.mono e es xs h2⟩
  | .exc a dx c gs, v, h => by
    simp only [Rp] at h ⊢
    obtain ⟨e1, C, fs, h1, h2, h3⟩ := h
    exact ⟨e1, C, fs, h1, e _ _ h2, RpF.mono e gs fs h3⟩
  | .inst c gs, v, h => by
    simp only [Rp] at h ⊢
    obtain ⟨a, C, dx, fs, e1, h1, h2, h3⟩ := h
    exact ⟨a, C, dx, fs, e1, h1, e _ _ h2, RpF.mono e gs fs h3⟩
theorem RpL.mono (e : Ex I J) : ∀ (ds : List D) (xs : List V), RpL K mg I ds xs → RpL K mg J ds xs
  | [], xs, h => by simp only [RpL] at h ⊢; exact h
  | d :: ds, xs, h => by
    simp only [RpL] at h ⊢
    obtain ⟨x, r, e1, h1, h2⟩ := h
    exact ⟨x, r, e1, Rp.mono e d x h1, RpL.mono e ds r h2⟩
theorem RpK.mono (e : Ex I J) : ∀ (ds : List (Key × D)) (xs : List (Key × V)), RpK K mg I ds xs → RpK K mg J ds xs
  | [], xs, h => by simp only [RpK] at h ⊢; exact h
  | (k, d) :: ds, xs, h => by
    simp only [RpK] at h ⊢
    obtain ⟨x, r, e1, h1, h2⟩ := h
    exact ⟨x, r, e1, Rp.mono e d x h1, RpK.mono e ds r h2⟩
theorem RpF.mono (e : Ex I J) : ∀ (ds : List (Str × D)) (xs : List (Str × V)), RpF K mg I ds xs → RpF K mg J ds xs
  | [], xs, h => by simp only [RpF] at h ⊢; exact h
  | (k, d) :: ds, xs, h => by
    simp only [RpF] at h ⊢
    obtain ⟨x, r, e1, h1, h2⟩ := h
    exact ⟨x, r, e1, Rp.mono e d x h1, RpF.mono e ds r h2⟩
end
theorem RpL.length : ∀ {ds : List D} {xs : List V}, RpL K mg I ds xs → ds.length = xs.length
  | [], xs, h => by simp only [RpL] at h; rw [h]; rfl
  | d :: ds, xs, h => by
    simp only [RpL] at h
    obtain ⟨x, r, e1, h1, h2⟩ := h
    rw [e1, List.length_cons, List.length_cons, RpL.length h2]
theorem RpL.get : ∀ {ds : List D} {xs : List V} {i : Nat} {d : D}, RpL K mg I ds xs → ds[i]? = some d → ∃ x, xs[i]? = some x ∧ Rp K mg I d x
  | [], xs, i, d, h, e => by simp at e
  | d :: ds, xs, 0, d', h, e => by
    simp only [RpL] at h
    obtain ⟨x, r, e1, h1, h2⟩ := h
    simp at e
    subst e e1
    exact ⟨x, rfl, h1⟩
  | d :: ds, xs, i + 1, d', h, e => by
    simp only [RpL] at h
    obtain ⟨x, r, e1, h1, h2⟩ := h
    simp at e
    subst e1
    obtain ⟨y, e2, h3⟩ := RpL.get h2 e
    exact ⟨y, by simpa using e2, h3⟩
theorem RpL.nil : RpL K mg I [] [] := by simp only [RpL]
theorem RpL.cons {d : D} {ds : List D} {x : V} {xs : List V} (h : Rp K mg I d x) (t : RpL K mg I ds xs) : RpL K mg I (d :: ds) (x :: xs) := by
  simp only [RpL]; exact ⟨x, xs, rfl, h, t⟩
theorem RpL.append : ∀ {ds es : List D} {xs ys : List V}, RpL K mg I ds xs → RpL K mg I es ys → RpL K mg I (ds ++ es) (xs ++ ys)
  | [], es, xs, ys, h, t => by simp only [RpL] at h; subst h; exact t
  | d :: ds, es, xs, ys, h, t => by
    simp only [RpL] at h
    obtain ⟨x, r, e1, h1, h2⟩ := h
    subst e1
    exact RpL.cons h1 (RpL.append h2 t)
end
end MV

namespace MV
open PySem L2
variable [TB]

/-- no table, no code object stands at p -/
def NX (H : Hp) (p : Addr) : Prop := ∀ o, H p = some o → NT o ∧ ∀ φ, o ≠ .ext φ
theorem NX.none {H : Hp} {p : Addr} (h : H p = none) : NX H p := fun o e => by rw [h] at e; cases e
theorem NX.lst {H : Hp} {p : Addr} {xs : List V} (h : H p = some (.lst xs)) : NX H p := fun o e => by
  rw [h] at e; cases e; exact ⟨fun _ z => (by cases z), fun _ z => (by cases z)⟩
theorem NX.tup {H : Hp} {p : Addr} {xs : List V} (h : H p = some (.tup xs)) : NX H p := fun o e => by
  rw [h] at e; cases e; exact ⟨fun _ z => (by cases z), fun _ z => (by cases z)⟩
theorem NX.dk {H : Hp} {p : Addr} {xs : List (Key × V)} (h : H p = some (.dK xs)) : NX H p := fun o e => by
  rw [h] at e; cases e; exact ⟨fun _ z => (by cases z), fun _ z => (by cases z)⟩
theorem NX.ins {H : Hp} {p : Addr} {C dx : Addr} {fs : List (Str × V)} (h : H p = some (.ins C dx fs)) : NX H p := fun o e => by
  rw [h] at e; cases e; exact ⟨fun _ z => (by cases z), fun _ z => (by cases z)⟩
theorem tabs_upd {T : List (Addr × Str)} {H : Hp} {p : Addr} {o : HO} (t : LamX.Tabs T H) (n : NX H p) : LamX.Tabs T (upd H p o) := fun q hq => by
  obtain ⟨ps, h1, h2, h3⟩ := t q hq
  have e1 : q.1 ≠ p := fun z => (n _ (z ▸ h1)).1 ps rfl
  refine ⟨ps, by rw [upd_ne e1]; exact h1, h2, fun pos cv hc => ?_⟩
  obtain ⟨c, ec, hc'⟩ := h3 pos cv hc
  refine ⟨c, ec, ?_⟩
  rw [upd_ne]
  · exact hc'
  · intro z
    subst z
    exact (n _ hc').2 _ rfl
theorem tabs_off {T : List (Addr × Str)} {H H' : Hp} {G : List Addr} (t : LamX.Tabs T H) (off : ∀ b, b ∉ G → H' b = H b) (n : ∀ b ∈ G, NX H b) : LamX.Tabs T H' := fun q hq => by
  obtain ⟨ps, h1, h2, h3⟩ := t q hq
  have e1 : q.1 ∉ G := fun z => (n _ z _ h1).1 ps rfl
  refine ⟨ps, (off _ e1).trans h1, h2, fun pos cv hc => ?_⟩
  obtain ⟨c, ec, hc'⟩ := h3 pos cv hc
  exact ⟨c, ec, (off _ fun z => (n _ z _ hc').2 _ rfl).trans hc'⟩
/-- the tables stand, no one of them is frozen -/
def TbR (I H : Hp) : Prop := LamX.Tabs TB.T H ∧ ∀ p ∈ TB.T, I p.1 = none
section
variable {I I' H H' : Hp} {p : Addr} {o : HO}
theorem TbR.ext (t : TbR I H) (e : ∀ b o, H b = some o → H' b = some o) : TbR I H' := ⟨t.1.ext e, t.2⟩
theorem TbR.at_ (t : TbR I H) {q : Addr × Str} (hq : q ∈ TB.T) : ∃ ps, H q.1 = some (.tbl ps) := by
  obtain ⟨ps, h, _⟩ := t.1 q hq
  exact ⟨ps, h⟩
theorem TbR.frz (t : TbR I H) (n : NX H p) : TbR (upd I p o) H := ⟨t.1, fun q hq => by
  obtain ⟨ps, h⟩ := t.at_ hq
  have e1 : q.1 ≠ p := fun z => (n _ (z ▸ h)).1 ps rfl
  rw [upd_ne e1]
  exact t.2 q hq⟩
theorem TbR.new (t : TbR I H) (h : H p = none) : TbR (upd I p o) (upd H p o) := ⟨t.1.ext (Ex.new h), (t.frz (.none h)).2⟩
theorem tbR_upd (t : TbR I H) (n : NX H p) : TbR I (upd H p o) := ⟨tabs_upd t.1 n, t.2⟩
theorem TbR.off {G : List Addr} (t : TbR I H) (off : ∀ b, b ∉ G → I' b = I b ∧ H' b = H b) (n : ∀ b ∈ G, NX H b) : TbR I' H' := ⟨tabs_off t.1 (fun b hb => (off b hb).2) n, fun q hq => by
  obtain ⟨ps, h⟩ := t.at_ hq
  rw [(off _ fun z => (n _ z _ h).1 ps rfl).1]
  exact t.2 q hq⟩
theorem TbR.keep (t : TbR I H) (k : ∀ a, H a ≠ none → ¬ NX H a → I' a = I a) : TbR I' H := ⟨t.1, fun q hq => by
  obtain ⟨ps, h⟩ := t.at_ hq
  rw [k _ (by rw [h]; exact fun z => by cases z) fun n => (n _ h).1 ps rfl]
  exact t.2 q hq⟩
end
/-! ### owned things -/
inductive W where
  | p (d : D) | ol (ws : List W) | ot (ws : List W) | od (es : List (Key × W)) | oi (c : Str) (fs : List (Str × W)) | ex (x : D)
abbrev Env := List (Option W)
abbrev Fp := Nat → List Addr

section
variable (K : PySem.W.Frag) (mg : Str → Option Value) (I H : Hp)
mutual
def Ro : W → V → List Addr → Prop
  | .p d, v, F => Rp K mg I d v ∧ F = []
  | .ol ws, v, F => ∃ a xs G, v = .ref a ∧ H a = some (.lst xs) ∧ F = a :: G ∧ RoL ws xs G
  | .ot ws, v, F => ∃ a xs G, v = .ref a ∧ H a = some (.tup xs) ∧ F = a :: G ∧ RoL ws xs G
  | .od es, v, F => ∃ a kvs G, v = .ref a ∧ H a = some (.dK kvs) ∧ F = a :: G ∧ RoK es kvs G
  | .oi c gs, v, F => ∃ a C dx fs G, v = .ref a ∧ mg c = some (.ref C) ∧ H a = some (.ins C dx fs) ∧ F = a :: G ∧ RoF gs fs G
  | .ex _, _, _ => False
def RoL : List W → List V → List Addr → Prop
  | [], xs, F => xs = [] ∧ F = []
  | w :: ws, xs, F => ∃ x r F1 F2, xs = x :: r ∧ F = F1 ++ F2 ∧ Ro w x F1 ∧ RoL ws r F2
def RoK : List (Key × W) → List (Key × V) → List Addr → Prop
  | [], xs, F => xs = [] ∧ F = []
  | (k, w) :: ws, xs, F => ∃ x r F1 F2, xs = (k, x) :: r ∧ F = F1 ++ F2 ∧ Ro w x F1 ∧ RoK ws r F2
def RoF : List (Str × W) → List (Str × V) → List Addr → Prop
  | [], xs, F => xs = [] ∧ F = []
  | (k, w) :: ws, xs, F => ∃ x r F1 F2, xs = (k, x) :: r ∧ F = F1 ++ F2 ∧ Ro w x F1 ∧ RoF ws r F2
end
end
section
variable {K : PySem.W.Frag} {mg : Str → Option Value} {I I' H H' : Hp}
mutual
theorem Ro.frame (e : Ex I I') : ∀ (w : W) (v : V) (F : List Addr), (∀ a ∈ F, ∀ o, H a = some o → NT o → H' a = some o) → Ro K mg I H w v F → Ro K mg I' H' w v F
  | .p d, v, F, k, h => by
    simp only [Ro] at h ⊢
    exact ⟨h.1.mono e, h.2⟩
  | .ol ws, v, F, k, h => by
    simp only [Ro] at h ⊢
    obtain ⟨a, xs, G, e1, h1, e2, h2⟩ := h
    subst e2
    exact ⟨a, xs, G, e1, k a (by simp) _ h1 (fun _ z => by cases z), rfl, RoL.frame e ws xs G (fun b hb => k b (by simp [hb])) h2⟩
  | .ot ws, v, F, k, h => by
    simp only [Ro] at h ⊢
    obtain ⟨a, xs, G, e1, h1, e2, h2⟩ := h
    subst e2
    exact ⟨a, xs, G, e1, k a (by simp) _ h1 (fun _ z => by cases z), rfl, RoL.frame e ws xs G (fun b hb => k b (by simp [hb])) h2⟩
  | .od ws, v, F, k, h => by
    simp only [Ro] at h ⊢
    obtain ⟨a, xs, G, e1, h1, e2, h2⟩ := h
    subst e2
    exact ⟨a, xs, G, e1, k a (by simp) _ h1 (fun _ z => by cases z), rfl, RoK.frame e ws xs G (fun b hb => k b (by simp [hb])) h2⟩
  | .oi c gs, v, F, k, h => by
    simp only [Ro] at h ⊢
    obtain ⟨a, C, dx, fs, G, e1, e3, h1, e2, h2⟩ := h
    subst e2
    exact ⟨a, C, dx, fs, G, e1, e3, k a (by simp) _ h1 (fun _ z => by cases z), rfl, RoF.frame e gs fs G (fun b hb => k b (by simp [hb])) h2⟩
  | .ex x, v, F, k, h => by simp only [Ro] at h
theorem RoL.frame (e : Ex I I') : ∀ (ws : List W) (xs : List V) (F : List Addr), (∀ a ∈ F, ∀ o, H a = some o → NT o → H' a = some o) → RoL K mg I H ws xs F → RoL K mg I' H' ws xs F
  | [], xs, F, k, h => by simp only [RoL] at h ⊢; exact h
  | w :: ws, xs, F, k, h => by
    simp only [RoL] at h ⊢
    obtain ⟨x, r, F1, F2, e1, e2, h1, h2⟩ := h
    subst e2
    exact ⟨x, r, F1, F2, e1, rfl, Ro.frame e w x F1 (fun b hb => k b (by simp [hb])) h1, RoL.frame e ws r F2 (fun b hb => k b (by simp [hb])) h2⟩
theorem RoK.frame (e : Ex I I') : ∀ (ws : List (Key × W)) (xs : List (Key × V)) (F : List Addr), (∀ a ∈ F, ∀ o, H a = some o → NT o → H' a = some o) → RoK K mg I H ws xs F → RoK K mg I' H' ws xs F
  | [], xs, F, k, h => by simp only [RoK] at h ⊢; exact h
  | (q, w) :: ws, xs, F, k, h => by
    simp only [RoK] at h ⊢
    obtain ⟨x, r, F1, F2, e1, e2, h1, h2⟩ := h
    subst e2
    exact ⟨x, r, F1, F2, e1, rfl, Ro.frame e w x F1 (fun b hb => k b (by simp [hb])) h1, RoK.frame e ws r F2 (fun b hb => k b (by simp [hb])) h2⟩
theorem RoF.frame (e : Ex I I') : ∀ (ws : List (Str × W)) (xs : List (Str × V)) (F : List Addr), (∀ a ∈ F, ∀ o, H a = some o → NT o → H' a = some o) → RoF K mg I H ws xs F → RoF K mg I' H' ws xs F
  | [], xs, F, k, h => by simp only [RoF] at h ⊢; exact h
  | (q, w) :: ws, xs, F, k, h => by
    simp only [RoF] at h ⊢
    obtain ⟨x, r, F1, F2, e1, e2, h1, h2⟩ := h
    subst e2
    exact ⟨x, r, F1, F2, e1, rfl, Ro.frame e w x F1 (fun b hb => k b (by simp [hb])) h1, RoF.frame e ws r F2 (fun b hb => k b (by simp [hb])) h2⟩
end
mutual
theorem Ro.live : ∀ (w : W) (v : V) (F : List Addr), Ro K mg I H w v F → ∀ a ∈ F, ∃ o, H a = some o
  | .p d, v, F, h => by simp only [Ro] at h; rw [h.2]; simp
  | .ol ws, v, F, h => by
    simp only [Ro] at h
    obtain ⟨a, xs, G, e1, h1, e2, h2⟩ := h
    subst e2
    intro b hb
    rcases List.mem_cons.mp hb with rfl | hb
    · exact ⟨_, h1⟩
    · exact RoL.live ws xs G h2 b hb
  | .ot ws, v, F, h => by
    simp only [Ro] at h
    obtain ⟨a, xs, G, e1, h1, e2, h2⟩ := h
    subst e2
    intro b hb
    rcases List.mem_cons.mp hb with rfl | hb
    · exact ⟨_, h1⟩
    · exact RoL.live ws xs G h2 b hb
  | .od ws, v, F, h => by
    simp only [Ro] at h
    obtain ⟨a, xs, G, e1, h1, e2, h2⟩ := h
    subst e2
    intro b hb
    rcases List.mem_cons.mp hb with rfl | hb
    · exact ⟨_, h1⟩
    · exact RoK.live ws xs G h2 b hb
  | .oi c gs, v, F, h => by
    simp only [Ro] at h
    obtain ⟨a, C, dx, fs, G, e1, e3, h1, e2, h2⟩ := h
    subst e2
    intro b hb
    rcases List.mem_cons.mp hb with rfl | hb
    · exact ⟨_, h1⟩
    · exact RoF.live gs fs G h2 b hb
  | .ex x, v, F, h => by simp only [Ro] at h
theorem RoL.live : ∀ (ws : List W) (xs : List V) (F : List Addr), RoL K mg I H ws xs F → ∀ a ∈ F, ∃ o, H a = some o
  | [], xs, F, h => by simp only [RoL] at h; rw [h.2]; simp
  | w :: ws, xs, F, h => by
    simp only [RoL] at h
    obtain ⟨x, r, F1, F2, e1, e2, h1, h2⟩ := h
    subst e2
    intro b hb
    rcases List.mem_append.mp hb with hb | hb
    · exact Ro.live w x F1 h1 b hb
    · exact RoL.live ws r F2 h2 b hb
theorem RoK.live : ∀ (ws : List (Key × W)) (xs : List (Key × V)) (F : List Addr), RoK K mg I H ws xs F → ∀ a ∈ F, ∃ o, H a = some o
  | [], xs, F, h => by simp only [RoK] at h; rw [h.2]; simp
  | (q, w) :: ws, xs, F, h => by
    simp only [RoK] at h
    obtain ⟨x, r, F1, F2, e1, e2, h1, h2⟩ := h
    subst e2
    intro b hb
    rcases List.mem_append.mp hb with hb | hb
    · exact Ro.live w x F1 h1 b hb
    · exact RoK.live ws r F2 h2 b hb
theorem RoF.live : ∀ (ws : List (Str × W)) (xs : List (Str × V)) (F : List Addr), RoF K mg I H ws xs F → ∀ a ∈ F, ∃ o, H a = some o
  | [], xs, F, h => by simp only [RoF] at h; rw [h.2]; simp
  | (q, w) :: ws, xs, F, h => by
    simp only [RoF] at h
    obtain ⟨x, r, F1, F2, e1, e2, h1, h2⟩ := h
    subst e2
    intro b hb
    rcases List.mem_append.mp hb with hb | hb
    · exact Ro.live w x F1 h1 b hb
    · exact RoF.live ws r F2 h2 b hb
end
mutual
theorem Ro.nx : ∀ (w : W) (v : V) (F : List Addr), Ro K mg I H w v F → ∀ a ∈ F, NX H a
  | .p d, v, F, h => by simp only [Ro] at h; rw [h.2]; simp
  | .ol ws, v, F, h => by
    simp only [Ro] at h
    obtain ⟨a, xs, G, e1, h1, e2, h2⟩ := h
    subst e2
    intro b hb
    rcases List.mem_cons.mp hb with rfl | hb
    · exact NX.lst h1
    · exact RoL.nx ws xs G h2 b hb
  | .ot ws, v, F, h => by
    simp only [Ro] at h
    obtain ⟨a, xs, G, e1, h1, e2, h2⟩ := h
    subst e2
    intro b hb
    rcases List.mem_cons.mp hb with rfl | hb
    · exact NX.tup h1
    · exact RoL.nx ws xs G h2 b hb
  | .od ws, v, F, h => by
    simp only [Ro] at h
    obtain ⟨a, xs, G, e1, h1, e2, h2⟩ := h
    subst e2
    intro b hb
    rcases List.mem_cons.mp hb with rfl | hb
    · exact NX.dk h1
    · exact RoK.nx ws xs G h2 b hb
  | .oi c gs, v, F, h => by
    simp only [Ro] at h
    obtain ⟨a, C, dx, fs, G, e1, e3, h1, e2, h2⟩ := h
    subst e2
    intro b hb
    rcases List.mem_cons.mp hb with rfl | hb
    · exact NX.ins h1
    · exact RoF.nx gs fs G h2 b hb
  | .ex x, v, F, h => by simp only [Ro] at h
theorem RoL.nx : ∀ (ws : List W) (xs : List V) (F : List Addr), RoL K mg I H ws xs F → ∀ a ∈ F, NX H a
  | [], xs, F, h => by simp only [RoL] at h; rw [h.2]; simp
  | w :: ws, xs, F, h => by
    simp only [RoL] at h
    obtain ⟨x, r, F1, F2, e1, e2, h1, h2⟩ := h
    subst e2
    intro b hb
    rcases List.mem_append.mp hb with hb | hb
    · exact Ro.nx w x F1 h1 b hb
    · exact RoL.nx ws r F2 h2 b hb
theorem RoK.nx : ∀ (ws : List (Key × W)) (xs : List (Key × V)) (F : List Addr), RoK K mg I H ws xs F → ∀ a ∈ F, NX H a
  | [], xs, F, h => by simp only [RoK] at h; rw [h.2]; simp
  | (q, w) :: ws, xs, F, h => by
    simp only [RoK] at h
    obtain ⟨x, r, F1, F2, e1, e2, h1, h2⟩ := h
    subst e2
    intro b hb
    rcases List.mem_append.mp hb with hb | hb
    · exact Ro.nx w x F1 h1 b hb
    · exact RoK.nx ws r F2 h2 b hb
theorem RoF.nx : ∀ (ws : List (Str × W)) (xs : List (Str × V)) (F : List Addr), RoF K mg I H ws xs F → ∀ a ∈ F, NX H a
  | [], xs, F, h => by simp only [RoF] at h; rw [h.2]; simp
  | (q, w) :: ws, xs, F, h => by
    simp only [RoF] at h
    obtain ⟨x, r, F1, F2, e1, e2, h1, h2⟩ := h
    subst e2
    intro b hb
    rcases List.mem_append.mp hb with hb | hb
    · exact Ro.nx w x F1 h1 b hb
    · exact RoF.nx ws r F2 h2 b hb
end
end

/-! ### the state: frozen things in I, owned ones at the footprints -/
structure Rel (K : PySem.W.Frag) (mg : Str → Option Value) (I : Hp) (e : Env) (Fs : Fp) (σ : L2.St) (H : Hp) : Prop where
  sub : Ex I H
  len : e.length = σ.length
  at_ : ∀ i w, e[i]? = some (some w) → ∃ x, σ[i]? = some (some x) ∧ Ro K mg I H w x (Fs i)
  nd : ∀ i, (Fs i).Nodup
  dj : ∀ i j a, a ∈ Fs i → a ∈ Fs j → i = j
  out : ∀ i a, a ∈ Fs i → I a = none
  live : ∀ i a, a ∈ Fs i → H a ≠ none
  tb : TbR I H
/-- what a step may do: M may change, the frozen part grows by what is new or of M -/
structure Gx (M : Addr → Prop) (I H I' H' : Hp) : Prop where
  ex : Ex I I'
  fr : ∀ a o, H a = some o → ¬ M a → NT o → H' a = some o
  new : ∀ a, I' a ≠ none → I a ≠ none ∨ H a = none ∨ M a
  tb : TbR I H → TbR I' H'
  tl : ∀ a ps, H a = some (.tbl ps) → ¬ M a → ∃ ps', H' a = some (.tbl ps')
def MF (Fs : Fp) : Addr → Prop := fun a => ∃ i, a ∈ Fs i
structure Ext (Fs : Fp) (I H : Hp) (Fs' : Fp) (I' H' : Hp) : Prop where
  g : Gx (MF Fs) I H I' H'
  fp : ∀ a, MF Fs' a → MF Fs a ∨ H a = none
theorem Gx.refl {M : Addr → Prop} {I H : Hp} : Gx M I H I H := ⟨Ex.refl _, fun _ _ h _ _ => h, fun _ h => .inl h, id, fun _ ps h _ => ⟨ps, h⟩⟩
theorem nt_or (o : HO) : NT o ∨ ∃ ps, o = .tbl ps := by
  cases o with
  | tbl ps => exact .inr ⟨ps, rfl⟩
  | _ => exact .inl fun _ z => by cases z
theorem Gx.back {M : Addr → Prop} {I H I' H' : Hp} (g : Gx M I H I' H') {x : Addr} (m : ¬ M x) (hx : H' x = none) : H x = none := by
  cases e : H x with
  | none => rfl
  | some o =>
    rcases nt_or o with n | ⟨ps, rfl⟩
    · rw [g.fr x o e m n] at hx; cases hx
    · obtain ⟨ps', h⟩ := g.tl x ps e m
      rw [h] at hx; cases hx
theorem Gx.set {M : Addr → Prop} {I H I' H' : Hp} {p : Addr} {o : HO} (g : Gx M I H I' H') (hp : M p ∨ H p = none) (n : NX H' p) : Gx M I H I' (upd H' p o) := by
  have np : ∀ {a : Addr} {u : HO}, H a = some u → ¬ M a → a ≠ p := fun {a u} h m z => by
    subst z
    rcases hp with w | w
    · exact m w
    · rw [h] at w; cases w
  refine ⟨g.ex, fun a u h m nt => ?_, g.new, fun t => tbR_upd (g.tb t) n, fun a ps h m => ?_⟩
  · rw [upd_ne (np h m)]; exact g.fr a u h m nt
  · rw [upd_ne (np h m)]; exact g.tl a ps h m
theorem Ext.refl {Fs : Fp} {I H : Hp} : Ext Fs I H Fs I H := ⟨Gx.refl, fun _ h => .inl h⟩
theorem Ext.trans {F1 F2 F3 : Fp} {I1 H1 I2 H2 I3 H3 : Hp} (a : Ext F1 I1 H1 F2 I2 H2) (b : Ext F2 I2 H2 F3 I3 H3) : Ext F1 I1 H1 F3 I3 H3 := by
  have back : ∀ x, H2 x = none → H1 x = none ∨ MF F1 x := fun x hx => by
    by_cases m : MF F1 x
    · exact .inr m
    · exact .inl (a.g.back m hx)
  refine ⟨⟨a.g.ex.trans b.g.ex, fun x o h m n => b.g.fr x o (a.g.fr x o h m n) (fun m2 => ?_) n, fun x h => ?_, fun t => b.g.tb (a.g.tb t), fun x ps h m => ?_⟩, fun x m => ?_⟩
  · rcases a.fp x m2 with q | q
    · exact m q
    · rw [h] at q; cases q
  rotate_left
  · obtain ⟨ps1, h1⟩ := a.g.tl x ps h m
    refine b.g.tl x ps1 h1 fun m2 => ?_
    rcases a.fp x m2 with q | q
    · exact m q
    · rw [h] at q; cases q
  rotate_right
  · rcases b.g.new x h with q | q | q
    · exact a.g.new x q
    · rcases back x q with z | z
      · exact .inr (.inl z)
      · exact .inr (.inr z)
    · rcases a.fp x q with z | z
      · exact .inr (.inr z)
      · exact .inr (.inl z)
  · rcases b.fp x m with q | q
    · exact a.fp x q
    · rcases back x q with z | z
      · exact .inr z
      · exact .inl z
/-- a new frozen object -/
theorem Rel.laid {K : PySem.W.Frag} {mg : Str → Option Value} {I H : Hp} {e : Env} {Fs : Fp} {σ : L2.St} {p : Addr} {o : HO} (R : Rel K mg I e Fs σ H) (h : H p = none) :
    Rel K mg (upd I p o) e Fs σ (upd H p o) ∧ Ext Fs I H Fs (upd I p o) (upd H p o) := by
  have hI : I p = none := by
    cases q : I p with
    | none => rfl
    | some u => rw [R.sub p u q] at h; cases h
  have np : ∀ i a, a ∈ Fs i → a ≠ p := fun i a ha z => by subst z; exact R.live i a ha h
  refine ⟨⟨fun a u q => ?_, R.len, fun i w q => ?_, R.nd, R.dj, fun i a ha => ?_, fun i a ha => ?_, R.tb.new h⟩, ⟨⟨Ex.new hI, fun a u q _ _ => Ex.new h a u q, fun a q => ?_, fun t => t.new h, fun a ps q _ => ⟨ps, Ex.new h a _ q⟩⟩, fun a m => .inl m⟩⟩
  · by_cases z : a = p
    · subst z; rw [upd_same] at q ⊢; exact q
    · rw [upd_ne z] at q ⊢; exact R.sub a u q
  · obtain ⟨x, hx, hr⟩ := R.at_ i w q
    exact ⟨x, hx, hr.frame (Ex.new hI) w x (Fs i) fun a ha u hu _ => Ex.new h a u hu⟩
  · rw [upd_ne (np i a ha)]; exact R.out i a ha
  · rw [upd_ne (np i a ha)]; exact R.live i a ha
  · by_cases z : a = p
    · subst z; exact .inr (.inl h)
    · rw [upd_ne z] at q; exact .inl q

/-! ### expressions -/
abbrev M (α : Type) := Env → Option (α × Env)
def tE (K : PySem.W.Frag) (mg : Str → Option Value) (m : M D) : TE := fun σ H Q => ∃ I e Fs, Rel K mg I e Fs σ H ∧ ∃ d e', m e = some (d, e') ∧
  ∀ v I' Fs' H', Rel K mg I' e' Fs' σ H' → Ext Fs I H Fs' I' H' → Rp K mg I' d v → Q v H'
def SE (X : Cx) (a : Expr) (m : M D) : Prop := PE X a (tE X.K X.mg m)
theorem PE.imp {X : Cx} {a : Expr} {t t' : TE} (h : PE X a t) (i : ∀ σ H Q, t' σ H Q → t σ H Q) : PE X a t' := ⟨fun pins s σ H Q I hq => h.run pins s σ H Q I (i σ H Q hq)⟩

def mC (d : D) : M D := fun e => some (d, e)
def mVar (i : Nat) : M D := fun e => match e[i]? with
  | some (some (.p d)) => some (d, e)
  | _ => none
def mOp (f : D → D → Option D) (a b : M D) : M D := fun e => (a e).bind fun x => (b x.2).bind fun y => (f x.1 y.1).map fun z => (z, y.2)
def mUn (f : D → Option D) (a : M D) : M D := fun e => (a e).bind fun x => (f x.1).map fun z => (z, x.2)

/-- what a pure operation gives: a value of the frozen part, as it is or by one new object -/
inductive Gr : Hp → Hp → Hp → Hp → Prop where
  | same {I H : Hp} : Gr I H I H
  | new {I H : Hp} (p : Addr) (o : HO) (h : H p = none) : Gr I H (upd I p o) (upd H p o)
  | more {I H J G J' G' : Hp} : Gr I H J G → Gr J G J' G' → Gr I H J' G'
theorem Gr.rel {K : PySem.W.Frag} {mg : Str → Option Value} {e : Env} {Fs : Fp} {σ : L2.St} {I H J G : Hp} (g : Gr I H J G) : Rel K mg I e Fs σ H → Rel K mg J e Fs σ G ∧ Ext Fs I H Fs J G := by
  induction g with
  | same => exact fun R => ⟨R, Ext.refl⟩
  | new p o h => exact fun R => R.laid h
  | more g1 g2 i1 i2 =>
    intro R
    obtain ⟨R1, x1⟩ := i1 R
    obtain ⟨R2, x2⟩ := i2 R1
    exact ⟨R2, x1.trans x2⟩
theorem Gr.ex {I H J G : Hp} (g : Gr I H J G) : Ex I H → Ex I J ∧ Ex J G := by
  induction g with
  | same => exact fun h => ⟨Ex.refl _, h⟩
  | @new I H p o h =>
    intro s
    have hI : I p = none := by
      cases q : I p with
      | none => rfl
      | some u => rw [s p u q] at h; cases h
    refine ⟨Ex.new hI, fun a u q => ?_⟩
    by_cases z : a = p
    · subst z; rw [upd_same] at q ⊢; exact q
    · rw [upd_ne z] at q ⊢; exact s a u q
  | more g1 g2 i1 i2 =>
    intro s
    obtain ⟨a, b⟩ := i1 s
    obtain ⟨c, d⟩ := i2 b
    exact ⟨a.trans c, d⟩
/-- a two-place operation's data -/
def OpD (K : PySem.W.Frag) (mg : Str → Option Value) (r : R2) (f : D → D → Option D) : Prop :=
  ∀ (I H : Hp) (x y z : D) (v u : V) (Q : VK), Ex I H → Rp K mg I x v → Rp K mg I y u → f x y = some z → (∀ v' I' H', Gr I H I' H' → Rp K mg I' z v' → Q v' H') → r v u H Q
def UnD (K : PySem.W.Frag) (mg : Str → Option Value) (r : V → Hp → VK → Prop) (f : D → Option D) : Prop :=
  ∀ (I H : Hp) (x z : D) (v : V) (Q : VK), Ex I H → Rp K mg I x v → f x = some z → (∀ v' I' H', Gr I H I' H' → Rp K mg I' z v' → Q v' H') → r v H Q
section
variable {X : Cx} {a b c : Expr} {ma mb mc : M D} {pos : Pos}
theorem SE.val {t : TE} (h : PE X a t) {d : D} (hd : ∀ σ H Q, (∀ v, Rp X.K X.mg (fun _ => none) d v → Q v H) → t σ H Q) : SE X a (mC d) := by
  refine PE.imp h fun σ H Q ⟨I, e, Fs, R, d', e', hm, k⟩ => hd σ H Q fun v hv => ?_
  have q : d = d' ∧ e = e' := by simpa [mC] using hm
  obtain ⟨rfl, rfl⟩ := q
  exact k v I Fs H R Ext.refl (hv.mono (fun _ _ z => by cases z) _ _)
theorem se_int {i : Int} {j : Nat} : SE X (.Constant (.int i) j pos) (mC (.int i)) := SE.val pe_int fun σ H Q k => k (.int i) (by simp only [Rp])
theorem se_bl {i : Bool} {j : Nat} : SE X (.Constant (.bool i) j pos) (mC (.bool i)) := SE.val pe_bl fun σ H Q k => k (.bl i) (by simp only [Rp])
theorem se_non {j : Nat} : SE X (.Constant .none j pos) (mC .none) := SE.val pe_non fun σ H Q k => k .non (by simp only [Rp])
theorem se_str {x : Str} {j : Nat} : SE X (.Constant (.str x) j pos) (mC (.str x)) := SE.val pe_str fun σ H Q k => k (.str x) (by simp only [Rp])
theorem se_var {i : Nat} {x : Str} (h : PE X (.Name x pos) (tVar i)) : SE X (.Name x pos) (mVar i) := by
  refine PE.imp h fun σ H Q ⟨I, e, Fs, R, d', e', hm, k⟩ => ?_
  unfold mVar at hm
  split at hm
  · rename_i d hd
    cases hm
    obtain ⟨v, hv, hr⟩ := R.at_ i _ hd
    simp only [Ro] at hr
    exact ⟨v, hv, k v I Fs H R Ext.refl hr.1⟩
  · cases hm
theorem se_op {op : Operator} {r : R2} {f : D → D → Option D} (ho : OpR X (binaryOp op) r) (hf : OpD X.K X.mg r f) (ha : SE X a ma) (hb : SE X b mb) : SE X (.BinOp a op b pos) (mOp f ma mb) := by
  refine PE.imp (pe_op ho ha hb) fun σ H Q ⟨I, e, Fs, R, d', e', hm, k⟩ => ?_
  obtain ⟨⟨x, e1⟩, h1, hm⟩ := Option.bind_eq_some_iff.mp hm
  obtain ⟨⟨y, e2⟩, h2, hm⟩ := Option.bind_eq_some_iff.mp hm
  obtain ⟨z, h3, hm⟩ := Option.map_eq_some_iff.mp hm
  cases hm
  refine ⟨I, e, Fs, R, x, e1, h1, fun v I1 F1 H1 R1 x1 r1 => ⟨I1, e1, F1, R1, y, e2, h2, fun u I2 F2 H2 R2 x2 r2 => ?_⟩⟩
  refine hf I2 H2 x y _ v u Q R2.sub (r1.mono x2.g.ex _ _) r2 h3 fun v' I3 H3 g r3 => ?_
  obtain ⟨R3, x3⟩ := g.rel R2
  exact k v' I3 F2 H3 R3 ((x1.trans x2).trans x3) r3
theorem se_cmp {op : CmpOp} {r : R2} {f : D → D → Option D} (ho : OpR X (compareOp op) r) (hf : OpD X.K X.mg r f) (ha : SE X a ma) (hb : SE X b mb) (hm : behindInMarks op b = false) : SE X (.Compare a [op] [b] pos) (mOp f ma mb) := by
  refine PE.imp (pe_cmpR ho ha hb hm) fun σ H Q ⟨I, e, Fs, R, d', e', hm, k⟩ => ?_
  obtain ⟨⟨x, e1⟩, h1, hm⟩ := Option.bind_eq_some_iff.mp hm
  obtain ⟨⟨y, e2⟩, h2, hm⟩ := Option.bind_eq_some_iff.mp hm
  obtain ⟨z, h3, hm⟩ := Option.map_eq_some_iff.mp hm
  cases hm
  refine ⟨I, e, Fs, R, x, e1, h1, fun v I1 F1 H1 R1 x1 r1 => ⟨I1, e1, F1, R1, y, e2, h2, fun u I2 F2 H2 R2 x2 r2 => ?_⟩⟩
  refine hf I2 H2 x y _ v u Q R2.sub (r1.mono x2.g.ex _ _) r2 h3 fun v' I3 H3 g r3 => ?_
  obtain ⟨R3, x3⟩ := g.rel R2
  exact k v' I3 F2 H3 R3 ((x1.trans x2).trans x3) r3
end
end MV

namespace MV
open PySem L2
variable [TB]

/-! ### ownership goes from hand to hand -/
structure Own (K : PySem.W.Frag) (mg : Str → Option Value) (I H : Hp) (Fs : Fp) (w : W) (v : V) (F : List Addr) : Prop where
  ro : Ro K mg I H w v F
  nd : F.Nodup
  out : ∀ a, a ∈ F → I a = none
  dj : ∀ a, a ∈ F → ¬ MF Fs a
def putF (Fs : Fp) (i : Nat) (F : List Addr) : Fp := fun j => if j = i then F else Fs j
theorem putF_same {Fs : Fp} {i : Nat} {F : List Addr} : putF Fs i F i = F := by simp [putF]
theorem putF_ne {Fs : Fp} {i j : Nat} {F : List Addr} (h : j ≠ i) : putF Fs i F j = Fs j := by simp [putF, h]
theorem MF.put {Fs : Fp} {i : Nat} {F : List Addr} {a : Addr} (h : MF (putF Fs i F) a) : a ∈ F ∨ MF Fs a := by
  obtain ⟨j, hj⟩ := h
  by_cases z : j = i
  · subst z; rw [putF_same] at hj; exact .inl hj
  · rw [putF_ne z] at hj; exact .inr ⟨j, hj⟩
theorem MF.nil {Fs : Fp} {i : Nat} {a : Addr} (h : MF (putF Fs i []) a) : MF Fs a := by
  rcases h.put with z | z
  · cases z
  · exact z
section
variable {K : PySem.W.Frag} {mg : Str → Option Value} {I H I' H' : Hp} {e : Env} {Fs : Fp} {σ : L2.St}
theorem Own.pure {d : D} {v : V} (h : Rp K mg I d v) : Own K mg I H Fs (.p d) v [] := ⟨by unfold Ro; exact ⟨h, rfl⟩, List.nodup_nil, fun _ z => (by cases z), fun _ z => (by cases z)⟩
theorem Rel.put {w : W} {v : V} {F : List Addr} {i : Nat} (R : Rel K mg I e Fs σ H) (o : Own K mg I H Fs w v F) : Rel K mg I (e.set i (some w)) (putF Fs i F) (σ.set i (some v)) H := by
  refine ⟨R.sub, by simp [R.len], fun j u q => ?_, fun j => ?_, fun j k a h1 h2 => ?_, fun j a h => ?_, fun j a h => ?_, R.tb⟩
  · by_cases z : j = i
    · subst z
      rw [putF_same]
      have hl : j < e.length := by
        obtain ⟨h1, _⟩ := List.getElem?_eq_some_iff.mp q
        simpa using h1
      rw [List.getElem?_set_self hl] at q
      cases q
      exact ⟨v, by rw [List.getElem?_set_self (by rw [← R.len]; exact hl)], o.ro⟩
    · rw [putF_ne z, List.getElem?_set_ne (Ne.symm z)]
      rw [List.getElem?_set_ne (Ne.symm z)] at q
      exact R.at_ j u q
  · by_cases z : j = i
    · subst z; rw [putF_same]; exact o.nd
    · rw [putF_ne z]; exact R.nd j
  · by_cases z : j = i
    · subst z
      rw [putF_same] at h1
      by_cases y : k = j
      · exact y.symm
      · rw [putF_ne y] at h2; exact absurd ⟨k, h2⟩ (o.dj a h1)
    · rw [putF_ne z] at h1
      by_cases y : k = i
      · subst y; rw [putF_same] at h2; exact absurd ⟨j, h1⟩ (o.dj a h2)
      · rw [putF_ne y] at h2; exact R.dj j k a h1 h2
  · by_cases z : j = i
    · subst z; rw [putF_same] at h; exact o.out a h
    · rw [putF_ne z] at h; exact R.out j a h
  · by_cases z : j = i
    · subst z; rw [putF_same] at h
      obtain ⟨u, hu⟩ := o.ro.live _ _ _ a h
      rw [hu]; exact fun q => by cases q
    · rw [putF_ne z] at h; exact R.live j a h
/-- a slot is given up -/
theorem Rel.drop {i : Nat} (R : Rel K mg I e Fs σ H) : Rel K mg I (e.set i none) (putF Fs i []) σ H := by
  refine ⟨R.sub, by simp [R.len], fun j u q => ?_, fun j => ?_, fun j k a h1 h2 => ?_, fun j a h => ?_, fun j a h => ?_, R.tb⟩
  · by_cases z : j = i
    · subst z
      have hl : j < e.length := by
        obtain ⟨h1, _⟩ := List.getElem?_eq_some_iff.mp q
        simpa using h1
      rw [List.getElem?_set_self hl] at q
      cases q
    · rw [putF_ne z]
      rw [List.getElem?_set_ne (Ne.symm z)] at q
      exact R.at_ j u q
  · by_cases z : j = i
    · subst z; rw [putF_same]; exact List.nodup_nil
    · rw [putF_ne z]; exact R.nd j
  · by_cases z : j = i
    · subst z; rw [putF_same] at h1; cases h1
    · rw [putF_ne z] at h1
      by_cases y : k = i
      · subst y; rw [putF_same] at h2; cases h2
      · rw [putF_ne y] at h2; exact R.dj j k a h1 h2
  · exact let ⟨k, hk⟩ := MF.nil ⟨j, h⟩; R.out k a hk
  · exact let ⟨k, hk⟩ := MF.nil ⟨j, h⟩; R.live k a hk
theorem Rel.own {i : Nat} {w : W} (R : Rel K mg I e Fs σ H) (h : e[i]? = some (some w)) : ∃ v, σ[i]? = some (some v) ∧ Own K mg I H (putF Fs i []) w v (Fs i) := by
  obtain ⟨v, h1, h2⟩ := R.at_ i w h
  refine ⟨v, h1, h2, R.nd i, R.out i, fun a ha ⟨j, hj⟩ => ?_⟩
  by_cases z : j = i
  · subst z; rw [putF_same] at hj; cases hj
  · rw [putF_ne z] at hj; exact z (R.dj j i a hj ha)
theorem Ext.drop {i : Nat} {F1 : Fp} {I1 H1 : Hp} (x : Ext F1 I1 H1 Fs I H) : Ext F1 I1 H1 (putF Fs i []) I H := ⟨x.g, fun a h => x.fp a h.nil⟩
theorem Ext.put {i : Nat} {F : List Addr} {F1 : Fp} {I1 H1 : Hp} (x : Ext F1 I1 H1 Fs I H) (h : ∀ a ∈ F, MF F1 a ∨ H1 a = none) : Ext F1 I1 H1 (putF Fs i F) I H := ⟨x.g, fun a m => by
  rcases m.put with z | z
  · exact h a z
  · exact x.fp a z⟩
theorem Rel.nx {i : Nat} {w : W} {a : Addr} (R : Rel K mg I e Fs σ H) (h : e[i]? = some (some w)) (ha : a ∈ Fs i) : NX H a := by
  obtain ⟨v, _, h2⟩ := R.at_ i w h
  exact h2.nx _ _ _ a ha
/-- another's step leaves this state as it is -/
theorem Rel.frame (R : Rel K mg I e Fs σ H) {M : Addr → Prop} (x : Gx M I H I' H') (hs : Ex I' H') (hM : ∀ a, MF Fs a → ¬ M a) : Rel K mg I' e Fs σ H' := by
  refine ⟨hs, R.len, fun i w q => ?_, R.nd, R.dj, fun i a h => ?_, fun i a h z => ?_, x.tb R.tb⟩
  · obtain ⟨v, h1, h2⟩ := R.at_ i w q
    exact ⟨v, h1, h2.frame x.ex w v (Fs i) fun a ha o ho nt => x.fr a o ho (hM a ⟨i, ha⟩) nt⟩
  · cases q : I' a with
    | none => rfl
    | some o =>
      rcases x.new a (by rw [q]; exact fun z => by cases z) with z | z | z
      · exact absurd (R.out i a h) z
      · exact absurd z (R.live i a h)
      · exact absurd z (hM a ⟨i, h⟩)
  · exact R.live i a h (x.back (hM a ⟨i, h⟩) z)
theorem Own.frame {F2 : Fp} {w : W} {v : V} {F : List Addr} (o : Own K mg I H Fs w v F) {M : Addr → Prop} (x : Gx M I H I' H') (hM : ∀ a, a ∈ F → ¬ M a) (h2 : ∀ a, a ∈ F → ¬ MF F2 a) : Own K mg I' H' F2 w v F := by
  refine ⟨o.ro.frame x.ex w v F fun a ha u hu nt => x.fr a u hu (hM a ha) nt, o.nd, fun a ha => ?_, h2⟩
  obtain ⟨u, hu⟩ := o.ro.live _ _ _ a ha
  cases q : I' a with
  | none => rfl
  | some o' =>
    rcases x.new a (by rw [q]; exact fun z => by cases z) with z | z | z
    · exact absurd (o.out a ha) z
    · rw [hu] at z; cases z
    · exact absurd z (hM a ha)
end

/-! ### owned results, what is raised -/
/-- an exception: the datum of its class and its fields -/
def XR (K : PySem.W.Frag) (mg : Str → Option Value) (I : Hp) : D → Value → Option Addr → Prop
  | .inst c gs, cls, d => ∃ C dx fs, cls = .ref C ∧ mg c = some (.ref C) ∧ d = some dx ∧ I dx = some (.xd fs) ∧ RpF K mg I gs fs
  | _, _, _ => False
/-- nothing is let out -/
abbrev W0 : WX := fun _ _ _ _ => False
def tO (K : PySem.W.Frag) (mg : Str → Option Value) (Wx : WX) (m : M W) : TE := fun σ H Q => ∃ I e Fs, Rel K mg I e Fs σ H ∧ ∃ w e', m e = some (w, e') ∧
  (∀ v I' Fs' H' F, Rel K mg I' e' Fs' σ H' → Ext Fs I H Fs' I' H' → Own K mg I' H' Fs' w v F → (∀ a ∈ F, MF Fs a ∨ H a = none) → Q v H') ∧
  ∀ x, w = .ex x → ∀ cls d I' Fs' H', Rel K mg I' e' Fs' σ H' → Ext Fs I H Fs' I' H' → XR K mg I' x cls d → Wx cls d σ H'
def SO (X : Cx) (Wx : WX) (a : Expr) (m : M W) : Prop := PE X a (tO X.K X.mg Wx m)
def mP (m : M D) : M W := fun e => (m e).map fun x => (.p x.1, x.2)
theorem so_p {X : Cx} {Wx : WX} {a : Expr} {m : M D} (h : SE X a m) : SO X Wx a (mP m) := by
  refine PE.imp h fun σ H Q ⟨I, e, Fs, R, w, e', hm, k, _⟩ => ?_
  obtain ⟨⟨d, e1⟩, h1, hm⟩ := Option.map_eq_some_iff.mp hm
  cases hm
  exact ⟨I, e, Fs, R, d, e1, h1, fun v I' Fs' H' R' x r => k v I' Fs' H' [] R' x (.pure r) fun _ z => by cases z⟩
def mGetP (m : M W) : M D := fun e => (m e).bind fun x => match x.1 with
  | .p d => some (d, x.2)
  | _ => none
theorem se_o {X : Cx} {Wx : WX} {a : Expr} {m : M W} (h : SO X Wx a m) : SE X a (mGetP m) := by
  refine PE.imp h fun σ H Q ⟨I, e, Fs, R, d, e', hm, k⟩ => ?_
  obtain ⟨⟨w, e1⟩, h1, hm⟩ := Option.bind_eq_some_iff.mp hm
  cases w with
  | p d' =>
    cases hm
    refine ⟨I, e, Fs, R, .p d, e1, h1, fun v I' Fs' H' F R' x o _ => k v I' Fs' H' R' x ?_, fun x z => by cases z⟩
    have q := o.ro
    simp only [Ro] at q
    exact q.1
  | _ => cases hm
def mMove (i : Nat) : M W := fun e => match e[i]? with
  | some (some w) => some (w, e.set i none)
  | _ => none
theorem so_move {X : Cx} {Wx : WX} {i : Nat} {x : Str} {pos : Pos} (h : PE X (.Name x pos) (tVar i)) : SO X Wx (.Name x pos) (mMove i) := by
  refine PE.imp h fun σ H Q ⟨I, e, Fs, R, w, e', hm, k, _⟩ => ?_
  unfold mMove at hm
  split at hm
  · rename_i u hu
    cases hm
    obtain ⟨v, h1, o⟩ := R.own hu
    exact ⟨v, h1, k v I _ H (Fs i) R.drop Ext.refl.drop o fun a ha => .inl ⟨i, ha⟩⟩
  · cases hm

/-! ### argument lists -/
inductive Arg where
  | d (d : D) | io (i : Nat)
section
variable (K : PySem.W.Frag) (mg : Str → Option Value) (I : Hp) (σ : L2.St)
def ArgR : List Arg → List V → Prop
  | [], vs => vs = []
  | .d d :: r, vs => ∃ v t, vs = v :: t ∧ Rp K mg I d v ∧ ArgR r t
  | .io i :: r, vs => ∃ v t, vs = v :: t ∧ σ[i]? = some (some v) ∧ ArgR r t
end
theorem ArgR.mono {K : PySem.W.Frag} {mg : Str → Option Value} {I J : Hp} {σ : L2.St} (x : Ex I J) : ∀ {as : List Arg} {vs : List V}, ArgR K mg I σ as vs → ArgR K mg J σ as vs
  | [], vs, h => h
  | .d d :: r, vs, h => by
    obtain ⟨v, t, e, h1, h2⟩ := h
    exact ⟨v, t, e, h1.mono x _ _, ArgR.mono x h2⟩
  | .io i :: r, vs, h => by
    obtain ⟨v, t, e, h1, h2⟩ := h
    exact ⟨v, t, e, h1, ArgR.mono x h2⟩
def tAr (K : PySem.W.Frag) (mg : Str → Option Value) (m : M (List Arg)) : TA := fun σ H Q => ∃ I e Fs, Rel K mg I e Fs σ H ∧ ∃ as e', m e = some (as, e') ∧
  ∀ vs I' Fs' H', Rel K mg I' e' Fs' σ H' → Ext Fs I H Fs' I' H' → ArgR K mg I' σ as vs → Q vs H'
def SA (X : Cx) (es : List Expr) (m : M (List Arg)) : Prop := PA X es (tAr X.K X.mg m)
theorem PA.imp {X : Cx} {a : List Expr} {t t' : TA} (h : PA X a t) (i : ∀ σ H Q, t' σ H Q → t σ H Q) : PA X a t' := ⟨fun pos pins s σ H Q I hq => h.run pos pins s σ H Q I (i σ H Q hq)⟩
def aNil : M (List Arg) := fun e => some ([], e)
def aD (m : M D) (r : M (List Arg)) : M (List Arg) := fun e => (m e).bind fun x => (r x.2).map fun y => (.d x.1 :: y.1, y.2)
def aIO (i : Nat) (r : M (List Arg)) : M (List Arg) := fun e => match e[i]? with
  | some (some _) => (r e).map fun y => (.io i :: y.1, y.2)
  | _ => none
section
variable {X : Cx} {a : Expr} {es : List Expr} {pos : Pos}
theorem sa_nil : SA X [] aNil := PA.imp pa_nil fun σ H Q ⟨I, e, Fs, R, as, e', hm, k⟩ => by
  cases hm
  exact k [] I Fs H R Ext.refl rfl
theorem sa_d {m : M D} {r : M (List Arg)} (h : SE X a m) (hr : SA X es r) (hs : starEach (a :: es) X.env = (false, eval a X.env) :: starEach es X.env := by rfl) : SA X (a :: es) (aD m r) := by
  refine PA.imp (pa_cons h hr hs) fun σ H Q ⟨I, e, Fs, R, as, e', hm, k⟩ => ?_
  obtain ⟨⟨x, e1⟩, h1, hm⟩ := Option.bind_eq_some_iff.mp hm
  obtain ⟨⟨y, e2⟩, h2, hm⟩ := Option.map_eq_some_iff.mp hm
  cases hm
  refine ⟨I, e, Fs, R, x, e1, h1, fun v I1 F1 H1 R1 x1 r1 => ⟨I1, e1, F1, R1, y, e2, h2, fun vs I2 F2 H2 R2 x2 r2 => ?_⟩⟩
  exact k (v :: vs) I2 F2 H2 R2 (x1.trans x2) ⟨v, vs, rfl, r1.mono x2.g.ex _ _, r2⟩
theorem sa_io {i : Nat} {x : Str} {r : M (List Arg)} (h : PE X (.Name x pos) (tVar i)) (hr : SA X es r) (hs : starEach (.Name x pos :: es) X.env = (false, eval (.Name x pos) X.env) :: starEach es X.env := by rfl) : SA X (.Name x pos :: es) (aIO i r) := by
  refine PA.imp (pa_cons h hr hs) fun σ H Q ⟨I, e, Fs, R, as, e', hm, k⟩ => ?_
  unfold aIO at hm
  split at hm
  · rename_i w hw
    obtain ⟨⟨y, e2⟩, h2, hm⟩ := Option.map_eq_some_iff.mp hm
    cases hm
    obtain ⟨v, h1, _⟩ := R.at_ i w hw
    refine ⟨v, h1, I, e, Fs, R, y, e2, h2, fun vs I2 F2 H2 R2 x2 r2 => ?_⟩
    exact k (v :: vs) I2 F2 H2 R2 x2 ⟨v, vs, rfl, h1, r2⟩
  · cases hm
end

/-! ### a def's meaning, its promise -/
abbrev FSem := List W → Option (W × Env)
/-- f: the arguments to the result and what the parameters that are handed back hold then -/
def spF (K : PySem.W.Frag) (mg : Str → Option Value) (n : Nat) (f : FSem) : Sp := fun vs H Q E => ∃ I ws Fa, ws.length = n ∧ Rel K mg I (ws.map some) Fa (vs.map some) H ∧ ∃ w oe, f ws = some (w, oe) ∧
  (∀ v I' Fo H' F, Rel K mg I' oe Fo (vs.map some) H' → Ext Fa I H Fo I' H' → Own K mg I' H' Fo w v F → (∀ a ∈ F, MF Fa a ∨ H a = none) → Q v H') ∧
  ∀ x, w = .ex x → ∀ cls d I' Fo H', Rel K mg I' oe Fo (vs.map some) H' → Ext Fa I H Fo I' H' → XR K mg I' x cls d → E cls d H'
theorem spF_len {K : PySem.W.Frag} {mg : Str → Option Value} {n : Nat} {f : FSem} {vs : List V} {H : Hp} {Q : VK} {E : XK} (h : spF K mg n f vs H Q E) : vs.length = n := by
  obtain ⟨I, ws, Fa, hl, R, _⟩ := h
  have := R.len
  simp at this
  omega
def gather : List Arg → Env → Option (List W × Env)
  | [], e => some ([], e)
  | .d d :: r, e => (gather r e).map fun x => (.p d :: x.1, x.2)
  | .io i :: r, e => match e[i]? with
    | some (some w) => (gather r (e.set i none)).map fun x => (w :: x.1, x.2)
    | _ => none
def scatter : List Arg → Env → Env → Env
  | [], _, e => e
  | .d _ :: r, oe, e => scatter r oe.tail e
  | .io i :: r, oe, e => scatter r oe.tail (match oe.head? with
    | some (some w) => e.set i (some w)
    | _ => e)
def consF (F : List Addr) (Fa : Fp) : Fp := fun j => match j with
  | 0 => F
  | k + 1 => Fa k
section
variable {K : PySem.W.Frag} {mg : Str → Option Value} {I H : Hp} {σ : L2.St}
theorem Rel.cons {w : W} {v : V} {F : List Addr} {e : Env} {Fa : Fp} {τ : L2.St} (R : Rel K mg I e Fa τ H) (o : Own K mg I H Fa w v F) : Rel K mg I (some w :: e) (consF F Fa) (some v :: τ) H := by
  refine ⟨R.sub, by simp [R.len], fun i u q => ?_, fun i => ?_, fun i j a h1 h2 => ?_, fun i a h => ?_, fun i a h => ?_, R.tb⟩
  · cases i with
    | zero => simp at q; subst q; exact ⟨v, rfl, o.ro⟩
    | succ i => exact R.at_ i u (by simpa using q)
  · cases i with
    | zero => exact o.nd
    | succ i => exact R.nd i
  · cases i with
    | zero =>
      cases j with
      | zero => rfl
      | succ j => exact absurd ⟨j, h2⟩ (o.dj a h1)
    | succ i =>
      cases j with
      | zero => exact absurd ⟨i, h1⟩ (o.dj a h2)
      | succ j => rw [R.dj i j a h1 h2]
  · cases i with
    | zero => exact o.out a h
    | succ i => exact R.out i a h
  · cases i with
    | zero =>
      obtain ⟨u, hu⟩ := o.ro.live _ _ _ a h
      rw [hu]; exact fun q => by cases q
    | succ i => exact R.live i a h
theorem Rel.nil (s : Ex I H) (t : TbR I H) : Rel K mg I [] (fun _ => []) [] H := ⟨s, rfl, fun i w q => by simp at q, fun _ => List.nodup_nil, fun _ _ _ h => (by cases h), fun _ _ h => (by cases h), fun _ _ h => (by cases h), t⟩
theorem MF.cons {F : List Addr} {Fa : Fp} {a : Addr} (h : MF (consF F Fa) a) : a ∈ F ∨ MF Fa a := by
  obtain ⟨j, hj⟩ := h
  cases j with
  | zero => exact .inl hj
  | succ j => exact .inr ⟨j, hj⟩
theorem gather_ok : ∀ {as : List Arg} {e e2 : Env} {Fs : Fp} {vs : List V} {ws : List W}, Rel K mg I e Fs σ H → ArgR K mg I σ as vs → gather as e = some (ws, e2) →
    ∃ Fa F2, Rel K mg I (ws.map some) Fa (vs.map some) H ∧ Rel K mg I e2 F2 σ H ∧ (∀ a, MF Fa a → MF Fs a) ∧ (∀ a, MF F2 a → MF Fs a) ∧ (∀ a, MF Fa a → ¬ MF F2 a)
  | [], e, e2, Fs, vs, ws, R, h, g => by
    cases g
    simp only [ArgR] at h
    subst h
    exact ⟨fun _ => [], Fs, Rel.nil R.sub R.tb, R, fun a ⟨_, z⟩ => (by cases z), fun _ z => z, fun a ⟨_, z⟩ => (by cases z)⟩
  | .d d :: r, e, e2, Fs, vs, ws, R, h, g => by
    obtain ⟨v, t, rfl, h1, h2⟩ := h
    obtain ⟨⟨ws', e'⟩, g1, g2⟩ := Option.map_eq_some_iff.mp (show (gather r e).map (fun x => (W.p d :: x.1, x.2)) = some (ws, e2) from g)
    cases g2
    obtain ⟨Fa, F2, Ra, R2, i1, i2, i3⟩ := gather_ok R h2 g1
    refine ⟨consF [] Fa, F2, Ra.cons (.pure h1), R2, fun a m => ?_, i2, fun a m => ?_⟩
    · rcases m.cons with z | z
      · cases z
      · exact i1 a z
    · rcases m.cons with z | z
      · cases z
      · exact i3 a z
  | .io i :: r, e, e2, Fs, vs, ws, R, h, g => by
    obtain ⟨v, t, rfl, h1, h2⟩ := h
    have g' : (match e[i]? with
      | some (some w) => (gather r (e.set i none)).map fun x => (w :: x.1, x.2)
      | _ => none) = some (ws, e2) := g
    split at g'
    · rename_i w hw
      obtain ⟨⟨ws', e'⟩, g1, g2⟩ := Option.map_eq_some_iff.mp g'
      cases g2
      obtain ⟨v', hv, o⟩ := R.own hw
      rw [h1] at hv; cases hv
      obtain ⟨Fa, F2, Ra, R2, i1, i2, i3⟩ := gather_ok R.drop h2 g1
      have oa : Own K mg I H Fa w v (Fs i) := ⟨o.ro, o.nd, o.out, fun a ha m => o.dj a ha (i1 a m)⟩
      refine ⟨consF (Fs i) Fa, F2, Ra.cons oa, R2, fun a m => ?_, fun a m => (i2 a m).nil, fun a m => ?_⟩
      · rcases m.cons with z | z
        · exact ⟨i, z⟩
        · exact (i1 a z).nil
      · rcases m.cons with z | z
        · exact fun q => o.dj a z (i2 a q)
        · exact i3 a z
    · cases g'
theorem Rel.tail {o : Option W} {v : Option V} {e : Env} {Fa : Fp} {τ : L2.St} (R : Rel K mg I (o :: e) Fa (v :: τ) H) : Rel K mg I e (fun j => Fa (j + 1)) τ H :=
  ⟨R.sub, by simpa using R.len, fun i w q => by simpa using R.at_ (i + 1) w (by simpa using q), fun i => R.nd (i + 1), fun i j a h1 h2 => by have := R.dj _ _ a h1 h2; omega, fun i a h => R.out (i + 1) a h, fun i a h => R.live (i + 1) a h, R.tb⟩
theorem scatter_ok : ∀ {as : List Arg} {e oe : Env} {Fs Fo : Fp} {vs : List V}, Rel K mg I e Fs σ H → ArgR K mg I σ as vs → Rel K mg I oe Fo (vs.map some) H → (∀ a, MF Fo a → ¬ MF Fs a) →
    ∃ F', Rel K mg I (scatter as oe e) F' σ H ∧ (∀ a, MF F' a → MF Fo a ∨ MF Fs a)
  | [], e, oe, Fs, Fo, vs, R, h, Ro, dj => ⟨Fs, R, fun a m => .inr m⟩
  | .d d :: r, e, oe, Fs, Fo, vs, R, h, Ro, dj => by
    obtain ⟨v, t, rfl, h1, h2⟩ := h
    cases oe with
    | nil => have := Ro.len; simp at this
    | cons o oe =>
      obtain ⟨F', R', m⟩ := scatter_ok R h2 Ro.tail fun a ⟨j, hj⟩ => dj a ⟨j + 1, hj⟩
      refine ⟨F', R', fun a ha => ?_⟩
      rcases m a ha with ⟨j, hj⟩ | z
      · exact .inl ⟨j + 1, hj⟩
      · exact .inr z
  | .io i :: r, e, oe, Fs, Fo, vs, R, h, Ro, dj => by
    obtain ⟨v, t, rfl, h1, h2⟩ := h
    cases oe with
    | nil => have := Ro.len; simp at this
    | cons o oe =>
      cases o with
      | none =>
        obtain ⟨F', R', m⟩ := scatter_ok R h2 Ro.tail fun a ⟨j, hj⟩ => dj a ⟨j + 1, hj⟩
        refine ⟨F', R', fun a ha => ?_⟩
        rcases m a ha with ⟨j, hj⟩ | z
        · exact .inl ⟨j + 1, hj⟩
        · exact .inr z
      | some w =>
        obtain ⟨v', hv, ro⟩ := Ro.at_ 0 w rfl
        have ev : v = v' := by simpa using hv
        subst ev
        have ow : Own K mg I H Fs w v (Fo 0) := ⟨ro, Ro.nd 0, Ro.out 0, fun a ha => dj a ⟨0, ha⟩⟩
        have R1 := R.put (i := i) ow
        have es : σ.set i (some v) = σ := by
          obtain ⟨hl, e⟩ := List.getElem?_eq_some_iff.mp h1
          exact List.ext_getElem? fun j => by
            by_cases z : i = j
            · subst z; rw [List.getElem?_set_self hl, h1]
            · rw [List.getElem?_set_ne z]
        rw [es] at R1
        obtain ⟨F', R', m⟩ := scatter_ok R1 h2 Ro.tail fun a ⟨j, hj⟩ q => by
          rcases q.put with z | z
          · have := Ro.dj _ _ a hj z; omega
          · exact dj a ⟨j + 1, hj⟩ z
        refine ⟨F', R', fun a ha => ?_⟩
        rcases m a ha with ⟨j, hj⟩ | z
        · exact .inl ⟨j + 1, hj⟩
        · rcases z.put with q | q
          · exact .inl ⟨0, q⟩
          · exact .inr q
end
def mCall (f : FSem) (ma : M (List Arg)) : M W := fun e => (ma e).bind fun x => (gather x.1 x.2).bind fun y => (f y.1).map fun z => (z.1, scatter x.1 z.2 y.2)
/-- how an argument list's meaning meets a promise -/
theorem call_step {K : PySem.W.Frag} {mg : Str → Option Value} {n : Nat} {f : FSem} {ma : M (List Arg)} {σ : L2.St} {H : Hp} {Q : VK} {Wx : WX} (hn : ∀ as e e', ma e = some (as, e') → as.length = n) (h : tO K mg Wx (mCall f ma) σ H Q) : tAr K mg ma σ H fun vs H1 => spF K mg n f vs H1 Q (fun cls d H' => Wx cls d σ H') := by
  obtain ⟨I, e, Fs, R, w, e', hm, k, kx⟩ := h
  obtain ⟨⟨as, e1⟩, h1, hm⟩ := Option.bind_eq_some_iff.mp hm
  obtain ⟨⟨ws, e2⟩, h2, hm⟩ := Option.bind_eq_some_iff.mp hm
  obtain ⟨⟨w', oe⟩, h3, hm⟩ := Option.map_eq_some_iff.mp hm
  cases hm
  refine ⟨I, e, Fs, R, as, e1, h1, fun vs I1 F1 H1 R1 x1 ha => ?_⟩
  obtain ⟨Fa, F2, Ra, R2, i1, i2, i3⟩ := gather_ok R1 ha h2
  have hl : ws.length = n := by
    rw [← hn as e e1 h1]
    have : ∀ {as : List Arg} {e e2 : Env} {ws : List W}, gather as e = some (ws, e2) → ws.length = as.length := by
      intro as
      induction as with
      | nil => intro e e2 ws g; cases g; rfl
      | cons a r ih =>
        intro e e2 ws g
        cases a with
        | d d =>
          obtain ⟨⟨ws', e'⟩, g1, g2⟩ := Option.map_eq_some_iff.mp (show (gather r e).map (fun x => (W.p d :: x.1, x.2)) = some (ws, e2) from g)
          cases g2
          rw [List.length_cons, List.length_cons, ih g1]
        | io i =>
          have g' : (match e[i]? with
            | some (some w) => (gather r (e.set i none)).map fun x => (w :: x.1, x.2)
            | _ => none) = some (ws, e2) := g
          split at g'
          · obtain ⟨⟨ws', e'⟩, g1, g2⟩ := Option.map_eq_some_iff.mp g'
            cases g2
            rw [List.length_cons, List.length_cons, ih g1]
          · cases g'
    exact this h2
  have dead : ∀ a, MF F2 a → ¬ MF Fa a := fun a m q => i3 a q m
  have fin : ∀ I' Fo H', Rel K mg I' oe Fo (vs.map some) H' → Ext Fa I1 H1 Fo I' H' → ∃ F', Rel K mg I' (scatter as oe e2) F' σ H' ∧ (∀ a, MF F' a → MF Fo a ∨ MF F2 a) ∧ Ext F1 I1 H1 F' I' H' := fun I' Fo H' Ro x => by
    have R2' := R2.frame x.g Ro.sub dead
    have djo : ∀ a, MF Fo a → ¬ MF F2 a := fun a m q => by
      rcases x.fp a m with z | z
      · exact i3 a z q
      · obtain ⟨j, hj⟩ := q
        exact R2.live j a hj z
    obtain ⟨F', R', m'⟩ := scatter_ok R2' (ha.mono x.g.ex) Ro djo
    refine ⟨F', R', m', ⟨⟨x.g.ex, fun a u hu m nt => x.g.fr a u hu (fun q => m (i1 a q)) nt, fun a q => ?_, x.g.tb, fun a ps hu m => x.g.tl a ps hu fun q => m (i1 a q)⟩, fun a q => ?_⟩⟩
    · rcases x.g.new a q with z | z | z
      · exact .inl z
      · exact .inr (.inl z)
      · exact .inr (.inr (i1 a z))
    · rcases m' a q with z | z
      · rcases x.fp a z with y | y
        · exact .inl (i1 a y)
        · exact .inr y
      · exact .inl (i2 a z)
  refine ⟨I1, ws, Fa, hl, Ra, w', oe, h3, fun v I' Fo H' F Ro x o hF => ?_, fun y hy cls d I' Fo H' Ro x xr => ?_⟩
  · obtain ⟨F', R', m', xx⟩ := fin I' Fo H' Ro x
    refine k v I' F' H' F R' (x1.trans xx) ⟨o.ro, o.nd, o.out, fun a ha q => ?_⟩ fun a ha => ?_
    · rcases m' a q with z | z
      · exact o.dj a ha z
      · rcases hF a ha with y | y
        · exact i3 a y z
        · obtain ⟨j, hj⟩ := z
          exact R2.live j a hj y
    · rcases hF a ha with y | y
      · rcases x1.fp a (i1 a y) with z | z
        · exact .inl z
        · exact .inr z
      · cases q : H a with
        | none => exact .inr rfl
        | some u =>
          by_cases m : MF Fs a
          · exact .inl m
          · rw [x1.g.back m y] at q; cases q
  · obtain ⟨F', R', m', xx⟩ := fin I' Fo H' Ro x
    exact kx y hy cls d I' F' H' R' (x1.trans xx) xr
end MV

namespace MV
open PySem L2
variable [TB]

/-! ### tests -/
def tT (K : PySem.W.Frag) (mg : Str → Option Value) (m : M Bool) : TT := fun σ H Q => ∃ I e Fs, Rel K mg I e Fs σ H ∧ ∃ b e', m e = some (b, e') ∧
  ∀ I' Fs' H', Rel K mg I' e' Fs' σ H' → Ext Fs I H Fs' I' H' → Q b H'
def ST (X : Cx) (a : Expr) (m : M Bool) : Prop := PT X a (tT X.K X.mg m)
theorem PT.imp {X : Cx} {a : Expr} {t t' : TT} (h : PT X a t) (i : ∀ σ H Q, t' σ H Q → t σ H Q) : PT X a t' := ⟨fun pins s σ H Q I hq => h.run pins s σ H Q I (i σ H Q hq)⟩
theorem PW.imp {X : Cx} {a : Expr} {t t' : TT} (h : PW X a t) (i : ∀ σ H Q, t' σ H Q → t σ H Q) : PW X a t' := ⟨fun wh pins s σ H Q I hq => h.run wh pins s σ H Q I (i σ H Q hq)⟩
def SW (X : Cx) (a : Expr) (m : M Bool) : Prop := PW X a (tT X.K X.mg m)
/-- a value's truth -/
def dTru : D → Option Bool
  | .none => some false
  | .bool b => some b
  | .int i => some (i != 0)
  | .str x => if x.length ≤ 1000000 then some ((x.length : Int) != 0) else none
  | .lst ds => some (!ds.isEmpty)
  | .fl ds => some (!ds.isEmpty)
  | .tup ds => some (!ds.isEmpty)
  | _ => none
def mTru (m : M D) : M Bool := fun e => (m e).bind fun x => (dTru x.1).map fun b => (b, x.2)
/-- a value that is a bool -/
def mBool (m : M D) : M Bool := fun e => (m e).bind fun x => match x.1 with
  | .bool b => some (b, x.2)
  | _ => none
def mAnd (a b : M Bool) : M Bool := fun e => (a e).bind fun x => if x.1 = true then b x.2 else some (false, x.2)
def mOr (a b : M Bool) : M Bool := fun e => (a e).bind fun x => if x.1 = true then some (true, x.2) else b x.2
def mNot (a : M Bool) : M Bool := fun e => (a e).map fun x => (!x.1, x.2)
def mB (m : M Bool) : M D := fun e => (m e).map fun x => (.bool x.1, x.2)
def mIf {α : Type} (c : M Bool) (a b : M α) : M α := fun e => (c e).bind fun x => if x.1 = true then a x.2 else b x.2
theorem RpL.isEmpty {K : PySem.W.Frag} {mg : Str → Option Value} {I : Hp} {ds : List D} {xs : List V} (h : RpL K mg I ds xs) : xs.isEmpty = ds.isEmpty := by
  have := h.length
  cases ds <;> cases xs <;> simp_all
theorem RpK.isEmpty {K : PySem.W.Frag} {mg : Str → Option Value} {I : Hp} {ds : List (Key × D)} {xs : List (Key × V)} (h : RpK K mg I ds xs) : xs.isEmpty = ds.isEmpty := by
  cases ds with
  | nil => simp only [RpK] at h; subst h; rfl
  | cons d r =>
    obtain ⟨k, d⟩ := d
    simp only [RpK] at h
    obtain ⟨x, t, rfl, _⟩ := h
    rfl
theorem tru_of {K : PySem.W.Frag} {mg : Str → Option Value} {I H : Hp} {d : D} {v : V} {b : Bool} (s : Ex I H) (h : Rp K mg I d v) (e : dTru d = some b) : TruV K v H b := by
  have hs : sizeLine = 16777216 := sizeLine_eq
  cases d with
  | none => simp only [Rp] at h; subst h; cases e; exact rfl
  | bool c => simp only [Rp] at h; subst h; cases e; exact rfl
  | int i => simp only [Rp] at h; subst h; cases e; exact rfl
  | str x =>
    simp only [Rp] at h; subst h
    simp only [dTru] at e
    split at e
    · cases e; exact ⟨by omega, rfl⟩
    · cases e
  | lst ds =>
    simp only [Rp] at h; obtain ⟨a, xs, rfl, h1, h2⟩ := h
    cases e
    exact .inl ⟨xs, .of (s _ _ h1), by rw [h2.isEmpty]⟩
  | fl ds =>
    simp only [Rp] at h; obtain ⟨a, xs, rfl, h1, h2⟩ := h
    cases e
    exact .inl ⟨xs, ex_l s h1, by rw [h2.isEmpty]⟩
  | tup ds =>
    simp only [Rp] at h; obtain ⟨a, xs, rfl, h1, h2⟩ := h
    cases e
    exact .inr (.inl ⟨xs, ex_t s h1, by rw [h2.isEmpty]⟩)
  | dict ds => cases e
  | ft ds => cases e
  | exc _ _ _ _ => cases e
  | inst c fs => cases e
section
variable {X : Cx} {a b c : Expr} {rest : List Expr} {ma mb mc : M D} {ta tb : M Bool} {pos : Pos}
theorem st_tru (h : SE X a ma) (he : ∀ whole, isTrue a X.env whole = (do let v ← whole; standAt a.pos; holding [v] (truthy v))) : ST X a (mTru ma) := by
  refine PT.imp (pt_truth h he) fun σ H Q ⟨I, e, Fs, R, b, e', hm, k⟩ => ?_
  obtain ⟨⟨d, e1⟩, h1, hm⟩ := Option.bind_eq_some_iff.mp hm
  obtain ⟨b', h2, hm⟩ := Option.map_eq_some_iff.mp hm
  cases hm
  exact ⟨I, e, Fs, R, d, e1, h1, fun v I' Fs' H' R' x r => ⟨b, tru_of R'.sub r h2, k I' Fs' H' R' x⟩⟩
theorem st_cmp {op : CmpOp} {r : R2} {f : D → D → Option D} (ho : OpR X (compareOp op) r) (hf : OpD X.K X.mg r f) (ha : SE X a ma) (hb : SE X b mb) (hm : behindInMarks op b = false) : ST X (.Compare a [op] [b] pos) (mBool (mOp f ma mb)) := by
  refine PT.imp (pt_cmpR ho ha hb hm) fun σ H Q ⟨I, e, Fs, R, bb, e', hm, k⟩ => ?_
  obtain ⟨⟨d, e3⟩, h0, hm⟩ := Option.bind_eq_some_iff.mp hm
  obtain ⟨⟨x, e1⟩, h1, h0⟩ := Option.bind_eq_some_iff.mp h0
  obtain ⟨⟨y, e2⟩, h2, h0⟩ := Option.bind_eq_some_iff.mp h0
  obtain ⟨z, h3, h0⟩ := Option.map_eq_some_iff.mp h0
  cases h0
  refine ⟨I, e, Fs, R, x, e1, h1, fun v I1 F1 H1 R1 x1 r1 => ⟨I1, e1, F1, R1, y, e2, h2, fun u I2 F2 H2 R2 x2 r2 => ?_⟩⟩
  refine hf I2 H2 x y _ v u _ R2.sub (r1.mono x2.g.ex _ _) r2 h3 fun v' I3 H3 g r3 => ?_
  obtain ⟨R3, x3⟩ := g.rel R2
  cases d with
  | bool b0 =>
    cases hm
    simp only [Rp] at r3
    exact ⟨_, r3, k I3 F2 H3 R3 ((x1.trans x2).trans x3)⟩
  | _ => cases hm
/-- a op1 b op2 c -/
def mChain (f g : D → D → Option D) (a b c : M D) : M D := fun e => (a e).bind fun x => (b x.2).bind fun y => (f x.1 y.1).bind fun z => match z with
  | .bool true => (c y.2).bind fun w => (g y.1 w.1).map fun r => (r, w.2)
  | .bool false => some (.bool false, y.2)
  | _ => none
theorem chain_run {K : PySem.W.Frag} {mg : Str → Option Value} {r r' : R2} {f g : D → D → Option D} (hf : OpD K mg r f) (hg : OpD K mg r' g) {σ : L2.St} {H : Hp} {Q : VK} (h : tE K mg (mChain f g ma mb mc) σ H Q) : tChain r r' (tE K mg ma) (tE K mg mb) (tE K mg mc) σ H Q := by
  obtain ⟨I, e, Fs, R, d, e', hm, k⟩ := h
  obtain ⟨⟨x, e1⟩, h1, hm⟩ := Option.bind_eq_some_iff.mp hm
  obtain ⟨⟨y, e2⟩, h2, hm⟩ := Option.bind_eq_some_iff.mp hm
  obtain ⟨z, h3, hm⟩ := Option.bind_eq_some_iff.mp hm
  refine ⟨I, e, Fs, R, x, e1, h1, fun v I1 F1 H1 R1 x1 r1 => ⟨I1, e1, F1, R1, y, e2, h2, fun u I2 F2 H2 R2 x2 r2 => ?_⟩⟩
  refine hf I2 H2 x y _ v u _ R2.sub (r1.mono x2.g.ex _ _) r2 h3 fun v' I3 H3 g3 r3 => ?_
  obtain ⟨R3, x3⟩ := g3.rel R2
  have g0 := g3.ex R2.sub
  cases z with
  | bool b =>
    simp only [Rp] at r3
    refine ⟨b, r3, ?_⟩
    cases b with
    | true =>
      obtain ⟨⟨w, e4⟩, h4, hm⟩ := Option.bind_eq_some_iff.mp (show ((mc e2).bind fun w => (g y w.1).map fun r => (r, w.2)) = some (d, e') from hm)
      obtain ⟨q, h5, hm⟩ := Option.map_eq_some_iff.mp hm
      cases hm
      rw [if_pos rfl]
      refine ⟨I3, e2, F2, R3, w, e4, h4, fun t I4 F4 H4 R4 x4 r4 => ?_⟩
      refine hg I4 H4 y w _ u t _ R4.sub ((r2.mono g0.1 _ _).mono x4.g.ex _ _) r4 h5 fun v5 I5 H5 g5 r5 => ?_
      obtain ⟨R5, x5⟩ := g5.rel R4
      exact k v5 I5 F4 H5 R5 ((((x1.trans x2).trans x3).trans x4).trans x5) r5
    | false =>
      have hm : some (D.bool false, e2) = some (d, e') := hm
      cases hm
      rw [if_neg Bool.false_ne_true]
      exact k _ I3 F2 H3 R3 ((x1.trans x2).trans x3) (by simp only [Rp])
  | _ => cases hm
theorem se_chain {op op' : CmpOp} {r r' : R2} {f g : D → D → Option D} (ho : OpR X (compareOp op) r) (hf : OpD X.K X.mg r f) (ho' : OpR X (compareOp op') r') (hg : OpD X.K X.mg r' g) (ha : SE X a ma) (hb : SE X b mb) (hc : SE X c mc)
    (hm : lastMarks [op, op'] [b, c] = false := by with_unfolding_all rfl) : SE X (.Compare a [op, op'] [b, c] pos) (mChain f g ma mb mc) := PE.imp (pe_chain ho ho' ha hb hc hm) fun σ H Q h => chain_run hf hg h
theorem st_chain {op op' : CmpOp} {r r' : R2} {f g : D → D → Option D} (ho : OpR X (compareOp op) r) (hf : OpD X.K X.mg r f) (ho' : OpR X (compareOp op') r') (hg : OpD X.K X.mg r' g) (ha : SE X a ma) (hb : SE X b mb) (hc : SE X c mc)
    (hm : lastMarks [op, op'] [b, c] = false := by with_unfolding_all rfl) : ST X (.Compare a [op, op'] [b, c] pos) (mBool (mChain f g ma mb mc)) := by
  refine PT.imp (pt_chain ho ho' ha hb hc hm) fun σ H Q ⟨I, e, Fs, R, bb, e', hm, k⟩ => ?_
  obtain ⟨⟨d, e3⟩, h0, hm⟩ := Option.bind_eq_some_iff.mp hm
  refine chain_run hf hg ⟨I, e, Fs, R, d, e3, h0, fun v I' Fs' H' R' x r => ?_⟩
  cases d with
  | bool b0 =>
    cases hm
    simp only [Rp] at r
    exact ⟨_, r, k I' Fs' H' R' x⟩
  | _ => cases hm
theorem st_not (h : ST X a ta) : ST X (.UnaryOp .Not a pos) (mNot ta) := by
  refine PT.imp (pt_not h) fun σ H Q ⟨I, e, Fs, R, b, e', hm, k⟩ => ?_
  obtain ⟨⟨b', e1⟩, h1, hm⟩ := Option.map_eq_some_iff.mp hm
  cases hm
  exact ⟨I, e, Fs, R, b', e1, h1, k⟩
theorem and_run {K : PySem.W.Frag} {mg : Str → Option Value} {σ : L2.St} {H : Hp} {Q : Bool → Hp → Prop} (h : tT K mg (mAnd ta tb) σ H Q) : tAnd (tT K mg ta) (tT K mg tb) σ H Q := by
  obtain ⟨I, e, Fs, R, b, e', hm, k⟩ := h
  obtain ⟨⟨b1, e1⟩, h1, hm⟩ := Option.bind_eq_some_iff.mp hm
  refine ⟨I, e, Fs, R, b1, e1, h1, fun I1 F1 H1 R1 x1 => ?_⟩
  cases b1 with
  | true =>
    rw [if_pos rfl]
    have hm : tb e1 = some (b, e') := hm
    exact ⟨I1, e1, F1, R1, b, e', hm, fun I2 F2 H2 R2 x2 => k I2 F2 H2 R2 (x1.trans x2)⟩
  | false =>
    rw [if_neg Bool.false_ne_true]
    have hm : some (false, e1) = some (b, e') := hm
    cases hm
    exact k I1 F1 H1 R1 x1
theorem or_run {K : PySem.W.Frag} {mg : Str → Option Value} {σ : L2.St} {H : Hp} {Q : Bool → Hp → Prop} (h : tT K mg (mOr ta tb) σ H Q) : tOr (tT K mg ta) (tT K mg tb) σ H Q := by
  obtain ⟨I, e, Fs, R, b, e', hm, k⟩ := h
  obtain ⟨⟨b1, e1⟩, h1, hm⟩ := Option.bind_eq_some_iff.mp hm
  refine ⟨I, e, Fs, R, b1, e1, h1, fun I1 F1 H1 R1 x1 => ?_⟩
  cases b1 with
  | false =>
    rw [if_neg Bool.false_ne_true]
    have hm : tb e1 = some (b, e') := hm
    exact ⟨I1, e1, F1, R1, b, e', hm, fun I2 F2 H2 R2 x2 => k I2 F2 H2 R2 (x1.trans x2)⟩
  | true =>
    rw [if_pos rfl]
    have hm : some (true, e1) = some (b, e') := hm
    cases hm
    exact k I1 F1 H1 R1 x1
theorem sw_and1 (h : ST X a ta) : SW X (.BoolOp .And [a] pos) ta := pw_and1 h
theorem sw_or1 (h : ST X a ta) : SW X (.BoolOp .Or [a] pos) ta := pw_or1 h
theorem sw_and (h : ST X a ta) (hb : SW X (.BoolOp .And (b :: rest) pos) tb) : SW X (.BoolOp .And (a :: b :: rest) pos) (mAnd ta tb) := PW.imp (pw_and h hb) fun σ H Q z => and_run z
theorem sw_or (h : ST X a ta) (hb : SW X (.BoolOp .Or (b :: rest) pos) tb) : SW X (.BoolOp .Or (a :: b :: rest) pos) (mOr ta tb) := PW.imp (pw_or h hb) fun σ H Q z => or_run z
theorem SW.st (h : SW X a ta) : ST X a ta := PW.pt h
/-- and, or, not as values: bools -/
theorem bool_run {K : PySem.W.Frag} {mg : Str → Option Value} {m : M D} {σ : L2.St} {H : Hp} (P : Bool → Hp → Prop) (h : tT K mg (mBool m) σ H P) : tE K mg m σ H fun x H1 => ∃ c, x = .bl c ∧ P c H1 := by
  obtain ⟨I, e, Fs, R, b, e', hm, k⟩ := h
  obtain ⟨⟨d, e1⟩, h1, hm⟩ := Option.bind_eq_some_iff.mp hm
  refine ⟨I, e, Fs, R, d, e1, h1, fun v I' Fs' H' R' x r => ?_⟩
  cases d with
  | bool b0 =>
    cases hm
    simp only [Rp] at r
    exact ⟨_, r, k I' Fs' H' R' x⟩
  | _ => cases hm
def mAndV (a b : M D) : M D := fun e => (mBool a e).bind fun x => if x.1 = true then b x.2 else some (.bool false, x.2)
def mOrV (a b : M D) : M D := fun e => (mBool a e).bind fun x => if x.1 = true then some (.bool true, x.2) else b x.2
theorem se_one {op : BoolOp} (h : SE X a ma) : SE X (.BoolOp op [a] pos) ma := pe_one h
theorem se_and (ha : SE X a ma) (hb : SE X (.BoolOp .And (b :: rest) pos) mb) : SE X (.BoolOp .And (a :: b :: rest) pos) (mAndV ma mb) := by
  refine PE.imp (pe_and ha hb) fun σ H Q ⟨I, e, Fs, R, d, e', hm, k⟩ => ?_
  obtain ⟨⟨b1, e1⟩, h1, hm⟩ := Option.bind_eq_some_iff.mp hm
  refine bool_run (fun c H1 => if c = true then tE X.K X.mg mb σ H1 Q else Q (.bl false) H1) ⟨I, e, Fs, R, b1, e1, h1, fun I1 F1 H1 R1 x1 => ?_⟩
  cases b1 with
  | true =>
    rw [if_pos rfl]
    have hm : mb e1 = some (d, e') := hm
    exact ⟨I1, e1, F1, R1, d, e', hm, fun v I2 F2 H2 R2 x2 r2 => k v I2 F2 H2 R2 (x1.trans x2) r2⟩
  | false =>
    rw [if_neg Bool.false_ne_true]
    have hm : some (D.bool false, e1) = some (d, e') := hm
    cases hm
    exact k _ I1 F1 H1 R1 x1 (by simp only [Rp])
theorem se_or (ha : SE X a ma) (hb : SE X (.BoolOp .Or (b :: rest) pos) mb) : SE X (.BoolOp .Or (a :: b :: rest) pos) (mOrV ma mb) := by
  refine PE.imp (pe_or ha hb) fun σ H Q ⟨I, e, Fs, R, d, e', hm, k⟩ => ?_
  obtain ⟨⟨b1, e1⟩, h1, hm⟩ := Option.bind_eq_some_iff.mp hm
  refine bool_run (fun c H1 => if c = true then Q (.bl true) H1 else tE X.K X.mg mb σ H1 Q) ⟨I, e, Fs, R, b1, e1, h1, fun I1 F1 H1 R1 x1 => ?_⟩
  cases b1 with
  | false =>
    rw [if_neg Bool.false_ne_true]
    have hm : mb e1 = some (d, e') := hm
    exact ⟨I1, e1, F1, R1, d, e', hm, fun v I2 F2 H2 R2 x2 r2 => k v I2 F2 H2 R2 (x1.trans x2) r2⟩
  | true =>
    rw [if_pos rfl]
    have hm : some (D.bool true, e1) = some (d, e') := hm
    cases hm
    exact k _ I1 F1 H1 R1 x1 (by simp only [Rp])
def mNotV (a : M D) : M D := fun e => (mBool a e).map fun x => (.bool !x.1, x.2)
theorem se_not (ha : SE X a ma) : SE X (.UnaryOp .Not a pos) (mNotV ma) := by
  refine PE.imp (pe_not ha) fun σ H Q ⟨I, e, Fs, R, d, e', hm, k⟩ => ?_
  obtain ⟨⟨b1, e1⟩, h1, hm⟩ := Option.map_eq_some_iff.mp hm
  cases hm
  exact bool_run (fun c H1 => Q (.bl (!c)) H1) ⟨I, e, Fs, R, b1, e1, h1, fun I1 F1 H1 R1 x1 => k _ I1 F1 H1 R1 x1 (by simp only [Rp])⟩
theorem se_if (hc : ST X c ta) (ha : SE X a ma) (hb : SE X b mb) : SE X (.IfExp c a b pos) (mIf ta ma mb) := by
  refine PE.imp (pe_ifExp hc ha hb) fun σ H Q ⟨I, e, Fs, R, d, e', hm, k⟩ => ?_
  obtain ⟨⟨b1, e1⟩, h1, hm⟩ := Option.bind_eq_some_iff.mp hm
  refine ⟨I, e, Fs, R, b1, e1, h1, fun I1 F1 H1 R1 x1 => ?_⟩
  cases b1 with
  | true =>
    rw [if_pos rfl]
    have hm : ma e1 = some (d, e') := hm
    exact ⟨I1, e1, F1, R1, d, e', hm, fun v I2 F2 H2 R2 x2 r2 => k v I2 F2 H2 R2 (x1.trans x2) r2⟩
  | false =>
    rw [if_neg Bool.false_ne_true]
    have hm : mb e1 = some (d, e') := hm
    exact ⟨I1, e1, F1, R1, d, e', hm, fun v I2 F2 H2 R2 x2 r2 => k v I2 F2 H2 R2 (x1.trans x2) r2⟩
end

/-! ### statements -/
inductive SR where
  | nx (e : Env) | rt (w : W) (e : Env) | bk (e : Env) | ct (e : Env) | ex (x : D) (e : Env)
abbrev S := Env → Option SR
/-- the slots outside A stay -/
def Agr (A : Nat → Bool) (σ σ' : L2.St) : Prop := ∀ i, A i = false → σ'[i]? = σ[i]?
theorem Agr.refl {A : Nat → Bool} {σ : L2.St} : Agr A σ σ := fun _ _ => rfl
theorem Agr.trans {A : Nat → Bool} {σ σ1 σ2 : L2.St} (a : Agr A σ σ1) (b : Agr A σ1 σ2) : Agr A σ σ2 := fun i h => (b i h).trans (a i h)
theorem Agr.set {A : Nat → Bool} {σ σ1 : L2.St} {i : Nat} {v : Option V} (a : Agr A σ σ1) (h : A i = true) : Agr A σ (σ1.set i v) := fun j hj => by
  rw [List.getElem?_set_ne (fun z => by subst z; rw [h] at hj; cases hj)]
  exact a j hj
def endS (K : PySem.W.Frag) (mg : Str → Option Value) (A : Nat → Bool) (Wx : WX) (σ : L2.St) (Fs : Fp) (I H : Hp) (Dd : Ends) : SR → Prop
  | .nx e' => ∀ σ' I' Fs' H', Rel K mg I' e' Fs' σ' H' → Ext Fs I H Fs' I' H' → Agr A σ σ' → Dd.nx σ' H'
  | .rt w e' => ∀ v σ' I' Fs' H' F, Rel K mg I' e' Fs' σ' H' → Ext Fs I H Fs' I' H' → Agr A σ σ' → Own K mg I' H' Fs' w v F → (∀ a ∈ F, MF Fs a ∨ H a = none) → Dd.rt v H'
  | .bk e' => ∀ σ' I' Fs' H', Rel K mg I' e' Fs' σ' H' → Ext Fs I H Fs' I' H' → Agr A σ σ' → Dd.bk σ' H'
  | .ct e' => ∀ σ' I' Fs' H', Rel K mg I' e' Fs' σ' H' → Ext Fs I H Fs' I' H' → Agr A σ σ' → Dd.ct σ' H'
  | .ex x e' => ∀ cls d σ' I' Fs' H', Rel K mg I' e' Fs' σ' H' → Ext Fs I H Fs' I' H' → Agr A σ σ' → XR K mg I' x cls d → Wx cls d σ' H'
def tS (K : PySem.W.Frag) (mg : Str → Option Value) (A : Nat → Bool) (Wx : WX) (m : S) : TS := fun Dd σ H => ∃ I e Fs, Rel K mg I e Fs σ H ∧ ∃ r, m e = some r ∧ endS K mg A Wx σ Fs I H Dd r
def SS (X : Cx) (A : Nat → Bool) (Wx : WX) (st : Stmt) (m : S) : Prop := PS X st (tS X.K X.mg A Wx m)
def SB (X : Cx) (A : Nat → Bool) (Wx : WX) (st : List Stmt) (m : S) : Prop := PSs X st (tS X.K X.mg A Wx m)
theorem PS.imp {X : Cx} {a : Stmt} {t t' : TS} (h : PS X a t) (i : ∀ D σ H, t' D σ H → t D σ H) : PS X a t' := ⟨fun pins s σ H D I hq => h.run pins s σ H D I (i D σ H hq)⟩
theorem PSs.imp {X : Cx} {a : List Stmt} {t t' : TS} (h : PSs X a t) (i : ∀ D σ H, t' D σ H → t D σ H) : PSs X a t' := ⟨fun pins s σ H D I hq => h.run pins s σ H D I (i D σ H hq)⟩
/-- from a state behind the start -/
theorem endS.from {K : PySem.W.Frag} {mg : Str → Option Value} {A : Nat → Bool} {Wx : WX} {σ σ1 : L2.St} {Fs F1 : Fp} {I H I1 H1 : Hp} {Dd : Ends} {r : SR} (x : Ext Fs I H F1 I1 H1) (a : Agr A σ σ1) (h : endS K mg A Wx σ Fs I H Dd r) : endS K mg A Wx σ1 F1 I1 H1 Dd r := by
  cases r with
  | nx e => exact fun σ' I' Fs' H' R' x' a' => h σ' I' Fs' H' R' (x.trans x') (a.trans a')
  | bk e => exact fun σ' I' Fs' H' R' x' a' => h σ' I' Fs' H' R' (x.trans x') (a.trans a')
  | ct e => exact fun σ' I' Fs' H' R' x' a' => h σ' I' Fs' H' R' (x.trans x') (a.trans a')
  | ex y e => exact fun cls d σ' I' Fs' H' R' x' a' xr => h cls d σ' I' Fs' H' R' (x.trans x') (a.trans a') xr
  | rt w e =>
    refine fun v σ' I' Fs' H' F R' x' a' o hF => h v σ' I' Fs' H' F R' (x.trans x') (a.trans a') o fun b hb => ?_
    rcases hF b hb with y | y
    · exact x.fp b y
    · cases q : H b with
      | none => exact .inr rfl
      | some u =>
        by_cases m : MF Fs b
        · exact .inl m
        · rw [x.g.back m y] at q; cases q
def sNext : S := fun e => some (.nx e)
def sSeq (a b : S) : S := fun e => (a e).bind fun r => match r with
  | .nx e' => b e'
  | r => some r
/-- a value, or what is raised -/
def orX (w : W) (e : Env) (r : SR) : SR := match w with
  | .ex x => .ex x e
  | _ => r
def sRet (m : M W) : S := fun e => (m e).map fun x => orX x.1 x.2 (.rt x.1 x.2)
def sRetN : S := fun e => some (.rt (.p .none) e)
def sSet (i : Nat) (m : M W) : S := fun e => (m e).map fun x => orX x.1 x.2 (.nx (x.2.set i (some x.1)))
def sIf (c : M Bool) (a b : S) : S := fun e => (c e).bind fun x => if x.1 = true then a x.2 else b x.2
def sBrk : S := fun e => some (.bk e)
def sCont : S := fun e => some (.ct e)
def sNever : S := fun _ => none
def sDrop (m : M W) : S := fun e => (m e).map fun x => orX x.1 x.2 (.nx x.2)
section
variable {X : Cx} {A : Nat → Bool} {Wx : WX} {st : Stmt} {rest : List Stmt} {a : Expr} {mw : M W} {s1 s2 : S} {pos : Pos}
theorem sb_nil : SB X A Wx [] sNext := PSs.imp pss_nil fun Dd σ H ⟨I, e, Fs, R, r, hm, k⟩ => by
  cases hm
  exact k σ I Fs H R Ext.refl Agr.refl
theorem sb_cons (h1 : SS X A Wx st s1) (h2 : SB X A Wx rest s2) : SB X A Wx (st :: rest) (sSeq s1 s2) := by
  refine PSs.imp (pss_cons h1 h2) fun Dd σ H ⟨I, e, Fs, R, r, hm, k⟩ => ?_
  obtain ⟨r1, h1, hm⟩ := Option.bind_eq_some_iff.mp hm
  refine ⟨I, e, Fs, R, r1, h1, ?_⟩
  cases r1 with
  | nx e1 => exact fun σ' I' Fs' H' R' x a => ⟨I', e1, Fs', R', r, hm, k.from x a⟩
  | rt w e1 => cases hm; exact k
  | bk e1 => cases hm; exact k
  | ct e1 => cases hm; exact k
  | ex x1 e1 => cases hm; exact k
theorem sb_one (h : SS X A Wx st s1) : SB X A Wx [st] s1 := pss_one h
theorem sb_never : SB X A Wx rest sNever := PSs.imp pss_never fun Dd σ H ⟨I, e, Fs, R, r, hm, k⟩ => by cases hm
theorem ss_never : SS X A Wx st sNever := PS.imp ps_never fun Dd σ H ⟨I, e, Fs, R, r, hm, k⟩ => by cases hm
theorem ss_pass : SS X A Wx (.Pass pos) sNext := PS.imp ps_pass fun Dd σ H ⟨I, e, Fs, R, r, hm, k⟩ => by
  cases hm
  exact k σ I Fs H R Ext.refl Agr.refl
theorem ss_brk : SS X A Wx (.Break pos) sBrk := PS.imp ps_break fun Dd σ H ⟨I, e, Fs, R, r, hm, k⟩ => by
  cases hm
  exact k σ I Fs H R Ext.refl Agr.refl
theorem ss_cont : SS X A Wx (.Continue pos) sCont := PS.imp ps_continue fun Dd σ H ⟨I, e, Fs, R, r, hm, k⟩ => by
  cases hm
  exact k σ I Fs H R Ext.refl Agr.refl
theorem orX_run {K : PySem.W.Frag} {mg : Str → Option Value} {σ : L2.St} {Fs : Fp} {I H : Hp} {Dd : Ends} {w : W} {e1 : Env} {r : SR} {Q : VK} (h : endS K mg A Wx σ Fs I H Dd (orX w e1 r))
    (k : endS K mg A Wx σ Fs I H Dd r → ∀ v I' Fs' H' F, Rel K mg I' e1 Fs' σ H' → Ext Fs I H Fs' I' H' → Own K mg I' H' Fs' w v F → (∀ a ∈ F, MF Fs a ∨ H a = none) → Q v H') :
    (∀ v I' Fs' H' F, Rel K mg I' e1 Fs' σ H' → Ext Fs I H Fs' I' H' → Own K mg I' H' Fs' w v F → (∀ a ∈ F, MF Fs a ∨ H a = none) → Q v H') ∧
    ∀ x, w = .ex x → ∀ cls d I' Fs' H', Rel K mg I' e1 Fs' σ H' → Ext Fs I H Fs' I' H' → XR K mg I' x cls d → Wx cls d σ H' := by
  cases w with
  | ex x =>
    refine ⟨fun v I' Fs' H' F _ _ o _ => ?_, fun y hy cls d I' Fs' H' R x' xr => ?_⟩
    · have q := o.ro
      simp only [Ro] at q
    · cases hy
      exact h cls d σ I' Fs' H' R x' Agr.refl xr
  | _ => exact ⟨k h, fun y hy => by cases hy⟩
theorem ss_ret (h : SO X Wx a mw) : SS X A Wx (.Return (some a) pos) (sRet mw) := by
  refine PS.imp (ps_ret h) fun Dd σ H ⟨I, e, Fs, R, r, hm, k⟩ => ?_
  obtain ⟨⟨w, e1⟩, h1, hm⟩ := Option.map_eq_some_iff.mp hm
  cases hm
  exact ⟨I, e, Fs, R, w, e1, h1, orX_run k fun k v I' Fs' H' F R' x o hF => k v σ I' Fs' H' F R' x Agr.refl o hF⟩
theorem ss_retN : SS X A Wx (.Return none pos) sRetN := by
  refine PS.imp ps_retN fun Dd σ H ⟨I, e, Fs, R, r, hm, k⟩ => ?_
  cases hm
  exact k .non σ I Fs H [] R Ext.refl Agr.refl (.pure (by simp only [Rp])) fun _ z => by cases z
theorem ss_if {c : Expr} {as bs : List Stmt} {tc : M Bool} (hc : ST X c tc) (ha : SB X A Wx as s1) (hb : SB X A Wx bs s2) : SS X A Wx (.If c as bs pos) (sIf tc s1 s2) := by
  refine PS.imp (ps_if hc ha hb) fun Dd σ H ⟨I, e, Fs, R, r, hm, k⟩ => ?_
  obtain ⟨⟨b1, e1⟩, h1, hm⟩ := Option.bind_eq_some_iff.mp hm
  refine ⟨I, e, Fs, R, b1, e1, h1, fun I1 F1 H1 R1 x1 => ?_⟩
  cases b1 with
  | true =>
    rw [if_pos rfl]
    have hm : s1 e1 = some r := hm
    exact ⟨I1, e1, F1, R1, r, hm, k.from x1 Agr.refl⟩
  | false =>
    rw [if_neg Bool.false_ne_true]
    have hm : s2 e1 = some r := hm
    exact ⟨I1, e1, F1, R1, r, hm, k.from x1 Agr.refl⟩
theorem ss_drop (h : SO X Wx a mw) (hs : swapsWith a none pos.line X.env = pure false := by rfl) : SS X A Wx (.Expr a pos) (sDrop mw) := by
  refine PS.imp (ps_expr h hs) fun Dd σ H ⟨I, e, Fs, R, r, hm, k⟩ => ?_
  obtain ⟨⟨w, e1⟩, h1, hm⟩ := Option.map_eq_some_iff.mp hm
  cases hm
  exact ⟨I, e, Fs, R, w, e1, h1, orX_run k fun k v I' Fs' H' F R' x o hF => k σ I' Fs' H' R' x Agr.refl⟩
theorem set_run {K : PySem.W.Frag} {mg : Str → Option Value} {Dd : Ends} {σ : L2.St} {H : Hp} {i : Nat} (hA : A i = true) (h : tS K mg A Wx (sSet i mw) Dd σ H) : tAsg (tO K mg Wx mw) (gName i) Dd σ H := by
  obtain ⟨I, e, Fs, R, r, hm, k⟩ := h
  obtain ⟨⟨w, e1⟩, h1, hm⟩ := Option.map_eq_some_iff.mp hm
  cases hm
  exact ⟨I, e, Fs, R, w, e1, h1, orX_run k fun k v I' Fs' H' F R' x o hF => k _ I' _ H' (R'.put o) (x.put hF) (Agr.refl.set hA)⟩
theorem ss_set {i : Nat} {x : Str} {pos' : Pos} (hA : A i = true) (hN : X.N.Nodup) (hi : X.N[i]? = some x) (hx : Loc X.env.scope x) (he : SO X Wx a mw) (hs : swapsWith a (some (.Name x pos')) pos.line X.env = pure false := by rfl) (hf : X.fn x = true ∨ X.env.scope.names.lookup x = some .local := by first | exact .inl rfl | exact .inr rfl | assumption) :
    SS X A Wx (.Assign [.Name x pos'] a pos) (sSet i mw) := PS.imp (ps_set hN hi hx he hs hf) fun Dd σ H h => set_run hA h
end
end MV

namespace MV
open PySem L2
variable [TB]

/-! ### targets -/
abbrev Tg := D → Env → Option Env
def tG (K : PySem.W.Frag) (mg : Str → Option Value) (A : Nat → Bool) (t : Tg) : TG := fun v σ H Q => ∃ I e Fs d, Rel K mg I e Fs σ H ∧ Rp K mg I d v ∧ ∃ e', t d e = some e' ∧
  ∀ σ' Fs', Rel K mg I e' Fs' σ' H → (∀ a, MF Fs' a → MF Fs a) → Agr A σ σ' → σ'.length = σ.length → Q σ' H
def SG (X : Cx) (A : Nat → Bool) (tg : Expr) (t : Tg) : Prop := PG X tg (tG X.K X.mg A t)
theorem PG.imp {X : Cx} {a : Expr} {t t' : TG} (h : PG X a t) (i : ∀ v σ H Q, t' v σ H Q → t v σ H Q) : PG X a t' := ⟨fun pins s σ H v u Q I r hq => h.run pins s σ H v u Q I r (i v σ H Q hq)⟩
theorem PGs.imp {X : Cx} {a : List Expr} {t t' : TGs} (h : PGs X a t) (i : ∀ v σ H Q, t' v σ H Q → t v σ H Q) : PGs X a t' := ⟨fun pins s σ H v u Q I r hq => h.run pins s σ H v u Q I r (i v σ H Q hq)⟩
def gN (i : Nat) : Tg := fun d e => some (e.set i (some (.p d)))
abbrev Tgs := List D → Env → Option Env
def tGs (K : PySem.W.Frag) (mg : Str → Option Value) (A : Nat → Bool) (t : Tgs) : TGs := fun vs σ H Q => ∃ I e Fs ds, Rel K mg I e Fs σ H ∧ RpL K mg I ds vs ∧ ∃ e', t ds e = some e' ∧
  ∀ σ' Fs', Rel K mg I e' Fs' σ' H → (∀ a, MF Fs' a → MF Fs a) → Agr A σ σ' → σ'.length = σ.length → Q σ' H
def SGs (X : Cx) (A : Nat → Bool) (tg : List Expr) (t : Tgs) : Prop := PGs X tg (tGs X.K X.mg A t)
def gsNil : Tgs := fun ds e => match ds with
  | [] => some e
  | _ => none
def gsCons (t : Tg) (r : Tgs) : Tgs := fun ds e => match ds with
  | d :: ds => (t d e).bind (r ds)
  | [] => none
def gT (n : Nat) (r : Tgs) : Tg := fun d e => match d with
  | .tup ds => if ds.length = n then r ds e else none
  | _ => none
section
variable {X : Cx} {A : Nat → Bool} {Wx : WX} {pos : Pos}
theorem Rel.putD {K : PySem.W.Frag} {mg : Str → Option Value} {I H : Hp} {e : Env} {Fs : Fp} {σ : L2.St} {i : Nat} {d : D} {v : V} (R : Rel K mg I e Fs σ H) (h : Rp K mg I d v) : Rel K mg I (e.set i (some (.p d))) (putF Fs i []) (σ.set i (some v)) H := R.put (.pure h)
theorem sg_name {i : Nat} {x : Str} (hA : A i = true) (hN : X.N.Nodup) (hi : X.N[i]? = some x) (hx : Loc X.env.scope x) (hf : X.fn x = true ∨ X.env.scope.names.lookup x = some .local := by first | exact .inl rfl | exact .inr rfl | assumption) : SG X A (.Name x pos) (gN i) :=
  PG.imp (pg_name hN hi hx hf) fun v σ H Q ⟨I, e, Fs, d, R, r, e', hm, k⟩ => by
    cases hm
    exact k _ _ (R.putD r) (fun a m => m.nil) (Agr.refl.set hA) (by simp)
theorem sgs_nil : SGs X A [] gsNil := PGs.imp pgs_nil fun vs σ H Q ⟨I, e, Fs, ds, R, r, e', hm, k⟩ => by
  cases ds with
  | nil =>
    simp only [RpL] at r
    cases hm
    exact ⟨r, k σ Fs R (fun _ m => m) Agr.refl rfl⟩
  | cons d ds => cases hm
theorem sgs_cons {a : Expr} {es : List Expr} {t : Tg} {u : Tgs} (h1 : SG X A a t) (h2 : SGs X A es u)
    (hs : (assignEach (a :: es) X.env).map (·.2) = assign a X.env :: (assignEach es X.env).map (·.2) := by rfl) : SGs X A (a :: es) (gsCons t u) := PGs.imp (pgs_cons h1 h2 hs) fun vs σ H Q ⟨I, e, Fs, ds, R, r, e', hm, k⟩ => by
  cases ds with
  | nil => cases hm
  | cons d ds =>
    simp only [RpL] at r
    obtain ⟨x, rr, rfl, r1, r2⟩ := r
    obtain ⟨e1, h1, hm⟩ := Option.bind_eq_some_iff.mp (show (t d e).bind (u ds) = some e' from hm)
    exact ⟨x, rr, rfl, I, e, Fs, d, R, r1, e1, h1, fun σ1 F1 R1 m1 a1 l1 => ⟨I, e1, F1, ds, R1, r2, e', hm, fun σ2 F2 R2 m2 a2 l2 => k σ2 F2 R2 (fun a m => m1 a (m2 a m)) (a1.trans a2) (l2.trans l1)⟩⟩
theorem sg_tup {es : List Expr} {k : Nat} {t : Tgs} {n : Nat} (hc : X.calm = true) (h : SGs X A es t)
    (hn : (assignEach es X.env).length = n := by rfl) (hst : (assignEach es X.env).findIdx? (·.1) = none := by rfl) : SG X A (.Tuple es k pos) (gT n t) := PG.imp (pg_tup hc h hn hst) fun v σ H Q ⟨I, e, Fs, d, R, r, e', hm, kk⟩ => by
  cases d with
  | tup ds =>
    have hm : (if ds.length = n then t ds e else none) = some e' := hm
    split at hm
    · rename_i hl
      simp only [Rp] at r
      obtain ⟨a, xs, rfl, h1, h2⟩ := r
      exact ⟨a, xs, rfl, ex_t R.sub h1, by rw [← h2.length]; exact hl, I, e, Fs, ds, R, h2, e', hm, kk⟩
    · cases hm
  | _ => cases hm
/-- target = value -/
def sAsg (t : Tg) (m : M D) : S := fun e => (m e).bind fun x => (t x.1 x.2).map .nx
theorem ss_asg {tg a : Expr} {m : M D} {t : Tg} (he : SE X a m) (hg : SG X A tg t) (hs : swapsWithSole [tg] a pos.line X.env = pure false := by rfl) (hw : swappedStores [tg] a X.env = pure none := by rfl)
    (h1 : (assignEach [tg] X.env).map (·.2) = [assign tg X.env] := by rfl) : SS X A Wx (.Assign [tg] a pos) (sAsg t m) := PS.imp (ps_asg he hg hs hw h1) fun Dd σ H ⟨I, e, Fs, R, r, hm, k⟩ => by
  obtain ⟨⟨d, e1⟩, h1, hm⟩ := Option.bind_eq_some_iff.mp hm
  obtain ⟨e2, h2, hm⟩ := Option.map_eq_some_iff.mp hm
  cases hm
  exact ⟨I, e, Fs, R, d, e1, h1, fun v I1 F1 H1 R1 x1 r1 => ⟨I1, e1, F1, d, R1, r1, e2, h2, fun σ' F2 R2 m a _ => k σ' I1 F2 H1 R2 ⟨x1.g, fun b q => x1.fp b (m b q)⟩ a⟩⟩
end

/-! ### what is walked -/
def ItR (K : PySem.W.Frag) (mg : Str → Option Value) (I : Hp) (J : It) (ds : List D) : Prop := ∀ (i : Nat) (I1 H1 : Hp), Ex I I1 → Ex I1 H1 →
  (∀ d, ds[i]? = some d → J.go i H1 ∧ ∀ x H2, J.yld i H1 x H2 → ∃ I2, Gr I1 H1 I2 H2 ∧ Rp K mg I2 d x) ∧ (ds.length ≤ i → J.stop i H1)
def tI (K : PySem.W.Frag) (mg : Str → Option Value) (m : M (List D)) : TI := fun σ H R => ∃ I e Fs, Rel K mg I e Fs σ H ∧ ∃ ds e', m e = some (ds, e') ∧
  ∀ J I' Fs' H', Rel K mg I' e' Fs' σ H' → Ext Fs I H Fs' I' H' → ItR K mg I' J ds → R J H'
def SI (X : Cx) (tg it : Expr) (m : M (List D)) : Prop := PI X tg it (tI X.K X.mg m)
theorem PI.imp {X : Cx} {tg a : Expr} {t t' : TI} (h : PI X tg a t) (i : ∀ σ H Q, t' σ H Q → t σ H Q) : PI X tg a t' := ⟨fun pins s σ H R I hq => h.run pins s σ H R I (i σ H R hq)⟩
def iLst (m : M D) : M (List D) := fun e => (m e).bind fun x => match x.1 with
  | .lst ds => some (ds, x.2)
  | .fl ds => some (ds, x.2)
  | _ => none
def iTpl (m : M D) : M (List D) := fun e => (m e).bind fun x => match x.1 with
  | .tup ds => some (ds, x.2)
  | _ => none
def iTxt (m : M D) : M (List D) := fun e => (m e).bind fun x => match x.1 with
  | .str y => some (y.cps.toList.map fun c => .str ⟨#[c]⟩, x.2)
  | _ => none
theorem itl_r {K : PySem.W.Frag} {mg : Str → Option Value} {I : Hp} {a : Addr} {xs : List V} {ds : List D} (h : SqL K I a xs) (r : RpL K mg I ds xs) : ItR K mg I (Itl K a) ds := fun i I1 H1 e1 e2 => by
  have h1 := ex_l (e1.trans e2) h
  refine ⟨fun d hd => ?_, fun hl => ⟨xs, h1, by rw [← r.length]; exact hl⟩⟩
  obtain ⟨x, hx, rx⟩ := r.get hd
  refine ⟨⟨xs, x, h1, hx⟩, fun y H2 hy => ?_⟩
  obtain ⟨rfl, q⟩ := hy
  have := q xs h1
  rw [hx] at this
  cases this
  exact ⟨I1, .same, rx.mono e1 _ _⟩
theorem itt_r {K : PySem.W.Frag} {mg : Str → Option Value} {I : Hp} {a : Addr} {xs : List V} {ds : List D} (h : SqT K I a xs) (r : RpL K mg I ds xs) : ItR K mg I (Itt K a) ds := fun i I1 H1 e1 e2 => by
  have h1 := ex_t (e1.trans e2) h
  refine ⟨fun d hd => ?_, fun hl => ⟨xs, h1, by rw [← r.length]; exact hl⟩⟩
  obtain ⟨x, hx, rx⟩ := r.get hd
  refine ⟨⟨xs, x, h1, hx⟩, fun y H2 hy => ?_⟩
  obtain ⟨rfl, q⟩ := hy
  have := q xs h1
  rw [hx] at this
  cases this
  exact ⟨I1, .same, rx.mono e1 _ _⟩
def rngD (lo : Int) (n : Nat) : List D := (List.range n).map fun (i : Nat) => .int (lo + (i : Int))
theorem itr_r {K : PySem.W.Frag} {mg : Str → Option Value} {I : Hp} {lo : Int} {n : Nat} : ItR K mg I (Itr lo n) (rngD lo n) := fun i I1 H1 e1 e2 => by
  refine ⟨fun d hd => ?_, fun hl => by simpa [rngD, Itr] using hl⟩
  unfold rngD at hd
  rw [List.getElem?_map] at hd
  by_cases hi : i < n
  · rw [List.getElem?_range hi] at hd
    cases hd
    refine ⟨hi, fun y H2 hy => ?_⟩
    obtain ⟨rfl, rfl⟩ := hy
    exact ⟨I1, .same, by unfold Rp; rfl⟩
  · rw [List.getElem?_eq_none (by simpa using hi)] at hd
    cases hd
theorem its_r {K : PySem.W.Frag} {mg : Str → Option Value} {I : Hp} {x : Str} : ItR K mg I (Its x) (x.cps.toList.map fun c => D.str ⟨#[c]⟩) := fun i I1 H1 e1 e2 => by
  refine ⟨fun d hd => ?_, fun hl => by simpa [Its] using hl⟩
  rw [List.getElem?_map] at hd
  cases e : x.cps.toList[i]? with
  | none => rw [e] at hd; cases hd
  | some c =>
    rw [e] at hd
    cases hd
    have e' : x.cps[i]? = some c := by simpa using e
    refine ⟨by
      show i < x.cps.size
      exact (Array.getElem?_eq_some_iff.mp e').1, fun y H2 hy => ?_⟩
    obtain ⟨rfl, c', h1, rfl⟩ := hy
    rw [e'] at h1
    cases h1
    exact ⟨I1, .same, by simp only [Rp]⟩
def enD (ds : List D) : List D := ds.mapIdx fun i d => .tup [.int (i : Int), d]
theorem ite_r {K : PySem.W.Frag} {mg : Str → Option Value} {I : Hp} {a : Addr} {xs : List V} {ds : List D} (h : SqL K I a xs) (r : RpL K mg I ds xs) : ItR K mg I (Ite K a) (enD ds) := fun i I1 H1 e1 e2 => by
  have h1 := ex_l (e1.trans e2) h
  refine ⟨fun d hd => ?_, fun hl => ⟨xs, h1, by rw [← r.length]; simpa [enD] using hl⟩⟩
  unfold enD at hd
  rw [List.getElem?_mapIdx] at hd
  cases e : ds[i]? with
  | none => rw [e] at hd; cases hd
  | some d0 =>
    rw [e] at hd
    cases hd
    obtain ⟨x, hx, rx⟩ := r.get e
    refine ⟨⟨xs, x, h1, hx⟩, fun y H2 hy => ?_⟩
    obtain ⟨T, z, rfl, hT, rfl, q⟩ := hy
    have := q xs h1
    rw [hx] at this
    cases this
    have hI : I1 T = none := by
      cases q : I1 T with
      | none => rfl
      | some u => rw [e2 T u q] at hT; cases hT
    refine ⟨_, .new T _ hT, ?_⟩
    simp only [Rp]
    exact ⟨T, _, rfl, .inl (.inl upd_same), RpL.cons (by unfold Rp; rfl) (RpL.cons (rx.mono (e1.trans (Ex.new hI)) _ _) RpL.nil)⟩
def zipD : List D → List D → List D
  | a :: as, b :: bs => .tup [a, b] :: zipD as bs
  | _, _ => []
theorem zipD_get : ∀ {as bs : List D} {i : Nat} {d : D}, (zipD as bs)[i]? = some d → ∃ a b, as[i]? = some a ∧ bs[i]? = some b ∧ d = .tup [a, b]
  | [], _, i, d, h => by simp [zipD] at h
  | a :: as, [], i, d, h => by simp [zipD] at h
  | a :: as, b :: bs, 0, d, h => by simp [zipD] at h; exact ⟨a, b, rfl, rfl, h.symm⟩
  | a :: as, b :: bs, i + 1, d, h => by
    have h' : (zipD as bs)[i]? = some d := by simpa [zipD] using h
    simpa using zipD_get h'
theorem zipD_len : ∀ {as bs : List D}, (zipD as bs).length = min as.length bs.length
  | [], _ => by simp [zipD]
  | a :: as, [] => by simp [zipD]
  | a :: as, b :: bs => by simp [zipD, zipD_len (as := as) (bs := bs)]
theorem itz_r {K : PySem.W.Frag} {mg : Str → Option Value} {I : Hp} {a b : Addr} {xs ys : List V} {ds es : List D} (h : SqL K I a xs) (r : RpL K mg I ds xs) (h' : SqL K I b ys) (r' : RpL K mg I es ys) : ItR K mg I (Itz K a b) (zipD ds es) := fun i I1 H1 e1 e2 => by
  have h1 := ex_l (e1.trans e2) h
  have h1' := ex_l (e1.trans e2) h'
  refine ⟨fun d hd => ?_, fun hl => ⟨xs, ys, h1, h1', by rw [← r.length, ← r'.length]; rw [zipD_len] at hl; omega⟩⟩
  obtain ⟨d1, d2, g1, g2, rfl⟩ := zipD_get hd
  obtain ⟨x, hx, rx⟩ := r.get g1
  obtain ⟨y, hy, ry⟩ := r'.get g2
  refine ⟨⟨xs, ys, x, y, h1, h1', hx, hy⟩, fun v H2 hv => ?_⟩
  obtain ⟨T, z, z', rfl, hT, rfl, q, q'⟩ := hv
  have e3 := q xs h1
  rw [hx] at e3
  cases e3
  have e4 := q' ys h1'
  rw [hy] at e4
  cases e4
  have hI : I1 T = none := by
    cases q : I1 T with
    | none => rfl
    | some u => rw [e2 T u q] at hT; cases hT
  refine ⟨_, .new T _ hT, ?_⟩
  simp only [Rp]
  exact ⟨T, _, rfl, .inl (.inl upd_same), RpL.cons (rx.mono (e1.trans (Ex.new hI)) _ _) (RpL.cons (ry.mono (e1.trans (Ex.new hI)) _ _) RpL.nil)⟩
theorem itzt_r {K : PySem.W.Frag} {mg : Str → Option Value} {I : Hp} {a b : Addr} {xs ys : List V} {ds es : List D} (h : SqT K I a xs) (r : RpL K mg I ds xs) (h' : SqT K I b ys) (r' : RpL K mg I es ys) : ItR K mg I (RZ.ItzT K a b) (zipD ds es) := fun i I1 H1 e1 e2 => by
  have h1 := ex_t (e1.trans e2) h
  have h1' := ex_t (e1.trans e2) h'
  refine ⟨fun d hd => ?_, fun hl => ⟨xs, ys, h1, h1', by rw [← r.length, ← r'.length]; rw [zipD_len] at hl; omega⟩⟩
  obtain ⟨d1, d2, g1, g2, rfl⟩ := zipD_get hd
  obtain ⟨x, hx, rx⟩ := r.get g1
  obtain ⟨y, hy, ry⟩ := r'.get g2
  refine ⟨⟨xs, ys, x, y, h1, h1', hx, hy⟩, fun v H2 hv => ?_⟩
  obtain ⟨T, z, z', rfl, hT, rfl, q, q'⟩ := hv
  have e3 := q xs h1
  rw [hx] at e3
  cases e3
  have e4 := q' ys h1'
  rw [hy] at e4
  cases e4
  have hI : I1 T = none := by
    cases q : I1 T with
    | none => rfl
    | some u => rw [e2 T u q] at hT; cases hT
  refine ⟨_, .new T _ hT, ?_⟩
  simp only [Rp]
  exact ⟨T, _, rfl, .inl (.inl upd_same), RpL.cons (rx.mono (e1.trans (Ex.new hI)) _ _) (RpL.cons (ry.mono (e1.trans (Ex.new hI)) _ _) RpL.nil)⟩
/-- the arguments of a built-in are data -/
def allD : List Arg → Option (List D)
  | [] => some []
  | .d d :: r => (allD r).map (d :: ·)
  | _ => none
theorem allD_rp {K : PySem.W.Frag} {mg : Str → Option Value} {I : Hp} {σ : L2.St} : ∀ {as : List Arg} {ds : List D} {vs : List V}, allD as = some ds → ArgR K mg I σ as vs → RpL K mg I ds vs
  | [], ds, vs, h, r => by cases h; simp only [ArgR] at r; subst r; exact RpL.nil
  | .d d :: as, ds, vs, h, r => by
    obtain ⟨v, t, rfl, r1, r2⟩ := r
    obtain ⟨ds', h1, h2⟩ := Option.map_eq_some_iff.mp (show (allD as).map (d :: ·) = some ds from h)
    subst h2
    exact RpL.cons r1 (allD_rp h1 r2)
  | .io i :: as, ds, vs, h, r => by cases h
/-- an iterator of values of the arguments -/
def iArgs (f : List D → Option (List D)) (ma : M (List Arg)) : M (List D) := fun e => (ma e).bind fun x => (allD x.1).bind fun ds => (f ds).map fun r => (r, x.2)
def fRange1 : List D → Option (List D)
  | [.int j] => if -1000000 ≤ j ∧ j ≤ 1000000 then some (rngD 0 j.toNat) else none
  | _ => none
def fRange2 : List D → Option (List D)
  | [.int i, .int j] => if -1000000 ≤ i ∧ i ≤ 1000000 ∧ -1000000 ≤ j ∧ j ≤ 1000000 then some (rngD i (j - i).toNat) else none
  | _ => none
def fEnum : List D → Option (List D)
  | [.lst ds] => some (enD ds)
  | [.fl ds] => some (enD ds)
  | _ => none
def fZip : List D → Option (List D)
  | [.lst a, .lst b] => some (zipD a b)
  | [.tup a, .tup b] => some (zipD a b)
  | _ => none
theorem RpL.one {K : PySem.W.Frag} {mg : Str → Option Value} {I : Hp} {d : D} {vs : List V} (h : RpL K mg I [d] vs) : ∃ v, vs = [v] ∧ Rp K mg I d v := by
  simp only [RpL] at h
  obtain ⟨x, r, rfl, h1, h2⟩ := h
  subst h2
  exact ⟨x, rfl, h1⟩
theorem RpL.two {K : PySem.W.Frag} {mg : Str → Option Value} {I : Hp} {d d' : D} {vs : List V} (h : RpL K mg I [d, d'] vs) : ∃ v v', vs = [v, v'] ∧ Rp K mg I d v ∧ Rp K mg I d' v' := by
  simp only [RpL] at h
  obtain ⟨x, r, rfl, h1, y, r2, rfl, h2, rfl⟩ := h
  exact ⟨x, y, rfl, h1, h2⟩
section
variable {X : Cx} {tg a b : Expr} {m : M D} {ma : M (List Arg)} {p pos tpos : Pos} {elts : List Expr} {kk : Nat}
theorem si_list (h : SE X a m) : SI X tg a (iLst m) := PI.imp (pi_list h) fun σ H Q ⟨I, e, Fs, R, ds, e', hm, k⟩ => by
  obtain ⟨⟨d, e1⟩, h1, hm⟩ := Option.bind_eq_some_iff.mp hm
  refine ⟨I, e, Fs, R, d, e1, h1, fun v I' Fs' H' R' x r => ?_⟩
  cases d with
  | lst es =>
    cases hm
    simp only [Rp] at r
    obtain ⟨l, xs, rfl, h2, h3⟩ := r
    exact ⟨l, rfl, ⟨xs, .of (R'.sub _ _ h2)⟩, k _ I' Fs' H' R' x (itl_r (.of h2) h3)⟩
  | fl es =>
    cases hm
    simp only [Rp] at r
    obtain ⟨l, xs, rfl, h2, h3⟩ := r
    exact ⟨l, rfl, ⟨xs, ex_l R'.sub h2⟩, k _ I' Fs' H' R' x (itl_r h2 h3)⟩
  | _ => cases hm
theorem si_tup (h : SE X a m) : SI X tg a (iTpl m) := PI.imp (pi_tup h) fun σ H Q ⟨I, e, Fs, R, ds, e', hm, k⟩ => by
  obtain ⟨⟨d, e1⟩, h1, hm⟩ := Option.bind_eq_some_iff.mp hm
  refine ⟨I, e, Fs, R, d, e1, h1, fun v I' Fs' H' R' x r => ?_⟩
  cases d with
  | tup es =>
    cases hm
    simp only [Rp] at r
    obtain ⟨l, xs, rfl, h2, h3⟩ := r
    exact ⟨l, rfl, ⟨xs, ex_t R'.sub h2⟩, k _ I' Fs' H' R' x (itt_r h2 h3)⟩
  | _ => cases hm
theorem si_txt (h : SE X a m) : SI X tg a (iTxt m) := PI.imp (pi_str h) fun σ H Q ⟨I, e, Fs, R, ds, e', hm, k⟩ => by
  obtain ⟨⟨d, e1⟩, h1, hm⟩ := Option.bind_eq_some_iff.mp hm
  refine ⟨I, e, Fs, R, d, e1, h1, fun v I' Fs' H' R' x r => ?_⟩
  cases d with
  | str y =>
    cases hm
    simp only [Rp] at r
    subst r
    exact ⟨y, rfl, k _ I' Fs' H' R' x its_r⟩
  | _ => cases hm
theorem iargs_run {K : PySem.W.Frag} {mg : Str → Option Value} {f : List D → Option (List D)} {σ : L2.St} {H : Hp} {Q : It → Hp → Prop} {P : List V → Hp → Prop} (hf : ∀ I' H' ds rs vs, Ex I' H' → f ds = some rs → RpL K mg I' ds vs → (∀ J, ItR K mg I' J rs → Q J H') → P vs H')
    (h : tI K mg (iArgs f ma) σ H Q) : tAr K mg ma σ H P := by
  obtain ⟨I, e, Fs, R, ds, e', hm, k⟩ := h
  obtain ⟨⟨as, e1⟩, h1, hm⟩ := Option.bind_eq_some_iff.mp hm
  obtain ⟨bs, h2, hm⟩ := Option.bind_eq_some_iff.mp hm
  obtain ⟨rs, h3, hm⟩ := Option.map_eq_some_iff.mp hm
  cases hm
  refine ⟨I, e, Fs, R, as, e1, h1, fun vs I' Fs' H' R' x r => hf I' H' bs _ vs R'.sub h3 (allD_rp h2 r) fun J hJ => k J I' Fs' H' R' x hJ⟩
theorem si_range1 (hg : Gl X "range") (hm : X.mg "range" = none) (ha : SA X [a] ma) (hs : starEach [a] X.env = [(false, eval a X.env)] := by rfl) : SI X tg (.Call (.Name "range" p) [a] [] pos) (iArgs fRange1 ma) :=
  PI.imp (pi_range1 hg hm ha hs) fun σ H Q h => by
    refine iargs_run (P := fun vs H1 => ∃ j : Int, vs = [.int j] ∧ -(2 ^ 62) ≤ j ∧ j < 2 ^ 62 ∧ Q (Itr 0 j.toNat) H1) (fun I' H' ds rs vs s hf r k => ?_) h
    unfold fRange1 at hf
    split at hf
    · split at hf
      · rename_i j hj
        cases hf
        obtain ⟨v, rfl, h1⟩ := r.one
        simp only [Rp] at h1
        subst h1
        exact ⟨j, rfl, by omega, by omega, k _ itr_r⟩
      · cases hf
    · cases hf
theorem si_range2 (hg : Gl X "range") (hm : X.mg "range" = none) (ha : SA X [a, b] ma) (hs : starEach [a, b] X.env = [(false, eval a X.env), (false, eval b X.env)] := by rfl) (hs2 : starEach [b] X.env = [(false, eval b X.env)] := by rfl) : SI X tg (.Call (.Name "range" p) [a, b] [] pos) (iArgs fRange2 ma) :=
  PI.imp (pi_range2 hg hm ha hs hs2) fun σ H Q h => by
    refine iargs_run (P := fun vs H1 => ∃ i j : Int, vs = [.int i, .int j] ∧ (-(2 ^ 62) ≤ i ∧ i < 2 ^ 62 ∧ -(2 ^ 62) ≤ j ∧ j < 2 ^ 62) ∧ Q (Itr i (j - i).toNat) H1) (fun I' H' ds rs vs s hf r k => ?_) h
    unfold fRange2 at hf
    split at hf
    · split at hf
      · rename_i i j hj
        cases hf
        obtain ⟨v, v', rfl, h1, h2⟩ := r.two
        simp only [Rp] at h1 h2
        subst h1 h2
        exact ⟨i, j, rfl, by omega, k _ itr_r⟩
      · cases hf
    · cases hf
theorem si_enum (hg : Gl X "enumerate") (hm : X.mg "enumerate" = none) (ha : SA X [a] ma) (hs : starEach [a] X.env = [(false, eval a X.env)] := by rfl) : SI X (.Tuple elts kk tpos) (.Call (.Name "enumerate" p) [a] [] pos) (iArgs fEnum ma) :=
  PI.imp (pi_enum hg hm ha hs) fun σ H Q h => by
    refine iargs_run (P := fun vs H1 => ∃ a xs, vs = [.ref a] ∧ SqL X.K H1 a xs ∧ Q (Ite X.K a) H1) (fun I' H' ds rs vs s hf r k => ?_) h
    unfold fEnum at hf
    split at hf
    · cases hf
      obtain ⟨v, rfl, h1⟩ := r.one
      simp only [Rp] at h1
      obtain ⟨l, xs, rfl, h2, h3⟩ := h1
      exact ⟨l, xs, rfl, .of (s _ _ h2), k _ (ite_r (.of h2) h3)⟩
    · cases hf
      obtain ⟨v, rfl, h1⟩ := r.one
      simp only [Rp] at h1
      obtain ⟨l, xs, rfl, h2, h3⟩ := h1
      exact ⟨l, xs, rfl, ex_l s h2, k _ (ite_r h2 h3)⟩
    · cases hf
theorem si_zip (hg : Gl X "zip") (hm : X.mg "zip" = none) (ha : SA X [a, b] ma)
    (hs : starEach [a, b] X.env = (false, eval a X.env) :: starEach [b] X.env := by rfl) (hpl : (backTo pos (starEach [b] X.env)).any (·.1) = false := by rfl) : SI X (.Tuple elts kk tpos) (.Call (.Name "zip" p) [a, b] [] pos) (iArgs fZip ma) :=
  PI.imp (RZ.pi_zipA hg hm ha hs hpl) fun σ H Q h => by
    refine iargs_run (P := fun vs H1 => ∃ a b xs ys, vs = [.ref a, .ref b] ∧ ((SqL X.K H1 a xs ∧ SqL X.K H1 b ys ∧ Q (Itz X.K a b) H1) ∨ (SqT X.K H1 a xs ∧ SqT X.K H1 b ys ∧ Q (RZ.ItzT X.K a b) H1))) (fun I' H' ds rs vs s hf r k => ?_) h
    unfold fZip at hf
    split at hf
    · cases hf
      obtain ⟨v, v', rfl, h1, h2⟩ := r.two
      simp only [Rp] at h1 h2
      obtain ⟨l, xs, rfl, h3, h4⟩ := h1
      obtain ⟨l', xs', rfl, h3', h4'⟩ := h2
      exact ⟨l, l', xs, xs', rfl, .inl ⟨.of (s _ _ h3), .of (s _ _ h3'), k _ (itz_r (.of h3) h4 (.of h3') h4')⟩⟩
    · cases hf
      obtain ⟨v, v', rfl, h1, h2⟩ := r.two
      simp only [Rp] at h1 h2
      obtain ⟨l, xs, rfl, h3, h4⟩ := h1
      obtain ⟨l', xs', rfl, h3', h4'⟩ := h2
      exact ⟨l, l', xs, xs', rfl, .inr ⟨ex_t s h3, ex_t s h3', k _ (itzt_r h3 h4 h3' h4')⟩⟩
    · cases hf
end
end MV

namespace MV
open PySem L2
variable [TB]

/-! ### comprehensions -/
def wipeE (e : Env) : List Nat → Env
  | [] => e
  | v :: vs => (wipeE e vs).set v none
def lcRun (own : List Nat) (t : Tg) (c : M Bool) (m : M D) : List D → Env → Option (List D × Env)
  | [], e => some ([], e)
  | d :: ds, e => (t d e).bind fun e1 => (c e1).bind fun b => if b.1 = true then (m b.2).bind fun y => (lcRun own t c m ds (wipeE y.2 own)).map fun r => (y.1 :: r.1, r.2) else lcRun own t c m ds (wipeE b.2 own)
def mLc (own : List Nat) (mi : M (List D)) (t : Tg) (c : M Bool) (m : M D) : M D := fun e => (mi e).bind fun x => if x.1.length ≤ 1000000 then (lcRun own t c m x.1 (wipeE x.2 own)).map fun r => (.lst r.1, r.2) else none
section
variable {K : PySem.W.Frag} {mg : Str → Option Value} {I H : Hp} {e : Env} {Fs : Fp} {σ : L2.St}
theorem Rel.wiped (R : Rel K mg I e Fs σ H) : ∀ own : List Nat, ∃ F', Rel K mg I (wipeE e own) F' (L2.wipe σ own) H ∧ ∀ a, MF F' a → MF Fs a
  | [] => ⟨Fs, R, fun _ m => m⟩
  | v :: vs => by
    obtain ⟨F1, R1, m1⟩ := R.wiped vs
    refine ⟨putF F1 v [], ?_, fun a m => m1 a m.nil⟩
    have R2 := R1.drop (i := v)
    refine ⟨R2.sub, ?_, fun i w q => ?_, R2.nd, R2.dj, R2.out, R2.live, R2.tb⟩
    · have := R2.len
      show ((wipeE e vs).set v none).length = ((L2.wipe σ vs).set v none).length
      simp at this ⊢
      exact this
    · have q : ((wipeE e vs).set v none)[i]? = some (some w) := q
      by_cases z : i = v
      · subst z
        by_cases hl : i < (wipeE e vs).length
        · rw [List.getElem?_set_self hl] at q; cases q
        · rw [List.getElem?_eq_none (by simpa using hl)] at q; cases q
      · obtain ⟨x, hx, hr⟩ := R2.at_ i w q
        refine ⟨x, ?_, hr⟩
        show ((L2.wipe σ vs).set v none)[i]? = _
        rw [List.getElem?_set_ne (Ne.symm z)]
        exact hx
/-- back to the slots that were not wiped -/
theorem Rel.unwiped {own : List Nat} (R : Rel K mg I e Fs (L2.wipe σ own) H) : Rel K mg I e Fs σ H :=
  ⟨R.sub, by rw [R.len, wipe_length], fun i w q => by
    obtain ⟨x, hx, hr⟩ := R.at_ i w q
    exact ⟨x, (wipe_some hx).1, hr⟩, R.nd, R.dj, R.out, R.live, R.tb⟩
/-- an object that nobody holds -/
theorem Rel.loose {p : Addr} {o : HO} (R : Rel K mg I e Fs σ H) (h : H p = none) : Rel K mg I e Fs σ (upd H p o) :=
  R.frame (M := fun a => a = p) (Gx.refl.set (.inl rfl) (.none h)) (fun a u q => Ex.new h a u (R.sub a u q)) fun a ⟨i, hi⟩ z => by subst z; exact R.live i a hi h
theorem Rel.loose2 {p : Addr} {o : HO} (R : Rel K mg I e Fs σ H) (h : I p = none) (hF : ¬ MF Fs p) (n : NX H p) : Rel K mg I e Fs σ (upd H p o) :=
  R.frame (M := fun a => a = p) (Gx.refl.set (.inl rfl) n) (fun a u q => by
    rw [upd_ne (fun z => by subst z; rw [h] at q; cases q)]
    exact R.sub a u q) fun a m z => by subst z; exact hF m
/-- it is frozen -/
theorem Rel.freeze {p : Addr} {o : HO} (R : Rel K mg I e Fs σ H) (h : H p = some o) (hI : I p = none) (hF : ¬ MF Fs p) (n : NX H p) : Rel K mg (upd I p o) e Fs σ H := by
  refine ⟨fun a u q => ?_, R.len, fun i w q => ?_, R.nd, R.dj, fun i a ha => ?_, R.live, R.tb.frz n⟩
  · by_cases z : a = p
    · subst z; rw [upd_same] at q; cases q; exact h
    · rw [upd_ne z] at q; exact R.sub a u q
  · obtain ⟨x, hx, hr⟩ := R.at_ i w q
    exact ⟨x, hx, hr.frame (Ex.new hI) w x (Fs i) fun a _ u hu _ => hu⟩
  · rw [upd_ne (fun z => by subst z; exact hF ⟨i, ha⟩)]
    exact R.out i a ha
end
def ownA (own : List Nat) : Nat → Bool := fun i => own.contains i
theorem wipe_get {σ : L2.St} : ∀ {own : List Nat} {i : Nat}, (wipe σ own)[i]? = if i ∈ own then (σ[i]?).map (fun _ => none) else σ[i]?
  | [], i => by simp [wipe]
  | v :: vs, i => by
    show ((L2.wipe σ vs).set v none)[i]? = _
    by_cases z : v = i
    · subst z
      rw [if_pos (by simp)]
      by_cases hl : v < σ.length
      · rw [List.getElem?_set_self (by rw [wipe_length]; exact hl), List.getElem?_eq_getElem hl]; rfl
      · rw [List.getElem?_eq_none (by simpa [wipe_length] using hl), List.getElem?_eq_none (by simpa using hl)]; rfl
    · rw [List.getElem?_set_ne z, wipe_get (own := vs)]
      by_cases y : i ∈ vs
      · rw [if_pos y, if_pos (by simp [y])]
      · rw [if_neg y, if_neg (by simp [y, Ne.symm z])]
theorem wipe_agr {σ σ' : L2.St} {own : List Nat} (hl : σ'.length = σ.length) (a : Agr (ownA own) (wipe σ own) σ') : wipe σ' own = wipe σ own := by
  refine List.ext_getElem? fun i => ?_
  rw [wipe_get, wipe_get]
  by_cases y : i ∈ own
  · rw [if_pos y, if_pos y]
    by_cases h : i < σ.length
    · rw [List.getElem?_eq_getElem h, List.getElem?_eq_getElem (by rw [hl]; exact h)]; rfl
    · rw [List.getElem?_eq_none (by omega), List.getElem?_eq_none (by omega)]
  · rw [if_neg y, if_neg y]
    have := a i (by simp [ownA, y])
    rw [wipe_get, if_neg y] at this
    exact this
def STs (X : Cx) (ifs : List Expr) (m : M Bool) : Prop := PTs X ifs (tT X.K X.mg m)
theorem sts_nil {X : Cx} : STs X [] (fun e => some (true, e)) := ⟨fun pins s σ H Q I ⟨J, e, Fs, R, b, e', hm, k⟩ => by
  cases hm
  exact pts_nil.run pins s σ H Q I (k J Fs H R Ext.refl)⟩
theorem sts_one {X : Cx} {c : Expr} {m : M Bool} (h : ST X c m) : STs X [c] m := pts_one h
/-- how a comprehension's list is made; what then becomes of it is left open -/
def tLcG (K : PySem.W.Frag) (mg : Str → Option Value) (own : List Nat) (mi : M (List D)) (t : Tg) (c : M Bool) (m : M D) : TE := fun σ H Q => ∃ I e Fs, Rel K mg I e Fs σ H ∧ ∃ ds e1 ys e2, mi e = some (ds, e1) ∧ ds.length ≤ 1000000 ∧ lcRun own t c m ds (wipeE e1 own) = some (ys, e2) ∧
  ∀ I2 F2 Hc D acc, Rel K mg I2 e2 F2 σ Hc → Ext Fs I H F2 I2 Hc → Hc D = some (.lst acc) → I2 D = none → ¬ MF F2 D → (MF Fs D ∨ H D = none) → RpL K mg I2 ys acc → Q (.ref D) Hc
theorem lc_gen {K : PySem.W.Frag} {mg : Str → Option Value} {own : List Nat} {mi : M (List D)} {t : Tg} {c : M Bool} {m : M D} {σ : L2.St} {H : Hp} {Q : VK} (h : tLcG K mg own mi t c m σ H Q) :
    tLc (tI K mg mi) (tG K mg (ownA own) t) (tT K mg c) (tE K mg m) own σ H Q := by
  obtain ⟨I, e, Fs, R, ds, e1, ys, e2, h1, hlen, h2, k⟩ := h
  refine ⟨I, e, Fs, R, ds, e1, h1, fun J I1 F1 H1 R1 x1 hJ D hD => ?_⟩
  have hsz : sizeLine = 16777216 := sizeLine_eq
  refine ⟨fun i n Hc => n = ds.length - i ∧ i ≤ ds.length ∧ ∃ I2 ec F2 acc dacc rest, Rel K mg I2 ec F2 (wipe σ own) Hc ∧ Ext Fs I H F2 I2 Hc ∧ Ex I1 I2 ∧ Hc D = some (.lst acc) ∧ I2 D = none ∧ ¬ MF F2 D ∧ RpL K mg I2 dacc acc ∧ dacc.length ≤ i ∧
    lcRun own t c m (ds.drop i) ec = some (rest, e2) ∧ ys = dacc ++ rest, ⟨ds.length, ?_⟩, ?_⟩
  · obtain ⟨F2, R2, m2⟩ := R1.wiped own
    have R3 := R2.loose (o := .lst []) hD
    have hI : I1 D = none := by
      cases q : I1 D with
      | none => rfl
      | some u => rw [R1.sub D u q] at hD; cases hD
    have hF : ¬ MF F2 D := fun ⟨i, hi⟩ => R2.live i D hi hD
    refine ⟨by simp, Nat.zero_le _, I1, wipeE e1 own, F2, [], [], ys, R3, ?_, Ex.refl _, upd_same, hI, hF, RpL.nil, Nat.zero_le _, by rw [List.drop_zero]; exact h2, rfl⟩
    exact ⟨⟨x1.g.ex, fun a u q mm nt => Ex.new hD a u (x1.g.fr a u q mm nt), x1.g.new, fun t => (x1.g.tb t).ext (Ex.new hD), fun a ps q mm => let ⟨p', h'⟩ := x1.g.tl a ps q mm; ⟨p', Ex.new hD a _ h'⟩⟩, fun a mm => x1.fp a (m2 a mm)⟩
  · rintro i n Hc ⟨rfl, hi, I2, ec, F2, acc, dacc, rest, R2, x2, ex2, hDc, hI2, hF2, racc, hl, hrun, hys⟩
    have it := hJ i I2 Hc ex2 R2.sub
    have keepD : ∀ {Fa : Fp} {Ia Ha : Hp} {Fb : Fp} {Ib Hb : Hp} {o : HO}, Ext Fa Ia Ha Fb Ib Hb → Ha D = some o → Ia D = none → ¬ MF Fa D → NT o → Hb D = some o ∧ Ib D = none ∧ ¬ MF Fb D := fun {Fa Ia Ha Fb Ib Hb o} x h1 h2 h3 n => by
      refine ⟨x.g.fr D o h1 h3 n, ?_, fun q => ?_⟩
      · cases q : Ib D with
        | none => rfl
        | some u =>
          rcases x.g.new D (by rw [q]; exact fun z => by cases z) with z | z | z
          · exact absurd h2 z
          · rw [h1] at z; cases z
          · exact absurd z h3
      · rcases x.fp D q with z | z
        · exact h3 z
        · rw [h1] at z; cases z
    by_cases hlt : i < ds.length
    · refine .inr ?_
      obtain ⟨hgo, hy⟩ := it.1 _ (List.getElem?_eq_getElem hlt)
      refine ⟨hgo, fun H' => ∃ I2 ec F2 acc dacc rest, Rel K mg I2 ec F2 (wipe σ own) H' ∧ Ext Fs I H F2 I2 H' ∧ Ex I1 I2 ∧ H' D = some (.lst acc) ∧ I2 D = none ∧ ¬ MF F2 D ∧ RpL K mg I2 dacc acc ∧ dacc.length ≤ i + 1 ∧
        lcRun own t c m (ds.drop (i + 1)) ec = some (rest, e2) ∧ ys = dacc ++ rest, fun H' h => ⟨ds.length - (i + 1), by omega, rfl, hlt, h⟩, fun v H3 hv => ?_⟩
      obtain ⟨I3, g3, r3⟩ := hy v H3 hv
      obtain ⟨R3, x3⟩ := g3.rel R2
      rw [List.drop_eq_getElem_cons hlt] at hrun
      simp only [lcRun] at hrun
      obtain ⟨e4, h4, hrun⟩ := Option.bind_eq_some_iff.mp hrun
      obtain ⟨⟨b, e5⟩, h5, hrun⟩ := Option.bind_eq_some_iff.mp hrun
      obtain ⟨hD3, hI3, hF3⟩ := keepD x3 hDc hI2 hF2 (fun _ z => by cases z)
      refine ⟨I3, ec, F2, ds[i], R3, r3, e4, h4, fun σ4 F4 R4 m4 a4 hl4 => ?_⟩
      have hw : wipe σ4 own = wipe σ own := by
        have q := wipe_agr (σ := wipe σ own) hl4 (by
          intro j hj
          rw [a4 j hj]
          rw [wipe_get (σ := wipe σ own), if_neg (by simpa [ownA] using hj)])
        rw [q]
        refine List.ext_getElem? fun j => ?_
        rw [wipe_get, wipe_get]
        by_cases y : j ∈ own
        · rw [if_pos y, if_pos y]
          cases σ[j]? <;> rfl
        · rw [if_neg y, if_neg y]
      have x4 : Ext F2 I3 H3 F4 I3 H3 := ⟨Gx.refl, fun a q => .inl (m4 a q)⟩
      obtain ⟨hD4, hI4, hF4⟩ := keepD x4 hD3 hI3 hF3 (fun _ z => by cases z)
      refine ⟨hw, I3, e4, F4, R4, b, e5, h5, fun I5 F5 H5 R5 x5 => ?_⟩
      obtain ⟨hD5, hI5, hF5⟩ := keepD x5 hD4 hI4 hF4 (fun _ z => by cases z)
      have xs5 := ((x2.trans x3).trans x4).trans x5
      have ex5 : Ex I1 I5 := (ex2.trans x3.g.ex).trans x5.g.ex
      cases b with
      | false =>
        rw [if_neg Bool.false_ne_true]
        rw [if_neg Bool.false_ne_true] at hrun
        obtain ⟨F6, R6, m6⟩ := R5.wiped own
        rw [hw] at R6
        exact ⟨I5, wipeE e5 own, F6, acc, dacc, rest, R6, ⟨xs5.g, fun a q => xs5.fp a (m6 a q)⟩, ex5, hD5, hI5, fun q => hF5 (m6 D q), racc.mono (x3.g.ex.trans x5.g.ex) _ _, by omega, hrun, hys⟩
      | true =>
        rw [if_pos rfl]
        rw [if_pos rfl] at hrun
        obtain ⟨⟨y, e6⟩, h6, hrun⟩ := Option.bind_eq_some_iff.mp hrun
        obtain ⟨⟨rs, e7⟩, h7, hrun⟩ := Option.map_eq_some_iff.mp hrun
        cases hrun
        refine ⟨I5, e5, F5, R5, y, e6, h6, fun z I6 F6 H6 R6 x6 r6 => ?_⟩
        obtain ⟨hD6, hI6, hF6⟩ := keepD x6 hD5 hI5 hF5 (fun _ z => by cases z)
        have racc' := racc.mono ((x3.g.ex.trans x5.g.ex).trans x6.g.ex) _ _
        refine ⟨acc, hD6, by rw [← racc'.length]; omega, ?_⟩
        obtain ⟨F7, R7, m7⟩ := R6.wiped own
        rw [hw] at R7
        have hF7 : ¬ MF F7 D := fun q => hF6 (m7 D q)
        have R8 := R7.loose2 (o := .lst (acc ++ [z])) hI6 hF7 (.lst hD6)
        have xs6 := xs5.trans x6
        have hDH : MF Fs D ∨ H D = none := by
          cases q : H D with
          | none => exact .inr rfl
          | some u =>
            by_cases mm : MF Fs D
            · exact .inl mm
            · exfalso
              rw [x1.g.back mm hD] at q
              cases q
        refine ⟨I6, wipeE e6 own, F7, acc ++ [z], dacc ++ [y], rs, R8, ⟨xs6.g.set hDH (.lst hD6), fun a q => xs6.fp a (m7 a q)⟩, ex5.trans x6.g.ex, upd_same, hI6, hF7, racc'.append (RpL.cons r6 RpL.nil), by simp; omega, h7, by rw [hys]; simp⟩
    · have hie : i = ds.length := by omega
      subst hie
      refine .inl ⟨it.2 (Nat.le_refl _), ?_⟩
      rw [List.drop_length] at hrun
      simp only [lcRun] at hrun
      cases hrun
      rw [List.append_nil] at hys
      subst hys
      have hDH : MF Fs D ∨ H D = none := by
        cases q : H D with
        | none => exact .inr rfl
        | some u =>
          by_cases mm : MF Fs D
          · exact .inl mm
          · exfalso
            rw [x1.g.back mm hD] at q
            cases q
      exact k I2 F2 Hc D acc R2.unwiped x2 hDc hI2 hF2 hDH racc
theorem lc_run {K : PySem.W.Frag} {mg : Str → Option Value} {own : List Nat} {mi : M (List D)} {t : Tg} {c : M Bool} {m : M D} {σ : L2.St} {H : Hp} {Q : VK} (h : tE K mg (mLc own mi t c m) σ H Q) :
    tLc (tI K mg mi) (tG K mg (ownA own) t) (tT K mg c) (tE K mg m) own σ H Q := by
  obtain ⟨I, e, Fs, R, d, e', hm, k⟩ := h
  obtain ⟨⟨ds, e1⟩, h1, hm⟩ := Option.bind_eq_some_iff.mp hm
  have hm : (if ds.length ≤ 1000000 then (lcRun own t c m ds (wipeE e1 own)).map fun r => (D.lst r.1, r.2) else none) = some (d, e') := hm
  split at hm
  case isFalse => cases hm
  rename_i hlen
  obtain ⟨⟨ys, e2⟩, h2, hm⟩ := Option.map_eq_some_iff.mp hm
  cases hm
  refine lc_gen ⟨I, e, Fs, R, ds, e1, ys, _, h1, hlen, h2, fun I2 F2 Hc D acc R2 x2 hDc hI2 hF2 hDH racc => ?_⟩
  have R3 := R2.freeze hDc hI2 hF2 (.lst hDc)
  refine k (.ref D) (upd I2 D (.lst acc)) F2 Hc R3 ⟨⟨fun a u q => ?_, x2.g.fr, fun a q => ?_, fun t => (x2.g.tb t).frz (.lst hDc), x2.g.tl⟩, x2.fp⟩ ?_
  · rw [upd_ne (fun z => by subst z; rw [x2.g.ex a u q] at hI2; cases hI2)]
    exact x2.g.ex a u q
  · by_cases z : a = D
    · subst z
      rcases hDH with y | y
      · exact .inr (.inr y)
      · exact .inr (.inl y)
    · rw [upd_ne z] at q
      exact x2.g.new a q
  · simp only [Rp]
    exact ⟨D, acc, rfl, upd_same, racc.mono (Ex.new hI2) _ _⟩
/-- a comprehension's list, owned -/
def mLcW (own : List Nat) (mi : M (List D)) (t : Tg) (c : M Bool) (m : M D) : M W := fun e => (mi e).bind fun x => if x.1.length ≤ 1000000 then (lcRun own t c m x.1 (wipeE x.2 own)).map fun r => (.ol (r.1.map .p), r.2) else none
theorem roL_p {K : PySem.W.Frag} {mg : Str → Option Value} {I H : Hp} : ∀ {ds : List D} {xs : List V}, RpL K mg I ds xs → RoL K mg I H (ds.map .p) xs []
  | [], xs, h => by simp only [RpL] at h; subst h; simp [RoL]
  | d :: ds, xs, h => by
    simp only [RpL] at h
    obtain ⟨x, r, rfl, h1, h2⟩ := h
    simp only [List.map_cons, RoL]
    exact ⟨x, r, [], [], rfl, rfl, by simp only [Ro]; exact ⟨h1, trivial⟩, roL_p h2⟩
theorem lcW_run {K : PySem.W.Frag} {mg : Str → Option Value} {Wx : WX} {own : List Nat} {mi : M (List D)} {t : Tg} {c : M Bool} {m : M D} {σ : L2.St} {H : Hp} {Q : VK} (h : tO K mg Wx (mLcW own mi t c m) σ H Q) :
    tLc (tI K mg mi) (tG K mg (ownA own) t) (tT K mg c) (tE K mg m) own σ H Q := by
  obtain ⟨I, e, Fs, R, d, e', hm, k, _⟩ := h
  obtain ⟨⟨ds, e1⟩, h1, hm⟩ := Option.bind_eq_some_iff.mp hm
  have hm : (if ds.length ≤ 1000000 then (lcRun own t c m ds (wipeE e1 own)).map fun r => (W.ol (r.1.map .p), r.2) else none) = some (d, e') := hm
  split at hm
  case isFalse => cases hm
  rename_i hlen
  obtain ⟨⟨ys, e2⟩, h2, hm⟩ := Option.map_eq_some_iff.mp hm
  cases hm
  refine lc_gen ⟨I, e, Fs, R, ds, e1, ys, _, h1, hlen, h2, fun I2 F2 Hc D acc R2 x2 hDc hI2 hF2 hDH racc => ?_⟩
  refine k (.ref D) I2 F2 Hc [D] R2 x2 ⟨?_, by simp, fun a h => by rw [List.mem_singleton.mp h]; exact hI2, fun a h m => by rw [List.mem_singleton.mp h] at m; exact hF2 m⟩ fun a h => by rw [List.mem_singleton.mp h]; exact hDH
  simp only [Ro]
  exact ⟨D, acc, [], rfl, hDc, rfl, roL_p racc⟩
theorem se_lc {X : Cx} {elt tg iter : Expr} {ifs : List Expr} {scope : Scope} {own : List (Str × Nat)} {pos : Pos} {mi : M (List D)} {t : Tg} {c : M Bool} {m : M D} (hc : X.calm = true) (hN : X.N.Nodup) (ok : BlkOk X.N X.env.scope scope own) (hi : SI X tg iter mi)
    (hg : ∀ (s : Shared) (H : Hp) (C : Addr) (cl : List (Str × Addr)) (fp : List Addr), SG (X.blk s H scope (compEnvC scope cl C X.env) fp) (ownA (own.map (·.2))) tg t) (ht : ∀ (s : Shared) (H : Hp) (C : Addr) (cl : List (Str × Addr)) (fp : List Addr), STs (X.blk s H scope (compEnvC scope cl C X.env) fp) ifs c)
    (he : ∀ (s : Shared) (H : Hp) (C : Addr) (cl : List (Str × Addr)) (fp : List Addr), SE (X.blk s H scope (compEnvC scope cl C X.env) fp) elt m) (hs : ∀ x, foldedSetIterable iter X.env x = pure x := by intro _; rfl) :
    SE X (.ListComp elt [⟨tg, iter, ifs, 0⟩] scope pos) (mLc (own.map (·.2)) mi t c m) := PE.imp (pe_lc (g := tG X.K X.mg (ownA (List.map (fun (x : Str × Nat) => x.2) own)) t) (tt := tT X.K X.mg c) (te := tE X.K X.mg m) hc hN hi ok hg ht he hs) fun σ H Q h => lc_run h
theorem so_lcW {X : Cx} {Wx : WX} {elt tg iter : Expr} {ifs : List Expr} {scope : Scope} {own : List (Str × Nat)} {pos : Pos} {mi : M (List D)} {t : Tg} {c : M Bool} {m : M D} (hc : X.calm = true) (hN : X.N.Nodup) (ok : BlkOk X.N X.env.scope scope own) (hi : SI X tg iter mi)
    (hg : ∀ (s : Shared) (H : Hp) (C : Addr) (cl : List (Str × Addr)) (fp : List Addr), SG (X.blk s H scope (compEnvC scope cl C X.env) fp) (ownA (own.map (·.2))) tg t) (ht : ∀ (s : Shared) (H : Hp) (C : Addr) (cl : List (Str × Addr)) (fp : List Addr), STs (X.blk s H scope (compEnvC scope cl C X.env) fp) ifs c)
    (he : ∀ (s : Shared) (H : Hp) (C : Addr) (cl : List (Str × Addr)) (fp : List Addr), SE (X.blk s H scope (compEnvC scope cl C X.env) fp) elt m) (hs : ∀ x, foldedSetIterable iter X.env x = pure x := by intro _; rfl) :
    SO X Wx (.ListComp elt [⟨tg, iter, ifs, 0⟩] scope pos) (mLcW (own.map (·.2)) mi t c m) := PE.imp (pe_lc (g := tG X.K X.mg (ownA (List.map (fun (x : Str × Nat) => x.2) own)) t) (tt := tT X.K X.mg c) (te := tE X.K X.mg m) hc hN hi ok hg ht he hs) fun σ H Q h => lcW_run h
end MV

namespace MV
open PySem L2
variable [TB]

/-! ### loops -/
def forRun (t : Tg) (b : S) : List D → Env → Option SR
  | [], e => some (.nx e)
  | d :: ds, e => (t d e).bind fun e1 => (b e1).bind fun r => match r with
    | .nx e2 => forRun t b ds e2
    | .ct e2 => forRun t b ds e2
    | .bk e2 => some (.nx e2)
    | .rt w e2 => some (.rt w e2)
    | .ex x e2 => some (.ex x e2)
def sFor (mi : M (List D)) (t : Tg) (b : S) : S := fun e => (mi e).bind fun x => forRun t b x.1 x.2
theorem for_run {K : PySem.W.Frag} {mg : Str → Option Value} {A : Nat → Bool} {Wx : WX} {mi : M (List D)} {t : Tg} {b : S} {Dd : Ends} {σ : L2.St} {H : Hp} (h : tS K mg A Wx (sFor mi t b) Dd σ H) : tFor (tI K mg mi) (tG K mg A t) (tS K mg A Wx b) Dd σ H := by
  obtain ⟨I, e, Fs, R, r, hm, k⟩ := h
  obtain ⟨⟨ds, e1⟩, h1, hm⟩ := Option.bind_eq_some_iff.mp hm
  refine ⟨I, e, Fs, R, ds, e1, h1, fun J I1 F1 H1 R1 x1 hJ => ?_⟩
  refine ⟨fun i n σc Hc => n = ds.length - i ∧ i ≤ ds.length ∧ ∃ I2 ec F2, Rel K mg I2 ec F2 σc Hc ∧ Ext Fs I H F2 I2 Hc ∧ Ex I1 I2 ∧ Agr A σ σc ∧ forRun t b (ds.drop i) ec = some r, ⟨ds.length, by simp, Nat.zero_le _, I1, e1, F1, R1, x1, Ex.refl _, Agr.refl, by rw [List.drop_zero]; exact hm⟩, ?_⟩
  rintro i n σc Hc ⟨rfl, hi, I2, ec, F2, R2, x2, ex2, ag, hrun⟩
  have it := hJ i I2 Hc ex2 R2.sub
  by_cases hlt : i < ds.length
  · refine .inr ?_
    obtain ⟨hgo, hy⟩ := it.1 _ (List.getElem?_eq_getElem hlt)
    refine ⟨hgo, fun σ' H' => ∃ I2 ec F2, Rel K mg I2 ec F2 σ' H' ∧ Ext Fs I H F2 I2 H' ∧ Ex I1 I2 ∧ Agr A σ σ' ∧ forRun t b (ds.drop (i + 1)) ec = some r, fun σ' H' h => ⟨ds.length - (i + 1), by omega, rfl, hlt, h⟩, fun v H3 hv => ?_⟩
    obtain ⟨I3, g3, r3⟩ := hy v H3 hv
    obtain ⟨R3, x3⟩ := g3.rel R2
    rw [List.drop_eq_getElem_cons hlt] at hrun
    simp only [forRun] at hrun
    obtain ⟨e4, h4, hrun⟩ := Option.bind_eq_some_iff.mp hrun
    obtain ⟨r5, h5, hrun⟩ := Option.bind_eq_some_iff.mp hrun
    refine ⟨I3, ec, F2, ds[i], R3, r3, e4, h4, fun σ4 F4 R4 m4 a4 _ => ⟨I3, e4, F4, R4, r5, h5, ?_⟩⟩
    have x4 : Ext F2 I3 H3 F4 I3 H3 := ⟨Gx.refl, fun a q => .inl (m4 a q)⟩
    have xs := (x2.trans x3).trans x4
    have ex3 := ex2.trans x3.g.ex
    have ag4 := ag.trans a4
    cases r5 with
    | nx e2 => exact fun σ' I' Fs' H' R' x' a' => ⟨I', e2, Fs', R', xs.trans x', ex3.trans x'.g.ex, ag4.trans a', hrun⟩
    | ct e2 => exact fun σ' I' Fs' H' R' x' a' => ⟨I', e2, Fs', R', xs.trans x', ex3.trans x'.g.ex, ag4.trans a', hrun⟩
    | bk e2 =>
      cases hrun
      exact k.from xs ag4
    | rt w e2 =>
      cases hrun
      exact k.from xs ag4
    | ex w e2 =>
      cases hrun
      exact k.from xs ag4
  · have hie : i = ds.length := by omega
    subst hie
    rw [List.drop_length] at hrun
    cases hrun
    exact .inl ⟨it.2 (Nat.le_refl _), k σc I2 F2 Hc R2 x2 ag⟩
def whRun (c : M Bool) (b : S) : Nat → Env → Option SR
  | 0, _ => none
  | n + 1, e => (c e).bind fun x => if x.1 = true then (b x.2).bind fun r => match r with
    | .nx e2 => whRun c b n e2
    | .ct e2 => whRun c b n e2
    | .bk e2 => some (.nx e2)
    | .rt w e2 => some (.rt w e2)
    | .ex x e2 => some (.ex x e2)
    else some (.nx x.2)
def sWh (n : Nat) (c : M Bool) (b : S) : S := whRun c b n
theorem wh_run {K : PySem.W.Frag} {mg : Str → Option Value} {A : Nat → Bool} {Wx : WX} {n : Nat} {c : M Bool} {b : S} {Dd : Ends} {σ : L2.St} {H : Hp} (h : tS K mg A Wx (sWh n c b) Dd σ H) : tWhile (tT K mg c) (tS K mg A Wx b) Dd σ H := by
  obtain ⟨I, e, Fs, R, r, hm, k⟩ := h
  refine ⟨fun i σc Hc => ∃ I2 ec F2, Rel K mg I2 ec F2 σc Hc ∧ Ext Fs I H F2 I2 Hc ∧ Agr A σ σc ∧ whRun c b i ec = some r, ⟨n, I, e, Fs, R, Ext.refl, Agr.refl, hm⟩, ?_⟩
  rintro i σc Hc ⟨I2, ec, F2, R2, x2, ag, hrun⟩
  cases i with
  | zero => cases hrun
  | succ i =>
    simp only [whRun] at hrun
    obtain ⟨⟨bb, e3⟩, h3, hrun⟩ := Option.bind_eq_some_iff.mp hrun
    refine ⟨I2, ec, F2, R2, bb, e3, h3, fun I3 F3 H3 R3 x3 => ?_⟩
    have xs := x2.trans x3
    cases bb with
    | false =>
      show Dd.nx σc H3
      rw [if_neg Bool.false_ne_true] at hrun
      cases hrun
      exact k σc I3 F3 H3 R3 xs ag
    | true =>
      rw [if_pos rfl] at hrun
      obtain ⟨r5, h5, hrun⟩ := Option.bind_eq_some_iff.mp hrun
      refine iteT ?_
      refine ⟨fun σ' H' => ∃ I2 ec F2, Rel K mg I2 ec F2 σ' H' ∧ Ext Fs I H F2 I2 H' ∧ Agr A σ σ' ∧ whRun c b i ec = some r, fun σ' H' h => ⟨i, Nat.lt_succ_self _, h⟩, I3, e3, F3, R3, r5, h5, ?_⟩
      cases r5 with
      | nx e2 => exact fun σ' I' Fs' H' R' x' a' => ⟨I', e2, Fs', R', xs.trans x', ag.trans a', hrun⟩
      | ct e2 => exact fun σ' I' Fs' H' R' x' a' => ⟨I', e2, Fs', R', xs.trans x', ag.trans a', hrun⟩
      | bk e2 =>
        cases hrun
        exact k.from xs ag
      | rt w e2 =>
        cases hrun
        exact k.from xs ag
      | ex w e2 =>
        cases hrun
        exact k.from xs ag
section
variable {X : Cx} {A : Nat → Bool} {Wx : WX} {tg iter c : Expr} {body : List Stmt} {mi : M (List D)} {t : Tg} {b : S} {mc : M Bool} {pos : Pos}
theorem ss_for (hp : PassesOwn (model X.prog X.w) X.A X.env X.xe) (hc : X.calm = true) (hi : SI X tg iter mi) (hg : SG X A tg t) (hb : SB X A Wx body b)
    (hs : ∀ x, foldedSetIterable iter X.env x = pure x := by intro _; rfl) : SS X A Wx (.For tg iter body [] pos) (sFor mi t b) := PS.imp (ps_for hp hc hi hg hb hs) fun D σ H h => for_run h
theorem ss_while {n : Nat} (hp : PassesOwn (model X.prog X.w) X.A X.env X.xe) (hc : ST X c mc) (hb : SB X A Wx body b) : SS X A Wx (.While c body [] pos) (sWh n mc b) := PS.imp (ps_while hp hc hb) fun D σ H h => wh_run h
end

/-! ### a def by its body -/
def outs : List Bool → Env → Env
  | [], _ => []
  | b :: bs, e => (if b = true then (e.head?).join else none) :: outs bs e.tail
def ioA (io : List Bool) : Nat → Bool := fun i => !(io.getD i false)
def fsem (n : Nat) (io : List Bool) (m : S) : FSem := fun ws => match m (ws.map some ++ List.replicate (n - ws.length) none) with
  | some (.nx e) => some (.p .none, outs io e)
  | some (.rt w e) => some (w, outs io e)
  | some (.ex x e) => some (.ex x, outs io e)
  | _ => none
section
variable {K : PySem.W.Frag} {mg : Str → Option Value} {I H : Hp} {e : Env} {Fs : Fp} {σ : L2.St}
theorem Rel.pad (R : Rel K mg I e Fs σ H) (k : Nat) : ∃ F', Rel K mg I (e ++ List.replicate k none) F' (σ ++ List.replicate k none) H ∧ ∀ a, MF F' a → MF Fs a := by
  refine ⟨fun i => if i < e.length then Fs i else [], ⟨R.sub, by simp [R.len], fun i w q => ?_, fun i => ?_, fun i j a h1 h2 => ?_, fun i a h => ?_, fun i a h => ?_, R.tb⟩, fun a ⟨i, h⟩ => ?_⟩
  · by_cases hi : i < e.length
    · rw [List.getElem?_append_left hi] at q
      rw [if_pos hi, List.getElem?_append_left (by rw [← R.len]; exact hi)]
      exact R.at_ i w q
    · rw [List.getElem?_append_right (by omega), List.getElem?_replicate] at q
      split at q <;> cases q
  · split
    · exact R.nd i
    · exact List.nodup_nil
  · split at h1
    · split at h2
      · exact R.dj i j a h1 h2
      · cases h2
    · cases h1
  · split at h
    · exact R.out i a h
    · cases h
  · split at h
    · exact R.live i a h
    · cases h
  · have h : a ∈ (if i < e.length then Fs i else []) := h
    split at h
    · exact ⟨i, h⟩
    · cases h
theorem outs_get : ∀ {io : List Bool} {e : Env} {i : Nat} {w : W}, (outs io e)[i]? = some (some w) → io[i]? = some true ∧ e[i]? = some (some w)
  | [], e, i, w, h => by simp [outs] at h
  | b :: bs, e, 0, w, h => by
    have h : some (if b = true then (e.head?).join else none) = some (some w) := by simpa [outs] using h
    cases b with
    | false => simp at h
    | true =>
      refine ⟨rfl, ?_⟩
      cases e with
      | nil => simp at h
      | cons x e => simpa using h
  | b :: bs, e, i + 1, w, h => by
    have h : (outs bs e.tail)[i]? = some (some w) := by simpa [outs] using h
    obtain ⟨h1, h2⟩ := outs_get h
    refine ⟨by simpa using h1, ?_⟩
    cases e with
    | nil => simp at h2
    | cons x e => simpa using h2
theorem outs_len : ∀ {io : List Bool} {e : Env}, (outs io e).length = io.length
  | [], e => rfl
  | b :: bs, e => by simp [outs, outs_len (io := bs)]
theorem Rel.outsR {io : List Bool} {τ : L2.St} (R : Rel K mg I e Fs σ H) (hl : io.length = τ.length) (h : ∀ i : Nat, io[i]? = some true → σ[i]? = τ[i]?) : ∃ Fo, Rel K mg I (outs io e) Fo τ H ∧ ∀ a, MF Fo a → MF Fs a := by
  refine ⟨fun (i : Nat) => if io[i]? = some true then Fs i else [], ⟨R.sub, by rw [outs_len, hl], fun i w q => ?_, fun i => ?_, fun i j a h1 h2 => ?_, fun i a h => ?_, fun i a h => ?_, R.tb⟩, fun a ⟨i, h⟩ => ?_⟩
  · obtain ⟨h1, h2⟩ := outs_get q
    rw [if_pos h1, ← h i h1]
    exact R.at_ i w h2
  · split
    · exact R.nd i
    · exact List.nodup_nil
  · split at h1
    · split at h2
      · exact R.dj i j a h1 h2
      · cases h2
    · cases h1
  · split at h
    · exact R.out i a h
    · cases h
  · split at h
    · exact R.live i a h
    · cases h
  · have h : a ∈ (if io[i]? = some true then Fs i else []) := h
    split at h
    · exact ⟨i, h⟩
    · cases h
end
theorem fsem_run {K : PySem.W.Frag} {mg : Str → Option Value} {N : List Str} {n : Nat} {io : List Bool} {m : S} {vs : List V} {H : Hp} {Q : VK} {E : XK} (hio : io.length = n) (hn : n ≤ N.length) (h : spF K mg n (fsem N.length io m) vs H Q E) :
    tS K mg (ioA io) (fun c d _ H' => E c d H') m { nx := fun _ H' => Q .non H', rt := Q } (L2.start N vs) H := by
  obtain ⟨I, ws, Fa, hl, R, w, oe, hf, k, kx⟩ := h
  have hvl : vs.length = n := by have := R.len; simp at this; omega
  obtain ⟨F1, R1, m1⟩ := R.pad (N.length - vs.length)
  have es : L2.start N vs = vs.map some ++ List.replicate (N.length - vs.length) none := rfl
  rw [es]
  have x0 : Ext Fa I H F1 I H := ⟨Gx.refl, fun a q => .inl (m1 a q)⟩
  unfold fsem at hf
  rw [show N.length - ws.length = N.length - vs.length by omega] at hf
  have keep : ∀ σ' : L2.St, Agr (ioA io) (vs.map some ++ List.replicate (N.length - vs.length) none) σ' → ∀ i : Nat, io[i]? = some true → σ'[i]? = (vs.map some)[i]? := fun σ' ag i hi => by
    have hlt : i < vs.length := by
      have := (List.getElem?_eq_some_iff.mp hi).1
      omega
    rw [ag i (by simp [ioA, List.getD, hi]), List.getElem?_append_left (by simpa using hlt)]
  split at hf
  · rename_i e' hr
    cases hf
    refine ⟨I, _, F1, R1, .nx e', hr, fun σ' I' Fs' H' R' x' ag => ?_⟩
    obtain ⟨Fo, Ro', mo⟩ := R'.outsR (io := io) (τ := vs.map some) (by simp; omega) (keep σ' ag)
    have xx := x0.trans x'
    exact k .non I' Fo H' [] Ro' ⟨⟨xx.g.ex, fun a u q mm nt => xx.g.fr a u q (fun z => mm z) nt, xx.g.new, xx.g.tb, fun a ps q mm => xx.g.tl a ps q fun z => mm z⟩, fun a q => xx.fp a (mo a q)⟩ (.pure (by simp only [Rp])) fun _ z => by cases z
  · rename_i w' e' hr
    cases hf
    refine ⟨I, _, F1, R1, .rt w e', hr, fun v σ' I' Fs' H' F R' x' ag o hF => ?_⟩
    obtain ⟨Fo, Ro', mo⟩ := R'.outsR (io := io) (τ := vs.map some) (by simp; omega) (keep σ' ag)
    have xx := x0.trans x'
    refine k v I' Fo H' F Ro' ⟨⟨xx.g.ex, fun a u q mm nt => xx.g.fr a u q (fun z => mm z) nt, xx.g.new, xx.g.tb, fun a ps q mm => xx.g.tl a ps q fun z => mm z⟩, fun a q => xx.fp a (mo a q)⟩ ⟨o.ro, o.nd, o.out, fun a ha q => o.dj a ha (mo a q)⟩ fun a ha => ?_
    rcases hF a ha with z | z
    · exact .inl (m1 a z)
    · exact .inr z
  · rename_i y e' hr
    cases hf
    refine ⟨I, _, F1, R1, .ex y e', hr, fun cls d σ' I' Fs' H' R' x' ag xr => ?_⟩
    obtain ⟨Fo, Ro', mo⟩ := R'.outsR (io := io) (τ := vs.map some) (by simp; omega) (keep σ' ag)
    have xx := x0.trans x'
    exact kx y rfl cls d I' Fo H' Ro' ⟨⟨xx.g.ex, fun a u q mm nt => xx.g.fr a u q (fun z => mm z) nt, xx.g.new, xx.g.tb, fun a ps q mm => xx.g.tl a ps q fun z => mm z⟩, fun a q => xx.fp a (mo a q)⟩ xr
  · cases hf
theorem takesN0 {X : Cx} : L2N.Takes X (fun _ _ _ _ => False) := fun _ _ ⟨_, _, _, _, _, _, _, _, _, _, _, _, _, _, _, _, z⟩ => z.elim
/-- where one stands: what is raised is taken, loops let it pass -/
structure Ctz (X : Cx) (Wx : WX) : Prop where
  tk : L2N.Takes X Wx
  po : PassesOwn (model X.prog X.w) X.A X.env X.xe
abbrev WB (E : XK) : WX := fun c d _ H' => E c d H'
theorem Ctz.body {P : Program} {w : World} {K : PySem.W.Frag} {mg : Str → Option Value} {base : Heap} {N : List Str} {qual : Str} {scope : Scope} {f : Addr} {cdv : Value} {A : Around} {outer : List PySem.Env} {s : Shared} {H : Hp} {E : XK} : Ctz (cxOf (L2N.CX P w) P w K mg base N qual scope f cdv A outer s H E) (WB E) :=
  ⟨L2N.takes_of rfl rfl rfl rfl, passes_of rfl⟩
section
variable {P : Program} {w : World} {K : PySem.W.Frag} {mg : Str → Option Value} {base : Heap}
theorem fn_sem {x qual : Str} {params : Arguments} {body : List Stmt} {scope : Scope} {dvs : List V} {kws : List (Str × V)} {f : Addr} {fd : FuncData} {N ps : List Str} {k : Nat} {io : List Bool} {m : S} (F : FunD K x qual params body scope dvs kws f fd) (Sc : FnScope N ps scope) (hio : io.length = ps.length)
    (hb : ∀ (cdv : Value) (A : Around) (outer : List PySem.Env) (s : Shared) (H : Hp) (E : XK), Room k (A.deeper (PyProof.Rows.envOfC qual scope s.heap.objs.size f cdv)) → Ctz (cxOf (L2N.CX P w) P w K mg base N qual scope f cdv A outer s H E) (WB E) → SB (cxOf (L2N.CX P w) P w K mg base N qual scope f cdv A outer s H E) (ioA io) (WB E) body m) :
    FnOk P w K mg base (L2N.CX P w) (k + 1) f fd ps (spF K mg ps.length (fsem N.length io m)) := by
  have hpl : ps.length ≤ N.length := by have := congrArg List.length Sc.pre; rw [List.length_take] at this; omega
  refine F.ok Sc (fun vs H Q E h => spF_len h) fun cdv A outer s H vs Q E hr h => ?_
  exact ⟨tS K mg (ioA io) (WB E) m, hb cdv A outer s H E hr Ctz.body, fsem_run hio hpl h⟩
end
section
variable {X : Cx} {Wx : WX} {k : Nat} {f C : Addr} {fd : FuncData} {ps : List Str} {n : Nat} {g : FSem} {x mth : Str} {p pos apos : Pos} {a o : Expr} {es : List Expr} {ma : M (List Arg)}
/-- f(a, ..) -/
theorem so_call (tk : L2N.Takes X Wx) (F : FnOk X.prog X.w X.K X.mg X.base (L2N.CX X.prog X.w) k f fd ps (spF X.K X.mg n g)) (hr : Room k X.A) (hg : Gl X x) (hm : X.mg x = some (.ref f)) (hk : PySem.W.keepIn X.K (.ref f) = true) (hb : Binds X.K fd ps [])
    (ha : SA X (a :: es) ma) (hn : ∀ as e e', ma e = some (as, e') → as.length = n) (hdb : (x == ("__debug__" : Str)) = false := by decide) (he : starEach (a :: es) X.env = (false, eval a X.env) :: starEach es X.env := by rfl) (hpl : (backTo pos (starEach es X.env)).any (·.1) = false := by rfl) :
    SO X Wx (.Call (.Name x p) (a :: es) [] pos) (mCall g ma) := PE.imp (pe_callS (E := WE Wx) F hr hg hm hk hb (L2N.passAt tk) ha hdb he hpl) fun σ H Q h => call_step hn h
end
theorem len_nil : ∀ (as : List Arg) (e e' : Env), aNil e = some (as, e') → as.length = 0 := fun as e e' h => by cases h; rfl
theorem len_d {m : M D} {r : M (List Arg)} {n : Nat} (hr : ∀ (as : List Arg) (e e' : Env), r e = some (as, e') → as.length = n) : ∀ (as : List Arg) (e e' : Env), aD m r e = some (as, e') → as.length = n + 1 := fun as e e' h => by
  obtain ⟨⟨x, e1⟩, h1, h⟩ := Option.bind_eq_some_iff.mp h
  obtain ⟨⟨y, e2⟩, h2, h⟩ := Option.map_eq_some_iff.mp h
  cases h
  rw [List.length_cons, hr _ _ _ h2]
theorem len_io {i : Nat} {r : M (List Arg)} {n : Nat} (hr : ∀ (as : List Arg) (e e' : Env), r e = some (as, e') → as.length = n) : ∀ (as : List Arg) (e e' : Env), aIO i r e = some (as, e') → as.length = n + 1 := fun as e e' h => by
  unfold aIO at h
  split at h
  · obtain ⟨⟨y, e2⟩, h2, h⟩ := Option.map_eq_some_iff.mp h
    cases h
    rw [List.length_cons, hr _ _ _ h2]
  · cases h
end MV

namespace MV
open PySem L2
variable [TB]

def LIM : Nat := 1000000
theorem lim_le {n : Nat} (h : n ≤ LIM) : n ≤ sizeLine := Nat.le_trans h (by rw [sizeLine_eq]; decide)
theorem lim_lt {n : Nat} (h : n < LIM) : n < sizeLine := Nat.lt_of_lt_of_le h (by rw [sizeLine_eq]; decide)
section
variable {K : PySem.W.Frag} {mg : Str → Option Value} {I H : Hp}
theorem sub_none {p : Addr} (s : Ex I H) (h : H p = none) : I p = none := by
  cases q : I p with
  | none => rfl
  | some u => rw [s p u q] at h; cases h
theorem Rp.new {p : Addr} {o : HO} {d : D} {v : V} (s : Ex I H) (h : H p = none) (r : Rp K mg I d v) : Rp K mg (upd I p o) d v := r.mono (Ex.new (sub_none s h)) _ _
theorem RpL.new {p : Addr} {o : HO} {ds : List D} {xs : List V} (s : Ex I H) (h : H p = none) (r : RpL K mg I ds xs) : RpL K mg (upd I p o) ds xs := r.mono (Ex.new (sub_none s h)) _ _
theorem rp_lst {p : Addr} {ds : List D} {xs : List V} (s : Ex I H) (h : H p = none) (r : RpL K mg I ds xs) : Rp K mg (upd I p (.lst xs)) (.lst ds) (.ref p) := by
  simp only [Rp]; exact ⟨p, xs, rfl, upd_same, r.new s h⟩
theorem rp_tup {p : Addr} {ds : List D} {xs : List V} (s : Ex I H) (h : H p = none) (r : RpL K mg I ds xs) : Rp K mg (upd I p (.tup xs)) (.tup ds) (.ref p) := by
  simp only [Rp]; exact ⟨p, xs, rfl, .inl (.inl upd_same), r.new s h⟩
theorem rp_int {i : Int} : Rp K mg I (.int i) (.int i) := by unfold Rp; rfl
theorem rp_bool {i : Bool} : Rp K mg I (.bool i) (.bl i) := by unfold Rp; rfl
theorem rp_str {i : Str} : Rp K mg I (.str i) (.str i) := by unfold Rp; rfl
theorem rp_none : Rp K mg I .none .non := by unfold Rp; rfl

/-! ### arithmetic -/
def dAdd : D → D → Option D
  | .int i, .int j => some (.int (i + j))
  | .str a, .str b => if a.length + b.length ≤ LIM then some (.str (a ++ b)) else none
  | .lst a, .lst b => if a.length + b.length ≤ LIM then some (.lst (a ++ b)) else none
  | .tup a, .tup b => if a.length + b.length ≤ LIM then some (.tup (a ++ b)) else none
  | _, _ => none
def rAddS : R2 := fun x y H Q => ∃ i j, x = .str i ∧ y = .str j ∧ i.length + j.length ≤ sizeLine ∧ Q (.str (i ++ j)) H
def rAddD (K : PySem.W.Frag) : R2 := fun x y H Q => rI0 (fun i j => .int (i + j)) x y H Q ∨ rAddS x y H Q ∨ rCat x y H Q ∨ rCatA K x y H Q
theorem op_addD {X : Cx} : OpR X (binaryOp .Add) (rAddD X.K) := op_add.or (OpR.or (r := rAddS) op_add_str (op_cat.or op_catA))
theorem od_add : OpD K mg (rAddD K) dAdd := by
  intro I H x y z v u Q s rx ry e k
  unfold dAdd at e
  split at e
  · cases e
    simp only [Rp] at rx ry
    subst rx ry
    exact .inl ⟨_, _, rfl, rfl, k _ I H .same rp_int⟩
  · split at e
    · rename_i hz
      cases e
      simp only [Rp] at rx ry
      subst rx ry
      exact .inr (.inl ⟨_, _, rfl, rfl, lim_le hz, k _ I H .same rp_str⟩)
    · cases e
  · split at e
    · rename_i hz
      cases e
      simp only [Rp] at rx ry
      obtain ⟨a, xs, rfl, h1, h2⟩ := rx
      obtain ⟨b, ys, rfl, h3, h4⟩ := ry
      refine .inr (.inr (.inl ⟨a, b, xs, ys, rfl, rfl, s _ _ h1, s _ _ h3, by rw [← h2.length, ← h4.length]; exact lim_le hz, fun p hp => ?_⟩))
      exact k _ _ _ (.new p _ hp) (rp_lst s hp (h2.append h4))
    · cases e
  · split at e
    · rename_i xs0 ys0 hz
      cases e
      have rx' := rx
      have ry' := ry
      simp only [Rp] at rx ry
      obtain ⟨a, xs, rfl, h1, h2⟩ := rx
      obtain ⟨b, ys, rfl, h3, h4⟩ := ry
      refine .inr (.inr (.inr ⟨a, b, xs, ys, rfl, rfl, ex_t s h1, ex_t s h3, by rw [← h2.length, ← h4.length]; exact lim_le hz, fun hx => ?_, fun _ hy => ?_, fun _ _ p hp => ?_⟩))
      · subst hx
        have e0 := h2.length
        cases xs0 with
        | nil => exact k _ I H .same (by simpa using ry')
        | cons d ds => simp at e0
      · subst hy
        have e0 := h4.length
        cases ys0 with
        | nil => exact k _ I H .same (by simpa using rx')
        | cons d ds => simp at e0
      · exact k _ _ _ (.new p _ hp) (rp_tup s hp (h2.append h4))
    · cases e
  · cases e
/-- ints in, a value out -/
def dI (f : Int → Int → Option D) : D → D → Option D
  | .int i, .int j => f i j
  | _, _ => none
theorem od_I0 {g : Int → Int → V} {f : Int → Int → D} (h : ∀ i j I, Rp K mg I (f i j) (g i j)) : OpD K mg (rI0 g) (dI fun i j => some (f i j)) := by
  intro I H x y z v u Q s rx ry e k
  unfold dI at e
  split at e
  · cases e
    simp only [Rp] at rx ry
    subst rx ry
    exact ⟨_, _, rfl, rfl, k _ I H .same (h _ _ _)⟩
  · cases e
theorem od_I {C : Int → Int → Prop} [∀ i j, Decidable (C i j)] {g : Int → Int → V} {f : Int → Int → D} (h : ∀ i j I, Rp K mg I (f i j) (g i j)) : OpD K mg (rI C g) (dI fun i j => if C i j then some (f i j) else none) := by
  intro I H x y z v u Q s rx ry e k
  unfold dI at e
  split at e
  · rename_i i j
    have e : (if C i j then some (f i j) else none) = some z := e
    split at e
    · rename_i hc
      cases e
      simp only [Rp] at rx ry
      subst rx ry
      exact ⟨_, _, rfl, rfl, hc, k _ I H .same (h _ _ _)⟩
    · cases e
  · cases e
instance (i j : Int) : Decidable (CMul i j) := by unfold CMul; exact inferInstance
instance (i j : Int) : Decidable (CDiv i j) := by unfold CDiv; exact inferInstance
instance (i j : Int) : Decidable (CPow i j) := by unfold CPow; exact inferInstance
abbrev dSub : D → D → Option D := dI fun i j => some (.int (i - j))
theorem od_sub : OpD K mg (rI0 fun i j => .int (i - j)) dSub := od_I0 fun _ _ _ => rp_int
abbrev dMod : D → D → Option D := dI fun i j => if 0 < j then some (.int (i % j)) else none
theorem od_mod : OpD K mg (rI (fun _ j => 0 < j) fun i j => .int (i % j)) dMod := od_I (C := fun _ j => 0 < j) fun _ _ _ => rp_int
abbrev dDiv : D → D → Option D := dI fun i j => if CDiv i j then some (.int (i / j)) else none
theorem od_div : OpD K mg (rI CDiv fun i j => .int (i / j)) dDiv := od_I fun _ _ _ => rp_int
abbrev dPow : D → D → Option D := dI fun i j => if CPow i j then some (.int (i ^ j.toNat)) else none
theorem od_pow : OpD K mg (rI CPow fun i j => .int (i ^ j.toNat)) dPow := od_I fun _ _ _ => rp_int
abbrev dLt : D → D → Option D := dI fun i j => some (.bool (decide (i < j)))
theorem od_lt : OpD K mg (rI0 fun i j => .bl (decide (i < j))) dLt := od_I0 fun _ _ _ => rp_bool
abbrev dLe : D → D → Option D := dI fun i j => some (.bool (decide (i ≤ j)))
theorem od_le : OpD K mg (rI0 fun i j => .bl (decide (i ≤ j))) dLe := od_I0 fun _ _ _ => rp_bool
abbrev dGt : D → D → Option D := dI fun i j => some (.bool (decide (j < i)))
theorem od_gt : OpD K mg (rI0 fun i j => .bl (decide (j < i))) dGt := od_I0 fun _ _ _ => rp_bool
abbrev dGe : D → D → Option D := dI fun i j => some (.bool (decide (j ≤ i)))
theorem od_ge : OpD K mg (rI0 fun i j => .bl (decide (j ≤ i))) dGe := od_I0 fun _ _ _ => rp_bool
/-- a text times a number -/
def repS (x : Str) (n : Int) : Str := Txt.mul x n
def dMul : D → D → Option D
  | .int i, .int j => if CMul i j then some (.int (i * j)) else none
  | .str x, .int j => if 0 ≤ j ∧ x.length * j.toNat ≤ LIM ∧ x.length ≤ LIM ∧ j ≤ 1000000 then some (.str (Txt.mul x j)) else none
  | .lst ds, .int j => if 0 ≤ j ∧ ds.length * j.toNat ≤ LIM ∧ j ≤ 1000000 then some (.lst (List.replicate j.toNat ds).flatten) else none
  | _, _ => none
def rMulS : R2 := fun x y H Q => ∃ i j, x = .str i ∧ y = .int j ∧ MulOk i j ∧ Q (.str (Txt.mul i j)) H
theorem op_mulS {X : Cx} : OpR X (binaryOp .Mult) rMulS := by
  intro pins s σ H x y v u Q I rx ry h
  obtain ⟨i, j, rfl, rfl, hz, q⟩ := h
  obtain ⟨t, rfl⟩ := rx
  obtain ⟨t', rfl⟩ := ry
  exact SB.mul hz fun t' k => ⟨.str _, H, I.tok k, ⟨_, rfl⟩, q⟩
def rMulD : R2 := fun x y H Q => rI CMul (fun i j => .int (i * j)) x y H Q ∨ rMulS x y H Q ∨ rRep x y H Q
theorem op_mulD {X : Cx} : OpR X (binaryOp .Mult) rMulD := op_mul.or (op_mulS.or op_rep)
theorem RpL.rep {ds : List D} {xs : List V} (h : RpL K mg I ds xs) : ∀ k : Nat, RpL K mg I (List.replicate k ds).flatten (List.replicate k xs).flatten
  | 0 => RpL.nil
  | k + 1 => by
    rw [List.replicate_succ, List.flatten_cons, List.replicate_succ, List.flatten_cons]
    exact h.append (RpL.rep h k)
theorem od_mul : OpD K mg rMulD dMul := by
  intro I H x y z v u Q s rx ry e k
  unfold dMul at e
  split at e
  · split at e
    · rename_i hc
      cases e
      simp only [Rp] at rx ry
      subst rx ry
      exact .inl ⟨_, _, rfl, rfl, hc, k _ I H .same rp_int⟩
    · cases e
  · rename_i x0 j
    split at e
    · rename_i hc
      cases e
      simp only [Rp] at rx ry
      subst rx ry
      obtain ⟨h0, h1, h2, h3⟩ := hc
      refine .inr (.inl ⟨_, _, rfl, rfl, ⟨by simp; omega, fun hn _ => ?_, fun hn _ => ?_⟩, k _ I H .same rp_str⟩)
      · have hj : 0 < j := by omega
        have h4 : (x0.length : Int) * j ≤ 1000000 := by
          have : ((x0.length * j.toNat : Nat) : Int) ≤ 1000000 := by
            have := h1; unfold LIM at this; omega
          rw [Int.natCast_mul] at this
          rwa [Int.toNat_of_nonneg h0] at this
        intro hgt
        have h5 : (x0.length : Int) ≤ (2 ^ 63 - 1) / j := (Int.le_ediv_iff_mul_le hj).mpr (by omega)
        omega
      · have := lim_le h1
        rw [sizeLine_eq] at this
        unfold LIM at h1
        unfold Builtin.Str.tooLong
        simp
        rw [sizeLine_eq]
        omega
    · cases e
  · split at e
    · rename_i hc
      cases e
      simp only [Rp] at rx ry
      obtain ⟨a, xs, rfl, h1, h2⟩ := rx
      subst ry
      refine .inr (.inr ⟨a, _, xs, rfl, rfl, s _ _ h1, by omega, by omega, by rw [← h2.length]; exact lim_le hc.2.1, fun p hp => ?_⟩)
      exact k _ _ _ (.new p _ hp) (rp_lst s hp (h2.rep _))
    · cases e
  · cases e
def dNeg : D → Option D
  | .int i => some (.int (-i))
  | _ => none
theorem ud_neg : UnD K mg (rU fun i => .int (-i)) dNeg := by
  intro I H x z v Q s rx e k
  unfold dNeg at e
  split at e
  · cases e
    simp only [Rp] at rx
    subst rx
    exact ⟨_, rfl, k _ I H .same rp_int⟩
  · cases e

/-! ### == -/
mutual
def toPy : D → Option PyData
  | .none => some .none
  | .bool b => some (.bool b)
  | .int i => some (.int i)
  | .str x => some (.str x)
  | .lst ds => (toPys ds).map .list
  | .fl ds => (toPys ds).map .list
  | .tup ds => (toPys ds).map .tuple
  | .ft ds => (toPys ds).map .tuple
  | _ => none
def toPys : List D → Option (List PyData)
  | [] => some []
  | d :: ds => (toPy d).bind fun x => (toPys ds).map (x :: ·)
end
mutual
theorem toPy_dp (s : Ex I H) : ∀ (d : D) (v : V) (p : PyData), Rp K mg I d v → toPy d = some p → Dp K H v p
  | .none, v, p, h, e => by simp only [Rp] at h; subst h; cases e; exact .non
  | .bool b, v, p, h, e => by simp only [Rp] at h; subst h; cases e; exact .bl b
  | .int b, v, p, h, e => by simp only [Rp] at h; subst h; cases e; exact .int b
  | .str b, v, p, h, e => by simp only [Rp] at h; subst h; cases e; exact .str b
  | .lst ds, v, p, h, e => by
    simp only [Rp] at h
    obtain ⟨a, xs, rfl, h1, h2⟩ := h
    obtain ⟨q, e1, rfl⟩ := Option.map_eq_some_iff.mp (show (toPys ds).map .list = some p from e)
    exact .lst (.of (s _ _ h1)) (toPys_dp s ds xs q h2 e1)
  | .fl ds, v, p, h, e => by
    simp only [Rp] at h
    obtain ⟨a, xs, rfl, h1, h2⟩ := h
    obtain ⟨q, e1, rfl⟩ := Option.map_eq_some_iff.mp (show (toPys ds).map .list = some p from e)
    exact .lst (ex_l s h1) (toPys_dp s ds xs q h2 e1)
  | .tup ds, v, p, h, e => by
    simp only [Rp] at h
    obtain ⟨a, xs, rfl, h1, h2⟩ := h
    obtain ⟨q, e1, rfl⟩ := Option.map_eq_some_iff.mp (show (toPys ds).map .tuple = some p from e)
    exact .tup (ex_t s h1) (toPys_dp s ds xs q h2 e1)
  | .ft ds, v, p, h, e => by
    simp only [Rp] at h
    obtain ⟨a, o, xs, rfl, h1, _, _, h2⟩ := h
    obtain ⟨q, e1, rfl⟩ := Option.map_eq_some_iff.mp (show (toPys ds).map .tuple = some p from e)
    exact .tup (.inl (.inr ⟨o, s _ _ h1⟩)) (toPys_dp s ds xs q h2 e1)
  | .dict _, v, p, h, e => by cases e
  | .inst _ _, v, p, h, e => by cases e
  | .exc _ _ _ _, v, p, h, e => by cases e
theorem toPys_dp (s : Ex I H) : ∀ (ds : List D) (xs : List V) (ps : List PyData), RpL K mg I ds xs → toPys ds = some ps → DpAll K H xs ps
  | [], xs, ps, h, e => by simp only [RpL] at h; subst h; cases e; exact .nil
  | d :: ds, xs, ps, h, e => by
    simp only [RpL] at h
    obtain ⟨x, r, rfl, h1, h2⟩ := h
    obtain ⟨p, e1, e2⟩ := Option.bind_eq_some_iff.mp (show ((toPy d).bind fun x => (toPys ds).map (x :: ·)) = some ps from e)
    obtain ⟨q, e3, rfl⟩ := Option.map_eq_some_iff.mp e2
    exact .cons (toPy_dp s d x p h1 e1) (toPys_dp s ds r q h2 e3)
end
def eqDeep (x y : D) : Option Bool := (toPy x).bind fun p => (toPy y).bind fun q => if (SeqAt.shaped p && SeqAt.shaped q) = true then some (PyData.eqv p q) else none
def eqB : D → D → Option Bool
  | .int i, .int j => some (decide (i = j))
  | .str i, .str j => some (decide (i = j))
  | .bool i, .bool j => some (decide (i = j))
  | x, y => eqDeep x y
def dEq (x y : D) : Option D := (eqB x y).map .bool
def dNe (x y : D) : Option D := (eqB x y).map fun b => .bool !b
def rEq2 (K : PySem.W.Frag) : R2 := fun x y H Q => rEq x y H Q ∨ rEqD K x y H Q
def rNe2 (K : PySem.W.Frag) : R2 := fun x y H Q => rNe x y H Q ∨ rNeD K x y H Q
theorem op_eq2 {X : Cx} (hu : X.A.units + 64 < cLine) : OpR X (compareOp .Eq) (rEq2 X.K) := op_eq.or (op_eqD hu)
theorem op_ne2 {X : Cx} (hu : X.A.units + 64 < cLine) : OpR X (compareOp .NotEq) (rNe2 X.K) := op_ne.or (op_neD hu)
theorem od_eq : OpD K mg (rEq2 K) dEq := by
  intro I H x y z v u Q s rx ry e k
  obtain ⟨b, e', rfl⟩ := Option.map_eq_some_iff.mp e
  clear e
  have e := e'
  clear e'
  unfold eqB at e
  split at e
  · cases e
    simp only [Rp] at rx ry
    subst rx ry
    exact .inl ⟨rfl, by rw [dec_int, Bool.beq_eq_decide_eq]; exact k _ I H .same rp_bool⟩
  · cases e
    simp only [Rp] at rx ry
    subst rx ry
    exact .inl ⟨rfl, by rw [dec_str, Bool.beq_eq_decide_eq]; exact k _ I H .same rp_bool⟩
  · cases e
    simp only [Rp] at rx ry
    subst rx ry
    exact .inl ⟨rfl, by rw [dec_bl, Bool.beq_eq_decide_eq]; exact k _ I H .same rp_bool⟩
  · unfold eqDeep at e
    obtain ⟨p, e1, e⟩ := Option.bind_eq_some_iff.mp e
    obtain ⟨q, e2, e⟩ := Option.bind_eq_some_iff.mp e
    split at e
    · rename_i hs
      cases e
      rw [Bool.and_eq_true] at hs
      exact .inr ⟨p, q, toPy_dp s _ _ _ rx e1, toPy_dp s _ _ _ ry e2, hs.1, hs.2, k _ I H .same rp_bool⟩
    · cases e
theorem od_ne : OpD K mg (rNe2 K) dNe := by
  intro I H x y z v u Q s rx ry e k
  obtain ⟨b, e', rfl⟩ := Option.map_eq_some_iff.mp e
  clear e
  have e := e'
  clear e'
  unfold eqB at e
  split at e
  · cases e
    simp only [Rp] at rx ry
    subst rx ry
    exact .inl ⟨rfl, by rw [dec_int, Bool.beq_eq_decide_eq]; exact k _ I H .same rp_bool⟩
  · cases e
    simp only [Rp] at rx ry
    subst rx ry
    exact .inl ⟨rfl, by rw [dec_str, Bool.beq_eq_decide_eq]; exact k _ I H .same rp_bool⟩
  · cases e
    simp only [Rp] at rx ry
    subst rx ry
    exact .inl ⟨rfl, by rw [dec_bl, Bool.beq_eq_decide_eq]; exact k _ I H .same rp_bool⟩
  · unfold eqDeep at e
    obtain ⟨p, e1, e⟩ := Option.bind_eq_some_iff.mp e
    obtain ⟨q, e2, e⟩ := Option.bind_eq_some_iff.mp e
    split at e
    · rename_i hs
      cases e
      rw [Bool.and_eq_true] at hs
      exact .inr ⟨p, q, toPy_dp s _ _ _ rx e1, toPy_dp s _ _ _ ry e2, hs.1, hs.2, k _ I H .same rp_bool⟩
    · cases e

/-! ### is None, in -/
def isNone : D → Bool
  | .none => true
  | _ => false
theorem isNone_v {d : D} {v : V} (h : Rp K mg I d v) : decide (v = .non) = isNone d := by
  cases d with
  | none => simp only [Rp] at h; subst h; rfl
  | bool b => simp only [Rp] at h; subst h; rfl
  | int b => simp only [Rp] at h; subst h; rfl
  | str b => simp only [Rp] at h; subst h; rfl
  | lst b => simp only [Rp] at h; obtain ⟨a, _, rfl, _⟩ := h; rfl
  | fl b => simp only [Rp] at h; obtain ⟨a, _, rfl, _⟩ := h; rfl
  | tup b => simp only [Rp] at h; obtain ⟨a, _, rfl, _⟩ := h; rfl
  | ft b => simp only [Rp] at h; obtain ⟨a, _, _, rfl, _⟩ := h; rfl
  | dict b => simp only [Rp] at h; obtain ⟨a, _, _, rfl, _⟩ := h; rfl
  | inst c b => simp only [Rp] at h; obtain ⟨a, _, _, _, rfl, _⟩ := h; rfl
  | exc a dx c gs => simp only [Rp] at h; obtain ⟨rfl, _⟩ := h; rfl
def dIsN (x y : D) : Option D := if isNone y = true then some (.bool (isNone x)) else none
def dNotN (x y : D) : Option D := if isNone y = true then some (.bool (!isNone x)) else none
def rIsN : R2 := fun x y H Q => y = .non ∧ Q (.bl (decide (x = .non))) H
def rNotN : R2 := fun x y H Q => y = .non ∧ Q (.bl (!decide (x = .non))) H
theorem op_isN1 {X : Cx} : OpR X (compareOp .Is) rIsN := op_isN
theorem op_notN1 {X : Cx} : OpR X (compareOp .IsNot) rNotN := op_notN
theorem od_isN : OpD K mg rIsN dIsN := by
  intro I H x y z v u Q s rx ry e k
  unfold dIsN at e
  split at e
  · rename_i hn
    cases e
    refine ⟨of_decide_eq_true ((isNone_v ry).trans hn), ?_⟩
    rw [isNone_v rx]
    exact k _ I H .same rp_bool
  · cases e
theorem od_notN : OpD K mg rNotN dNotN := by
  intro I H x y z v u Q s rx ry e k
  unfold dNotN at e
  split at e
  · rename_i hn
    cases e
    refine ⟨of_decide_eq_true ((isNone_v ry).trans hn), ?_⟩
    rw [isNone_v rx]
    exact k _ I H .same rp_bool
  · cases e
def flatD : D → Bool
  | .none => true
  | .bool _ => true
  | .int _ => true
  | .str _ => true
  | _ => false
def eqF : D → D → Bool
  | .none, .none => true
  | .bool a, .bool b => a == b
  | .bool a, .int b => (if a then 1 else 0) == b
  | .int a, .bool b => a == (if b then 1 else 0)
  | .int a, .int b => a == b
  | .str a, .str b => a == b
  | _, _ => false
theorem flat_v {d : D} {v : V} (h : Rp K mg I d v) (f : flatD d = true) : flatV v = true := by
  cases d with
  | none => simp only [Rp] at h; subst h; rfl
  | bool b => simp only [Rp] at h; subst h; rfl
  | int b => simp only [Rp] at h; subst h; rfl
  | str b => simp only [Rp] at h; subst h; rfl
  | _ => cases f
theorem eqF_v {d e : D} {v u : V} (h : Rp K mg I d v) (h' : Rp K mg I e u) (f : flatD d = true) (f' : flatD e = true) : eqV v u = eqF d e := by
  cases d with
  | none =>
    simp only [Rp] at h; subst h
    cases e <;> first | (simp only [Rp] at h'; subst h'; rfl) | cases f'
  | bool b =>
    simp only [Rp] at h; subst h
    cases e <;> first | (simp only [Rp] at h'; subst h'; rfl) | cases f'
  | int b =>
    simp only [Rp] at h; subst h
    cases e <;> first | (simp only [Rp] at h'; subst h'; rfl) | cases f'
  | str b =>
    simp only [Rp] at h; subst h
    cases e <;> first | (simp only [Rp] at h'; subst h'; rfl) | cases f'
  | _ => cases f
theorem flats_v : ∀ {ds : List D} {xs : List V}, RpL K mg I ds xs → ds.all flatD = true → xs.all flatV = true
  | [], xs, h, f => by simp only [RpL] at h; subst h; rfl
  | d :: ds, xs, h, f => by
    simp only [RpL] at h
    obtain ⟨x, r, rfl, h1, h2⟩ := h
    rw [List.all_cons, Bool.and_eq_true] at f ⊢
    exact ⟨flat_v h1 f.1, flats_v h2 f.2⟩
theorem inF_v {dd : D} {vv : V} (h : Rp K mg I dd vv) (f0 : flatD dd = true) : ∀ {ds : List D} {xs : List V}, RpL K mg I ds xs → ds.all flatD = true → inV vv xs = ds.any fun y => eqF y dd
  | [], xs, h, f => by simp only [RpL] at h; subst h; rfl
  | d :: ds, xs, h, f => by
    simp only [RpL] at h
    obtain ⟨x, r, rfl, h1, h2⟩ := h
    rw [List.all_cons, Bool.and_eq_true] at f
    have ih := inF_v h f0 h2 f.2
    unfold inV at ih ⊢
    rw [List.any_cons, List.any_cons, eqF_v h1 h f.1 f0, ih]
def sign? (a : Str) : Option Nat := match a.cps.toList with
  | [c] => some c
  | _ => none
theorem sign_of {a : Str} {c : Nat} (h : sign? a = some c) : a = ⟨#[c]⟩ := by
  unfold sign? at h
  split at h
  · rename_i c' e
    cases h
    obtain ⟨l⟩ := a
    have : l = #[c] := by
      apply Array.ext'
      simpa using e
    rw [this]
  · cases h
def inB : D → D → Option Bool
  | .str a, .str b => (sign? a).map fun c => decide (c ∈ b.cps.toList)
  | x, .lst ds => if (flatD x && ds.all flatD) = true then some (ds.any fun y => eqF y x) else (toPy x).bind fun p => (toPys ds).bind fun qs => if (SeqAt.shaped p && SeqAt.shaped (.list qs)) = true then some (qs.any fun z => PyData.eqv z p) else none
  | x, .fl ds => if (flatD x && ds.all flatD) = true then some (ds.any fun y => eqF y x) else none
  | x, .tup ds => if (flatD x && ds.all flatD) = true then some (ds.any fun y => eqF y x) else none
  | _, _ => none
def dIn (x y : D) : Option D := (inB x y).map .bool
def dNotIn (x y : D) : Option D := (inB x y).map fun b => .bool !b
def rInG (K : PySem.W.Frag) (neg : Bool) : R2 := fun x y H Q => (∃ (c : Nat) (z : Str), x = .str ⟨#[c]⟩ ∧ y = .str z ∧ Q (.bl (if neg then !decide (c ∈ z.cps.toList) else decide (c ∈ z.cps.toList))) H) ∨ rIn K neg x y H Q ∨
  ∃ d ds, Dp K H x d ∧ Dp K H y (.list ds) ∧ SeqAt.shaped d = true ∧ SeqAt.shaped (.list ds) = true ∧ Q (.bl (if neg then !(ds.any fun z => PyData.eqv z d) else ds.any fun z => PyData.eqv z d)) H
theorem op_inG {X : Cx} (hu : X.A.units + 65 < cLine) : OpR X (compareOp .In) (rInG X.K false) := by
  intro pins s σ H x y v u Q I rx ry h
  rcases h with h | h | h
  · exact op_in_sign pins s σ H x y v u Q I rx ry h
  · exact op_in_seq pins s σ H x y v u Q I rx ry h
  · exact op_inD hu pins s σ H x y v u Q I rx ry h
theorem op_ninG {X : Cx} (hu : X.A.units + 65 < cLine) : OpR X (compareOp .NotIn) (rInG X.K true) := by
  intro pins s σ H x y v u Q I rx ry h
  rcases h with h | h | h
  · exact op_notIn_sign pins s σ H x y v u Q I rx ry h
  · exact op_notIn_seq pins s σ H x y v u Q I rx ry h
  · exact op_notInD hu pins s σ H x y v u Q I rx ry h
theorem in_run {neg : Bool} {x y : D} {b : Bool} {v u : V} {Q : VK} (s : Ex I H) (rx : Rp K mg I x v) (ry : Rp K mg I y u) (e : inB x y = some b) (k : Q (.bl (if neg then !b else b)) H) : rInG K neg v u H Q := by
  unfold inB at e
  split at e
  · obtain ⟨c, h1, rfl⟩ := Option.map_eq_some_iff.mp e
    simp only [Rp] at rx ry
    subst rx ry
    rw [sign_of h1]
    exact .inl ⟨c, _, rfl, rfl, k⟩
  · rename_i ds
    have ry' := ry
    simp only [Rp] at ry
    obtain ⟨a, xs, rfl, h1, h2⟩ := ry
    split at e
    · rename_i hf
      rw [Bool.and_eq_true] at hf
      cases e
      exact .inr (.inl ⟨a, xs, rfl, .inl (.of (s _ _ h1)), flat_v rx hf.1, flats_v h2 hf.2, by rw [inF_v rx hf.1 h2 hf.2]; exact k⟩)
    · obtain ⟨p, e1, e⟩ := Option.bind_eq_some_iff.mp e
      obtain ⟨q, e2, e⟩ := Option.bind_eq_some_iff.mp e
      split at e
      · rename_i hs
        rw [Bool.and_eq_true] at hs
        cases e
        exact .inr (.inr ⟨p, q, toPy_dp s _ _ _ rx e1, .lst (.of (s _ _ h1)) (toPys_dp s _ _ _ h2 e2), hs.1, hs.2, k⟩)
      · cases e
  · simp only [Rp] at ry
    obtain ⟨a, xs, rfl, h1, h2⟩ := ry
    split at e
    · rename_i hf
      rw [Bool.and_eq_true] at hf
      cases e
      exact .inr (.inl ⟨a, xs, rfl, .inl (ex_l s h1), flat_v rx hf.1, flats_v h2 hf.2, by rw [inF_v rx hf.1 h2 hf.2]; exact k⟩)
    · cases e
  · simp only [Rp] at ry
    obtain ⟨a, xs, rfl, h1, h2⟩ := ry
    split at e
    · rename_i hf
      rw [Bool.and_eq_true] at hf
      cases e
      exact .inr (.inl ⟨a, xs, rfl, .inr (ex_t s h1), flat_v rx hf.1, flats_v h2 hf.2, by rw [inF_v rx hf.1 h2 hf.2]; exact k⟩)
    · cases e
  · cases e
theorem od_in : OpD K mg (rInG K false) dIn := by
  intro I H x y z v u Q s rx ry e k
  obtain ⟨b, e', rfl⟩ := Option.map_eq_some_iff.mp e
  clear e
  have e := e'
  clear e'
  exact in_run s rx ry e (k _ I H .same rp_bool)
theorem od_notIn : OpD K mg (rInG K true) dNotIn := by
  intro I H x y z v u Q s rx ry e k
  obtain ⟨b, e', rfl⟩ := Option.map_eq_some_iff.mp e
  clear e
  have e := e'
  clear e'
  exact in_run s rx ry e (k _ I H .same rp_bool)
end
end MV

namespace MV
open PySem L2
variable [TB]

/-! ### subscripts, slices -/
def dIx : D → D → Option D
  | .lst ds, .int i => atI ds i
  | .fl ds, .int i => atI ds i
  | .tup ds, .int i => atI ds i
  | .str x, .int i => if x.length ≤ LIM then (atI x.cps.toList i).map fun c => .str ⟨#[c]⟩ else none
  | _, _ => none
section
variable {K : PySem.W.Frag} {mg : Str → Option Value} {I H : Hp}
theorem RpL.atI {ds : List D} {xs : List V} {i : Int} {d : D} (h : RpL K mg I ds xs) (e : L2.atI ds i = some d) : ∃ v, L2.atI xs i = some v ∧ Rp K mg I d v := by
  unfold L2.atI at e ⊢
  obtain ⟨j, h1, h2⟩ := Option.bind_eq_some_iff.mp e
  obtain ⟨v, h3, h4⟩ := h.get h2
  rw [← h.length, h1]
  exact ⟨v, h3, h4⟩
theorem od_ix : OpD K mg (rIx K) dIx := by
  intro I H x y z v u Q s rx ry e k
  unfold dIx at e
  split at e
  · simp only [Rp] at rx ry
    obtain ⟨a, xs, rfl, h1, h2⟩ := rx
    subst ry
    obtain ⟨v, h3, h4⟩ := h2.atI e
    exact .inl ⟨a, xs, _, v, rfl, rfl, .of (s _ _ h1), h3, k _ I H .same h4⟩
  · simp only [Rp] at rx ry
    obtain ⟨a, xs, rfl, h1, h2⟩ := rx
    subst ry
    obtain ⟨v, h3, h4⟩ := h2.atI e
    exact .inl ⟨a, xs, _, v, rfl, rfl, ex_l s h1, h3, k _ I H .same h4⟩
  · simp only [Rp] at rx ry
    obtain ⟨a, xs, rfl, h1, h2⟩ := rx
    subst ry
    obtain ⟨v, h3, h4⟩ := h2.atI e
    exact .inr (.inl ⟨a, xs, _, v, rfl, rfl, ex_t s h1, h3, k _ I H .same h4⟩)
  · split at e
    · rename_i hz
      obtain ⟨c, h1, rfl⟩ := Option.map_eq_some_iff.mp e
      simp only [Rp] at rx ry
      subst rx ry
      exact .inr (.inr ⟨_, _, c, rfl, rfl, lim_le hz, h1, k _ I H .same rp_str⟩)
    · cases e
  · cases e
def cutD (ds : List D) (lo hi : Option Int) : List D := (ds.drop (HT.sIx ds.length 0 lo)).take (HT.sIx ds.length ds.length hi - HT.sIx ds.length 0 lo)
theorem RpL.drop : ∀ {ds : List D} {xs : List V} (n : Nat), RpL K mg I ds xs → RpL K mg I (ds.drop n) (xs.drop n)
  | ds, xs, 0, h => h
  | [], xs, n + 1, h => by simp only [RpL] at h; subst h; exact RpL.nil
  | d :: ds, xs, n + 1, h => by
    simp only [RpL] at h
    obtain ⟨x, r, rfl, h1, h2⟩ := h
    exact RpL.drop n h2
theorem RpL.take : ∀ {ds : List D} {xs : List V} (n : Nat), RpL K mg I ds xs → RpL K mg I (ds.take n) (xs.take n)
  | ds, xs, 0, h => RpL.nil
  | [], xs, n + 1, h => by simp only [RpL] at h; subst h; exact RpL.nil
  | d :: ds, xs, n + 1, h => by
    simp only [RpL] at h
    obtain ⟨x, r, rfl, h1, h2⟩ := h
    exact RpL.cons h1 (RpL.take n h2)
theorem RpL.cut {ds : List D} {xs : List V} {lo hi : Option Int} (h : RpL K mg I ds xs) : RpL K mg I (cutD ds lo hi) (cutV xs lo hi) := by
  unfold cutD cutV
  rw [h.length]
  exact (h.drop _).take _
def dSl : D → Option Int → Option Int → Option D
  | .lst ds, lo, hi => some (.lst (cutD ds lo hi))
  | .fl ds, lo, hi => some (.lst (cutD ds lo hi))
  | .tup ds, lo, hi => some (.tup (cutD ds lo hi))
  | .str x, lo, hi => if x.length ≤ LIM then some (.str (cutS x lo hi)) else none
  | _, _, _ => none
end
def rSlD (K : PySem.W.Frag) : V → Option Int → Option Int → Hp → VK → Prop := fun x lo hi H Q => rSlL K x lo hi H Q ∨ rSlA K x lo hi H Q ∨ rSlS x lo hi H Q
theorem sl_all {X : Cx} : SlR X (rSlD X.K) := sl_list.or (sl_tupA.or sl_str)
theorem sl_run {K : PySem.W.Frag} {mg : Str → Option Value} {I H : Hp} {x z : D} {v : V} {lo hi : Option Int} {Q : VK} (s : Ex I H) (rx : Rp K mg I x v) (e : dSl x lo hi = some z) (k : ∀ v' I' H', Gr I H I' H' → Rp K mg I' z v' → Q v' H') : rSlD K v lo hi H Q := by
  unfold dSl at e
  split at e
  · cases e
    simp only [Rp] at rx
    obtain ⟨a, xs, rfl, h1, h2⟩ := rx
    exact .inl ⟨a, xs, rfl, .of (s _ _ h1), fun p hp => k _ _ _ (.new p _ hp) (rp_lst s hp h2.cut)⟩
  · cases e
    simp only [Rp] at rx
    obtain ⟨a, xs, rfl, h1, h2⟩ := rx
    exact .inl ⟨a, xs, rfl, ex_l s h1, fun p hp => k _ _ _ (.new p _ hp) (rp_lst s hp h2.cut)⟩
  · rename_i ds
    cases e
    have rx' := rx
    simp only [Rp] at rx
    obtain ⟨a, xs, rfl, h1, h2⟩ := rx
    refine .inr (.inl ⟨a, xs, rfl, ex_t s h1, fun hw => k _ I H .same ?_, fun _ p hp => k _ _ _ (.new p _ hp) (rp_tup s hp h2.cut)⟩)
    have e0 : cutD ds lo hi = ds := by
      unfold cutD
      rw [h2.length, hw.1, hw.2, Nat.sub_zero, List.drop_zero, ← h2.length, List.take_length]
    rw [e0]
    exact rx'
  · split at e
    · rename_i hz
      cases e
      simp only [Rp] at rx
      subst rx
      exact .inr (.inr ⟨_, rfl, lim_le hz, k _ I H .same rp_str⟩)
    · cases e
  · cases e
def mOptI (m : M D) : M (Option Int) := fun e => (m e).bind fun x => match x.1 with
  | .int i => some (some i, x.2)
  | _ => none
def mNoI : M (Option Int) := fun e => some (none, e)
def tPo (K : PySem.W.Frag) (mg : Str → Option Value) (m : M (Option Int)) : TO := fun σ H Q => ∃ I e Fs, Rel K mg I e Fs σ H ∧ ∃ o e', m e = some (o, e') ∧ ∀ I' Fs' H', Rel K mg I' e' Fs' σ H' → Ext Fs I H Fs' I' H' → Q o H'
def SPo (X : Cx) (a : Option Expr) (m : M (Option Int)) : Prop := PO X a (tPo X.K X.mg m)
theorem PO.imp {X : Cx} {a : Option Expr} {t t' : TO} (h : PO X a t) (i : ∀ σ H Q, t' σ H Q → t σ H Q) : PO X a t' := ⟨fun pins s σ H Q I hq => h.run pins s σ H Q I (i σ H Q hq)⟩
def mSl (f : D → Option Int → Option Int → Option D) (a : M D) (lo hi : M (Option Int)) : M D := fun e => (a e).bind fun x => (lo x.2).bind fun l => (hi l.2).bind fun h => (f x.1 l.1 h.1).map fun z => (z, h.2)
section
variable {X : Cx} {a b c : Expr} {lo hi : Option Expr} {ma mb mc : M D} {ml mh : M (Option Int)} {pos p p2 : Pos}
theorem spo_none : SPo X none mNoI := PO.imp po_none fun σ H Q ⟨I, e, Fs, R, o, e', hm, k⟩ => by
  cases hm
  exact k I Fs H R Ext.refl
theorem spo_some (h : SE X a ma) : SPo X (some a) (mOptI ma) := PO.imp (po_some h) fun σ H Q ⟨I, e, Fs, R, o, e', hm, k⟩ => by
  obtain ⟨⟨d, e1⟩, h1, hm⟩ := Option.bind_eq_some_iff.mp hm
  refine ⟨I, e, Fs, R, d, e1, h1, fun v I' Fs' H' R' x r => ?_⟩
  cases d with
  | int i =>
    cases hm
    simp only [Rp] at r
    exact ⟨i, r, k I' Fs' H' R' x⟩
  | _ => cases hm
theorem se_slice (ha : SE X a ma) (hl : SPo X lo ml) (hh : SPo X hi mh) : SE X (.Subscript a (.Slice lo hi none p2) pos) (mSl dSl ma ml mh) := PE.imp (pe_slice sl_all ha hl hh) fun σ H Q ⟨I, e, Fs, R, d, e', hm, k⟩ => by
  obtain ⟨⟨x, e1⟩, h1, hm⟩ := Option.bind_eq_some_iff.mp hm
  obtain ⟨⟨l, e2⟩, h2, hm⟩ := Option.bind_eq_some_iff.mp hm
  obtain ⟨⟨h, e3⟩, h3, hm⟩ := Option.bind_eq_some_iff.mp hm
  obtain ⟨z, h4, hm⟩ := Option.map_eq_some_iff.mp hm
  cases hm
  refine ⟨I, e, Fs, R, x, e1, h1, fun v I1 F1 H1 R1 x1 r1 => ⟨I1, e1, F1, R1, l, e2, h2, fun I2 F2 H2 R2 x2 => ⟨I2, e2, F2, R2, h, e3, h3, fun I3 F3 H3 R3 x3 => ?_⟩⟩⟩
  refine sl_run R3.sub (r1.mono (x2.g.ex.trans x3.g.ex) _ _) h4 fun v' I4 H4 g r4 => ?_
  obtain ⟨R4, x4⟩ := g.rel R3
  exact k v' I4 F3 H4 R4 (((x1.trans x2).trans x3).trans x4) r4
theorem se_ix (ha : SE X a ma) (hb : SE X b mb) (hs : PlainIx b) : SE X (.Subscript a b pos) (mOp dIx ma mb) := by
  refine PE.imp (pe_ix ix_seq ha hb hs) fun σ H Q ⟨I, e, Fs, R, d', e', hm, k⟩ => ?_
  obtain ⟨⟨x, e1⟩, h1, hm⟩ := Option.bind_eq_some_iff.mp hm
  obtain ⟨⟨y, e2⟩, h2, hm⟩ := Option.bind_eq_some_iff.mp hm
  obtain ⟨z, h3, hm⟩ := Option.map_eq_some_iff.mp hm
  cases hm
  refine ⟨I, e, Fs, R, x, e1, h1, fun v I1 F1 H1 R1 x1 r1 => ⟨I1, e1, F1, R1, y, e2, h2, fun u I2 F2 H2 R2 x2 r2 => ?_⟩⟩
  refine od_ix I2 H2 x y _ v u Q R2.sub (r1.mono x2.g.ex _ _) r2 h3 fun v' I3 H3 g r3 => ?_
  obtain ⟨R3, x3⟩ := g.rel R2
  exact k v' I3 F2 H3 R3 ((x1.trans x2).trans x3) r3
theorem se_neg (ha : SE X a ma) : SE X (.UnaryOp .USub a pos) (mUn dNeg ma) := by
  refine PE.imp (pe_un un_neg ha) fun σ H Q ⟨I, e, Fs, R, d', e', hm, k⟩ => ?_
  obtain ⟨⟨x, e1⟩, h1, hm⟩ := Option.bind_eq_some_iff.mp hm
  obtain ⟨z, h3, hm⟩ := Option.map_eq_some_iff.mp hm
  cases hm
  refine ⟨I, e, Fs, R, x, e1, h1, fun v I1 F1 H1 R1 x1 r1 => ?_⟩
  refine ud_neg I1 H1 x _ v Q R1.sub r1 h3 fun v' I3 H3 g r3 => ?_
  obtain ⟨R3, x3⟩ := g.rel R1
  exact k v' I3 F1 H3 R3 (x1.trans x3) r3

/-! ### displays -/
def mDisp (f : List D → Option D) (ma : M (List Arg)) : M D := fun e => (ma e).bind fun x => (allD x.1).bind fun ds => (f ds).map fun d => (d, x.2)
def fLst : List D → Option D := fun ds => if ds.length ≤ LIM then some (.lst ds) else none
def fTup : List D → Option D := fun ds => if ds.length ≤ LIM then some (.tup ds) else none
/-- a built-in call's data -/
def CallD (K : PySem.W.Frag) (mg : Str → Option Value) (r : List V → Hp → VK → Prop) (f : List D → Option D) : Prop :=
  ∀ (I H : Hp) (ds : List D) (z : D) (vs : List V) (Q : VK), Ex I H → RpL K mg I ds vs → f ds = some z → (∀ v' I' H', Gr I H I' H' → Rp K mg I' z v' → Q v' H') → r vs H Q
theorem disp_run {K : PySem.W.Frag} {mg : Str → Option Value} {r : List V → Hp → VK → Prop} {f : List D → Option D} {ma : M (List Arg)} {σ : L2.St} {H : Hp} {Q : VK} (hf : CallD K mg r f) (h : tE K mg (mDisp f ma) σ H Q) : tAr K mg ma σ H fun vs H1 => r vs H1 Q := by
  obtain ⟨I, e, Fs, R, d, e', hm, k⟩ := h
  obtain ⟨⟨as, e1⟩, h1, hm⟩ := Option.bind_eq_some_iff.mp hm
  obtain ⟨bs, h2, hm⟩ := Option.bind_eq_some_iff.mp hm
  obtain ⟨rs, h3, hm⟩ := Option.map_eq_some_iff.mp hm
  cases hm
  refine ⟨I, e, Fs, R, as, e1, h1, fun vs I1 F1 H1 R1 x1 r1 => ?_⟩
  refine hf I1 H1 bs _ vs Q R1.sub (allD_rp h2 r1) h3 fun v' I2 H2 g r2 => ?_
  obtain ⟨R2, x2⟩ := g.rel R1
  exact k v' I2 F1 H2 R2 (x1.trans x2) r2
theorem se_lst {es : List Expr} {m : M (List Arg)} (h : SA X es m) : SE X (.List es pos) (mDisp fLst m) := PE.imp (pe_lst h) fun σ H Q q => disp_run (r := fun xs H1 Q => xs.length ≤ sizeLine ∧ ∀ p, H1 p = none → Q (.ref p) (upd H1 p (.lst xs))) (fun I H ds z vs Q s r e k => by
  unfold fLst at e
  split at e
  · rename_i hz
    cases e
    exact ⟨by rw [← r.length]; exact lim_le hz, fun p hp => k _ _ _ (.new p _ hp) (rp_lst s hp r)⟩
  · cases e) q
theorem se_tup {es : List Expr} {m : M (List Arg)} {x1 : Nat} (h : SA X es m) : SE X (.Tuple es x1 pos) (mDisp fTup m) := PE.imp (pe_tup h) fun σ H Q q => disp_run (r := fun xs H1 Q => xs.length ≤ sizeLine ∧ ∀ p, H1 p = none → Q (.ref p) (upd H1 p (.tup xs))) (fun I H ds z vs Q s r e k => by
  unfold fTup at e
  split at e
  · rename_i hz
    cases e
    exact ⟨by rw [← r.length]; exact lim_le hz, fun p hp => k _ _ _ (.new p _ hp) (rp_tup s hp r)⟩
  · cases e) q
theorem se_callB {id : String} {x : Str} {es : List Expr} {r : List V → Hp → VK → Prop} {f : List D → Option D} {m : M (List Arg)} (hc : CallR X (.builtin id) r) (hf : CallD X.K X.mg r f) (hg : Gl X x) (hm : X.mg x = none) (hv : bootBuiltins x = some (.builtin id)) (ha : SA X (a :: es) m) (hn : x ≠ "__name__" := by decide) (hdb : (x == ("__debug__" : Str)) = false := by decide)
    (he : starEach (a :: es) X.env = (false, eval a X.env) :: starEach es X.env := by rfl) (hpl : (backTo pos (starEach es X.env)).any (·.1) = false := by rfl) : SE X (.Call (.Name x p) (a :: es) [] pos) (mDisp f m) := PE.imp (pe_callB hc hg hm hv ha hn hdb he hpl) fun σ H Q q => disp_run hf q
theorem se_callTy {T : String} {x : Str} {es : List Expr} {r : List V → Hp → VK → Prop} {f : List D → Option D} {m : M (List Arg)} (hc : CallR X (.type T) r) (hf : CallD X.K X.mg r f) (hg : Gl X x) (hm : X.mg x = none) (hv : bootBuiltins x = some (.type T)) (ha : SA X (a :: es) m) (hn : x ≠ "__name__" := by decide) (hdb : (x == ("__debug__" : Str)) = false := by decide)
    (he : starEach (a :: es) X.env = (false, eval a X.env) :: starEach es X.env := by rfl) (hpl : (backTo pos (starEach es X.env)).any (·.1) = false := by rfl) : SE X (.Call (.Name x p) (a :: es) [] pos) (mDisp f m) := PE.imp (pe_callTy hc hg hm hv ha hn hdb he hpl) fun σ H Q q => disp_run hf q
theorem se_glob {x : Str} {v : V} {u : Value} {d : D} (hg : Gl X x) (hm : X.mg x = some u) (r : RelV v u) (hd : Rp X.K X.mg (fun _ => none) d v) (hdb : (x == ("__debug__" : Str)) = false := by decide) : SE X (.Name x pos) (mC d) := by
  refine PE.imp (pe_glob hg hm r hdb) fun σ H Q ⟨I, e, Fs, R, d', e', hm, k⟩ => ?_
  have q : d = d' ∧ e = e' := by simpa [mC] using hm
  obtain ⟨rfl, rfl⟩ := q
  exact k v I Fs H R Ext.refl (hd.mono (fun _ _ z => by cases z) _ _)
end

/-! ### built-ins -/
section
variable {K : PySem.W.Frag} {mg : Str → Option Value}
def fLen : List D → Option D
  | [.str x] => if x.length ≤ LIM then some (.int x.length) else none
  | [.lst ds] => some (.int ds.length)
  | [.fl ds] => some (.int ds.length)
  | [.tup ds] => some (.int ds.length)
  | _ => none
theorem cd_len : CallD K mg (fun xs H Q => ∃ x n, xs = [x] ∧ LenV K x H n ∧ Q (.int n) H) fLen := by
  intro I H ds z vs Q s r e k
  unfold fLen at e
  split at e
  · obtain ⟨v, rfl, h⟩ := r.one
    split at e
    · rename_i hz
      cases e
      simp only [Rp] at h
      subst h
      exact ⟨_, _, rfl, ⟨lim_le hz, rfl⟩, k _ I H .same rp_int⟩
    · cases e
  · obtain ⟨v, rfl, h⟩ := r.one
    cases e
    simp only [Rp] at h
    obtain ⟨a, xs, rfl, h1, h2⟩ := h
    exact ⟨_, _, rfl, .inl ⟨xs, .of (s _ _ h1), h2.length⟩, k _ I H .same rp_int⟩
  · obtain ⟨v, rfl, h⟩ := r.one
    cases e
    simp only [Rp] at h
    obtain ⟨a, xs, rfl, h1, h2⟩ := h
    exact ⟨_, _, rfl, .inl ⟨xs, ex_l s h1, h2.length⟩, k _ I H .same rp_int⟩
  · obtain ⟨v, rfl, h⟩ := r.one
    cases e
    simp only [Rp] at h
    obtain ⟨a, xs, rfl, h1, h2⟩ := h
    exact ⟨_, _, rfl, .inr ⟨xs, ex_t s h1, h2.length⟩, k _ I H .same rp_int⟩
  · cases e
def fAbs : List D → Option D
  | [.int i] => some (.int (if i < 0 then -i else i))
  | _ => none
theorem cd_abs : CallD K mg (fun xs H Q => ∃ i, xs = [.int i] ∧ Q (.int (if i < 0 then -i else i)) H) fAbs := by
  intro I H ds z vs Q s r e k
  unfold fAbs at e
  split at e
  · obtain ⟨v, rfl, h⟩ := r.one
    cases e
    simp only [Rp] at h
    subst h
    exact ⟨_, rfl, k _ I H .same rp_int⟩
  · cases e
def fList : List D → Option D
  | [.lst ds] => some (.lst ds)
  | [.fl ds] => some (.lst ds)
  | [.tup ds] => some (.lst ds)
  | _ => none
theorem cd_list : CallD K mg (fun xs H Q => ∃ p ys, xs = [.ref p] ∧ (SqL K H p ys ∨ SqT K H p ys) ∧ ∀ l, H l = none → Q (.ref l) (upd H l (.lst ys))) fList := by
  intro I H ds z vs Q s r e k
  unfold fList at e
  split at e
  · obtain ⟨v, rfl, h⟩ := r.one
    cases e
    simp only [Rp] at h
    obtain ⟨a, xs, rfl, h1, h2⟩ := h
    exact ⟨_, _, rfl, .inl (.of (s _ _ h1)), fun p hp => k _ _ _ (.new p _ hp) (rp_lst s hp h2)⟩
  · obtain ⟨v, rfl, h⟩ := r.one
    cases e
    simp only [Rp] at h
    obtain ⟨a, xs, rfl, h1, h2⟩ := h
    exact ⟨_, _, rfl, .inl (ex_l s h1), fun p hp => k _ _ _ (.new p _ hp) (rp_lst s hp h2)⟩
  · obtain ⟨v, rfl, h⟩ := r.one
    cases e
    simp only [Rp] at h
    obtain ⟨a, xs, rfl, h1, h2⟩ := h
    exact ⟨_, _, rfl, .inr (ex_t s h1), fun p hp => k _ _ _ (.new p _ hp) (rp_lst s hp h2)⟩
  · cases e
def boolsD : List D → Option (List Bool)
  | [] => some []
  | .bool b :: r => (boolsD r).map (b :: ·)
  | _ => none
theorem bools_v {I : Hp} : ∀ {ds : List D} {bs : List Bool} {xs : List V}, boolsD ds = some bs → RpL K mg I ds xs → xs = bs.map V.bl
  | [], bs, xs, h, r => by cases h; simp only [RpL] at r; exact r
  | .bool b :: ds, bs, xs, h, r => by
    simp only [RpL] at r
    obtain ⟨x, t, rfl, h1, h2⟩ := r
    obtain ⟨cs, h3, rfl⟩ := Option.map_eq_some_iff.mp (show (boolsD ds).map (b :: ·) = some bs from h)
    simp only [Rp] at h1
    rw [h1, bools_v h3 h2]
    rfl
  | .none :: _, _, _, h, _ => by cases h
  | .int _ :: _, _, _, h, _ => by cases h
  | .str _ :: _, _, _, h, _ => by cases h
  | .lst _ :: _, _, _, h, _ => by cases h
  | .fl _ :: _, _, _, h, _ => by cases h
  | .tup _ :: _, _, _, h, _ => by cases h
  | .dict _ :: _, _, _, h, _ => by cases h
  | .inst _ _ :: _, _, _, h, _ => by cases h
def fAll : List D → Option D
  | [.lst ds] => (boolsD ds).map fun bs => .bool (bs.all id)
  | _ => none
def fAny : List D → Option D
  | [.lst ds] => (boolsD ds).map fun bs => .bool (bs.any id)
  | _ => none
theorem cd_all : CallD K mg (rAll K) fAll := by
  intro I H ds z vs Q s r e k
  unfold fAll at e
  split at e
  · obtain ⟨v, rfl, h⟩ := r.one
    obtain ⟨bs, h3, rfl⟩ := Option.map_eq_some_iff.mp e
    simp only [Rp] at h
    obtain ⟨a, xs, rfl, h1, h2⟩ := h
    exact ⟨a, bs, rfl, by rw [← bools_v h3 h2]; exact .of (s _ _ h1), k _ I H .same rp_bool⟩
  · cases e
theorem cd_any : CallD K mg (rAny K) fAny := by
  intro I H ds z vs Q s r e k
  unfold fAny at e
  split at e
  · obtain ⟨v, rfl, h⟩ := r.one
    obtain ⟨bs, h3, rfl⟩ := Option.map_eq_some_iff.mp e
    simp only [Rp] at h
    obtain ⟨a, xs, rfl, h1, h2⟩ := h
    exact ⟨a, bs, rfl, by rw [← bools_v h3 h2]; exact .of (s _ _ h1), k _ I H .same rp_bool⟩
  · cases e
/-- isinstance(x, T), T a built-in type -/
def tyD : D → Option String
  | .none => some "NoneType"
  | .bool _ => some "bool"
  | .int _ => some "int"
  | .str _ => some "str"
  | .lst _ => some "list"
  | .tup _ => some "tuple"
  | _ => none
def isiT (a b : String) : Bool := a == b || (a == "bool" && b == "int")
def tyNames : List String := ["NoneType", "bool", "int", "str", "list", "tuple", "dict"]
theorem kit_all : (tyNames.all fun a => tyNames.all fun b => b == "NoneType" || decide (kitB a b = some (isiT a b))) = true := by decide +kernel
theorem kit_isi {a b : String} (ha : a ∈ tyNames) (hb : b ∈ tyNames) (h : b ≠ "NoneType") : kitB a b = some (isiT a b) := by
  have := List.all_eq_true.mp (List.all_eq_true.mp kit_all a ha) b hb
  rw [Bool.or_eq_true] at this
  rcases this with q | q
  · exact absurd (eq_of_beq q) h
  · exact of_decide_eq_true q
theorem ty_v {I H : Hp} {d : D} {v : V} {T : String} (s : Ex I H) (h : Rp K mg I d v) (e : tyD d = some T) : TyX K H v (.type T) ∧ T ∈ tyNames := by
  cases d with
  | none => simp only [Rp] at h; subst h; cases e; exact ⟨.base .non, by decide⟩
  | bool b => simp only [Rp] at h; subst h; cases e; exact ⟨.base (.bl b), by decide⟩
  | int b => simp only [Rp] at h; subst h; cases e; exact ⟨.base (.int b), by decide⟩
  | str b => simp only [Rp] at h; subst h; cases e; exact ⟨.base (.str b), by decide⟩
  | lst b => simp only [Rp] at h; obtain ⟨a, _, rfl, h1, _⟩ := h; cases e; exact ⟨.base (.lst (s _ _ h1)), by decide⟩
  | tup b =>
    simp only [Rp] at h; obtain ⟨a, _, rfl, h1, _⟩ := h; cases e
    refine ⟨?_, by decide⟩
    rcases h1 with (h1 | ⟨o, h1⟩) | ⟨o, its, n, h1, h2, _⟩
    · exact .base (.tup (s _ _ h1))
    · exact .fTuple (s _ _ h1)
    · exact .kTuple h1 h2
  | _ => cases e
end
def dIsi (T : String) (d : D) : Option D := (tyD d).map fun U => .bool (isiT U T)
theorem se_isi {X : Cx} {a : Expr} {m : M D} {p p2 pos : Pos} {x : Str} {T : String} (hT : T ∈ tyNames) (hT2 : T ≠ "NoneType") (hg : Gl X "isinstance") (hm : X.mg "isinstance" = none) (hg2 : Gl X x) (hm2 : X.mg x = none) (hv2 : bootBuiltins x = some (.type T)) (ha : SE X a m)
    (hn2 : x ≠ "__name__" := by decide) (hd2 : (x == ("__debug__" : Str)) = false := by decide)
    (hs : starEach [a, .Name x p2] X.env = (false, eval a X.env) :: starEach [.Name x p2] X.env := by rfl) (hs2 : starEach [.Name x p2] X.env = (false, eval (.Name x p2) X.env) :: starEach [] X.env := by rfl) (hpl : (backTo pos (starEach [.Name x p2] X.env)).any (·.1) = false := by rfl) (hv : bootBuiltins "isinstance" = some (.builtin "isinstance") := by rfl) :
    SE X (.Call (.Name "isinstance" p) [a, .Name x p2] [] pos) (mUn (dIsi T) m) := by
  refine PE.imp (pe_callB (call_isi) hg hm hv (pa_cons ha (pa_cons (pe_bltn (v := .ty T) hg2 hm2 hv2 rfl hn2 hd2) pa_nil hs2) hs) (by decide) (by decide) hs hpl) fun σ H Q ⟨I, e, Fs, R, d', e', hm, k⟩ => ?_
  obtain ⟨⟨d, e1⟩, h1, hm⟩ := Option.bind_eq_some_iff.mp hm
  obtain ⟨z, h3, hm⟩ := Option.map_eq_some_iff.mp hm
  cases hm
  obtain ⟨U, h4, rfl⟩ := Option.map_eq_some_iff.mp h3
  refine ⟨I, e, Fs, R, d, e1, h1, fun v I1 F1 H1 R1 x1 r1 => ?_⟩
  obtain ⟨t1, t2⟩ := ty_v R1.sub r1 h4
  exact ⟨v, .ty T, _, _, _, rfl, .ty T, t1, kit_ty (kit_isi t2 hT hT2), k _ I1 F1 H1 R1 x1 rp_bool⟩
end MV

namespace MV
open PySem L2
variable [TB]

/-! ### owned lists -/
section
variable {K : PySem.W.Frag} {mg : Str → Option Value} {I H : Hp}
theorem RoL.get : ∀ {ws : List W} {xs : List V} {F : List Addr} {j : Nat} {w : W}, RoL K mg I H ws xs F → ws[j]? = some w → ∃ x F1, xs[j]? = some x ∧ Ro K mg I H w x F1 ∧ ∀ a ∈ F1, a ∈ F
  | [], xs, F, j, w, h, e => by simp at e
  | u :: ws, xs, F, 0, w, h, e => by
    simp only [RoL] at h
    obtain ⟨x, r, F1, F2, rfl, rfl, h1, h2⟩ := h
    simp at e
    subst e
    exact ⟨x, F1, rfl, h1, fun a ha => by simp [ha]⟩
  | u :: ws, xs, F, j + 1, w, h, e => by
    simp only [RoL] at h
    obtain ⟨x, r, F1, F2, rfl, rfl, h1, h2⟩ := h
    simp at e
    obtain ⟨y, G, h3, h4, h5⟩ := RoL.get h2 e
    exact ⟨y, G, by simpa using h3, h4, fun a ha => by simp [h5 a ha]⟩
theorem RoL.len : ∀ {ws : List W} {xs : List V} {F : List Addr}, RoL K mg I H ws xs F → ws.length = xs.length
  | [], xs, F, h => by simp only [RoL] at h; rw [h.1]; rfl
  | u :: ws, xs, F, h => by
    simp only [RoL] at h
    obtain ⟨x, r, F1, F2, rfl, rfl, h1, h2⟩ := h
    rw [List.length_cons, List.length_cons, RoL.len h2]
theorem RoL.setP {d : D} {v : V} (hd : Rp K mg I d v) : ∀ {ws : List W} {xs : List V} {F : List Addr} (j : Nat), RoL K mg I H ws xs F → ∃ F', RoL K mg I H (ws.set j (.p d)) (xs.set j v) F' ∧ F'.Sublist F
  | [], xs, F, j, h => by
    simp only [RoL] at h
    obtain ⟨rfl, rfl⟩ := h
    exact ⟨[], by simp [RoL], List.Sublist.refl _⟩
  | u :: ws, xs, F, 0, h => by
    simp only [RoL] at h
    obtain ⟨x, r, F1, F2, rfl, rfl, h1, h2⟩ := h
    refine ⟨F2, ?_, List.sublist_append_right _ _⟩
    show RoL K mg I H (W.p d :: ws) (v :: r) F2
    simp only [RoL]
    exact ⟨v, r, [], F2, rfl, rfl, by simp only [Ro]; exact ⟨hd, trivial⟩, h2⟩
  | u :: ws, xs, F, j + 1, h => by
    simp only [RoL] at h
    obtain ⟨x, r, F1, F2, rfl, rfl, h1, h2⟩ := h
    obtain ⟨G, h3, h4⟩ := RoL.setP hd j h2
    refine ⟨F1 ++ G, ?_, List.Sublist.append (List.Sublist.refl _) h4⟩
    show RoL K mg I H (u :: ws.set j (.p d)) (x :: r.set j v) (F1 ++ G)
    simp only [RoL]
    exact ⟨x, _, F1, G, rfl, rfl, h1, h3⟩
theorem RoL.ofP : ∀ {ds : List D} {xs : List V}, RpL K mg I ds xs → RoL K mg I H (ds.map .p) xs []
  | [], xs, h => by simp only [RpL] at h; subst h; simp [RoL]
  | d :: ds, xs, h => by
    simp only [RpL] at h
    obtain ⟨x, r, rfl, h1, h2⟩ := h
    show RoL K mg I H (.p d :: ds.map .p) (x :: r) []
    simp only [RoL]
    exact ⟨x, r, [], [], rfl, rfl, by simp only [Ro]; exact ⟨h1, trivial⟩, RoL.ofP h2⟩
end
/-- [a, ..], a list of one's own -/
def mOl (ma : M (List Arg)) : M W := fun e => (ma e).bind fun x => (allD x.1).bind fun ds => if ds.length ≤ LIM then some (.ol (ds.map .p), x.2) else none
/-- x[i], x a list of one's own in slot k -/
def mIxO (k : Nat) (m : M D) : M D := fun e => match e[k]? with
  | some (some _) => (m e).bind fun x => match x.1, x.2[k]? with
    | .int i, some (some (.ol ws)) => match atI ws i with
      | some (.p d) => some (d, x.2)
      | _ => none
    | _, _ => none
  | _ => none
/-- x[i] = v -/
def sSetIx (k : Nat) (mi mv : M D) : S := fun e => (mv e).bind fun y => match y.2[k]? with
  | some (some _) => (mi y.2).bind fun x => match x.1, x.2[k]? with
    | .int i, some (some (.ol ws)) => (ixN ws.length i).map fun j => .nx (x.2.set k (some (.ol (ws.set j (.p y.1)))))
    | _, _ => none
  | _ => none
section
variable {X : Cx} {A : Nat → Bool} {Wx : WX} {a b : Expr} {es : List Expr} {ma : M (List Arg)} {mi mv : M D} {k : Nat} {x : Str} {pos p tpos : Pos}
theorem so_lst (h : SA X es ma) : SO X Wx (.List es pos) (mOl ma) := PE.imp (pe_lst h) fun σ H Q ⟨I, e, Fs, R, w, e', hm, kk, _⟩ => by
  obtain ⟨⟨as, e1⟩, h1, hm⟩ := Option.bind_eq_some_iff.mp hm
  obtain ⟨ds, h2, hm⟩ := Option.bind_eq_some_iff.mp hm
  have hm : (if ds.length ≤ LIM then some (W.ol (ds.map .p), e1) else none) = some (w, e') := hm
  split at hm
  · rename_i hz
    cases hm
    refine ⟨I, e, Fs, R, as, _, h1, fun vs I1 F1 H1 R1 x1 r1 => ?_⟩
    have r := allD_rp h2 r1
    refine ⟨by rw [← r.length]; exact lim_le hz, fun q hq => ?_⟩
    have R2 := R1.loose (o := .lst vs) hq
    have hI : I1 q = none := sub_none R1.sub hq
    have dq : ∀ i, q ∉ F1 i := fun i hi => R1.live i q hi hq
    have hH : MF Fs q ∨ H q = none := by
      cases e0 : H q with
      | none => exact .inr rfl
      | some u =>
        by_cases mm : MF Fs q
        · exact .inl mm
        · rw [x1.g.back mm hq] at e0; cases e0
    refine kk (.ref q) I1 F1 _ [q] R2 ⟨⟨x1.g.ex, fun c u q' mm nt => Ex.new hq c u (x1.g.fr c u q' mm nt), x1.g.new, fun t => (x1.g.tb t).ext (Ex.new hq), fun a ps q mm => let ⟨p', h'⟩ := x1.g.tl a ps q mm; ⟨p', Ex.new hq a _ h'⟩⟩, x1.fp⟩ ⟨?_, by simp, fun c hc => ?_, fun c hc ⟨i, hi⟩ => ?_⟩ fun c hc => ?_
    · simp only [Ro]
      exact ⟨q, vs, [], rfl, upd_same, rfl, RoL.ofP r⟩
    · rw [List.mem_singleton.mp hc]; exact hI
    · rw [List.mem_singleton.mp hc] at hi; exact dq i hi
    · rw [List.mem_singleton.mp hc]; exact hH
  · cases hm
theorem se_ixO (hx : PE X (.Name x p) (tVar k)) (hi : SE X b mi) (hs : PlainIx b) : SE X (.Subscript (.Name x p) b pos) (mIxO k mi) := PE.imp (pe_ix ix_list hx hi hs) fun σ H Q ⟨I, e, Fs, R, d, e', hm, kk⟩ => by
  unfold mIxO at hm
  split at hm
  · rename_i w0 hw
    obtain ⟨⟨y, e1⟩, h1, hm⟩ := Option.bind_eq_some_iff.mp hm
    obtain ⟨v0, hv0, _⟩ := R.at_ k _ hw
    refine ⟨v0, hv0, I, e, Fs, R, y, e1, h1, fun u I1 F1 H1 R1 x1 r1 => ?_⟩
    split at hm
    · rename_i i ws h2 h3
      obtain ⟨v1, hv1, ro⟩ := R1.at_ k _ h3
      rw [hv0] at hv1
      cases hv1
      simp only [Ro] at ro
      obtain ⟨l, xs, G, rfl, g1, g2, g3⟩ := ro
      split at hm
      · rename_i d' hd
        cases hm
        have h2' : y = .int i := h2
        subst h2'
        simp only [Rp] at r1
        subst r1
        unfold atI at hd
        obtain ⟨j, h4, h5⟩ := Option.bind_eq_some_iff.mp hd
        obtain ⟨z, F2, h6, h7, _⟩ := g3.get h5
        simp only [Ro] at h7
        exact ⟨l, xs, i, z, rfl, rfl, .of g1, by unfold atI; rw [← g3.len, h4]; exact h6, kk z I1 F1 H1 R1 x1 h7.1⟩
      · cases hm
    · cases hm
  · cases hm
theorem ss_setIx (hv : SE X a mv) (hx : PE X (.Name x p) (tVar k)) (hi : SE X b mi) (hs : swapsWithSole [.Subscript (.Name x p) b tpos] a pos.line X.env = pure false := by rfl) (hw : swappedStores [.Subscript (.Name x p) b tpos] a X.env = pure none := by rfl)
    (h1 : (assignEach [.Subscript (.Name x p) b tpos] X.env).map (·.2) = [assign (.Subscript (.Name x p) b tpos) X.env] := by rfl)
    (ha : ∀ v, assign (.Subscript (.Name x p) b tpos) X.env v = (do
      let ov ← holding [v] (eval (.Name x p) X.env)
      let iv ← holding [v, ov] (eval b X.env)
      standAt tpos
      holding [v, ov, iv] (setItem ov iv v)
      release [v, ov, iv] []) := by intro _; rfl) : SS X A Wx (.Assign [.Subscript (.Name x p) b tpos] a pos) (sSetIx k mi mv) := PS.imp (ps_asg hv (pg_sub hx hi set_list ha) hs hw h1) fun Dd σ H ⟨I, e, Fs, R, r, hm, kk⟩ => by
  obtain ⟨⟨d, e1⟩, h1, hm⟩ := Option.bind_eq_some_iff.mp hm
  refine ⟨I, e, Fs, R, d, e1, h1, fun v I1 F1 H1 R1 x1 r1 => ?_⟩
  split at hm
  · rename_i w0 hw0
    obtain ⟨⟨y, e2⟩, h2, hm⟩ := Option.bind_eq_some_iff.mp hm
    obtain ⟨v0, hv0, _⟩ := R1.at_ k _ hw0
    refine ⟨v0, hv0, I1, e1, F1, R1, y, e2, h2, fun u I2 F2 H2 R2 x2 r2 => ?_⟩
    split at hm
    · rename_i i ws h3 h4
      obtain ⟨j, h5, hm⟩ := Option.map_eq_some_iff.mp hm
      cases hm
      obtain ⟨v1, hv1, ro⟩ := R2.at_ k _ h4
      rw [hv0] at hv1
      cases hv1
      simp only [Ro] at ro
      obtain ⟨l, xs, G, rfl, g1, g2, g3⟩ := ro
      have h3' : y = .int i := h3
      subst h3'
      simp only [Rp] at r2
      subst r2
      have nd := R2.nd k
      rw [g2, List.nodup_cons] at nd
      refine ⟨l, xs, i, j, rfl, rfl, g1, by rw [← g3.len]; exact h5, ?_⟩
      -- the state without the list, then with the new one
      have Rd := R2.drop (i := k)
      have hl : MF F2 l := ⟨k, by rw [g2]; simp⟩
      have hIl : I2 l = none := R2.out k l (by rw [g2]; simp)
      have hFl : ¬ MF (putF F2 k []) l := fun ⟨i', hi'⟩ => by
        by_cases z : i' = k
        · subst z; rw [putF_same] at hi'; cases hi'
        · rw [putF_ne z] at hi'; exact z (R2.dj i' k l hi' (by rw [g2]; simp))
      have R3 := Rd.loose2 (o := .lst (xs.set j v)) hIl hFl (.lst g1)
      obtain ⟨G', g4, g5⟩ := RoL.setP (r1.mono x2.g.ex _ _) j g3
      have fr : ∀ c ∈ G', ∀ o, H2 c = some o → NT o → upd H2 l (.lst (xs.set j v)) c = some o := fun c hc o ho _ => by
        rw [upd_ne (fun z => by subst z; exact nd.1 (g5.subset hc))]
        exact ho
      have ow : Own X.K X.mg I2 (upd H2 l (.lst (xs.set j v))) (putF F2 k []) (.ol (ws.set j (.p d))) (.ref l) (l :: G') := by
        refine ⟨?_, List.nodup_cons.mpr ⟨fun hc => nd.1 (g5.subset hc), nd.2.sublist g5⟩, fun c hc => ?_, fun c hc => ?_⟩
        · simp only [Ro]
          exact ⟨l, _, G', rfl, upd_same, rfl, g4.frame (Ex.refl _) _ _ _ fr⟩
        · rcases List.mem_cons.mp hc with rfl | hc
          · exact hIl
          · exact R2.out k c (by rw [g2]; exact List.mem_cons_of_mem _ (g5.subset hc))
        · rcases List.mem_cons.mp hc with rfl | hc
          · exact hFl
          · intro ⟨i', hi'⟩
            by_cases z : i' = k
            · subst z; rw [putF_same] at hi'; cases hi'
            · rw [putF_ne z] at hi'; exact z (R2.dj i' k c hi' (by rw [g2]; exact List.mem_cons_of_mem _ (g5.subset hc)))
      have R4 := R3.put (i := k) ow
      have es : σ.set k (some (.ref l)) = σ := by
        obtain ⟨hlt, e0⟩ := List.getElem?_eq_some_iff.mp hv0
        exact List.ext_getElem? fun j' => by
          by_cases z : k = j'
          · subst z; rw [List.getElem?_set_self hlt, hv0]
          · rw [List.getElem?_set_ne z]
      have ee : (e2.set k none).set k (some (.ol (ws.set j (.p d)))) = e2.set k (some (.ol (ws.set j (.p d)))) := List.set_set ..
      rw [es, ee] at R4
      have xx : Ext F1 I1 H1 (putF (putF F2 k []) k (l :: G')) I2 (upd H2 l (.lst (xs.set j v))) := by
        have keep : ∀ c, MF F2 c → MF F1 c ∨ H1 c = none := x2.fp
        refine ⟨x2.g.set (keep _ hl) (.lst g1), fun c hc => ?_⟩
        · rcases hc.put with q | q
          · refine keep c ⟨k, ?_⟩
            rw [g2]
            rcases List.mem_cons.mp q with rfl | q
            · simp
            · exact List.mem_cons_of_mem _ (g5.subset q)
          · exact keep c q.nil
      exact kk σ I2 _ _ R4 (x1.trans xx) Agr.refl
    · cases hm
  · cases hm
end

/-! ### "".join -/
def strsD : List D → Option (List Str)
  | [] => some []
  | .str b :: r => (strsD r).map (b :: ·)
  | _ => none
theorem strs_v {K : PySem.W.Frag} {mg : Str → Option Value} {I : Hp} : ∀ {ds : List D} {bs : List Str} {xs : List V}, strsD ds = some bs → RpL K mg I ds xs → xs = bs.map V.str
  | [], bs, xs, h, r => by cases h; simp only [RpL] at r; exact r
  | .str b :: ds, bs, xs, h, r => by
    simp only [RpL] at r
    obtain ⟨x, t, rfl, h1, h2⟩ := r
    obtain ⟨cs, h3, rfl⟩ := Option.map_eq_some_iff.mp (show (strsD ds).map (b :: ·) = some bs from h)
    simp only [Rp] at h1
    rw [h1, strs_v h3 h2]
    rfl
  | .none :: _, _, _, h, _ => by cases h
  | .int _ :: _, _, _, h, _ => by cases h
  | .bool _ :: _, _, _, h, _ => by cases h
  | .lst _ :: _, _, _, h, _ => by cases h
  | .fl _ :: _, _, _, h, _ => by cases h
  | .tup _ :: _, _, _, h, _ => by cases h
  | .dict _ :: _, _, _, h, _ => by cases h
  | .inst _ _ :: _, _, _, h, _ => by cases h
def joinD : D → D → Option D
  | .str a, .lst ds => (strsD ds).bind fun ys => if (ys.map (·.length)).sum + ys.length * a.length ≤ LIM then some (.str (Txt.join a ys)) else none
  | .str a, .tup ds => (strsD ds).bind fun ys => if (ys.map (·.length)).sum + ys.length * a.length ≤ LIM then some (.str (Txt.join a ys)) else none
  | _, _ => none
def mOp2 (f : D → D → Option D) (a : M D) (ma : M (List Arg)) : M D := fun e => (a e).bind fun x => (ma x.2).bind fun y => match allD y.1 with
  | some [d] => (f x.1 d).map fun z => (z, y.2)
  | _ => none
theorem se_join {X : Cx} {o b : Expr} {mo : M D} {ma : M (List Arg)} {apos pos : Pos} (ho : SE X o mo) (hb : SA X [b] ma) (hbase : attributeBase o "join" X.env (eval o X.env) = eval o X.env := by rfl)
    (hfew : ((backTo pos (starEach [b] X.env)).all (fun x => !x.1) && (backToKw pos (keywordEach [] X.env)).all (fun x => x.1.isSome)
      && decide ([b].length + ([] : List Keyword).length + (if ([] : List Keyword).isEmpty then 0 else 1) < 30)) = true := by rfl)
    (hline : (apos.endLine == pos.line) = true := by rfl) (hs : starEach [b] X.env = (false, eval b X.env) :: starEach [] X.env := by rfl) (hplain : (backTo pos (starEach [] X.env)).any (·.1) = false := by rfl) :
    SE X (.Call (.Attribute o "join" apos) [b] [] pos) (mOp2 joinD mo ma) := by
  refine PE.imp (pe_bm PySem.F.plainAttrs_str PySem.F.slot_str_join PySem.F.type_str_join mt_join ho hb hbase hfew hline hs hplain) fun σ H Q ⟨I, e, Fs, R, d, e', hm, kk⟩ => ?_
  obtain ⟨⟨x, e1⟩, h1, hm⟩ := Option.bind_eq_some_iff.mp hm
  obtain ⟨⟨as, e2⟩, h2, hm⟩ := Option.bind_eq_some_iff.mp hm
  refine ⟨I, e, Fs, R, x, e1, h1, fun v I1 F1 H1 R1 x1 r1 => ?_⟩
  split at hm
  · rename_i d0 hd0
    obtain ⟨z, h3, hm⟩ := Option.map_eq_some_iff.mp hm
    cases hm
    have isS : ∃ a, x = .str a := by
      cases x with
      | str a => exact ⟨a, rfl⟩
      | _ => cases h3
    obtain ⟨a, rfl⟩ := isS
    simp only [Rp] at r1
    subst r1
    refine ⟨rfl, I1, e1, F1, R1, as, e2, h2, fun vs I2 F2 H2 R2 x2 r2 => ?_⟩
    obtain ⟨u, rfl, r3⟩ := (allD_rp hd0 r2).one
    cases d0 with
    | lst ds =>
      obtain ⟨ys, h4, h5⟩ := Option.bind_eq_some_iff.mp h3
      have h5 : (if (ys.map (·.length)).sum + ys.length * a.length ≤ LIM then some (D.str (Txt.join a ys)) else none) = some d := h5
      split at h5
      · rename_i hz
        cases h5
        simp only [Rp] at r3
        obtain ⟨l, xs, rfl, g1, g2⟩ := r3
        exact ⟨a, l, ys, rfl, rfl, .inl (by rw [← strs_v h4 g2]; exact .of (R2.sub _ _ g1)), by unfold LIM at hz; omega, kk _ I2 F2 H2 R2 (x1.trans x2) rp_str⟩
      · cases h5
    | tup ds =>
      obtain ⟨ys, h4, h5⟩ := Option.bind_eq_some_iff.mp h3
      have h5 : (if (ys.map (·.length)).sum + ys.length * a.length ≤ LIM then some (D.str (Txt.join a ys)) else none) = some d := h5
      split at h5
      · rename_i hz
        cases h5
        simp only [Rp] at r3
        obtain ⟨l, xs, rfl, g1, g2⟩ := r3
        exact ⟨a, l, ys, rfl, rfl, .inr (by rw [← strs_v h4 g2]; exact ex_t R2.sub g1), by unfold LIM at hz; omega, kk _ I2 F2 H2 R2 (x1.trans x2) rp_str⟩
      · cases h5
    | _ => cases h3
  · cases hm

/-! ### keywords alone -/
def tKw (K : PySem.W.Frag) (mg : Str → Option Value) (m : M (List Arg)) : TA := tAr K mg m
def SK (X : Cx) (kws : List Keyword) (m : M (List Arg)) : Prop := PK X kws (tAr X.K X.mg m)
theorem PK.imp {X : Cx} {a : List Keyword} {t t' : TA} (h : PK X a t) (i : ∀ σ H Q, t' σ H Q → t σ H Q) : PK X a t' := ⟨fun pos pins s σ H Q I hq => h.run pos pins s σ H Q I (i σ H Q hq)⟩
section
variable {X : Cx} {a : Expr} {kws : List Keyword} {pos kpos p : Pos} {nm : Option Str}
theorem sk_nil : SK X [] aNil := PK.imp pk_nil fun σ H Q ⟨I, e, Fs, R, as, e', hm, k⟩ => by
  cases hm
  exact k [] I Fs H R Ext.refl rfl
theorem sk_d {m : M D} {r : M (List Arg)} (h : SE X a m) (hr : SK X kws r) : SK X (⟨nm, a, kpos⟩ :: kws) (aD m r) := PK.imp (pk_cons h hr) fun σ H Q ⟨I, e, Fs, R, as, e', hm, k⟩ => by
  obtain ⟨⟨x, e1⟩, h1, hm⟩ := Option.bind_eq_some_iff.mp hm
  obtain ⟨⟨y, e2⟩, h2, hm⟩ := Option.map_eq_some_iff.mp hm
  cases hm
  refine ⟨I, e, Fs, R, x, e1, h1, fun v I1 F1 H1 R1 x1 r1 => ⟨I1, e1, F1, R1, y, e2, h2, fun vs I2 F2 H2 R2 x2 r2 => ?_⟩⟩
  exact k (v :: vs) I2 F2 H2 R2 (x1.trans x2) ⟨v, vs, rfl, r1.mono x2.g.ex _ _, r2⟩
end
end MV

namespace MV
open PySem L2
variable [TB]

/-! ### a def of the module, by its name -/
def Fn (P : Program) (w : World) (K : PySem.W.Frag) (mg : Str → Option Value) (base : Heap) (k : Nat) (x : Str) (ps : List Str) (g : FSem) : Prop :=
  ∃ f fd, mg x = some (.ref f) ∧ PySem.W.keepIn K (.ref f) = true ∧ Binds K fd ps [] ∧ FnOk P w K mg base (L2N.CX P w) k f fd ps (spF K mg ps.length g)
/-- .. by its keywords ks, in the order ix -/
def FnK (P : Program) (w : World) (K : PySem.W.Frag) (mg : Str → Option Value) (base : Heap) (k : Nat) (x : Str) (ps ks : List Str) (ix : List Nat) (g : FSem) : Prop :=
  ∃ f fd, mg x = some (.ref f) ∧ PySem.W.keepIn K (.ref f) = true ∧ (∀ (s : Shared) (ws : List Value), ws.length = ks.length → BindsTo s fd ⟨[], ks.zip ws⟩ (ps.zip (ix.filterMap (ws[·]?)))) ∧ FnOk P w K mg base (L2N.CX P w) k f fd ps (spF K mg ps.length g)
theorem fn_none {P : Program} {w : World} {K : PySem.W.Frag} {mg : Str → Option Value} {base : Heap} {k : Nat} {f : Addr} {fd : FuncData} {ps : List Str} : FnOk P w K mg base (L2N.CX P w) k f fd ps (spF K mg ps.length fun _ => none) :=
  ⟨fun vs H Q E h => spF_len h, fun A outer s H args us vs Q E _ _ _ _ ⟨I, ws, Fa, _, _, w, oe, h, _, _⟩ => by cases h⟩
section
variable {P : Program} {w : World} {K : PySem.W.Frag} {mg : Str → Option Value} {base : Heap}
theorem FunD.kb {x qual : Str} {params : Arguments} {body : List Stmt} {scope : Scope} {kws : List (Str × V)} {f : Addr} {fd : FuncData} {ps ks : List Str} {ix : List Nat} (F : FunD K x qual params body scope [] kws f fd)
    (h : ∀ (kV doc pm : Value) (an : Option Addr) (cdv ct : Value) (ws : List Value), ws.length = ks.length → bindArgs (PySem.W.fnOf x qual params body scope .none kV doc pm an cdv ct) ⟨[], ks.zip ws⟩ = pure (ps.zip (ix.filterMap (ws[·]?)))) :
    ∀ (s : Shared) (ws : List Value), ws.length = ks.length → BindsTo s fd ⟨[], ks.zip ws⟩ (ps.zip (ix.filterMap (ws[·]?))) := by
  obtain ⟨oc, od, dV, kV, doc, pm, an, cdv, ct, osl, rfl, lk, hcd, hD, hK⟩ := F.ex
  rcases hD with ⟨_, rfl⟩ | ⟨e, _⟩
  · exact fun s ws hl => .of_eq (h kV doc pm an cdv ct ws hl)
  · exact absurd rfl e
end
def aPerm (ix : List Nat) (m : M (List Arg)) : M (List Arg) := fun e => (m e).map fun x => (ix.filterMap (x.1[·]?), x.2)
theorem ArgR.get {K : PySem.W.Frag} {mg : Str → Option Value} {I : Hp} {σ : L2.St} : ∀ {as : List Arg} {vs : List V} (i : Nat), ArgR K mg I σ as vs → (∃ a v, as[i]? = some a ∧ vs[i]? = some v ∧ ArgR K mg I σ [a] [v]) ∨ (as[i]? = none ∧ vs[i]? = none)
  | [], vs, i, h => by simp only [ArgR] at h; subst h; right; simp
  | a :: as, vs, i, h => by
    have hh : ∃ v t, vs = v :: t ∧ ArgR K mg I σ [a] [v] ∧ ArgR K mg I σ as t := by
      cases a with
      | d d => obtain ⟨v, t, e, h1, h2⟩ := h; exact ⟨v, t, e, ⟨v, [], rfl, h1, rfl⟩, h2⟩
      | io j => obtain ⟨v, t, e, h1, h2⟩ := h; exact ⟨v, t, e, ⟨v, [], rfl, h1, rfl⟩, h2⟩
    obtain ⟨v, t, rfl, h1, h2⟩ := hh
    cases i with
    | zero => exact .inl ⟨a, v, rfl, rfl, h1⟩
    | succ i => simpa using ArgR.get i h2
theorem ArgR.app {K : PySem.W.Frag} {mg : Str → Option Value} {I : Hp} {σ : L2.St} {a : Arg} {v : V} {as : List Arg} {vs : List V} (h : ArgR K mg I σ [a] [v]) (t : ArgR K mg I σ as vs) : ArgR K mg I σ (a :: as) (v :: vs) := by
  cases a with
  | d d => obtain ⟨v', t', e, h1, h2⟩ := h; cases e; exact ⟨_, _, rfl, h1, t⟩
  | io j => obtain ⟨v', t', e, h1, h2⟩ := h; cases e; exact ⟨_, _, rfl, h1, t⟩
theorem ArgR.perm {K : PySem.W.Frag} {mg : Str → Option Value} {I : Hp} {σ : L2.St} {as : List Arg} {vs : List V} (h : ArgR K mg I σ as vs) : ∀ ix : List Nat, ArgR K mg I σ (ix.filterMap (as[·]?)) (ix.filterMap (vs[·]?))
  | [] => rfl
  | i :: ix => by
    rw [List.filterMap_cons, List.filterMap_cons]
    rcases h.get i with ⟨a, v, e1, e2, q⟩ | ⟨e1, e2⟩
    · rw [e1, e2]; exact q.app (ArgR.perm h ix)
    · rw [e1, e2]; exact ArgR.perm h ix
theorem Vals.perm {xs : List V} {us : List Value} (h : Vals xs us) : ∀ ix : List Nat, Vals (ix.filterMap (xs[·]?)) (ix.filterMap (us[·]?))
  | [] => .nil
  | i :: ix => by
    rw [List.filterMap_cons, List.filterMap_cons]
    cases e : xs[i]? with
    | none => rw [h.none_of e]; exact Vals.perm h ix
    | some x =>
      obtain ⟨u, e2, r⟩ := h.get e
      rw [e2]
      exact .cons r (Vals.perm h ix)
theorem perm_run {K : PySem.W.Frag} {mg : Str → Option Value} {ix : List Nat} {ma : M (List Arg)} {σ : L2.St} {H : Hp} {Q : List V → Hp → Prop} (h : tAr K mg (aPerm ix ma) σ H Q) : tAr K mg ma σ H fun vs H1 => Q (ix.filterMap (vs[·]?)) H1 := by
  obtain ⟨I, e, Fs, R, as, e', hm, k⟩ := h
  obtain ⟨⟨as0, e1⟩, h1, hm⟩ := Option.map_eq_some_iff.mp hm
  cases hm
  exact ⟨I, e, Fs, R, as0, e1, h1, fun vs I' Fs' H' R' x r => k _ I' Fs' H' R' x (r.perm ix)⟩
section
variable {X : Cx} {Wx : WX} {k : Nat} {ps : List Str} {g : FSem} {x : Str} {p pos : Pos} {a : Expr} {es : List Expr} {ma : M (List Arg)}
theorem so_fn (tk : L2N.Takes X Wx) (F : Fn X.prog X.w X.K X.mg X.base k x ps g) (hr : Room k X.A) (hg : Gl X x) (ha : SA X (a :: es) ma) (hn : ∀ as e e', ma e = some (as, e') → as.length = ps.length)
    (hdb : (x == ("__debug__" : Str)) = false := by decide) (he : starEach (a :: es) X.env = (false, eval a X.env) :: starEach es X.env := by rfl) (hpl : (backTo pos (starEach es X.env)).any (·.1) = false := by rfl) :
    SO X Wx (.Call (.Name x p) (a :: es) [] pos) (mCall g ma) := by
  obtain ⟨f, fd, h1, h2, h3, h4⟩ := F
  exact so_call tk h4 hr hg h1 h2 h3 ha hn hdb he hpl
theorem so_fnK {ks : List Str} {ix : List Nat} {kws : List Keyword} (tk : L2N.Takes X Wx) (F : FnK X.prog X.w X.K X.mg X.base k x ps ks ix g) (hr : Room k X.A) (hg : Gl X x)
    (hkw : SK X kws ma) (hn : ∀ as e e', aPerm ix ma e = some (as, e') → as.length = ps.length) (hn2 : ∀ as e e', ma e = some (as, e') → as.length = ks.length) (hall : (backToKw pos (keywordEach kws X.env)).all (·.1.isSome) = true := by rfl) (hks : (backToKw pos (keywordEach kws X.env)).filterMap (·.1) = ks := by rfl)
    (hdb : (x == ("__debug__" : Str)) = false := by decide) (hplain : ((backTo pos (starEach [] X.env)).any (·.1) || (backToKw pos (keywordEach kws X.env)).any (·.1.isNone)) = false := by rfl) :
    SO X Wx (.Call (.Name x p) [] kws pos) (mCall g (aPerm ix ma)) := by
  obtain ⟨f, fd, hm, hk, hb, F⟩ := F
  refine ⟨fun pins s σ H Q I h => ?_⟩
  have h := perm_run (call_step hn h)
  have h : tAr X.K X.mg ma σ H fun vs H1 => vs.length = ks.length ∧ spF X.K X.mg ps.length g (ix.filterMap (vs[·]?)) H1 Q (WE Wx σ) := by
    obtain ⟨I, e, Fs, R, as, e', hm, kk⟩ := h
    refine ⟨I, e, Fs, R, as, e', hm, fun vs I' Fs' H' R' x r => ⟨?_, kk vs I' Fs' H' R' x r⟩⟩
    rw [← hn2 as e e' hm]
    have : ∀ {as : List Arg} {vs : List V}, ArgR X.K X.mg I' σ as vs → vs.length = as.length := by
      intro as
      induction as with
      | nil => intro vs h; simp only [ArgR] at h; subst h; rfl
      | cons a as ih =>
        intro vs h
        cases a with
        | d d => obtain ⟨v, t, rfl, _, h2⟩ := h; rw [List.length_cons, List.length_cons, ih h2]
        | io j => obtain ⟨v, t, rfl, _, h2⟩ := h; rw [List.length_cons, List.length_cons, ih h2]
    exact this r
  refine wpAny_Call_Name_kw (ld_glob I hg hm ?_ hdb)
  refine PySem.W.callWith_KW0 (h₀ := X.base) I.ok.mod.kin hk hall (thn (hkw.run pos pins s σ H _ I h) fun ws s2 ⟨zs, H2, I2, rz, l2, q2⟩ => ⟨I2.kIn, ?_⟩) hplain
  rw [hks]
  refine wpAny_call (codeAny_mono (F.run X.A X.stack s2 H2 ⟨[], ks.zip ws⟩ (ix.filterMap (ws[·]?)) (ix.filterMap (zs[·]?)) Q (WE Wx σ) hr I2.env0 (hb s2 ws (by rw [← rz.length]; exact l2)) (MV.Vals.perm rz ix) q2) fun r s' hq => ?_)
  cases r with
  | error e => exact L2N.passAt tk σ pins H2 s2 e s' I2 hq
  | ok fl =>
    cases fl with
    | ret u => exact I2.after hq
    | next => exact False.elim hq
    | brk => exact False.elim hq
    | cont => exact False.elim hq
theorem se_globI {i : Int} (hg : Gl X x) (hm : ∃ t, X.mg x = some (.int i t)) (hdb : (x == ("__debug__" : Str)) = false := by decide) : SE X (.Name x pos) (mC (.int i)) := by
  obtain ⟨t, hm⟩ := hm
  exact se_glob (v := .int i) hg hm ⟨t, rfl⟩ rp_int hdb
theorem se_globS {i : Str} (hg : Gl X x) (hm : ∃ t, X.mg x = some (.str i t)) (hdb : (x == ("__debug__" : Str)) = false := by decide) : SE X (.Name x pos) (mC (.str i)) := by
  obtain ⟨t, hm⟩ := hm
  exact se_glob (v := .str i) hg hm ⟨t, rfl⟩ rp_str hdb
end
theorem _root_.L2.Room.u64 {k : Nat} {A : Around} (r : Room k A) : A.units + 64 < cLine := r.units
theorem _root_.L2.Room.u65 {k : Nat} {A : Around} (r : Room k A) : A.units + 65 < cLine := by have := r.un; omega
theorem mp_lc {K : PySem.W.Frag} {mg : Str → Option Value} {m : M D} {σ : L2.St} {H : Hp} {Q : VK} {Wx : WX} (h : tO K mg Wx (mP m) σ H Q) : tE K mg m σ H Q := by
  obtain ⟨I, e, Fs, R, w, e', hm, k, _⟩ := h
  obtain ⟨⟨d, e1⟩, h1, hm⟩ := Option.map_eq_some_iff.mp hm
  cases hm
  exact ⟨I, e, Fs, R, d, e1, h1, fun v I' Fs' H' R' x r => k v I' Fs' H' [] R' x (.pure r) fun _ z => by cases z⟩
/-- name = [..] on one line, the name a local -/
theorem ss_setLc {X : Cx} {A : Nat → Bool} {Wx : WX} {i : Nat} {y : Str} {py : Pos} {elt tg iter : Expr} {ifs : List Expr} {scope : Scope} {own : List (Str × Nat)} {pos spos : Pos} {mi : M (List D)} {t : Tg} {c : M Bool} {m : M D} (hA : A i = true) (hc : X.calm = true) (hN : X.N.Nodup) (hy : X.N[i]? = some y) (hyl : X.env.scope.names.lookup y = some .local)
    (hsw : swapsWith (.ListComp elt [⟨tg, iter, ifs, 0⟩] scope pos) (some (.Name y py)) spos.line X.env = pure true) (ok : BlkOk X.N X.env.scope scope own) (hi : SI X tg iter mi)
    (hg : ∀ (s : Shared) (H : Hp) (C : Addr) (cl : List (Str × Addr)) (fp : List Addr), SG (X.blk s H scope (compEnvC scope cl C X.env) fp) (ownA (own.map (·.2))) tg t) (ht : ∀ (s : Shared) (H : Hp) (C : Addr) (cl : List (Str × Addr)) (fp : List Addr), STs (X.blk s H scope (compEnvC scope cl C X.env) fp) ifs c)
    (he : ∀ (s : Shared) (H : Hp) (C : Addr) (cl : List (Str × Addr)) (fp : List Addr), SE (X.blk s H scope (compEnvC scope cl C X.env) fp) elt m) (hs : ∀ x, foldedSetIterable iter X.env x = pure x := by intro _; rfl) :
    SS X A Wx (.Assign [.Name y py] (.ListComp elt [⟨tg, iter, ifs, 0⟩] scope pos) spos) (sSet i (mP (mLc (own.map (·.2)) mi t c m))) :=
  PS.imp (ps_setLc (g := tG X.K X.mg (ownA (List.map (fun (x : Str × Nat) => x.2) own)) t) (tt := tT X.K X.mg c) (te := tE X.K X.mg m) hc hN hy hyl hsw hi ok hg ht he hs) fun D σ H h => by
    have q : tO X.K X.mg Wx (mP (mLc (own.map (·.2)) mi t c m)) σ H fun x H1 => gName i x σ H1 D.nx := set_run hA h
    exact lc_run (mp_lc q)

theorem len_perm {ma : M (List Arg)} {n m : Nat} {ix : List Nat} (h1 : ix.all (fun i => decide (i < n)) = true) (h2 : ix.length = m) (h : ∀ (as : List Arg) (e e' : Env), ma e = some (as, e') → as.length = n) : ∀ (as : List Arg) (e e' : Env), aPerm ix ma e = some (as, e') → as.length = m := fun as e e' hm => by
  obtain ⟨⟨as0, e1⟩, h3, hm⟩ := Option.map_eq_some_iff.mp hm
  cases hm
  have hl := h as0 e e1 h3
  rw [← h2]
  have : ∀ ix : List Nat, ix.all (fun i => decide (i < n)) = true → (ix.filterMap (as0[·]?)).length = ix.length := by
    intro ix
    induction ix with
    | nil => intro _; rfl
    | cons i ix ih =>
      intro h
      rw [List.all_cons, Bool.and_eq_true, decide_eq_true_eq] at h
      rw [List.filterMap_cons, List.getElem?_eq_getElem (by omega), List.length_cons, List.length_cons, ih h.2]
  exact this ix h1
/-! ### the end of a row -/
abbrev sp0 (sp : Sp) : Sp := fun vs H Q _ => sp vs H Q fun _ _ _ => False
theorem fn0 {P : Program} {w : World} {K : PySem.W.Frag} {mg : Str → Option Value} {base : Heap} {k : Nat} {f : Addr} {fd : FuncData} {ps : List Str} {sp : Sp} (F : FnOk P w K mg base (L2N.CX P w) k f fd ps sp) : FnOk P w K mg base CX0 k f fd ps (sp0 sp) := by
  refine ⟨fun vs H Q E h => F.len vs H Q _ h, fun A outer s H args us vs Q E hr he hb hv hs => codeAny_mono (F.run A outer s H args us vs Q (fun _ _ _ => False) hr he hb hv hs) fun r s' hq => ?_⟩
  cases r with
  | ok fl => cases fl <;> exact hq
  | error e =>
    obtain ⟨_, _, _, _, _, _, _, _, _, _, _, _, z⟩ := hq
    exact z.elim
/-- the tables are left out -/
def noT (H : Hp) : Hp := fun a => match H a with
  | some (.tbl _) => none
  | o => o
theorem noT_some {H : Hp} {a : Addr} {o : HO} (h : H a = some o) (n : NT o) : noT H a = some o := by
  unfold noT
  rw [h]
  split
  · rename_i ps z
    cases z
    exact absurd rfl (n ps)
  · rfl
theorem noT_ex {H : Hp} : Ex (noT H) H := fun a o h => by
  unfold noT at h
  split at h
  · cases h
  · exact h
theorem law_sp {K : PySem.W.Frag} {mg : Str → Option Value} {g : FSem} (hg : ∀ ns : List Int, ns.length ≤ 63 → ∃ oe, g [.p (.fl (ns.map .int))] = some (.p (.bool true), oe)) (H : Hp) (a : Addr) (ns : List Int) (hl : ns.length ≤ 63) (hS : SqL K H a (ns.map V.int)) (hT : LamX.Tabs TB.T H) :
    spF K mg 1 g [.ref a] H (fun v _ => v = .bl true) fun _ _ _ => False := by
  obtain ⟨oe, h⟩ := hg ns hl
  have rl : ∀ ns : List Int, RpL K mg (noT H) (ns.map D.int) (ns.map V.int) := by
    intro ns
    induction ns with
    | nil => exact RpL.nil
    | cons n ns ih => exact RpL.cons rp_int ih
  have rp : Rp K mg (noT H) (.fl (ns.map .int)) (.ref a) := by
    simp only [Rp]
    refine ⟨a, _, rfl, ?_, rl ns⟩
    rcases hS with (q | ⟨o, q⟩) | q
    · exact .inl (.inl (noT_some q fun _ z => by cases z))
    · exact .inl (.inr ⟨o, noT_some q fun _ z => by cases z⟩)
    · exact .inr q
  refine ⟨noT H, [.p (.fl (ns.map .int))], consF [] (fun _ => []), rfl, (Rel.nil noT_ex ⟨hT, fun p hp => by
    obtain ⟨ps, h1, _⟩ := hT p hp
    unfold noT
    rw [h1]⟩).cons (.pure rp), _, oe, h, fun v I' Fo H' F R x o _ => ?_, fun x z => by cases z⟩
  have q := o.ro
  simp only [Ro, Rp] at q
  exact q.1
end MV

namespace MV
open PySem L2

/-! ### evaluation, a step at a time (no continuation is opened before its argument is known) -/
section
variable {α β γ : Type} {e e1 e2 : Env} {d x y z : D} {i j k : Nat} {m ma mb mc : M D} {f g : D → D → Option D} {b : Bool}
-- values
@[simp] theorem ev_C : mC d e = some (d, e) := rfl
def varK : Option (Option W) → Env → Option (D × Env)
  | some (some (.p d)), e => some (d, e)
  | _, _ => none
@[simp] theorem ev_var : mVar i e = varK e[i]? e := by unfold mVar varK; split <;> rename_i h <;> simp_all
@[simp] theorem varK_p : varK (some (some (.p d))) e = some (d, e) := rfl
def opK1 (f : D → D → Option D) (b : M D) : Option (D × Env) → Option (D × Env)
  | some x => (b x.2).bind fun y => (f x.1 y.1).map fun z => (z, y.2)
  | none => none
def opK2 (f : D → D → Option D) (x : D) : Option (D × Env) → Option (D × Env)
  | some y => (f x y.1).map fun z => (z, y.2)
  | none => none
def retK : Option D → Env → Option (D × Env)
  | some z, e => some (z, e)
  | none, _ => none
@[simp] theorem retK_s : retK (some d) e = some (d, e) := rfl
@[simp] theorem ev_op : mOp f ma mb e = opK1 f mb (ma e) := by unfold mOp opK1; cases ma e <;> rfl
@[simp] theorem opK1_s : opK1 f mb (some (x, e)) = opK2 f x (mb e) := by unfold opK1 opK2; cases h : mb e <;> simp [h]
@[simp] theorem opK2_s : opK2 f x (some (y, e)) = retK (f x y) e := by unfold opK2 retK; cases h : f x y <;> simp [h]
def unK (f : D → Option D) : Option (D × Env) → Option (D × Env)
  | some x => retK (f x.1) x.2
  | none => none
@[simp] theorem ev_un {f : D → Option D} : mUn f ma e = unK f (ma e) := by unfold mUn unK retK; cases ma e with
  | none => rfl
  | some x => cases h : f x.1 <;> simp [h]
@[simp] theorem unK_s {f : D → Option D} : unK f (some (x, e)) = retK (f x) e := rfl
-- tests
def bK {α : Type} : Option α → Env → Option (α × Env)
  | some b, e => some (b, e)
  | none, _ => none
@[simp] theorem bK_s {b : α} : bK (some b) e = some (b, e) := rfl
def truK : Option (D × Env) → Option (Bool × Env)
  | some x => bK (dTru x.1) x.2
  | none => none
@[simp] theorem ev_tru : mTru m e = truK (m e) := by unfold mTru truK bK; cases m e with
  | none => rfl
  | some x => cases h : dTru x.1 <;> simp [h]
@[simp] theorem truK_s : truK (some (d, e)) = bK (dTru d) e := rfl
def boolK : Option (D × Env) → Option (Bool × Env)
  | some (.bool b, e) => some (b, e)
  | _ => none
@[simp] theorem ev_bool : mBool m e = boolK (m e) := by unfold mBool boolK; cases h : m e with
  | none => rfl
  | some x => obtain ⟨d, e1⟩ := x; cases d <;> rfl
@[simp] theorem boolK_s : boolK (some (.bool b, e)) = some (b, e) := rfl
def andK (u : M Bool) : Option (Bool × Env) → Option (Bool × Env)
  | some (true, e) => u e
  | some (false, e) => some (false, e)
  | none => none
def orK (u : M Bool) : Option (Bool × Env) → Option (Bool × Env)
  | some (false, e) => u e
  | some (true, e) => some (true, e)
  | none => none
variable {t u : M Bool}
@[simp] theorem ev_and : mAnd t u e = andK u (t e) := by unfold mAnd andK; cases h : t e with
  | none => rfl
  | some x => obtain ⟨b, e1⟩ := x; cases b <;> rfl
@[simp] theorem ev_or : mOr t u e = orK u (t e) := by unfold mOr orK; cases h : t e with
  | none => rfl
  | some x => obtain ⟨b, e1⟩ := x; cases b <;> rfl
@[simp] theorem andK_t : andK u (some (true, e)) = u e := rfl
@[simp] theorem andK_f : andK u (some (false, e)) = some (false, e) := rfl
@[simp] theorem orK_f : orK u (some (false, e)) = u e := rfl
@[simp] theorem orK_t : orK u (some (true, e)) = some (true, e) := rfl
def notK : Option (Bool × Env) → Option (Bool × Env)
  | some (b, e) => some (!b, e)
  | none => none
@[simp] theorem ev_not : mNot t e = notK (t e) := by unfold mNot notK; cases t e <;> rfl
@[simp] theorem notK_s : notK (some (b, e)) = some (!b, e) := rfl
def ifK {α : Type} (a b : Env → Option α) : Option (Bool × Env) → Option α
  | some (true, e) => a e
  | some (false, e) => b e
  | none => none
@[simp] theorem ifK_t {a b : Env → Option α} : ifK a b (some (true, e)) = a e := rfl
@[simp] theorem ifK_f {a b : Env → Option α} : ifK a b (some (false, e)) = b e := rfl
@[simp] theorem ev_if {a b : M α} : mIf t a b e = ifK a b (t e) := by unfold mIf ifK; cases h : t e with
  | none => rfl
  | some x => obtain ⟨b, e1⟩ := x; cases b <;> rfl
@[simp] theorem ev_sif {a b : S} : sIf t a b e = ifK a b (t e) := by unfold sIf ifK; cases h : t e with
  | none => rfl
  | some x => obtain ⟨b, e1⟩ := x; cases b <;> rfl
@[simp] theorem ev_andV : mAndV ma mb e = ifK mb (fun e => some (.bool false, e)) (boolK (ma e)) := by
  unfold mAndV; rw [ev_bool]; cases h : boolK (ma e) with
  | none => rfl
  | some x => obtain ⟨b, e1⟩ := x; cases b <;> rfl
@[simp] theorem ev_orV : mOrV ma mb e = ifK (fun e => some (.bool true, e)) mb (boolK (ma e)) := by
  unfold mOrV; rw [ev_bool]; cases h : boolK (ma e) with
  | none => rfl
  | some x => obtain ⟨b, e1⟩ := x; cases b <;> rfl
def notVK : Option (Bool × Env) → Option (D × Env)
  | some (b, e) => some (.bool !b, e)
  | none => none
@[simp] theorem ev_notV : mNotV ma e = notVK (boolK (ma e)) := by unfold mNotV notVK; rw [ev_bool]; cases boolK (ma e) <;> rfl
@[simp] theorem notVK_s : notVK (some (b, e)) = some (.bool !b, e) := rfl
def chK1 (f g : D → D → Option D) (b c : M D) : Option (D × Env) → Option (D × Env)
  | some x => mChain f g (fun e => some (x.1, x.2)) b c x.2
  | none => none
def chK2 (f g : D → D → Option D) (c : M D) (x : D) : Option (D × Env) → Option (D × Env)
  | some y => mChain f g (fun e => some (x, y.2)) (fun e => some (y.1, e)) c y.2
  | none => none
def chK3 (g : D → D → Option D) (c : M D) (y : D) (e : Env) : Option D → Option (D × Env)
  | some (.bool true) => opK2 g y (c e)
  | some (.bool false) => some (.bool false, e)
  | _ => none
@[simp] theorem ev_chain : mChain f g ma mb mc e = chK1 f g mb mc (ma e) := by unfold mChain chK1; cases h : ma e <;> simp [mChain]
@[simp] theorem chK1_s : chK1 f g mb mc (some (x, e)) = chK2 f g mc x (mb e) := by unfold chK1 chK2; cases h : mb e <;> simp [mChain, h]
@[simp] theorem chK2_s : chK2 f g mc x (some (y, e)) = chK3 g mc y e (f x y) := by
  unfold chK2 chK3 opK2
  cases h : f x y with
  | none => simp [mChain, h]
  | some z => cases z with
    | bool b => cases b with
      | true => simp [mChain, h]; cases h2 : mc e <;> simp [h2]
      | false => simp [mChain, h]
    | _ => simp [mChain, h]
@[simp] theorem chK3_t : chK3 g mc y e (some (.bool true)) = opK2 g y (mc e) := rfl
@[simp] theorem chK3_f : chK3 g mc y e (some (.bool false)) = some (.bool false, e) := rfl
-- arguments, displays, calls
variable {r : M (List Arg)} {as : List Arg} {ds : List D}
@[simp] theorem ev_nil : aNil e = some ([], e) := rfl
def aK1 (r : M (List Arg)) : Option (D × Env) → Option (List Arg × Env)
  | some x => (r x.2).map fun y => (.d x.1 :: y.1, y.2)
  | none => none
def aK2 (a : Arg) : Option (List Arg × Env) → Option (List Arg × Env)
  | some y => some (a :: y.1, y.2)
  | none => none
@[simp] theorem ev_aD : aD m r e = aK1 r (m e) := by unfold aD aK1; cases m e <;> rfl
@[simp] theorem aK1_s : aK1 r (some (d, e)) = aK2 (.d d) (r e) := by unfold aK1 aK2; cases h : r e <;> simp [h]
@[simp] theorem aK2_s {a : Arg} : aK2 a (some (as, e)) = some (a :: as, e) := rfl
def aK3 (i : Nat) (r : M (List Arg)) : Option (Option W) → Env → Option (List Arg × Env)
  | some (some _), e => aK2 (.io i) (r e)
  | _, _ => none
@[simp] theorem ev_aIO : aIO i r e = aK3 i r e[i]? e := by unfold aIO aK3 aK2; split <;> rename_i h <;> simp_all; cases r e <;> rfl
@[simp] theorem aK3_s {w : W} : aK3 i r (some (some w)) e = aK2 (.io i) (r e) := rfl
@[simp] theorem allD_nil : allD [] = some [] := rfl
@[simp] theorem allD_d : allD (.d d :: as) = (allD as).map (d :: ·) := rfl
def dispK1 (f : List D → Option D) : Option (List Arg × Env) → Option (D × Env)
  | some x => dispK2 f (allD x.1) x.2
  | none => none
where dispK2 (f : List D → Option D) : Option (List D) → Env → Option (D × Env)
  | some ds, e => retK (f ds) e
  | none, _ => none
@[simp] theorem ev_disp {f : List D → Option D} : mDisp f r e = dispK1 f (r e) := by
  unfold mDisp dispK1; cases h : r e with
  | none => rfl
  | some x =>
    simp only [Option.bind_some]
    cases h2 : allD x.1 with
    | none => rfl
    | some ds => simp only [Option.bind_some, dispK1.dispK2, retK]; cases f ds <;> rfl
@[simp] theorem dispK1_s {f : List D → Option D} : dispK1 f (some (as, e)) = dispK1.dispK2 f (allD as) e := rfl
@[simp] theorem dispK2_s {f : List D → Option D} : dispK1.dispK2 f (some ds) e = retK (f ds) e := rfl
def callK1 (g : FSem) : Option (List Arg × Env) → Option (W × Env)
  | some x => callK2 g x.1 (gather x.1 x.2)
  | none => none
where
  callK2 (g : FSem) (as : List Arg) : Option (List W × Env) → Option (W × Env)
  | some y => callK3 as y.2 (g y.1)
  | none => none
  callK3 (as : List Arg) (e : Env) : Option (W × Env) → Option (W × Env)
  | some z => some (z.1, scatter as z.2 e)
  | none => none
variable {gg : FSem} {ws : List W} {w : W} {oe : Env}
@[simp] theorem ev_call : mCall gg r e = callK1 gg (r e) := by
  unfold mCall callK1; cases h : r e with
  | none => rfl
  | some x =>
    simp only [Option.bind_some]
    cases h2 : gather x.1 x.2 with
    | none => rfl
    | some y => simp only [Option.bind_some, callK1.callK2, callK1.callK3]; cases gg y.1 <;> rfl
@[simp] theorem callK1_s : callK1 gg (some (as, e)) = callK1.callK2 gg as (gather as e) := rfl
@[simp] theorem callK2_s : callK1.callK2 gg as (some (ws, e)) = callK1.callK3 as e (gg ws) := rfl
@[simp] theorem callK3_s : callK1.callK3 as e (some (w, oe)) = some (w, scatter as oe e) := rfl
def gatK (w : W) : Option (List W × Env) → Option (List W × Env)
  | some x => some (w :: x.1, x.2)
  | none => none
@[simp] theorem gatK_s : gatK w (some (ws, e)) = some (w :: ws, e) := rfl
@[simp] theorem gather_nil : gather [] e = some ([], e) := rfl
@[simp] theorem gather_d : gather (.d d :: as) e = gatK (.p d) (gather as e) := by unfold gatK; show (gather as e).map _ = _; cases gather as e <;> rfl
def gatI (as : List Arg) (e1 : Env) : Option (Option W) → Option (List W × Env)
  | some (some w) => gatK w (gather as e1)
  | _ => none
@[simp] theorem gather_io : gather (.io i :: as) e = gatI as (e.set i none) e[i]? := by
  show (match e[i]? with
    | some (some w) => (gather as (e.set i none)).map fun (x : List W × Env) => (w :: x.1, x.2)
    | _ => none) = _
  generalize e[i]? = q
  cases q with
  | none => rfl
  | some q => cases q with
    | none => rfl
    | some w => simp only [gatI, gatK]; cases gather as (e.set i none) <;> rfl
@[simp] theorem gatI_s : gatI as e (some (some w)) = gatK w (gather as e) := rfl
@[simp] theorem scatter_nil : scatter [] oe e = e := rfl
@[simp] theorem scatter_d {o : Option W} : scatter (.d d :: as) (o :: oe) e = scatter as oe e := rfl
@[simp] theorem scatter_io : scatter (.io i :: as) (some w :: oe) e = scatter as oe (e.set i (some w)) := rfl
@[simp] theorem scatter_ion : scatter (.io i :: as) (none :: oe) e = scatter as oe e := rfl
def permK (ix : List Nat) : Option (List Arg × Env) → Option (List Arg × Env)
  | some (as, e) => some (ix.filterMap (as[·]?), e)
  | none => none
@[simp] theorem ev_perm {ix : List Nat} : aPerm ix r e = permK ix (r e) := by unfold aPerm permK; cases r e <;> rfl
@[simp] theorem permK_s {ix : List Nat} : permK ix (some (as, e)) = some (ix.filterMap (as[·]?), e) := rfl
-- owned
variable {mw : M W}
def pK : Option (D × Env) → Option (W × Env)
  | some x => some (.p x.1, x.2)
  | none => none
@[simp] theorem ev_P : mP m e = pK (m e) := by unfold mP pK; cases m e <;> rfl
@[simp] theorem pK_s : pK (some (d, e)) = some (.p d, e) := rfl
def gpK : Option (W × Env) → Option (D × Env)
  | some (.p d, e) => some (d, e)
  | _ => none
@[simp] theorem ev_GetP : mGetP mw e = gpK (mw e) := by unfold mGetP gpK; cases h : mw e with
  | none => rfl
  | some x => obtain ⟨w, e1⟩ := x; cases w <;> rfl
@[simp] theorem gpK_s : gpK (some (.p d, e)) = some (d, e) := rfl
def moveK (i : Nat) (e : Env) : Option (Option W) → Option (W × Env)
  | some (some w) => some (w, e.set i none)
  | _ => none
@[simp] theorem ev_move : mMove i e = moveK i e e[i]? := by unfold mMove moveK; split <;> rename_i h <;> simp_all
@[simp] theorem moveK_s : moveK i e (some (some w)) = some (w, e.set i none) := rfl
def olK : Option (List Arg × Env) → Option (W × Env)
  | some x => olK2 (allD x.1) x.2
  | none => none
where olK2 : Option (List D) → Env → Option (W × Env)
  | some ds, e => if ds.length ≤ LIM then some (.ol (ds.map .p), e) else none
  | none, _ => none
@[simp] theorem ev_ol : mOl r e = olK (r e) := by
  unfold mOl olK; cases h : r e with
  | none => rfl
  | some x => simp only [Option.bind_some]; cases allD x.1 <;> rfl
@[simp] theorem olK_s : olK (some (as, e)) = olK.olK2 (allD as) e := rfl
@[simp] theorem olK2_s : olK.olK2 (some ds) e = if ds.length ≤ LIM then some (.ol (ds.map .p), e) else none := rfl
def ixoK1 (k : Nat) (m : M D) (e : Env) : Option (Option W) → Option (D × Env)
  | some (some _) => ixoK2 k (m e)
  | _ => none
where
  ixoK2 (k : Nat) : Option (D × Env) → Option (D × Env)
  | some (.int i, e) => ixoK3 i e e[k]?
  | _ => none
  ixoK3 (i : Int) (e : Env) : Option (Option W) → Option (D × Env)
  | some (some (.ol ws)) => ixoK4 e (L2.atI ws i)
  | _ => none
  ixoK4 (e : Env) : Option W → Option (D × Env)
  | some (.p d) => some (d, e)
  | _ => none
@[simp] theorem ev_ixO : mIxO k m e = ixoK1 k m e e[k]? := by
  unfold mIxO ixoK1
  generalize e[k]? = o
  rcases o with _ | _ | w0
  · rfl
  · rfl
  · rcases m e with _ | ⟨d, e1⟩
    · rfl
    · cases d with
      | int i =>
        simp only [Option.bind_some, ixoK1.ixoK2, ixoK1.ixoK3]
        generalize e1[k]? = o2
        rcases o2 with _ | _ | w2
        · rfl
        · rfl
        · cases w2 with
          | ol ws =>
            first
              | rfl
              | (simp only [ixoK1.ixoK4]; done)
              | (simp only [ixoK1.ixoK4]; generalize L2.atI ws i = o3; rcases o3 with _ | w3 <;> first | rfl | (cases w3 <;> rfl))
          | _ => rfl
      | _ => rfl
@[simp] theorem ixoK1_s : ixoK1 k m e (some (some w)) = ixoK1.ixoK2 k (m e) := rfl
@[simp] theorem ixoK2_s {i : Int} : ixoK1.ixoK2 k (some (.int i, e)) = ixoK1.ixoK3 i e e[k]? := rfl
@[simp] theorem ixoK3_s {i : Int} {ws : List W} : ixoK1.ixoK3 i e (some (some (.ol ws))) = ixoK1.ixoK4 e (L2.atI ws i) := rfl
@[simp] theorem ixoK4_s : ixoK1.ixoK4 e (some (.p d)) = some (d, e) := rfl
-- statements
variable {a c : S} {sr : SR}
def seqK (b : S) : Option SR → Option SR
  | some (.nx e) => b e
  | r => r
@[simp] theorem ev_seq : sSeq a c e = seqK c (a e) := by unfold sSeq seqK; cases h : a e with
  | none => rfl
  | some r => cases r <;> rfl
@[simp] theorem seqK_nx : seqK c (some (.nx e)) = c e := rfl
@[simp] theorem seqK_rt : seqK c (some (.rt w e)) = some (.rt w e) := rfl
@[simp] theorem seqK_bk : seqK c (some (.bk e)) = some (.bk e) := rfl
@[simp] theorem seqK_ct : seqK c (some (.ct e)) = some (.ct e) := rfl
@[simp] theorem seqK_ex {x : D} : seqK c (some (.ex x e)) = some (.ex x e) := rfl
@[simp] theorem orX_p {d : D} : orX (.p d) e sr = sr := rfl
@[simp] theorem orX_ol {ws : List W} : orX (.ol ws) e sr = sr := rfl
@[simp] theorem orX_od {ws : List (Key × W)} : orX (.od ws) e sr = sr := rfl
@[simp] theorem orX_oi {c : Str} {ws : List (Str × W)} : orX (.oi c ws) e sr = sr := rfl
@[simp] theorem orX_ex {x : D} : orX (.ex x) e sr = .ex x e := rfl
def nex : W → Bool
  | .ex _ => false
  | _ => true
theorem orX_ne {w : W} (h : nex w = true) : orX w e sr = sr := by cases w <;> first | rfl | cases h
@[simp] theorem ev_next : sNext e = some (.nx e) := rfl
@[simp] theorem ev_brk : sBrk e = some (.bk e) := rfl
@[simp] theorem ev_cont : sCont e = some (.ct e) := rfl
def rtK : Option (W × Env) → Option SR
  | some x => some (orX x.1 x.2 (.rt x.1 x.2))
  | none => none
@[simp] theorem ev_ret : sRet mw e = rtK (mw e) := by unfold sRet rtK; cases mw e <;> rfl
@[simp] theorem rtK_s : rtK (some (w, e)) = some (orX w e (.rt w e)) := rfl
@[simp] theorem ev_retN : sRetN e = some (.rt (.p .none) e) := rfl
def setK (i : Nat) : Option (W × Env) → Option SR
  | some x => some (orX x.1 x.2 (.nx (x.2.set i (some x.1))))
  | none => none
@[simp] theorem ev_set : sSet i mw e = setK i (mw e) := by unfold sSet setK; cases mw e <;> rfl
@[simp] theorem setK_s : setK i (some (w, e)) = some (orX w e (.nx (e.set i (some w)))) := rfl
def dropK : Option (W × Env) → Option SR
  | some x => some (orX x.1 x.2 (.nx x.2))
  | none => none
@[simp] theorem ev_drop : sDrop mw e = dropK (mw e) := by unfold sDrop dropK; cases mw e <;> rfl
@[simp] theorem dropK_s : dropK (some (w, e)) = some (orX w e (.nx e)) := rfl
def sixK1 (k : Nat) (mi : M D) : Option (D × Env) → Option SR
  | some y => sixK2 k mi y.1 y.2 y.2[k]?
  | none => none
where
  sixK2 (k : Nat) (mi : M D) (d : D) (e : Env) : Option (Option W) → Option SR
  | some (some _) => sixK3 k d (mi e)
  | _ => none
  sixK3 (k : Nat) (d : D) : Option (D × Env) → Option SR
  | some (.int i, e) => sixK4 k d i e e[k]?
  | _ => none
  sixK4 (k : Nat) (d : D) (i : Int) (e : Env) : Option (Option W) → Option SR
  | some (some (.ol ws)) => (ixN ws.length i).map fun j => .nx (e.set k (some (.ol (ws.set j (.p d)))))
  | _ => none
@[simp] theorem ev_setIx {mi mv : M D} : sSetIx k mi mv e = sixK1 k mi (mv e) := by
  unfold sSetIx sixK1
  rcases mv e with _ | ⟨d, e0⟩
  · rfl
  · simp only [Option.bind_some, sixK1.sixK2]
    generalize e0[k]? = o
    rcases o with _ | _ | w0
    · rfl
    · rfl
    · rcases mi e0 with _ | ⟨d1, e1⟩
      · rfl
      · cases d1 with
        | int i =>
          simp only [Option.bind_some, sixK1.sixK3, sixK1.sixK4]
          generalize e1[k]? = o2
          rcases o2 with _ | _ | w2
          · rfl
          · rfl
          · cases w2 <;> rfl
        | _ => rfl
@[simp] theorem sixK1_s {mi : M D} : sixK1 k mi (some (d, e)) = sixK1.sixK2 k mi d e e[k]? := rfl
@[simp] theorem sixK2_s {mi : M D} : sixK1.sixK2 k mi d e (some (some w)) = sixK1.sixK3 k d (mi e) := rfl
@[simp] theorem sixK3_s {i : Int} : sixK1.sixK3 k d (some (.int i, e)) = sixK1.sixK4 k d i e e[k]? := rfl
@[simp] theorem sixK4_s {i : Int} {ws : List W} : sixK1.sixK4 k d i e (some (some (.ol ws))) = (ixN ws.length i).map fun j => .nx (e.set k (some (.ol (ws.set j (.p d))))) := rfl
-- targets, loops
@[simp] theorem ev_gN : gN i d e = some (e.set i (some (.p d))) := rfl
@[simp] theorem ev_gsNil : gsNil [] e = some e := rfl
def gsK (r : Tgs) (ds : List D) : Option Env → Option Env
  | some e => r ds e
  | none => none
@[simp] theorem ev_gsCons {tg : Tg} {r : Tgs} : gsCons tg r (d :: ds) e = gsK r ds (tg d e) := by
  show (tg d e).bind (r ds) = _
  unfold gsK; cases tg d e <;> rfl
@[simp] theorem gsK_s {r : Tgs} : gsK r ds (some e) = r ds e := rfl
@[simp] theorem ev_gT {n : Nat} {r : Tgs} : gT n r (.tup ds) e = if ds.length = n then r ds e else none := rfl
def asgK (tg : Tg) : Option (D × Env) → Option SR
  | some x => asgK2 (tg x.1 x.2)
  | none => none
where asgK2 : Option Env → Option SR
  | some e => some (.nx e)
  | none => none
@[simp] theorem ev_asg {tg : Tg} : sAsg tg m e = asgK tg (m e) := by
  unfold sAsg asgK; cases h : m e with
  | none => rfl
  | some x => simp only [Option.bind_some]; cases tg x.1 x.2 <;> rfl
@[simp] theorem asgK_s {tg : Tg} : asgK tg (some (d, e)) = asgK.asgK2 (tg d e) := rfl
@[simp] theorem asgK2_s : asgK.asgK2 (some e) = some (.nx e) := rfl
def forK (tg : Tg) (b : S) : Option (List D × Env) → Option SR
  | some x => forRun tg b x.1 x.2
  | none => none
@[simp] theorem ev_for {mi : M (List D)} {tg : Tg} : sFor mi tg a e = forK tg a (mi e) := by unfold sFor forK; cases mi e <;> rfl
@[simp] theorem forK_s {tg : Tg} : forK tg a (some (ds, e)) = forRun tg a ds e := rfl
def iaK (f : List D → Option (List D)) : Option (List Arg × Env) → Option (List D × Env)
  | some x => iaK2 f (allD x.1) x.2
  | none => none
where iaK2 (f : List D → Option (List D)) : Option (List D) → Env → Option (List D × Env)
  | some ds, e => bK (f ds) e
  | none, _ => none
@[simp] theorem ev_iargs {f : List D → Option (List D)} : iArgs f r e = iaK f (r e) := by
  unfold iArgs iaK; cases h : r e with
  | none => rfl
  | some x =>
    simp only [Option.bind_some]
    cases allD x.1 with
    | none => rfl
    | some ds => simp only [Option.bind_some, iaK.iaK2, bK]; cases f ds <;> rfl
@[simp] theorem iaK_s {f : List D → Option (List D)} : iaK f (some (as, e)) = iaK.iaK2 f (allD as) e := rfl
@[simp] theorem iaK2_s {f : List D → Option (List D)} : iaK.iaK2 f (some ds) e = bK (f ds) e := rfl
def ilK : Option (D × Env) → Option (List D × Env)
  | some (.lst ds, e) => some (ds, e)
  | some (.fl ds, e) => some (ds, e)
  | _ => none
@[simp] theorem ev_iLst : iLst m e = ilK (m e) := by unfold iLst ilK; cases h : m e with
  | none => rfl
  | some x => obtain ⟨d, e1⟩ := x; cases d <;> rfl
@[simp] theorem ilK_l : ilK (some (.lst ds, e)) = some (ds, e) := rfl
@[simp] theorem ilK_f : ilK (some (.fl ds, e)) = some (ds, e) := rfl
def itK : Option (D × Env) → Option (List D × Env)
  | some (.tup ds, e) => some (ds, e)
  | _ => none
@[simp] theorem ev_iTpl : iTpl m e = itK (m e) := by unfold iTpl itK; cases h : m e with
  | none => rfl
  | some x => obtain ⟨d, e1⟩ := x; cases d <;> rfl
@[simp] theorem itK_l : itK (some (.tup ds, e)) = some (ds, e) := rfl
def ixK : Option (D × Env) → Option (List D × Env)
  | some (.str y, e) => some (y.cps.toList.map fun c => .str ⟨#[c]⟩, e)
  | _ => none
@[simp] theorem ev_iTxt : iTxt m e = ixK (m e) := by unfold iTxt ixK; cases h : m e with
  | none => rfl
  | some x => obtain ⟨d, e1⟩ := x; cases d <;> rfl
@[simp] theorem ixK_l {y : Str} : ixK (some (.str y, e)) = some (y.cps.toList.map fun c => .str ⟨#[c]⟩, e) := rfl
def lcK (own : List Nat) (tg : Tg) (c : M Bool) (m : M D) : Option (List D × Env) → Option (D × Env)
  | some x => if x.1.length ≤ 1000000 then lcK2 (lcRun own tg c m x.1 (wipeE x.2 own)) else none
  | none => none
where lcK2 : Option (List D × Env) → Option (D × Env)
  | some r => some (.lst r.1, r.2)
  | none => none
@[simp] theorem ev_lc {own : List Nat} {mi : M (List D)} {tg : Tg} : mLc own mi tg t m e = lcK own tg t m (mi e) := by
  unfold mLc lcK; cases h : mi e with
  | none => rfl
  | some x =>
    simp only [Option.bind_some]
    split
    · cases lcRun own tg t m x.1 (wipeE x.2 own) <;> rfl
    · rfl
@[simp] theorem lcK_s {own : List Nat} {tg : Tg} : lcK own tg t m (some (ds, e)) = if ds.length ≤ 1000000 then lcK.lcK2 (lcRun own tg t m ds (wipeE e own)) else none := rfl
@[simp] theorem lcK2_s : lcK.lcK2 (some (ds, e)) = some (.lst ds, e) := rfl
@[simp] theorem wipeE_nil : wipeE e [] = e := rfl
@[simp] theorem wipeE_cons {v : Nat} {vs : List Nat} : wipeE e (v :: vs) = (wipeE e vs).set v none := rfl
def slK1 (f : D → Option Int → Option Int → Option D) (lo hi : M (Option Int)) : Option (D × Env) → Option (D × Env)
  | some x => slK2 f hi x.1 (lo x.2)
  | none => none
where
  slK2 (f : D → Option Int → Option Int → Option D) (hi : M (Option Int)) (x : D) : Option (Option Int × Env) → Option (D × Env)
  | some l => slK3 f x l.1 (hi l.2)
  | none => none
  slK3 (f : D → Option Int → Option Int → Option D) (x : D) (l : Option Int) : Option (Option Int × Env) → Option (D × Env)
  | some h => retK (f x l h.1) h.2
  | none => none
variable {lo hi : M (Option Int)} {fs : D → Option Int → Option Int → Option D} {ol oh : Option Int}
@[simp] theorem ev_sl : mSl fs m lo hi e = slK1 fs lo hi (m e) := by
  unfold mSl slK1; cases h : m e with
  | none => rfl
  | some x =>
    simp only [Option.bind_some]
    cases h2 : lo x.2 with
    | none => rfl
    | some l =>
      simp only [Option.bind_some, slK1.slK2]
      cases h3 : hi l.2 with
      | none => rfl
      | some hh => simp only [Option.bind_some, slK1.slK3, retK]; cases fs x.1 l.1 hh.1 <;> rfl
@[simp] theorem slK1_s : slK1 fs lo hi (some (d, e)) = slK1.slK2 fs hi d (lo e) := rfl
@[simp] theorem slK2_s : slK1.slK2 fs hi d (some (ol, e)) = slK1.slK3 fs d ol (hi e) := rfl
@[simp] theorem slK3_s : slK1.slK3 fs d ol (some (oh, e)) = retK (fs d ol oh) e := rfl
@[simp] theorem ev_noI : mNoI e = some (none, e) := rfl
def optK : Option (D × Env) → Option (Option Int × Env)
  | some (.int i, e) => some (some i, e)
  | _ => none
@[simp] theorem ev_optI : mOptI m e = optK (m e) := by unfold mOptI optK; cases h : m e with
  | none => rfl
  | some x => obtain ⟨d, e1⟩ := x; cases d <;> rfl
@[simp] theorem optK_s {i : Int} : optK (some (.int i, e)) = some (some i, e) := rfl
def op2K1 (f : D → D → Option D) (r : M (List Arg)) : Option (D × Env) → Option (D × Env)
  | some x => op2K2 f x.1 (r x.2)
  | none => none
where
  op2K2 (f : D → D → Option D) (x : D) : Option (List Arg × Env) → Option (D × Env)
  | some y => op2K3 f x y.2 (allD y.1)
  | none => none
  op2K3 (f : D → D → Option D) (x : D) (e : Env) : Option (List D) → Option (D × Env)
  | some [d] => retK (f x d) e
  | _ => none
@[simp] theorem ev_op2 : mOp2 f m r e = op2K1 f r (m e) := by
  unfold mOp2 op2K1
  rcases m e with _ | ⟨x, e1⟩
  · rfl
  · simp only [Option.bind_some]
    rcases r e1 with _ | ⟨y, e2⟩
    · rfl
    · simp only [Option.bind_some, op2K1.op2K2, op2K1.op2K3]
      generalize allD y = o
      rcases o with _ | _ | ⟨d, _ | ⟨d2, l⟩⟩
      · rfl
      · rfl
      · simp only [retK]
        cases f x d <;> rfl
      · rfl
@[simp] theorem op2K1_s : op2K1 f r (some (d, e)) = op2K1.op2K2 f d (r e) := rfl
@[simp] theorem op2K2_s : op2K1.op2K2 f x (some (as, e)) = op2K1.op2K3 f x e (allD as) := rfl
@[simp] theorem op2K3_s : op2K1.op2K3 f x e (some [d]) = retK (f x d) e := rfl
end
/-- the loop as a fold over what its turns do to the state -/
theorem forRun_nil {tg : Tg} {b : S} {e : Env} : forRun tg b [] e = some (.nx e) := rfl
theorem forRun_cons {tg : Tg} {b : S} {d : D} {ds : List D} {e e1 e2 : Env} (h1 : tg d e = some e1) (h2 : b e1 = some (.nx e2)) : forRun tg b (d :: ds) e = forRun tg b ds e2 := by
  simp only [forRun, h1, h2, Option.bind_some]
/-- an invariant of a loop that runs through -/
theorem forRun_inv {tg : Tg} {b : S} (P : Nat → Env → Prop) : ∀ (ds : List D) (i : Nat) (e : Env), P i e → (∀ j d e, ds[j]? = some d → P (i + j) e → ∃ e1 e2, tg d e = some e1 ∧ b e1 = some (.nx e2) ∧ P (i + j + 1) e2) →
    ∃ e', forRun tg b ds e = some (.nx e') ∧ P (i + ds.length) e'
  | [], i, e, h, _ => ⟨e, rfl, h⟩
  | d :: ds, i, e, h, k => by
    obtain ⟨e1, e2, h1, h2, h3⟩ := k 0 d e rfl h
    obtain ⟨e', h4, h5⟩ := forRun_inv P ds (i + 1) e2 (by simpa using h3) fun j d e hd hp => by
      have := k (j + 1) d e (by simpa using hd) (by rw [show i + (j + 1) = i + 1 + j by omega]; exact hp)
      rw [show i + (j + 1) + 1 = i + 1 + j + 1 by omega] at this
      exact this
    refine ⟨e', by rw [forRun_cons h1 h2]; exact h4, ?_⟩
    rw [List.length_cons, show i + (ds.length + 1) = i + 1 + ds.length by omega]
    exact h5
/-- a comprehension whose turns all give something: the results by an invariant of the state -/
theorem lcRun_inv {own : List Nat} {tg : Tg} {c : M Bool} {m : M D} (P : Nat → Env → Prop) (T : D → Prop) : ∀ (ds : List D) (i : Nat) (e : Env), P i e →
    (∀ j d e, ds[j]? = some d → P (i + j) e → ∃ e1, tg d e = some e1 ∧ ((∃ e2, c e1 = some (false, e2) ∧ P (i + j + 1) (wipeE e2 own)) ∨ (∃ e2 y e3, c e1 = some (true, e2) ∧ m e2 = some (y, e3) ∧ T y ∧ P (i + j + 1) (wipeE e3 own)))) →
    ∃ ys e', lcRun own tg c m ds e = some (ys, e') ∧ P (i + ds.length) e' ∧ (∀ y ∈ ys, T y) ∧ ys.length ≤ ds.length
  | [], i, e, h, _ => ⟨[], e, rfl, h, (fun y hy => by cases hy), Nat.le_refl _⟩
  | d :: ds, i, e, h, k => by
    have next : ∀ e2, P (i + 1) e2 → ∃ ys e', lcRun own tg c m ds e2 = some (ys, e') ∧ P (i + (ds.length + 1)) e' ∧ (∀ y ∈ ys, T y) ∧ ys.length ≤ ds.length := fun e2 h2 => by
      obtain ⟨ys, e', h3, h4, h5, h6⟩ := lcRun_inv P T ds (i + 1) e2 h2 fun j d e hd hp => by
        have := k (j + 1) d e (by simpa using hd) (by rw [show i + (j + 1) = i + 1 + j by omega]; exact hp)
        rw [show i + (j + 1) + 1 = i + 1 + j + 1 by omega] at this
        exact this
      exact ⟨ys, e', h3, by rw [show i + (ds.length + 1) = i + 1 + ds.length by omega]; exact h4, h5, h6⟩
    obtain ⟨e1, h1, hh⟩ := k 0 d e rfl h
    rcases hh with ⟨e2, h2, h3⟩ | ⟨e2, y, e3, h2, h3, h4, h5⟩
    · obtain ⟨ys, e', q1, q2, q3, q4⟩ := next _ h3
      exact ⟨ys, e', by simp [lcRun, h1, h2, q1], q2, q3, by rw [List.length_cons]; omega⟩
    · obtain ⟨ys, e', q1, q2, q3, q4⟩ := next _ h5
      refine ⟨y :: ys, e', by simp [lcRun, h1, h2, h3, q1], q2, fun z hz => ?_, by rw [List.length_cons, List.length_cons]; omega⟩
      rcases List.mem_cons.mp hz with rfl | hz
      · exact h4
      · exact q3 z hz
/-- a comprehension that leaves the state: a map -/
theorem lcRun_map {own : List Nat} {tg : Tg} {c : M Bool} {m : M D} {e : Env} (f : D → D) : ∀ (ds : List D), (∀ d ∈ ds, ∃ e1 e2 e3, tg d e = some e1 ∧ c e1 = some (true, e2) ∧ m e2 = some (f d, e3) ∧ wipeE e3 own = e) → lcRun own tg c m ds e = some (ds.map f, e)
  | [], _ => rfl
  | d :: ds, k => by
    obtain ⟨e1, e2, e3, h1, h2, h3, h4⟩ := k d (by simp)
    simp [lcRun, h1, h2, h3, h4, lcRun_map f ds fun d hd => k d (by simp [hd])]
/-- .. with a test: a filter and a map -/
theorem lcRun_filter {own : List Nat} {tg : Tg} {c : M Bool} {m : M D} {e : Env} (p : D → Bool) (f : D → D) : ∀ (ds : List D), (∀ d ∈ ds, ∃ e1 e2, tg d e = some e1 ∧ c e1 = some (p d, e2) ∧ (p d = false → wipeE e2 own = e) ∧ (p d = true → ∃ e3, m e2 = some (f d, e3) ∧ wipeE e3 own = e)) → lcRun own tg c m ds e = some ((ds.filter p).map f, e)
  | [], _ => rfl
  | d :: ds, k => by
    obtain ⟨e1, e2, h1, h2, h3, h4⟩ := k d (by simp)
    have ih := lcRun_filter p f ds fun d hd => k d (by simp [hd])
    cases hp : p d with
    | false => simp [lcRun, h1, h2, hp, h3 hp, ih]
    | true =>
      obtain ⟨e3, h5, h6⟩ := h4 hp
      simp [lcRun, h1, h2, hp, h5, h6, ih]
/-- a def's meaning at its arguments -/
theorem fsem_rt {n : Nat} {io : List Bool} {m : S} {ws : List W} {w : W} {e : Env} (h : m (ws.map some ++ List.replicate (n - ws.length) none) = some (.rt w e)) : fsem n io m ws = some (w, outs io e) := by
  unfold fsem; rw [h]
theorem fsem_nx {n : Nat} {io : List Bool} {m : S} {ws : List W} {e : Env} (h : m (ws.map some ++ List.replicate (n - ws.length) none) = some (.nx e)) : fsem n io m ws = some (.p .none, outs io e) := by
  unfold fsem; rw [h]
end MV
namespace MV
open PySem L2
/-! ### items, numbers -/
section
variable {α : Type} {xs : List α} {i j : Int}
theorem atI_nn (h : 0 ≤ i) : L2.atI xs i = xs[i.toNat]? := by
  unfold L2.atI ixN
  rw [if_pos h]
  by_cases hl : i < (xs.length : Int)
  · rw [if_pos hl]; rfl
  · rw [if_neg hl, List.getElem?_eq_none (by omega)]; rfl
@[simp] theorem atI_0 : L2.atI xs 0 = xs[0]? := atI_nn (by decide)
@[simp] theorem atI_1 : L2.atI xs 1 = xs[1]? := atI_nn (by decide)
@[simp] theorem atI_2 : L2.atI xs 2 = xs[2]? := atI_nn (by decide)
@[simp] theorem atI_3 : L2.atI xs 3 = xs[3]? := atI_nn (by decide)
@[simp] theorem atI_cast {n : Nat} : L2.atI xs (n : Int) = xs[n]? := atI_nn (by omega)
theorem ixN_nn {n : Nat} (h : 0 ≤ i) (hl : i < (n : Int)) : ixN n i = some i.toNat := by unfold ixN; rw [if_pos h, if_pos hl]
@[simp] theorem ixN_0 {n : Nat} : ixN (n + 1) 0 = some 0 := ixN_nn (by decide) (by omega)
@[simp] theorem ixN_1 {n : Nat} : ixN (n + 2) 1 = some 1 := ixN_nn (by decide) (by omega)
@[simp] theorem ixN_2 {n : Nat} : ixN (n + 3) 2 = some 2 := ixN_nn (by decide) (by omega)
@[simp] theorem ixN_3 {n : Nat} : ixN (n + 4) 3 = some 3 := ixN_nn (by decide) (by omega)
end
section
variable {i j : Int} {ds es : List D} {x y : Str} {a b : Bool}
@[simp] theorem dAdd_i : dAdd (.int i) (.int j) = some (.int (i + j)) := rfl
@[simp] theorem dI_i {f : Int → Int → Option D} : dI f (.int i) (.int j) = f i j := rfl
@[simp] theorem dMul_i : dMul (.int i) (.int j) = if CMul i j then some (.int (i * j)) else none := rfl
@[simp] theorem dNeg_i : dNeg (.int i) = some (.int (-i)) := rfl
@[simp] theorem dEq_i : dEq (.int i) (.int j) = some (.bool (decide (i = j))) := rfl
@[simp] theorem dEq_s : dEq (.str x) (.str y) = some (.bool (decide (x = y))) := rfl
@[simp] theorem dEq_b : dEq (.bool a) (.bool b) = some (.bool (decide (a = b))) := rfl
@[simp] theorem dNe_i : dNe (.int i) (.int j) = some (.bool !decide (i = j)) := rfl
@[simp] theorem dNe_s : dNe (.str x) (.str y) = some (.bool !decide (x = y)) := rfl
@[simp] theorem dNe_b : dNe (.bool a) (.bool b) = some (.bool !decide (a = b)) := rfl
@[simp] theorem dIx_l : dIx (.lst ds) (.int i) = L2.atI ds i := rfl
@[simp] theorem dIx_f : dIx (.fl ds) (.int i) = L2.atI ds i := rfl
@[simp] theorem dIx_t : dIx (.tup ds) (.int i) = L2.atI ds i := rfl
@[simp] theorem dIx_s : dIx (.str x) (.int i) = if x.length ≤ LIM then (L2.atI x.cps.toList i).map fun c => .str ⟨#[c]⟩ else none := rfl
@[simp] theorem fLen_l : fLen [.lst ds] = some (.int ds.length) := rfl
@[simp] theorem fLen_f : fLen [.fl ds] = some (.int ds.length) := rfl
@[simp] theorem fLen_t : fLen [.tup ds] = some (.int ds.length) := rfl
@[simp] theorem fLen_s : fLen [.str x] = if x.length ≤ LIM then some (.int x.length) else none := rfl
@[simp] theorem fAbs_i : fAbs [.int i] = some (.int (if i < 0 then -i else i)) := rfl
@[simp] theorem fList_l : fList [.lst ds] = some (.lst ds) := rfl
@[simp] theorem fList_f : fList [.fl ds] = some (.lst ds) := rfl
@[simp] theorem fList_t : fList [.tup ds] = some (.lst ds) := rfl
@[simp] theorem dTru_b : dTru (.bool a) = some a := rfl
@[simp] theorem dTru_n : dTru .none = some false := rfl
@[simp] theorem dIsN_n {d : D} : dIsN d .none = some (.bool (isNone d)) := rfl
@[simp] theorem dNotN_n {d : D} : dNotN d .none = some (.bool !isNone d) := rfl
@[simp] theorem isNone_n : isNone .none = true := rfl
@[simp] theorem isNone_i : isNone (.int i) = false := rfl
@[simp] theorem isNone_b : isNone (.bool a) = false := rfl
@[simp] theorem isNone_s : isNone (.str x) = false := rfl
@[simp] theorem isNone_l : isNone (.lst ds) = false := rfl
@[simp] theorem isNone_t : isNone (.tup ds) = false := rfl
@[simp] theorem isNone_d {es : List (Key × D)} : isNone (.dict es) = false := rfl
@[simp] theorem fLst_e : fLst ds = if ds.length ≤ LIM then some (.lst ds) else none := rfl
@[simp] theorem fTup_e : fTup ds = if ds.length ≤ LIM then some (.tup ds) else none := rfl
@[simp] theorem fRange1_i : fRange1 [.int i] = if -1000000 ≤ i ∧ i ≤ 1000000 then some (rngD 0 i.toNat) else none := rfl
@[simp] theorem fRange2_i : fRange2 [.int i, .int j] = if -1000000 ≤ i ∧ i ≤ 1000000 ∧ -1000000 ≤ j ∧ j ≤ 1000000 then some (rngD i (j - i).toNat) else none := rfl
@[simp] theorem fEnum_l : fEnum [.lst ds] = some (enD ds) := rfl
@[simp] theorem fZip_l : fZip [.lst ds, .lst es] = some (zipD ds es) := rfl
@[simp] theorem fZip_t : fZip [.tup ds, .tup es] = some (zipD ds es) := rfl
@[simp] theorem fAll_l : fAll [.lst ds] = (boolsD ds).map fun bs => .bool (bs.all id) := rfl
@[simp] theorem fAny_l : fAny [.lst ds] = (boolsD ds).map fun bs => .bool (bs.any id) := rfl
theorem boolsD_map {α : Type} {xs : List α} {f : α → Bool} : boolsD (xs.map fun x => .bool (f x)) = some (xs.map f) := by
  induction xs with
  | nil => rfl
  | cons x xs ih => show (boolsD (xs.map fun x => .bool (f x))).map (f x :: ·) = _; rw [ih]; rfl
@[simp] theorem dIsi_i {T : String} : dIsi T (.int i) = some (.bool (isiT "int" T)) := rfl
@[simp] theorem dIsi_b {T : String} : dIsi T (.bool a) = some (.bool (isiT "bool" T)) := rfl
@[simp] theorem dIsi_s {T : String} : dIsi T (.str x) = some (.bool (isiT "str" T)) := rfl
@[simp] theorem dIsi_l {T : String} : dIsi T (.lst ds) = some (.bool (isiT "list" T)) := rfl
@[simp] theorem dIsi_t {T : String} : dIsi T (.tup ds) = some (.bool (isiT "tuple" T)) := rfl
@[simp] theorem dIsi_n {T : String} : dIsi T .none = some (.bool (isiT "NoneType" T)) := rfl
@[simp] theorem joinD_l : joinD (.str x) (.lst ds) = (strsD ds).bind fun ys => if (ys.map (·.length)).sum + ys.length * x.length ≤ LIM then some (.str (Txt.join x ys)) else none := rfl
end
end MV

namespace MV
open PySem L2
variable [TB]

/-! ### places in owned things -/
inductive Stp where
  | ix (j : Nat) | ky (k : Key) | fd (f : Str)
def valW (es : List (Key × W)) (k : Key) : Option W := (es.find? fun q => decide (q.1 = k)).map (·.2)
/-- in place, the first -/
def setW : List (Key × W) → Key → W → List (Key × W)
  | [], _, _ => []
  | (k', w') :: r, k, w => if k' = k then (k', w) :: r else (k', w') :: setW r k w
def setFW : List (Str × W) → Str → W → List (Str × W)
  | [], _, _ => []
  | (k', w') :: r, k, w => if k' = k then (k', w) :: r else (k', w') :: setFW r k w
def getFW : List (Str × W) → Str → Option W
  | [], _ => none
  | (k', w') :: r, k => if k' = k then some w' else getFW r k
def W.sub : W → List Stp → Option W
  | w, [] => some w
  | .ol ws, .ix j :: pt => ws[j]?.bind fun w => W.sub w pt
  | .ot ws, .ix j :: pt => ws[j]?.bind fun w => W.sub w pt
  | .od es, .ky k :: pt => (valW es k).bind fun w => W.sub w pt
  | .oi _ fs, .fd f :: pt => (getFW fs f).bind fun w => W.sub w pt
  | _, _ :: _ => none
def W.put : W → List Stp → W → W
  | _, [], u => u
  | .ol ws, .ix j :: pt, u => match ws[j]? with
    | some w => .ol (ws.set j (W.put w pt u))
    | none => .ol ws
  | .ot ws, .ix j :: pt, u => match ws[j]? with
    | some w => .ot (ws.set j (W.put w pt u))
    | none => .ot ws
  | .od es, .ky k :: pt, u => match valW es k with
    | some w => .od (setW es k (W.put w pt u))
    | none => .od es
  | .oi c fs, .fd f :: pt, u => match getFW fs f with
    | some w => .oi c (setFW fs f (W.put w pt u))
    | none => .oi c fs
  | w, _ :: _, _ => w
section
variable (mg : Str → Option Value) (H : Hp)
/-- the value at a place -/
def At : W → V → List Stp → W → V → Prop
  | w, v, [], u, x => u = w ∧ x = v
  | .ol ws, v, .ix j :: p, u, x => ∃ a xs w' x', v = .ref a ∧ H a = some (.lst xs) ∧ ws[j]? = some w' ∧ xs[j]? = some x' ∧ At w' x' p u x
  | .ot ws, v, .ix j :: p, u, x => ∃ a xs w' x', v = .ref a ∧ H a = some (.tup xs) ∧ ws[j]? = some w' ∧ xs[j]? = some x' ∧ At w' x' p u x
  | .od es, v, .ky k :: p, u, x => ∃ a kvs w' x', v = .ref a ∧ H a = some (.dK kvs) ∧ valW es k = some w' ∧ valV kvs k = some x' ∧ At w' x' p u x
  | .oi c fs, v, .fd f :: p, u, x => ∃ a C dx gs w' x', v = .ref a ∧ H a = some (.ins C dx gs) ∧ getFW fs f = some w' ∧ gs.lookup f = some x' ∧ At w' x' p u x
  | _, _, _ :: _, _, _ => False
end
section
variable {K : PySem.W.Frag} {mg : Str → Option Value} {I H : Hp}
theorem RoL.lens : ∀ {ws : List W} {xs : List V} {F : List Addr} {j : Nat} {w : W}, RoL K mg I H ws xs F → ws[j]? = some w →
    ∃ x A G B, xs[j]? = some x ∧ F = A ++ (G ++ B) ∧ Ro K mg I H w x G ∧ ∀ I' H' w' x' G', Ex I I' → (∀ a, a ∈ A ∨ a ∈ B → ∀ o, H a = some o → NT o → H' a = some o) → Ro K mg I' H' w' x' G' → RoL K mg I' H' (ws.set j w') (xs.set j x') (A ++ (G' ++ B))
  | [], xs, F, j, w, h, e => by simp at e
  | u :: ws, xs, F, 0, w, h, e => by
    simp only [RoL] at h
    obtain ⟨x, r, F1, F2, rfl, rfl, h1, h2⟩ := h
    simp at e
    subst e
    refine ⟨x, [], F1, F2, rfl, rfl, h1, fun I' H' w' x' G' ex fr h3 => ?_⟩
    show RoL K mg I' H' (w' :: ws) (x' :: r) (G' ++ F2)
    simp only [RoL]
    exact ⟨x', r, G', F2, rfl, rfl, h3, RoL.frame ex ws r F2 (fun a ha => fr a (.inr ha)) h2⟩
  | u :: ws, xs, F, j + 1, w, h, e => by
    simp only [RoL] at h
    obtain ⟨x, r, F1, F2, rfl, rfl, h1, h2⟩ := h
    simp at e
    obtain ⟨y, A, G, B, h3, rfl, h4, k⟩ := RoL.lens h2 e
    refine ⟨y, F1 ++ A, G, B, by simpa using h3, by simp, h4, fun I' H' w' x' G' ex fr h5 => ?_⟩
    show RoL K mg I' H' (u :: ws.set j w') (x :: r.set j x') (F1 ++ A ++ (G' ++ B))
    simp only [RoL]
    exact ⟨x, _, F1, A ++ (G' ++ B), rfl, by simp, Ro.frame ex u x F1 (fun a ha => fr a (.inl (by simp [ha]))) h1, k I' H' w' x' G' ex (fun a ha => fr a (by rcases ha with z | z <;> simp [z])) h5⟩
theorem RoK.lens : ∀ {ws : List (Key × W)} {xs : List (Key × V)} {F : List Addr} {j : Key} {w : W}, RoK K mg I H ws xs F → valW ws j = some w →
    ∃ x A G B, valV xs j = some x ∧ F = A ++ (G ++ B) ∧ Ro K mg I H w x G ∧ ∀ I' H' w' G', Ex I I' → (∀ a, a ∈ A ∨ a ∈ B → ∀ o, H a = some o → NT o → H' a = some o) → Ro K mg I' H' w' x G' → RoK K mg I' H' (setW ws j w') xs (A ++ (G' ++ B))
  | [], xs, F, j, w, h, e => by simp [valW] at e
  | (q, u) :: ws, xs, F, j, w, h, e => by
    simp only [RoK] at h
    obtain ⟨x, r, F1, F2, rfl, rfl, h1, h2⟩ := h
    by_cases hq : q = j
    · subst hq
      simp [valW] at e
      subst e
      refine ⟨x, [], F1, F2, valV_pos rfl, rfl, h1, fun I' H' w' G' ex fr h3 => ?_⟩
      unfold setW
      rw [if_pos rfl]
      simp only [RoK]
      exact ⟨x, r, G', F2, rfl, rfl, h3, RoK.frame ex ws r F2 (fun a ha => fr a (.inr ha)) h2⟩
    · have e' : valW ws j = some w := by simpa [valW, List.find?_cons, hq] using e
      obtain ⟨y, A, G, B, h3, rfl, h4, k⟩ := RoK.lens h2 e'
      refine ⟨y, F1 ++ A, G, B, (valV_neg (p := (q, x)) hq).trans h3, by simp, h4, fun I' H' w' G' ex fr h5 => ?_⟩
      unfold setW
      rw [if_neg hq]
      simp only [RoK]
      exact ⟨x, _, F1, A ++ (G' ++ B), rfl, by simp, Ro.frame ex u x F1 (fun a ha => fr a (.inl (by simp [ha]))) h1, k I' H' w' G' ex (fun a ha => fr a (by rcases ha with z | z <;> simp [z])) h5⟩
theorem RoF.lens : ∀ {ws : List (Str × W)} {xs : List (Str × V)} {F : List Addr} {j : Str} {w : W}, RoF K mg I H ws xs F → getFW ws j = some w →
    ∃ x A G B, xs.lookup j = some x ∧ F = A ++ (G ++ B) ∧ Ro K mg I H w x G ∧ ∀ I' H' w' x' G', Ex I I' → (∀ a, a ∈ A ∨ a ∈ B → ∀ o, H a = some o → NT o → H' a = some o) → Ro K mg I' H' w' x' G' → RoF K mg I' H' (setFW ws j w') (L2.putF j x' xs) (A ++ (G' ++ B))
  | [], xs, F, j, w, h, e => by simp [getFW] at e
  | (q, u) :: ws, xs, F, j, w, h, e => by
    simp only [RoF] at h
    obtain ⟨x, r, F1, F2, rfl, rfl, h1, h2⟩ := h
    unfold getFW at e
    split at e
    · rename_i hq
      subst hq
      cases e
      refine ⟨x, [], F1, F2, by simp, rfl, h1, fun I' H' w' x' G' ex fr h3 => ?_⟩
      unfold setFW L2.putF
      rw [if_pos rfl, if_pos rfl]
      simp only [RoF]
      exact ⟨x', r, G', F2, rfl, rfl, h3, RoF.frame ex ws r F2 (fun a ha => fr a (.inr ha)) h2⟩
    · rename_i hq
      obtain ⟨y, A, G, B, h3, rfl, h4, k⟩ := RoF.lens h2 e
      have hb : (j == q) = false := by
        rw [beq_eq_false_iff_ne]; exact Ne.symm hq
      refine ⟨y, F1 ++ A, G, B, by rw [List.lookup_cons, hb]; exact h3, by simp, h4, fun I' H' w' x' G' ex fr h5 => ?_⟩
      unfold setFW L2.putF
      rw [if_neg hq, if_neg hq]
      simp only [RoF]
      exact ⟨x, _, F1, A ++ (G' ++ B), rfl, by simp, Ro.frame ex u x F1 (fun a ha => fr a (.inl (by simp [ha]))) h1, k I' H' w' x' G' ex (fun a ha => fr a (by rcases ha with z | z <;> simp [z])) h5⟩
theorem putF_id : ∀ {xs : List (Str × V)} {f : Str} {x : V}, xs.lookup f = some x → L2.putF f x xs = xs
  | [], f, x, h => by simp at h
  | (g, y) :: r, f, x, h => by
    unfold L2.putF
    by_cases hg : g = f
    · subst hg
      simp at h
      subst h
      rw [if_pos rfl]
    · rw [if_neg hg]
      have hb : (f == g) = false := by
        rw [beq_eq_false_iff_ne]; exact Ne.symm hg
      rw [List.lookup_cons, hb] at h
      rw [putF_id h]
theorem set_id {α : Type} {xs : List α} {j : Nat} {x : α} (h : xs[j]? = some x) : xs.set j x = xs := by
  obtain ⟨hl, e⟩ := List.getElem?_eq_some_iff.mp h
  exact List.ext_getElem? fun i => by
    by_cases z : j = i
    · subst z; rw [List.getElem?_set_self hl, h]
    · rw [List.getElem?_set_ne z]
/-- a place in an owned thing: what stands there, the rest -/
theorem Ro.lens : ∀ (p : List Stp) {w : W} {v : V} {F : List Addr} {u : W} {x : V}, Ro K mg I H w v F → At H w v p u x →
    ∃ A G B, F = A ++ (G ++ B) ∧ Ro K mg I H u x G ∧ ∀ I' H' u' G', Ex I I' → (∀ a, a ∈ A ∨ a ∈ B → ∀ o, H a = some o → NT o → H' a = some o) → Ro K mg I' H' u' x G' → Ro K mg I' H' (w.put p u') v (A ++ (G' ++ B))
  | [], w, v, F, u, x, h, a => by
    cases w <;> (obtain ⟨rfl, rfl⟩ := a; exact ⟨[], F, [], by simp, h, fun I' H' u' G' _ _ h' => by simpa [W.put] using h'⟩)
  | s :: p, .p d, v, F, u, x, h, a => by cases s <;> exact a.elim
  | s :: p, .ex d, v, F, u, x, h, a => by cases s <;> exact a.elim
  | .ix j :: p, .ol ws, v, F, u, x, h, a => by
    obtain ⟨l, xs, w', x', rfl, h1, h2, h3, h4⟩ := a
    simp only [Ro] at h
    obtain ⟨l', xs', G, e, h1', rfl, h5⟩ := h
    cases e
    rw [h1] at h1'
    cases h1'
    obtain ⟨y, A, G1, B, e, rfl, h6, k⟩ := h5.lens h2
    rw [h3] at e
    cases e
    obtain ⟨A2, G2, B2, rfl, h7, k2⟩ := Ro.lens p h6 h4
    refine ⟨l :: (A ++ A2), G2, B2 ++ B, by simp, h7, fun I' H' u' G' ex fr h8 => ?_⟩
    have h9 := k2 I' H' u' G' ex (fun a ha => fr a (by rcases ha with z | z <;> simp [z])) h8
    have h10 := k I' H' _ x' _ ex (fun a ha => fr a (by rcases ha with z | z <;> simp [z])) h9
    simp only [W.put, h2]
    simp only [Ro]
    exact ⟨l, xs, A ++ ((A2 ++ (G' ++ B2)) ++ B), rfl, fr l (.inl (by simp)) _ h1 (fun _ z => by cases z), by simp, by rw [set_id h3] at h10; exact h10⟩
  | .ix j :: p, .ot ws, v, F, u, x, h, a => by
    obtain ⟨l, xs, w', x', rfl, h1, h2, h3, h4⟩ := a
    simp only [Ro] at h
    obtain ⟨l', xs', G, e, h1', rfl, h5⟩ := h
    cases e
    rw [h1] at h1'
    cases h1'
    obtain ⟨y, A, G1, B, e, rfl, h6, k⟩ := h5.lens h2
    rw [h3] at e
    cases e
    obtain ⟨A2, G2, B2, rfl, h7, k2⟩ := Ro.lens p h6 h4
    refine ⟨l :: (A ++ A2), G2, B2 ++ B, by simp, h7, fun I' H' u' G' ex fr h8 => ?_⟩
    have h9 := k2 I' H' u' G' ex (fun a ha => fr a (by rcases ha with z | z <;> simp [z])) h8
    have h10 := k I' H' _ x' _ ex (fun a ha => fr a (by rcases ha with z | z <;> simp [z])) h9
    simp only [W.put, h2]
    simp only [Ro]
    exact ⟨l, xs, A ++ ((A2 ++ (G' ++ B2)) ++ B), rfl, fr l (.inl (by simp)) _ h1 (fun _ z => by cases z), by simp, by rw [set_id h3] at h10; exact h10⟩
  | .ky j :: p, .od ws, v, F, u, x, h, a => by
    obtain ⟨l, xs, w', x', rfl, h1, h2, h3, h4⟩ := a
    simp only [Ro] at h
    obtain ⟨l', xs', G, e, h1', rfl, h5⟩ := h
    cases e
    rw [h1] at h1'
    cases h1'
    obtain ⟨y, A, G1, B, e, rfl, h6, k⟩ := h5.lens h2
    rw [h3] at e
    cases e
    obtain ⟨A2, G2, B2, rfl, h7, k2⟩ := Ro.lens p h6 h4
    refine ⟨l :: (A ++ A2), G2, B2 ++ B, by simp, h7, fun I' H' u' G' ex fr h8 => ?_⟩
    have h9 := k2 I' H' u' G' ex (fun a ha => fr a (by rcases ha with z | z <;> simp [z])) h8
    have h10 := k I' H' _ _ ex (fun a ha => fr a (by rcases ha with z | z <;> simp [z])) h9
    simp only [W.put, h2]
    simp only [Ro]
    exact ⟨l, xs, A ++ ((A2 ++ (G' ++ B2)) ++ B), rfl, fr l (.inl (by simp)) _ h1 (fun _ z => by cases z), by simp, h10⟩
  | .fd j :: p, .oi c ws, v, F, u, x, h, a => by
    obtain ⟨l, C, dx, xs, w', x', rfl, h1, h2, h3, h4⟩ := a
    simp only [Ro] at h
    obtain ⟨l', C', dx', xs', G, e, hc, h1', rfl, h5⟩ := h
    cases e
    rw [h1] at h1'
    cases h1'
    obtain ⟨y, A, G1, B, e, rfl, h6, k⟩ := h5.lens h2
    rw [h3] at e
    cases e
    obtain ⟨A2, G2, B2, rfl, h7, k2⟩ := Ro.lens p h6 h4
    refine ⟨l :: (A ++ A2), G2, B2 ++ B, by simp, h7, fun I' H' u' G' ex fr h8 => ?_⟩
    have h9 := k2 I' H' u' G' ex (fun a ha => fr a (by rcases ha with z | z <;> simp [z])) h8
    have h10 := k I' H' _ x' _ ex (fun a ha => fr a (by rcases ha with z | z <;> simp [z])) h9
    simp only [W.put, h2]
    simp only [Ro]
    exact ⟨l, C, dx, xs, A ++ ((A2 ++ (G' ++ B2)) ++ B), rfl, hc, fr l (.inl (by simp)) _ h1 (fun _ z => by cases z), by simp, by rw [putF_id h3] at h10; exact h10⟩
  | .ky _ :: p, .ol ws, v, F, u, x, h, a => a.elim
  | .ky _ :: p, .ot ws, v, F, u, x, h, a => a.elim
  | .fd _ :: p, .ol ws, v, F, u, x, h, a => a.elim
  | .fd _ :: p, .ot ws, v, F, u, x, h, a => a.elim
  | .ix _ :: p, .od ws, v, F, u, x, h, a => a.elim
  | .fd _ :: p, .od ws, v, F, u, x, h, a => a.elim
  | .ix _ :: p, .oi _ ws, v, F, u, x, h, a => a.elim
  | .ky _ :: p, .oi _ ws, v, F, u, x, h, a => a.elim
/-- a place exists -/
theorem At.of : ∀ (p : List Stp) {w : W} {v : V} {F : List Addr} {u : W}, Ro K mg I H w v F → w.sub p = some u → ∃ x, At H w v p u x
  | [], w, v, F, u, h, e => by
    cases w <;> (simp [W.sub] at e; subst e; exact ⟨v, rfl, rfl⟩)
  | s :: p, .p d, v, F, u, h, e => by cases s <;> simp [W.sub] at e
  | s :: p, .ex d, v, F, u, h, e => by cases s <;> simp [W.sub] at e
  | .ix j :: p, .ol ws, v, F, u, h, e => by
    simp only [Ro] at h
    obtain ⟨l, xs, G, rfl, h1, rfl, h2⟩ := h
    obtain ⟨w', e1, e2⟩ := Option.bind_eq_some_iff.mp (show (ws[j]?.bind fun w => W.sub w p) = some u from e)
    obtain ⟨y, A, G1, B, e3, rfl, h6, k⟩ := h2.lens e1
    obtain ⟨x, hx⟩ := At.of p h6 e2
    exact ⟨x, l, xs, w', y, rfl, h1, e1, e3, hx⟩
  | .ix j :: p, .ot ws, v, F, u, h, e => by
    simp only [Ro] at h
    obtain ⟨l, xs, G, rfl, h1, rfl, h2⟩ := h
    obtain ⟨w', e1, e2⟩ := Option.bind_eq_some_iff.mp (show (ws[j]?.bind fun w => W.sub w p) = some u from e)
    obtain ⟨y, A, G1, B, e3, rfl, h6, k⟩ := h2.lens e1
    obtain ⟨x, hx⟩ := At.of p h6 e2
    exact ⟨x, l, xs, w', y, rfl, h1, e1, e3, hx⟩
  | .ky j :: p, .od ws, v, F, u, h, e => by
    simp only [Ro] at h
    obtain ⟨l, xs, G, rfl, h1, rfl, h2⟩ := h
    obtain ⟨w', e1, e2⟩ := Option.bind_eq_some_iff.mp (show ((valW ws j).bind fun w => W.sub w p) = some u from e)
    obtain ⟨y, A, G1, B, e3, rfl, h6, k⟩ := h2.lens e1
    obtain ⟨x, hx⟩ := At.of p h6 e2
    exact ⟨x, l, xs, w', y, rfl, h1, e1, e3, hx⟩
  | .fd j :: p, .oi c ws, v, F, u, h, e => by
    simp only [Ro] at h
    obtain ⟨l, C, dx, xs, G, rfl, hc, h1, rfl, h2⟩ := h
    obtain ⟨w', e1, e2⟩ := Option.bind_eq_some_iff.mp (show ((getFW ws j).bind fun w => W.sub w p) = some u from e)
    obtain ⟨y, A, G1, B, e3, rfl, h6, k⟩ := h2.lens e1
    obtain ⟨x, hx⟩ := At.of p h6 e2
    exact ⟨x, l, C, dx, xs, w', y, rfl, h1, e1, e3, hx⟩
  | .ky _ :: p, .ol ws, v, F, u, h, e => by simp [W.sub] at e
  | .ky _ :: p, .ot ws, v, F, u, h, e => by simp [W.sub] at e
  | .fd _ :: p, .ol ws, v, F, u, h, e => by simp [W.sub] at e
  | .fd _ :: p, .ot ws, v, F, u, h, e => by simp [W.sub] at e
  | .ix _ :: p, .od ws, v, F, u, h, e => by simp [W.sub] at e
  | .fd _ :: p, .od ws, v, F, u, h, e => by simp [W.sub] at e
  | .ix _ :: p, .oi _ ws, v, F, u, h, e => by simp [W.sub] at e
  | .ky _ :: p, .oi _ ws, v, F, u, h, e => by simp [W.sub] at e
/-- one step more -/
theorem At.snoc : ∀ (p : List Stp) {w : W} {v : V} {u : W} {x : V} {q : List Stp} {u' : W} {x' : V}, At H w v p u x → At H u x q u' x' → At H w v (p ++ q) u' x'
  | [], w, v, u, x, q, u', x', a, b => by
    cases w <;> (obtain ⟨rfl, rfl⟩ := a; exact b)
  | s :: p, .p d, v, u, x, q, u', x', a, b => by cases s <;> exact a.elim
  | s :: p, .ex d, v, u, x, q, u', x', a, b => by cases s <;> exact a.elim
  | .ix j :: p, .ol ws, v, u, x, q, u', x', a, b => by
    obtain ⟨l, xs, w', y, rfl, h1, h2, h3, h4⟩ := a
    exact ⟨l, xs, w', y, rfl, h1, h2, h3, At.snoc p h4 b⟩
  | .ix j :: p, .ot ws, v, u, x, q, u', x', a, b => by
    obtain ⟨l, xs, w', y, rfl, h1, h2, h3, h4⟩ := a
    exact ⟨l, xs, w', y, rfl, h1, h2, h3, At.snoc p h4 b⟩
  | .ky j :: p, .od ws, v, u, x, q, u', x', a, b => by
    obtain ⟨l, xs, w', y, rfl, h1, h2, h3, h4⟩ := a
    exact ⟨l, xs, w', y, rfl, h1, h2, h3, At.snoc p h4 b⟩
  | .fd j :: p, .oi c ws, v, u, x, q, u', x', a, b => by
    obtain ⟨l, C, dx, xs, w', y, rfl, h1, h2, h3, h4⟩ := a
    exact ⟨l, C, dx, xs, w', y, rfl, h1, h2, h3, At.snoc p h4 b⟩
  | .ky _ :: p, .ol ws, v, u, x, q, u', x', a, b => a.elim
  | .ky _ :: p, .ot ws, v, u, x, q, u', x', a, b => a.elim
  | .fd _ :: p, .ol ws, v, u, x, q, u', x', a, b => a.elim
  | .fd _ :: p, .ot ws, v, u, x, q, u', x', a, b => a.elim
  | .ix _ :: p, .od ws, v, u, x, q, u', x', a, b => a.elim
  | .fd _ :: p, .od ws, v, u, x, q, u', x', a, b => a.elim
  | .ix _ :: p, .oi _ ws, v, u, x, q, u', x', a, b => a.elim
  | .ky _ :: p, .oi _ ws, v, u, x, q, u', x', a, b => a.elim
theorem At.mono {H' : Hp} (ex : Ex H H') : ∀ (p : List Stp) {w : W} {v : V} {u : W} {x : V}, At H w v p u x → At H' w v p u x
  | [], w, v, u, x, a => by cases w <;> exact a
  | s :: p, .p d, v, u, x, a => by cases s <;> exact a.elim
  | s :: p, .ex d, v, u, x, a => by cases s <;> exact a.elim
  | .ix j :: p, .ol ws, v, u, x, a => by
    obtain ⟨l, xs, w', y, rfl, h1, h2, h3, h4⟩ := a
    exact ⟨l, xs, w', y, rfl, ex _ _ h1, h2, h3, h4.mono ex p⟩
  | .ix j :: p, .ot ws, v, u, x, a => by
    obtain ⟨l, xs, w', y, rfl, h1, h2, h3, h4⟩ := a
    exact ⟨l, xs, w', y, rfl, ex _ _ h1, h2, h3, h4.mono ex p⟩
  | .ky j :: p, .od ws, v, u, x, a => by
    obtain ⟨l, xs, w', y, rfl, h1, h2, h3, h4⟩ := a
    exact ⟨l, xs, w', y, rfl, ex _ _ h1, h2, h3, h4.mono ex p⟩
  | .fd j :: p, .oi c ws, v, u, x, a => by
    obtain ⟨l, C, dx, xs, w', y, rfl, h1, h2, h3, h4⟩ := a
    exact ⟨l, C, dx, xs, w', y, rfl, ex _ _ h1, h2, h3, h4.mono ex p⟩
  | .ky _ :: p, .ol ws, v, u, x, a => a.elim
  | .ky _ :: p, .ot ws, v, u, x, a => a.elim
  | .fd _ :: p, .ol ws, v, u, x, a => a.elim
  | .fd _ :: p, .ot ws, v, u, x, a => a.elim
  | .ix _ :: p, .od ws, v, u, x, a => a.elim
  | .fd _ :: p, .od ws, v, u, x, a => a.elim
  | .ix _ :: p, .oi _ ws, v, u, x, a => a.elim
  | .ky _ :: p, .oi _ ws, v, u, x, a => a.elim
end
end MV

namespace MV
open PySem L2
variable [TB]

/-! ### a change at a place -/
section
variable {K : PySem.W.Frag} {mg : Str → Option Value} {I H : Hp} {e : Env} {Fs : Fp} {σ : L2.St}
theorem Rel.upd {i : Nat} {p : List Stp} {w u : W} {v0 : V} {a : Addr} (R : Rel K mg I e Fs σ H) (hw : e[i]? = some (some w)) (hv : σ[i]? = some (some v0)) (hA : At H w v0 p u (.ref a)) (hc : ∀ G, Ro K mg I H u (.ref a) G → a ∈ G) :
    ∃ G, Ro K mg I H u (.ref a) G ∧ G.Nodup ∧ (∀ b ∈ G, b ∈ Fs i) ∧ I a = none ∧ ∀ o' u' G', Ro K mg I (upd H a o') u' (.ref a) G' → G'.Nodup → (∀ b ∈ G', b ∈ G ∨ (I b = none ∧ ¬ MF Fs b)) →
      ∃ Fs', Rel K mg I (e.set i (some (w.put p u'))) Fs' σ (upd H a o') ∧ ∀ F1 I1 H1, Ext F1 I1 H1 Fs I H → (∀ b ∈ G', b ∈ G ∨ MF F1 b ∨ H1 b = none) → Ext F1 I1 H1 Fs' I (upd H a o') := by
  obtain ⟨v1, hv1, ro⟩ := R.at_ i w hw
  rw [hv] at hv1
  cases hv1
  obtain ⟨A, G, B, hF, hG, k⟩ := ro.lens p hA
  have nd := R.nd i
  rw [hF] at nd
  rw [List.nodup_append, List.nodup_append] at nd
  obtain ⟨ndA, ⟨ndG, ndB, dGB⟩, dA⟩ := nd
  have ha := hc G hG
  have haF : a ∈ Fs i := by rw [hF]; simp [ha]
  have hI : I a = none := R.out i a haF
  refine ⟨G, hG, ndG, fun b hb => by rw [hF]; simp [hb], hI, fun o' u' G' r' nd' sub => ?_⟩
  have Rd := R.drop (i := i)
  have hFa : ¬ MF (putF Fs i []) a := fun ⟨i', hi'⟩ => by
    by_cases z : i' = i
    · subst z; rw [putF_same] at hi'; cases hi'
    · rw [putF_ne z] at hi'; exact z (R.dj i' i a hi' haF)
  have R3 := Rd.loose2 (o := o') hI hFa (R.nx hw haF)
  have off : ∀ b, b ∈ A ∨ b ∈ B → b ≠ a := fun b hb z => by
    rcases hb with q | q
    · exact dA b q a (by simp [ha]) z
    · exact dGB a ha b q z.symm
  have r2 := k I (L2.upd H a o') u' G' (Ex.refl _) (fun b hb o ho _ => by rw [upd_ne (off b hb)]; exact ho) r'
  have inA : ∀ b, b ∈ A → b ∈ Fs i := fun b hb => by rw [hF]; simp [hb]
  have inG : ∀ b, b ∈ G → b ∈ Fs i := fun b hb => by rw [hF]; simp [hb]
  have inB : ∀ b, b ∈ B → b ∈ Fs i := fun b hb => by rw [hF]; simp [hb]
  have all : ∀ b, b ∈ A ++ (G' ++ B) → b ∈ Fs i ∨ (b ∈ G' ∧ I b = none ∧ ¬ MF Fs b) := fun b hb => by
    rcases List.mem_append.mp hb with q | q
    · exact .inl (inA b q)
    · rcases List.mem_append.mp q with q | q
      · rcases sub b q with z | z
        · exact .inl (inG b z)
        · exact .inr ⟨q, z⟩
      · exact .inl (inB b q)
  have ow : Own K mg I (L2.upd H a o') (putF Fs i []) (w.put p u') v0 (A ++ (G' ++ B)) := by
    refine ⟨r2, ?_, fun b hb => ?_, fun b hb m => ?_⟩
    · rw [List.nodup_append, List.nodup_append]
      refine ⟨ndA, ⟨nd', ndB, fun b hb c hc z => ?_⟩, fun b hb c hc z => ?_⟩
      · subst z
        rcases sub b hb with q | q
        · exact dGB b q b hc rfl
        · exact q.2 ⟨i, inB b hc⟩
      · subst z
        rcases List.mem_append.mp hc with q | q
        · rcases sub b q with z | z
          · exact dA b hb b (by simp [z]) rfl
          · exact z.2 ⟨i, inA b hb⟩
        · exact dA b hb b (by simp [q]) rfl
    · rcases all b hb with q | q
      · exact R.out i b q
      · exact q.2.1
    · rcases all b hb with q | q
      · obtain ⟨j, hj⟩ := m
        by_cases z : j = i
        · subst z; rw [putF_same] at hj; cases hj
        · rw [putF_ne z] at hj; exact z (R.dj j i b hj q)
      · exact q.2.2 m.nil
  have R4 := R3.put (i := i) ow
  rw [set_id hv, show (e.set i none).set i (some (w.put p u')) = e.set i (some (w.put p u')) from List.set_set ..] at R4
  refine ⟨_, R4, fun F1 I1 H1 x hx => ?_⟩
  have keep : ∀ c, MF Fs c → MF F1 c ∨ H1 c = none := x.fp
  refine ⟨x.g.set (keep a ⟨i, haF⟩) (R.nx hw haF), fun c hc => ?_⟩
  · rcases hc.put with q | q
    · rcases all c q with z | z
      · exact keep c ⟨i, z⟩
      · rcases hx c z.1 with y | y
        · exact keep c ⟨i, inG c y⟩
        · exact y
    · exact keep c q.nil
theorem Gr.heap {I' H' : Hp} (g : Gr I H I' H') : Ex H H' := by
  induction g with
  | same => exact Ex.refl _
  | new p o h => exact Ex.new h
  | more g1 g2 i1 i2 => exact i1.trans i2
theorem Gr.fz {I' H' : Hp} (g : Gr I H I' H') (s : Ex I H) : Ex I I' := (g.ex s).1
end

/-! ### pure expressions: the owned things stay -/
abbrev P (α : Type) := Env → Option α
def tV (K : PySem.W.Frag) (mg : Str → Option Value) (f : P D) : TE := fun σ H Q => ∃ I e Fs, Rel K mg I e Fs σ H ∧ ∃ d, f e = some d ∧ ∀ v I' H', Gr I H I' H' → Rp K mg I' d v → Q v H'
def SV (X : Cx) (a : Expr) (f : P D) : Prop := PE X a (tV X.K X.mg f)
def mV (f : P D) : M D := fun e => (f e).map fun d => (d, e)
theorem SV.se {X : Cx} {a : Expr} {f : P D} (h : SV X a f) : SE X a (mV f) := PE.imp h fun σ H Q ⟨I, e, Fs, R, d, e', hm, k⟩ => by
  obtain ⟨d', h1, hm⟩ := Option.map_eq_some_iff.mp hm
  cases hm
  refine ⟨I, e, Fs, R, d, h1, fun v I' H' g r => ?_⟩
  obtain ⟨R', x⟩ := g.rel R
  exact k v I' Fs H' R' x r
def tVA (K : PySem.W.Frag) (mg : Str → Option Value) (f : P (List D)) : TA := fun σ H Q => ∃ I e Fs, Rel K mg I e Fs σ H ∧ ∃ ds, f e = some ds ∧ ∀ vs I' H', Gr I H I' H' → RpL K mg I' ds vs → Q vs H'
def SVA (X : Cx) (es : List Expr) (f : P (List D)) : Prop := PA X es (tVA X.K X.mg f)
def vC (d : D) : P D := fun _ => some d
def vVar (i : Nat) : P D := fun e => match e[i]? with
  | some (some (.p d)) => some d
  | _ => none
def vOp (f : D → D → Option D) (a b : P D) : P D := fun e => (a e).bind fun x => (b e).bind fun y => f x y
def vUn (f : D → Option D) (a : P D) : P D := fun e => (a e).bind f
def vaNil : P (List D) := fun _ => some []
def vaCons (a : P D) (r : P (List D)) : P (List D) := fun e => (a e).bind fun x => (r e).map fun y => x :: y
def vDisp (f : List D → Option D) (a : P (List D)) : P D := fun e => (a e).bind f
section
variable {X : Cx} {a b c : Expr} {es : List Expr} {fa fb : P D} {pos : Pos}
theorem SV.val {t : TE} (h : PE X a t) {d : D} (hd : ∀ σ H Q, (∀ v, Rp X.K X.mg (fun _ => none) d v → Q v H) → t σ H Q) : SV X a (vC d) := by
  refine PE.imp h fun σ H Q ⟨I, e, Fs, R, d', hm, k⟩ => hd σ H Q fun v hv => ?_
  cases hm
  exact k v I H .same (hv.mono (fun _ _ z => by cases z) _ _)
theorem sv_int {i : Int} {j : Nat} : SV X (.Constant (.int i) j pos) (vC (.int i)) := SV.val pe_int fun σ H Q k => k (.int i) (by simp only [Rp])
theorem sv_bl {i : Bool} {j : Nat} : SV X (.Constant (.bool i) j pos) (vC (.bool i)) := SV.val pe_bl fun σ H Q k => k (.bl i) (by simp only [Rp])
theorem sv_non {j : Nat} : SV X (.Constant .none j pos) (vC .none) := SV.val pe_non fun σ H Q k => k .non (by simp only [Rp])
theorem sv_str {x : Str} {j : Nat} : SV X (.Constant (.str x) j pos) (vC (.str x)) := SV.val pe_str fun σ H Q k => k (.str x) (by simp only [Rp])
theorem sv_var {i : Nat} {x : Str} (h : PE X (.Name x pos) (tVar i)) : SV X (.Name x pos) (vVar i) := by
  refine PE.imp h fun σ H Q ⟨I, e, Fs, R, d', hm, k⟩ => ?_
  unfold vVar at hm
  split at hm
  · rename_i d hd
    cases hm
    obtain ⟨v, hv, hr⟩ := R.at_ i _ hd
    simp only [Ro] at hr
    exact ⟨v, hv, k v I H .same hr.1⟩
  · cases hm
theorem v2_run {K : PySem.W.Frag} {mg : Str → Option Value} {r : R2} {f : D → D → Option D} (hf : OpD K mg r f) {σ : L2.St} {H : Hp} {Q : VK} (h : tV K mg (vOp f fa fb) σ H Q) : tV K mg fa σ H fun v H1 => tV K mg fb σ H1 fun u H2 => r v u H2 Q := by
  obtain ⟨I, e, Fs, R, d, hm, k⟩ := h
  obtain ⟨x, h1, hm⟩ := Option.bind_eq_some_iff.mp hm
  obtain ⟨y, h2, hm⟩ := Option.bind_eq_some_iff.mp hm
  refine ⟨I, e, Fs, R, x, h1, fun v I1 H1 g1 r1 => ⟨I1, e, Fs, (g1.rel R).1, y, h2, fun u I2 H2 g2 r2 => ?_⟩⟩
  have R2 := (g2.rel (g1.rel R).1).1
  refine hf I2 H2 x y d v u Q R2.sub (r1.mono (g2.fz (g1.rel R).1.sub) _ _) r2 hm fun v' I3 H3 g3 r3 => ?_
  exact k v' I3 H3 (.more (.more g1 g2) g3) r3
theorem sv_op {op : Operator} {r : R2} {f : D → D → Option D} (ho : OpR X (binaryOp op) r) (hf : OpD X.K X.mg r f) (ha : SV X a fa) (hb : SV X b fb) : SV X (.BinOp a op b pos) (vOp f fa fb) :=
  PE.imp (pe_op ho ha hb) fun σ H Q h => v2_run hf h
theorem sv_cmp {op : CmpOp} {r : R2} {f : D → D → Option D} (ho : OpR X (compareOp op) r) (hf : OpD X.K X.mg r f) (ha : SV X a fa) (hb : SV X b fb) (hm : behindInMarks op b = false) : SV X (.Compare a [op] [b] pos) (vOp f fa fb) :=
  PE.imp (pe_cmpR ho ha hb hm) fun σ H Q h => v2_run hf h
theorem sv_ix (ha : SV X a fa) (hb : SV X b fb) (hs : PlainIx b) : SV X (.Subscript a b pos) (vOp dIx fa fb) :=
  PE.imp (pe_ix ix_seq ha hb hs) fun σ H Q h => v2_run od_ix h
theorem sv_neg (ha : SV X a fa) : SV X (.UnaryOp .USub a pos) (vUn dNeg fa) := by
  refine PE.imp (pe_un un_neg ha) fun σ H Q ⟨I, e, Fs, R, d, hm, k⟩ => ?_
  obtain ⟨x, h1, hm⟩ := Option.bind_eq_some_iff.mp hm
  refine ⟨I, e, Fs, R, x, h1, fun v I1 H1 g1 r1 => ?_⟩
  refine ud_neg I1 H1 x d v Q (g1.rel R).1.sub r1 hm fun v' I3 H3 g3 r3 => k v' I3 H3 (.more g1 g3) r3
theorem sva_nil : SVA X [] vaNil := PA.imp pa_nil fun σ H Q ⟨I, e, Fs, R, as, hm, k⟩ => by
  cases hm
  exact k [] I H .same RpL.nil
theorem sva_cons {r : P (List D)} (h : SV X a fa) (hr : SVA X es r) (hs : starEach (a :: es) X.env = (false, eval a X.env) :: starEach es X.env := by rfl) : SVA X (a :: es) (vaCons fa r) := by
  refine PA.imp (pa_cons h hr hs) fun σ H Q ⟨I, e, Fs, R, ds, hm, k⟩ => ?_
  obtain ⟨x, h1, hm⟩ := Option.bind_eq_some_iff.mp hm
  obtain ⟨y, h2, hm⟩ := Option.map_eq_some_iff.mp hm
  cases hm
  refine ⟨I, e, Fs, R, x, h1, fun v I1 H1 g1 r1 => ⟨I1, e, Fs, (g1.rel R).1, y, h2, fun vs I2 H2 g2 r2 => ?_⟩⟩
  exact k (v :: vs) I2 H2 (.more g1 g2) (RpL.cons (r1.mono (g2.fz (g1.rel R).1.sub) _ _) r2)
theorem vdisp_run {K : PySem.W.Frag} {mg : Str → Option Value} {r : List V → Hp → VK → Prop} {f : List D → Option D} {ma : P (List D)} {σ : L2.St} {H : Hp} {Q : VK} (hf : CallD K mg r f) (h : tV K mg (vDisp f ma) σ H Q) : tVA K mg ma σ H fun vs H1 => r vs H1 Q := by
  obtain ⟨I, e, Fs, R, d, hm, k⟩ := h
  obtain ⟨ds, h1, hm⟩ := Option.bind_eq_some_iff.mp hm
  refine ⟨I, e, Fs, R, ds, h1, fun vs I1 H1 g1 r1 => ?_⟩
  exact hf I1 H1 ds d vs Q (g1.rel R).1.sub r1 hm fun v' I3 H3 g3 r3 => k v' I3 H3 (.more g1 g3) r3
theorem cd_tupD {K : PySem.W.Frag} {mg : Str → Option Value} : CallD K mg (fun xs H1 Q => xs.length ≤ sizeLine ∧ ∀ p, H1 p = none → Q (.ref p) (upd H1 p (.tup xs))) fTup := by
  intro I H ds z vs Q s r e k
  unfold fTup at e
  split at e
  · rename_i hz
    cases e
    exact ⟨by rw [← r.length]; exact lim_le hz, fun p hp => k _ _ _ (.new p _ hp) (rp_tup s hp r)⟩
  · cases e
theorem sv_tup {m : P (List D)} {x1 : Nat} (h : SVA X es m) : SV X (.Tuple es x1 pos) (vDisp fTup m) := PE.imp (pe_tup h) fun σ H Q q => vdisp_run cd_tupD q
theorem sv_callB {id : String} {x : Str} {p : Pos} {r : List V → Hp → VK → Prop} {f : List D → Option D} {m : P (List D)} (hc : CallR X (.builtin id) r) (hf : CallD X.K X.mg r f) (hg : Gl X x) (hm : X.mg x = none) (hv : bootBuiltins x = some (.builtin id)) (ha : SVA X (a :: es) m) (hn : x ≠ "__name__" := by decide) (hd : (x == ("__debug__" : Str)) = false := by decide)
    (he : starEach (a :: es) X.env = (false, eval a X.env) :: starEach es X.env := by rfl) (hpl : (backTo pos (starEach es X.env)).any (·.1) = false := by rfl) : SV X (.Call (.Name x p) (a :: es) [] pos) (vDisp f m) :=
  PE.imp (pe_callB hc hg hm hv ha hn hd he hpl) fun σ H Q q => vdisp_run hf q
end

/-! ### places -/
abbrev Pth := Nat × List Stp
def atE (e : Env) (p : Pth) : Option W := match e[p.1]? with
  | some (some w) => w.sub p.2
  | _ => none
def putE (e : Env) (p : Pth) (u : W) : Env := match e[p.1]? with
  | some (some w) => e.set p.1 (some (w.put p.2 u))
  | _ => e
def tL (K : PySem.W.Frag) (mg : Str → Option Value) (f : P Pth) : TE := fun σ H Q => ∃ I e Fs, Rel K mg I e Fs σ H ∧ ∃ p, f e = some p ∧ ∀ v I' H' w v0 u, Gr I H I' H' → e[p.1]? = some (some w) → σ[p.1]? = some (some v0) → w.sub p.2 = some u → At H' w v0 p.2 u v → Q v H'
def SL (X : Cx) (a : Expr) (f : P Pth) : Prop := PE X a (tL X.K X.mg f)
def lName (i : Nat) : P Pth := fun e => match e[i]? with
  | some (some _) => some (i, [])
  | _ => none
theorem sl_name {X : Cx} {i : Nat} {x : Str} {pos : Pos} (h : PE X (.Name x pos) (tVar i)) : SL X (.Name x pos) (lName i) := by
  refine PE.imp h fun σ H Q ⟨I, e, Fs, R, p, hm, k⟩ => ?_
  unfold lName at hm
  split at hm
  · rename_i w hw
    cases hm
    obtain ⟨v, hv, hr⟩ := R.at_ i _ hw
    exact ⟨v, hv, k v I H w v w .same hw hv (by cases w <;> rfl) (by cases w <;> exact ⟨rfl, rfl⟩)⟩
  · cases hm
/-- what a place gives to the next step -/
theorem L_get {K : PySem.W.Frag} {mg : Str → Option Value} {I H : Hp} {e : Env} {Fs : Fp} {σ : L2.St} {i : Nat} {p : List Stp} {w u : W} {v v0 : V} (R : Rel K mg I e Fs σ H) (hw : e[i]? = some (some w)) (hv : σ[i]? = some (some v0)) (hA : At H w v0 p u v) : ∃ G, Ro K mg I H u v G := by
  obtain ⟨v1, hv1, ro⟩ := R.at_ i w hw
  rw [hv] at hv1
  cases hv1
  obtain ⟨A, G, B, hF, hG, k⟩ := ro.lens p hA
  exact ⟨G, hG⟩
theorem sub_app : ∀ (p : List Stp) {w u : W} {q : List Stp}, w.sub p = some u → w.sub (p ++ q) = u.sub q
  | [], w, u, q, h => by
    have : w = u := by cases w <;> simpa [W.sub] using h
    subst this; rfl
  | s :: p, .p d, u, q, h => by cases s <;> simp [W.sub] at h
  | s :: p, .ex d, u, q, h => by cases s <;> simp [W.sub] at h
  | .ix j :: p, .ol ws, u, q, h => by
    obtain ⟨w', e1, e2⟩ := Option.bind_eq_some_iff.mp (show (ws[j]?.bind fun w => W.sub w p) = some u from h)
    show (ws[j]?.bind fun w => W.sub w (p ++ q)) = _
    rw [e1]; exact sub_app p e2
  | .ix j :: p, .ot ws, u, q, h => by
    obtain ⟨w', e1, e2⟩ := Option.bind_eq_some_iff.mp (show (ws[j]?.bind fun w => W.sub w p) = some u from h)
    show (ws[j]?.bind fun w => W.sub w (p ++ q)) = _
    rw [e1]; exact sub_app p e2
  | .ky j :: p, .od ws, u, q, h => by
    obtain ⟨w', e1, e2⟩ := Option.bind_eq_some_iff.mp (show ((valW ws j).bind fun w => W.sub w p) = some u from h)
    show ((valW ws j).bind fun w => W.sub w (p ++ q)) = _
    rw [e1]; exact sub_app p e2
  | .fd j :: p, .oi c ws, u, q, h => by
    obtain ⟨w', e1, e2⟩ := Option.bind_eq_some_iff.mp (show ((getFW ws j).bind fun w => W.sub w p) = some u from h)
    show ((getFW ws j).bind fun w => W.sub w (p ++ q)) = _
    rw [e1]; exact sub_app p e2
  | .ky _ :: p, .ol ws, u, q, h => by simp [W.sub] at h
  | .ky _ :: p, .ot ws, u, q, h => by simp [W.sub] at h
  | .fd _ :: p, .ol ws, u, q, h => by simp [W.sub] at h
  | .fd _ :: p, .ot ws, u, q, h => by simp [W.sub] at h
  | .ix _ :: p, .od ws, u, q, h => by simp [W.sub] at h
  | .fd _ :: p, .od ws, u, q, h => by simp [W.sub] at h
  | .ix _ :: p, .oi _ ws, u, q, h => by simp [W.sub] at h
  | .ky _ :: p, .oi _ ws, u, q, h => by simp [W.sub] at h
def keyD : D → Option Key
  | .int i => some (.inl i)
  | .str x => some (.inr x)
  | _ => none
theorem keyD_v {K : PySem.W.Frag} {mg : Str → Option Value} {I : Hp} {d : D} {v : V} {k : Key} (h : keyD d = some k) (r : Rp K mg I d v) : v = kV k := by
  unfold keyD at h
  split at h
  · cases h; simp only [Rp] at r; exact r
  · cases h; simp only [Rp] at r; exact r
  · cases h
/-- o.f of an own thing of the class c -/
def lFld (c fl : Str) (f : P Pth) : P Pth := fun e => (f e).bind fun p => match atE e p with
  | some (.oi c' gs) => if c' = c then (getFW gs fl).bind fun _ => some (p.1, p.2 ++ [.fd fl]) else none
  | _ => none
def lKey (f : P Pth) (g : P D) : P Pth := fun e => (f e).bind fun p => (g e).bind fun d => (keyD d).bind fun k => match atE e p with
  | some (.od es) => (valW es k).bind fun _ => some (p.1, p.2 ++ [.ky k])
  | _ => none
def lIx (f : P Pth) (g : P D) : P Pth := fun e => (f e).bind fun p => (g e).bind fun d => match d, atE e p with
  | .int i, some (.ol ws) => (ixN ws.length i).map fun j => (p.1, p.2 ++ [.ix j])
  | .int i, some (.ot ws) => (ixN ws.length i).map fun j => (p.1, p.2 ++ [.ix j])
  | _, _ => none
theorem atE_of {e : Env} {p : Pth} {w u : W} (h : e[p.1]? = some (some w)) : atE e p = w.sub p.2 := by unfold atE; rw [h]
section
variable {X : Cx} {o b : Expr} {f : P Pth} {g : P D} {pos : Pos} {c fl : Str}
theorem sl_fld (ho : SL X o f) (hC : ∀ C, X.mg c = some (.ref C) → Cls X.K C ∧ NoAttr X.K C fl) (hb : attributeBase o fl X.env (eval o X.env) = eval o X.env := by rfl) : SL X (.Attribute o fl pos) (lFld c fl f) := by
  refine PE.imp (pe_fld ho hb) fun σ H Q ⟨I, e, Fs, R, p', hm, k⟩ => ?_
  obtain ⟨p, h1, hm⟩ := Option.bind_eq_some_iff.mp hm
  refine ⟨I, e, Fs, R, p, h1, fun v I' H' w v0 u gr hw hv hs hA => ?_⟩
  rw [atE_of (u := u) hw, hs] at hm
  cases u with
  | oi c' gs =>
    have hm2 : (if c' = c then (getFW gs fl).bind fun _ => some (p.1, p.2 ++ [Stp.fd fl]) else none) = some p' := hm
    clear hm
    by_cases hcc : c' = c
    · rw [if_pos hcc] at hm2
      subst hcc
      obtain ⟨w', h2, hm3⟩ := Option.bind_eq_some_iff.mp hm2
      cases hm3
      have R' := (gr.rel R).1
      obtain ⟨G, hG⟩ := L_get R' hw hv hA
      have hG' := hG
      simp only [Ro] at hG'
      obtain ⟨a, C, dx, fs, G1, rfl, hc, ha, _, hF⟩ := hG'
      obtain ⟨x, A, G2, B, hx, _, hro, _⟩ := hF.lens h2
      refine ⟨a, C, dx, fs, x, rfl, ha, (hC C hc).1, (hC C hc).2, hx, ?_⟩
      refine k x I' H' w v0 w' gr hw hv ?_ (hA.snoc p.2 ⟨a, C, dx, fs, w', x, rfl, ha, h2, hx, by cases w' <;> exact ⟨rfl, rfl⟩⟩)
      rw [sub_app p.2 hs]
      simp [W.sub, h2]
    · rw [if_neg hcc] at hm2; cases hm2
  | _ => cases hm
theorem sl_key (hu : X.A.units + 1 < cLine) (ho : SL X o f) (hb : SV X b g) (hs : NoSl b) : SL X (.Subscript o b pos) (lKey f g) := by
  refine PE.imp (pe_dget hu ho hb hs) fun σ H Q ⟨I, e, Fs, R, p', hm, k⟩ => ?_
  obtain ⟨p, h1, hm⟩ := Option.bind_eq_some_iff.mp hm
  obtain ⟨d, h2, hm⟩ := Option.bind_eq_some_iff.mp hm
  obtain ⟨ky, h3, hm⟩ := Option.bind_eq_some_iff.mp hm
  refine ⟨I, e, Fs, R, p, h1, fun v I' H' w v0 u gr hw hv hsb hA => ?_⟩
  have R' := (gr.rel R).1
  refine ⟨I', e, Fs, R', d, h2, fun y I2 H2 gr2 ry => ?_⟩
  rw [atE_of (u := u) hw, hsb] at hm
  cases u with
  | od es =>
    obtain ⟨w', h4, hm⟩ := Option.bind_eq_some_iff.mp (show ((valW es ky).bind fun _ => some (p.1, p.2 ++ [Stp.ky ky])) = some p' from hm)
    cases hm
    have R2 := (gr2.rel R').1
    have hA2 := hA.mono gr2.heap p.2
    obtain ⟨G, hG⟩ := L_get R2 hw hv hA2
    have hG' := hG
    simp only [Ro] at hG'
    obtain ⟨a, kvs, G1, rfl, ha, _, hF⟩ := hG'
    obtain ⟨x, A, G2, B, hx, _, hro, _⟩ := hF.lens h4
    refine ⟨a, x, rfl, ?_, ?_⟩
    · rw [keyD_v h3 ry, ← hx]; exact DGet.k ha
    · refine k x I2 H2 w v0 w' (.more gr gr2) hw hv ?_ (hA2.snoc p.2 ⟨a, kvs, w', x, rfl, ha, h4, hx, by cases w' <;> exact ⟨rfl, rfl⟩⟩)
      rw [sub_app p.2 hsb]
      simp [W.sub, h4]
  | _ => cases hm
theorem sl_ix (ho : SL X o f) (hb : SV X b g) (hs : PlainIx b) : SL X (.Subscript o b pos) (lIx f g) := by
  refine PE.imp (pe_ix ix_seq ho hb hs) fun σ H Q ⟨I, e, Fs, R, p', hm, k⟩ => ?_
  obtain ⟨p, h1, hm⟩ := Option.bind_eq_some_iff.mp hm
  obtain ⟨d, h2, hm⟩ := Option.bind_eq_some_iff.mp hm
  refine ⟨I, e, Fs, R, p, h1, fun v I' H' w v0 u gr hw hv hsb hA => ?_⟩
  have R' := (gr.rel R).1
  refine ⟨I', e, Fs, R', d, h2, fun y I2 H2 gr2 ry => ?_⟩
  rw [atE_of (u := u) hw, hsb] at hm
  cases d with
  | int i =>
    cases u with
    | ol ws =>
      obtain ⟨j, h4, hm⟩ := Option.map_eq_some_iff.mp (show ((ixN ws.length i).map fun j => (p.1, p.2 ++ [Stp.ix j])) = some p' from hm)
      cases hm
      simp only [Rp] at ry
      subst ry
      have R2 := (gr2.rel R').1
      have hA2 := hA.mono gr2.heap p.2
      obtain ⟨G, hG⟩ := L_get R2 hw hv hA2
      have hG' := hG
      simp only [Ro] at hG'
      obtain ⟨a, xs, G1, rfl, ha, _, hF⟩ := hG'
      have hj : j < ws.length := by
        unfold ixN at h4
        split at h4
        · split at h4
          · cases h4; omega
          · cases h4
        · split at h4
          · cases h4; omega
          · cases h4
      have h5 : ws[j]? = some ws[j] := List.getElem?_eq_getElem hj
      obtain ⟨x, A, G2, B, hx, _, hro, _⟩ := hF.lens h5
      refine .inl ⟨a, xs, i, x, rfl, rfl, .of ha, ?_, ?_⟩
      · unfold L2.atI; rw [← hF.len, h4]; exact hx
      · refine k x I2 H2 w v0 ws[j] (.more gr gr2) hw hv ?_ (hA2.snoc p.2 ⟨a, xs, ws[j], x, rfl, ha, h5, hx, by cases ws[j] <;> exact ⟨rfl, rfl⟩⟩)
        rw [sub_app p.2 hsb]
        show (ws[j]?.bind fun w => W.sub w []) = _
        rw [h5]
        cases ws[j] <;> rfl
    | ot ws =>
      obtain ⟨j, h4, hm⟩ := Option.map_eq_some_iff.mp (show ((ixN ws.length i).map fun j => (p.1, p.2 ++ [Stp.ix j])) = some p' from hm)
      cases hm
      simp only [Rp] at ry
      subst ry
      have R2 := (gr2.rel R').1
      have hA2 := hA.mono gr2.heap p.2
      obtain ⟨G, hG⟩ := L_get R2 hw hv hA2
      have hG' := hG
      simp only [Ro] at hG'
      obtain ⟨a, xs, G1, rfl, ha, _, hF⟩ := hG'
      have hj : j < ws.length := by
        unfold ixN at h4
        split at h4
        · split at h4
          · cases h4; omega
          · cases h4
        · split at h4
          · cases h4; omega
          · cases h4
      have h5 : ws[j]? = some ws[j] := List.getElem?_eq_getElem hj
      obtain ⟨x, A, G2, B, hx, _, hro, _⟩ := hF.lens h5
      refine (.inr (.inl ⟨a, xs, i, x, rfl, rfl, SqT.of ha, ?_, ?_⟩))
      · unfold L2.atI; rw [← hF.len, h4]; exact hx
      · refine k x I2 H2 w v0 ws[j] (.more gr gr2) hw hv ?_ (hA2.snoc p.2 ⟨a, xs, ws[j], x, rfl, ha, h5, hx, by cases ws[j] <;> exact ⟨rfl, rfl⟩⟩)
        rw [sub_app p.2 hsb]
        show (ws[j]?.bind fun w => W.sub w []) = _
        rw [h5]
        cases ws[j] <;> rfl
    | _ => cases hm
  | _ => cases u <;> cases hm
/-- what stands there, a datum -/
def vRead (f : P Pth) : P D := fun e => (f e).bind fun p => match atE e p with
  | some (.p d) => some d
  | _ => none
theorem sv_read (ho : SL X o f) : SV X o (vRead f) := by
  refine PE.imp ho fun σ H Q ⟨I, e, Fs, R, d, hm, k⟩ => ?_
  obtain ⟨p, h1, hm⟩ := Option.bind_eq_some_iff.mp hm
  refine ⟨I, e, Fs, R, p, h1, fun v I' H' w v0 u gr hw hv hs hA => ?_⟩
  rw [atE_of (u := u) hw, hs] at hm
  cases u with
  | p d' =>
    cases hm
    obtain ⟨G, hG⟩ := L_get (gr.rel R).1 hw hv hA
    simp only [Ro] at hG
    exact k v I' H' gr hG.1
  | _ => cases hm
/-- what is told of an owned thing -/
def ObsW (K : PySem.W.Frag) (mg : Str → Option Value) (r : V → Hp → VK → Prop) (f : W → Option D) : Prop :=
  ∀ (I H : Hp) (u : W) (z : D) (v : V) (G : List Addr) (Q : VK), Ex I H → Ro K mg I H u v G → f u = some z → (∀ v' I' H', Gr I H I' H' → Rp K mg I' z v' → Q v' H') → r v H Q
def vObs (h : W → Option D) (f : P Pth) : P D := fun e => (f e).bind fun p => (atE e p).bind h
theorem obs_run {K : PySem.W.Frag} {mg : Str → Option Value} {r : V → Hp → VK → Prop} {h : W → Option D} {σ : L2.St} {H : Hp} {Q : VK} (hf : ObsW K mg r h) (q : tV K mg (vObs h f) σ H Q) : tL K mg f σ H fun v H1 => r v H1 Q := by
  obtain ⟨I, e, Fs, R, d, hm, k⟩ := q
  obtain ⟨p, h1, hm⟩ := Option.bind_eq_some_iff.mp hm
  refine ⟨I, e, Fs, R, p, h1, fun v I' H' w v0 u gr hw hv hs hA => ?_⟩
  rw [atE_of (u := u) hw, hs] at hm
  have R' := (gr.rel R).1
  obtain ⟨G, hG⟩ := L_get R' hw hv hA
  exact hf I' H' u d v G Q R'.sub hG hm fun v' I2 H2 g2 r2 => k v' I2 H2 (.more gr g2) r2
theorem pa_one {a : Expr} {t : TE} (h : PE X a t) (hs : starEach [a] X.env = (false, eval a X.env) :: starEach [] X.env := by rfl) : PA X [a] (fun σ H Q => t σ H fun v H1 => Q [v] H1) := pa_cons h pa_nil hs
theorem sv_obsB {id : String} {x : Str} {p : Pos} {r : List V → Hp → VK → Prop} {h : W → Option D} (hc : CallR X (.builtin id) r) (hf : ObsW X.K X.mg (fun v => r [v]) h) (hg : Gl X x) (hm : X.mg x = none) (hv : bootBuiltins x = some (.builtin id)) (ho : SL X o f) (hn : x ≠ "__name__" := by decide) (hd : (x == ("__debug__" : Str)) = false := by decide)
    (hs : starEach [o] X.env = (false, eval o X.env) :: starEach [] X.env := by rfl) : SV X (.Call (.Name x p) [o] [] pos) (vObs h f) :=
  PE.imp (pe_callB hc hg hm hv (pa_one ho hs) hn hd hs) fun σ H Q q => obs_run hf q
end
end MV

namespace MV
open PySem L2
variable [TB]

/-! ### methods of built-in types on owned things -/
/-- what a container's change must bear -/
structure Chg (K : PySem.W.Frag) (mg : Str → Option Value) (I H : Hp) (a : Addr) (G : List Addr) (u' : W) (H' : Hp) : Prop where
  ex : ∃ o' G', H' = upd H a o' ∧ Ro K mg I H' u' (.ref a) G' ∧ G'.Nodup ∧ ∀ b ∈ G', b ∈ G
def tagW : W → String
  | .ol _ => "list"
  | .ot _ => "tuple"
  | .od _ => "dict"
  | .oi _ _ => "inst"
  | _ => ""
theorem tag_ref {K : PySem.W.Frag} {mg : Str → Option Value} {I H : Hp} {u : W} {v : V} {G : List Addr} (h : Ro K mg I H u v G) (ht : tagW u ≠ "") : ∃ a, v = .ref a ∧ ∀ G, Ro K mg I H u (.ref a) G → a ∈ G := by
  cases u with
  | ol ws => simp only [Ro] at h; obtain ⟨a, xs, G, rfl, _, _, _⟩ := h; exact ⟨a, rfl, fun G h => by simp only [Ro] at h; obtain ⟨a', xs, G', e, _, rfl, _⟩ := h; cases e; simp⟩
  | ot ws => simp only [Ro] at h; obtain ⟨a, xs, G, rfl, _, _, _⟩ := h; exact ⟨a, rfl, fun G h => by simp only [Ro] at h; obtain ⟨a', xs, G', e, _, rfl, _⟩ := h; cases e; simp⟩
  | od ws => simp only [Ro] at h; obtain ⟨a, xs, G, rfl, _, _, _⟩ := h; exact ⟨a, rfl, fun G h => by simp only [Ro] at h; obtain ⟨a', xs, G', e, _, rfl, _⟩ := h; cases e; simp⟩
  | oi c ws => simp only [Ro] at h; obtain ⟨a, C, dx, xs, G, rfl, _, _, _, _⟩ := h; exact ⟨a, rfl, fun G h => by simp only [Ro] at h; obtain ⟨a', C, dx, xs, G', e, _, _, rfl, _⟩ := h; cases e; simp⟩
  | p d => exact absurd rfl ht
  | ex d => exact absurd rfl ht
theorem tag_mem {K : PySem.W.Frag} {mg : Str → Option Value} {I H : Hp} {u : W} {a : Addr} {G : List Addr} (ht : tagW u ≠ "") (h : Ro K mg I H u (.ref a) G) : a ∈ G := by
  obtain ⟨b, e, k⟩ := tag_ref h ht
  cases e
  exact k G h
theorem tag_ty {K : PySem.W.Frag} {mg : Str → Option Value} {I H : Hp} {u : W} {v : V} {G : List Addr} (h : Ro K mg I H u v G) {T : String} (ht : tagW u = T) (hT : T = "list" ∨ T = "dict") : tyV K T v H := by
  subst ht
  cases u with
  | ol ws => simp only [Ro] at h; obtain ⟨a, xs, G, rfl, h1, _, _⟩ := h; exact .inl ⟨rfl, xs, .of h1⟩
  | ot ws => rcases hT with z | z <;> exact absurd z (by show ¬ ("tuple" = _); decide)
  | od ws => simp only [Ro] at h; obtain ⟨a, xs, G, rfl, h1, _, _⟩ := h; exact .inr (.inr (.inl ⟨rfl, .inl ⟨xs, h1⟩⟩))
  | oi c ws => rcases hT with z | z <;> exact absurd z (by show ¬ ("inst" = _); decide)
  | p d => rcases hT with z | z <;> exact absurd z (by show ¬ ("" = _); decide)
  | ex d => rcases hT with z | z <;> exact absurd z (by show ¬ ("" = _); decide)
/-- a method's rule by what it does to the owned thing -/
def MetW (K : PySem.W.Frag) (mg : Str → Option Value) (T : String) (r : V → List V → Hp → VK → Prop) (f : W → List D → Option (W × D)) : Prop :=
  ∀ (I H : Hp) (a : Addr) (u u' : W) (z : D) (ds : List D) (vs : List V) (G : List Addr) (Q : VK), Ex I H → Ro K mg I H u (.ref a) G → G.Nodup → I a = none → RpL K mg I ds vs → f u ds = some (u', z) →
    (∀ v' H', Chg K mg I H a G u' H' → Rp K mg I z v' → Q v' H') → tagW u = T ∧ r (.ref a) vs H Q
def MetT (T : String) (f : W → List D → Option (W × D)) : Prop := ∀ u ds x, f u ds = some x → tagW u = T
def mMet (f : W → List D → Option (W × D)) (lf : P Pth) (as : P (List D)) : M D := fun e => (lf e).bind fun p => (as e).bind fun ds => (atE e p).bind fun u => (f u ds).map fun x => (x.2, putE e p x.1)
theorem met_step {K : PySem.W.Frag} {mg : Str → Option Value} {I H I0 H0 : Hp} {e : Env} {Fs F0 : Fp} {σ : L2.St} {p : Pth} {w u u' : W} {v v0 : V} {T : String} {r : V → List V → Hp → VK → Prop} {f : W → List D → Option (W × D)} {z : D} {ds : List D} {vs : List V} {Q : VK}
    (hf : MetW K mg T r f) (hT : T = "list" ∨ T = "dict") (R : Rel K mg I e Fs σ H) (x : Ext F0 I0 H0 Fs I H) (hw : e[p.1]? = some (some w)) (hv : σ[p.1]? = some (some v0)) (hs : w.sub p.2 = some u) (hA : At H w v0 p.2 u v) (rv : RpL K mg I ds vs) (h : f u ds = some (u', z))
    (k : ∀ v' Fs' H', Rel K mg I (putE e p u') Fs' σ H' → Ext F0 I0 H0 Fs' I H' → Rp K mg I z v' → Q v' H') (ht : tagW u = T) : r v vs H Q := by
  obtain ⟨G0, hG0⟩ := L_get R hw hv hA
  obtain ⟨a, rfl, hc⟩ := tag_ref hG0 (by rw [ht]; rcases hT with z | z <;> (rw [z]; decide))
  obtain ⟨G, hG, nd, inF, hI, up⟩ := R.upd hw hv hA hc
  refine (hf I H a u u' z ds vs G Q R.sub hG nd hI rv h fun v' H' c rz => ?_).2
  obtain ⟨o', G', rfl, r', nd', sub⟩ := c.ex
  obtain ⟨Fs', R', x'⟩ := up o' u' G' r' nd' fun b hb => .inl (sub b hb)
  have e1 : putE e p u' = e.set p.1 (some (w.put p.2 u')) := by unfold putE; rw [hw]
  exact k v' Fs' _ (by rw [e1]; exact R') (x' F0 I0 H0 x fun b hb => .inl (sub b hb)) rz
section
variable {X : Cx} {o a : Expr} {es : List Expr} {lf : P Pth} {as : P (List D)} {name : Str} {apos cpos : Pos} {T id : String} {r : V → List V → Hp → VK → Prop} {f : W → List D → Option (W × D)}
theorem se_met (pa : PlainAttrs T) (slot : Slot T name id) (hty : typeOf (.builtin id) = pure (.type "method_descriptor")) (hm : MtR X id r) (hf : MetW X.K X.mg T r f) (hft : MetT T f) (hT : T = "list" ∨ T = "dict") (ho : SL X o lf) (ha : SVA X (a :: es) as)
    (hbase : attributeBase o name X.env (eval o X.env) = eval o X.env := by rfl)
    (hfew : ((backTo cpos (starEach (a :: es) X.env)).all (fun x => !x.1) && (backToKw cpos (keywordEach [] X.env)).all (fun x => x.1.isSome)
      && decide ((a :: es).length + ([] : List Keyword).length + (if ([] : List Keyword).isEmpty then 0 else 1) < 30)) = true := by rfl)
    (hline : (apos.endLine == cpos.line) = true := by rfl) (hs : starEach (a :: es) X.env = (false, eval a X.env) :: starEach es X.env := by rfl) (hplain : (backTo cpos (starEach es X.env)).any (·.1) = false := by rfl) :
    SE X (.Call (.Attribute o name apos) (a :: es) [] cpos) (mMet f lf as) := PE.imp (pe_bm pa slot hty hm ho ha hbase hfew hline hs hplain) fun σ H Q ⟨I, e, Fs, R, d, e', hm, k⟩ => by
  obtain ⟨p, h1, hm⟩ := Option.bind_eq_some_iff.mp hm
  obtain ⟨ds, h2, hm⟩ := Option.bind_eq_some_iff.mp hm
  obtain ⟨u, h3, hm⟩ := Option.bind_eq_some_iff.mp hm
  obtain ⟨⟨u', z⟩, h4, hm⟩ := Option.map_eq_some_iff.mp hm
  cases hm
  have ht := hft _ _ _ h4
  refine ⟨I, e, Fs, R, p, h1, fun v I1 H1 w v0 u1 g1 hw hv hsb hA => ?_⟩
  rw [atE_of (u := u1) hw, hsb] at h3
  cases h3
  obtain ⟨R1, x1⟩ := g1.rel R
  obtain ⟨G, hG⟩ := L_get R1 hw hv hA
  refine ⟨tag_ty hG ht hT, I1, e, Fs, R1, ds, h2, fun vs I2 H2 g2 rv => ?_⟩
  obtain ⟨R2, x2⟩ := g2.rel R1
  exact met_step hf hT R2 (x1.trans x2) hw hv hsb (hA.mono g2.heap p.2) rv h4 (fun v' Fs' H' R' x' rz => k v' I2 Fs' H' R' x' rz) ht
theorem se_met0 (pa : PlainAttrs T) (slot : Slot T name id) (hty : typeOf (.builtin id) = pure (.type "method_descriptor")) (hm : MtR X id r) (hf : MetW X.K X.mg T r f) (hft : MetT T f) (hT : T = "list" ∨ T = "dict") (ho : SL X o lf)
    (hbase : attributeBase o name X.env (eval o X.env) = eval o X.env := by rfl) (hline : (apos.endLine == cpos.line) = true := by rfl) :
    SE X (.Call (.Attribute o name apos) [] [] cpos) (mMet f lf vaNil) := PE.imp (pe_bm0 pa slot hty hm ho hbase hline) fun σ H Q ⟨I, e, Fs, R, d, e', hm, k⟩ => by
  obtain ⟨p, h1, hm⟩ := Option.bind_eq_some_iff.mp hm
  obtain ⟨ds, h2, hm⟩ := Option.bind_eq_some_iff.mp hm
  obtain ⟨u, h3, hm⟩ := Option.bind_eq_some_iff.mp hm
  obtain ⟨⟨u', z⟩, h4, hm⟩ := Option.map_eq_some_iff.mp hm
  cases hm
  cases h2
  have ht := hft _ _ _ h4
  refine ⟨I, e, Fs, R, p, h1, fun v I1 H1 w v0 u1 g1 hw hv hsb hA => ?_⟩
  rw [atE_of (u := u1) hw, hsb] at h3
  cases h3
  obtain ⟨R1, x1⟩ := g1.rel R
  obtain ⟨G, hG⟩ := L_get R1 hw hv hA
  exact ⟨tag_ty hG ht hT, met_step hf hT R1 x1 hw hv hsb hA RpL.nil h4 (fun v' Fs' H' R' x' rz => k v' I1 Fs' H' R' x' rz) ht⟩
end

/-! ### list methods -/
section
variable {K : PySem.W.Frag} {mg : Str → Option Value} {I H : Hp}
theorem RoL.append : ∀ {ws us : List W} {xs ys : List V} {F G : List Addr}, RoL K mg I H ws xs F → RoL K mg I H us ys G → RoL K mg I H (ws ++ us) (xs ++ ys) (F ++ G)
  | [], us, xs, ys, F, G, h, t => by simp only [RoL] at h; obtain ⟨rfl, rfl⟩ := h; exact t
  | w :: ws, us, xs, ys, F, G, h, t => by
    simp only [RoL] at h
    obtain ⟨x, r, F1, F2, rfl, rfl, h1, h2⟩ := h
    show RoL K mg I H (w :: (ws ++ us)) (x :: (r ++ ys)) (F1 ++ F2 ++ G)
    simp only [RoL]
    exact ⟨x, r ++ ys, F1, F2 ++ G, rfl, by simp, h1, h2.append t⟩
/-- an owned list gets other items -/
theorem chg_l {a : Addr} {ws ws' : List W} {xs xs' : List V} {G0 G1 : List Addr} (hIa : I a = none) (nd : (a :: G0).Nodup) (h : RoL K mg I H ws' xs' G1) (nd1 : G1.Nodup) (sub : ∀ b ∈ G1, b ∈ G0) : Chg K mg I H a (a :: G0) (.ol ws') (upd H a (.lst xs')) := by
  rw [List.nodup_cons] at nd
  refine ⟨_, a :: G1, rfl, ?_, List.nodup_cons.mpr ⟨fun q => nd.1 (sub a q), nd1⟩, fun b hb => ?_⟩
  · simp only [Ro]
    exact ⟨a, xs', G1, rfl, upd_same, rfl, h.frame (Ex.refl _) _ _ _ fun b hb o ho _ => by rw [upd_ne (fun z => by subst z; exact nd.1 (sub _ hb))]; exact ho⟩
  · rcases List.mem_cons.mp hb with rfl | hb
    · simp
    · simp [sub b hb]
def wApp : W → List D → Option (W × D)
  | .ol ws, [d] => if ws.length < 1000000 then some (.ol (ws ++ [.p d]), .none) else none
  | _, _ => none
theorem met_append : MetW K mg "list" rAppend wApp := by
  intro I H a u u' z ds vs G Q s h nd hI rv hf k
  unfold wApp at hf
  split at hf
  · rename_i ws d
    split at hf
    · rename_i hz
      cases hf
      obtain ⟨v, rfl, hd⟩ := rv.one
      simp only [Ro] at h
      obtain ⟨a', xs, G0, e, h1, rfl, h2⟩ := h
      cases e
      refine ⟨rfl, a, xs, v, rfl, rfl, h1, by rw [← h2.len]; exact lim_lt hz, k _ _ (chg_l (ws := ws) (xs := xs) hI nd (G1 := G0) ?_ (List.nodup_cons.mp nd).2 fun b hb => hb) rp_none⟩
      have := h2.append (RoL.ofP (K := K) (mg := mg) (I := I) (H := H) (RpL.cons hd RpL.nil))
      simpa using this
    · cases hf
  · cases hf
theorem mtt_append : MetT "list" wApp := fun u ds x h => by
  unfold wApp at h
  split at h
  · rfl
  · cases h
def wExt : W → List D → Option (W × D)
  | .ol ws, [.lst ds] => if ws.length + ds.length ≤ 1000000 then some (.ol (ws ++ ds.map .p), .none) else none
  | _, _ => none
theorem met_extend : MetW K mg "list" rExtend wExt := by
  intro I H a u u' z ds vs G Q s h nd hI rv hf k
  unfold wExt at hf
  split at hf
  · rename_i ws es
    split at hf
    · rename_i hz
      cases hf
      obtain ⟨v, rfl, hd⟩ := rv.one
      simp only [Rp] at hd
      obtain ⟨b, ys, rfl, hb, rb⟩ := hd
      simp only [Ro] at h
      obtain ⟨a', xs, G0, e, h1, rfl, h2⟩ := h
      cases e
      refine ⟨rfl, a, b, xs, ys, rfl, rfl, h1, s _ _ hb, by rw [← h2.len, ← rb.length]; exact lim_le hz, k _ _ (chg_l (ws := ws) (xs := xs) hI nd (G1 := G0) ?_ (List.nodup_cons.mp nd).2 fun b hb => hb) rp_none⟩
      have := h2.append (RoL.ofP (K := K) (mg := mg) (I := I) (H := H) rb)
      simpa using this
    · cases hf
  · cases hf
theorem mtt_extend : MetT "list" wExt := fun u ds x h => by
  unfold wExt at h
  split at h
  · rfl
  · cases h
/-- the data of an owned list of data -/
def allP : List W → Option (List D)
  | [] => some []
  | .p d :: ws => (allP ws).map (d :: ·)
  | _ => none
theorem allP_eq : ∀ {ws : List W} {ds : List D}, allP ws = some ds → ws = ds.map .p
  | [], ds, h => by cases h; rfl
  | .p d :: ws, ds, h => by
    obtain ⟨es, h1, rfl⟩ := Option.map_eq_some_iff.mp (show (allP ws).map (d :: ·) = some ds from h)
    rw [allP_eq h1]; rfl
  | .ol _ :: _, ds, h => by cases h
  | .ot _ :: _, ds, h => by cases h
  | .od _ :: _, ds, h => by cases h
  | .oi _ _ :: _, ds, h => by cases h
  | .ex _ :: _, ds, h => by cases h
theorem RoL.toP : ∀ {ds : List D} {xs : List V} {F : List Addr}, RoL K mg I H (ds.map .p) xs F → RpL K mg I ds xs ∧ F = []
  | [], xs, F, h => by simp only [List.map_nil, RoL] at h; obtain ⟨rfl, rfl⟩ := h; exact ⟨RpL.nil, rfl⟩
  | d :: ds, xs, F, h => by
    simp only [List.map_cons, RoL] at h
    obtain ⟨x, r, F1, F2, rfl, rfl, h1, h2⟩ := h
    simp only [Ro] at h1
    obtain ⟨h3, rfl⟩ := h1
    obtain ⟨h4, rfl⟩ := RoL.toP h2
    exact ⟨RpL.cons h3 h4, rfl⟩
theorem RpL.reverse : ∀ {ds : List D} {xs : List V}, RpL K mg I ds xs → RpL K mg I ds.reverse xs.reverse
  | [], xs, h => by simp only [RpL] at h; subst h; exact RpL.nil
  | d :: ds, xs, h => by
    simp only [RpL] at h
    obtain ⟨x, r, rfl, h1, h2⟩ := h
    simp only [List.reverse_cons]
    exact (RpL.reverse h2).append (RpL.cons h1 RpL.nil)
def wRev : W → List D → Option (W × D)
  | .ol ws, [] => (allP ws).map fun ds => (.ol (ds.reverse.map .p), .none)
  | _, _ => none
theorem met_reverse : MetW K mg "list" rReverse wRev := by
  intro I H a u u' z ds vs G Q s h nd hI rv hf k
  unfold wRev at hf
  split at hf
  · rename_i ws
    obtain ⟨es, h0, hf⟩ := Option.map_eq_some_iff.mp hf
    cases hf
    rw [allP_eq h0] at h
    simp only [RpL] at rv
    subst rv
    simp only [Ro] at h
    obtain ⟨a', xs, G0, e, h1, rfl, h2⟩ := h
    cases e
    obtain ⟨h3, rfl⟩ := h2.toP
    refine ⟨rfl, a, xs, rfl, rfl, h1, k _ _ (chg_l (ws := []) (xs := []) hI nd (G1 := []) (RoL.ofP h3.reverse) List.nodup_nil fun b hb => hb) rp_none⟩
  · cases hf
theorem mtt_reverse : MetT "list" wRev := fun u ds x h => by
  unfold wRev at h
  split at h
  · rfl
  · cases h
def wClr : W → List D → Option (W × D)
  | .ol ws, [] => some (.ol [], .none)
  | _, _ => none
theorem met_clear : MetW K mg "list" rClear wClr := by
  intro I H a u u' z ds vs G Q s h nd hI rv hf k
  unfold wClr at hf
  split at hf
  · rename_i ws
    cases hf
    simp only [RpL] at rv
    subst rv
    simp only [Ro] at h
    obtain ⟨a', xs, G0, e, h1, rfl, h2⟩ := h
    cases e
    refine ⟨rfl, a, xs, rfl, rfl, h1, k _ _ (chg_l (ws := []) (xs := []) hI nd (G1 := []) (by simp [RoL]) List.nodup_nil fun b hb => by cases hb) rp_none⟩
  · cases hf
theorem mtt_clear : MetT "list" wClr := fun u ds x h => by
  unfold wClr at h
  split at h
  · rfl
  · cases h
def wPop : W → List D → Option (W × D)
  | .ol ws, [] => (allP ws).bind fun ds => (ds[ds.length - 1]?).map fun d => (.ol (ds.dropLast.map .p), d)
  | _, _ => none
theorem met_pop : MetW K mg "list" rPop wPop := by
  intro I H a u u' z ds vs G Q s h nd hI rv hf k
  unfold wPop at hf
  split at hf
  · rename_i ws
    obtain ⟨es, h0, hf⟩ := Option.bind_eq_some_iff.mp hf
    obtain ⟨d, h5, hf⟩ := Option.map_eq_some_iff.mp hf
    cases hf
    rw [allP_eq h0] at h
    simp only [RpL] at rv
    subst rv
    simp only [Ro] at h
    obtain ⟨a', xs, G0, e, h1, rfl, h2⟩ := h
    cases e
    obtain ⟨h3, rfl⟩ := h2.toP
    obtain ⟨y, h6, h7⟩ := h3.get h5
    rw [h3.length] at h6
    refine ⟨rfl, a, xs, y, rfl, rfl, h1, h6, k _ _ (chg_l (ws := []) (xs := []) hI nd (G1 := []) (RoL.ofP ?_) List.nodup_nil fun b hb => hb) h7⟩
    rw [List.dropLast_eq_take, List.dropLast_eq_take, h3.length]
    exact h3.take _
  · cases hf
theorem mtt_pop : MetT "list" wPop := fun u ds x h => by
  unfold wPop at h
  split at h
  · rfl
  · cases h
end
end MV

namespace MV
open PySem L2
variable [TB]

/-! ### stores into owned things -/
section
variable {K : PySem.W.Frag} {mg : Str → Option Value} {I H : Hp}
/-- an item is put in a list's place -/
theorem RoL.setW {w : W} {v : V} {Fw : List Addr} (hw : Ro K mg I H w v Fw) : ∀ {ws : List W} {xs : List V} {F : List Addr} (j : Nat), RoL K mg I H ws xs F → F.Nodup → Fw.Nodup → (∀ b ∈ Fw, b ∉ F) → ∃ F', RoL K mg I H (ws.set j w) (xs.set j v) F' ∧ F'.Nodup ∧ ∀ b ∈ F', b ∈ F ∨ b ∈ Fw
  | [], xs, F, j, h, _, _, _ => by
    simp only [RoL] at h
    obtain ⟨rfl, rfl⟩ := h
    exact ⟨[], by simp [RoL], List.nodup_nil, fun b hb => by cases hb⟩
  | u :: ws, xs, F, 0, h, nd, ndw, dj => by
    simp only [RoL] at h
    obtain ⟨x, r, F1, F2, rfl, rfl, h1, h2⟩ := h
    rw [List.nodup_append] at nd
    refine ⟨Fw ++ F2, ?_, ?_, fun b hb => ?_⟩
    · show RoL K mg I H (w :: ws) (v :: r) (Fw ++ F2)
      simp only [RoL]
      exact ⟨v, r, Fw, F2, rfl, rfl, hw, h2⟩
    · rw [List.nodup_append]
      exact ⟨ndw, nd.2.1, fun b hb c hc z => by subst z; exact dj b hb (by simp [hc])⟩
    · rcases List.mem_append.mp hb with q | q
      · exact .inr q
      · exact .inl (by simp [q])
  | u :: ws, xs, F, j + 1, h, nd, ndw, dj => by
    simp only [RoL] at h
    obtain ⟨x, r, F1, F2, rfl, rfl, h1, h2⟩ := h
    rw [List.nodup_append] at nd
    obtain ⟨G, h3, h4, h5⟩ := RoL.setW hw j h2 nd.2.1 ndw fun b hb q => dj b hb (by simp [q])
    refine ⟨F1 ++ G, ?_, ?_, fun b hb => ?_⟩
    · show RoL K mg I H (u :: ws.set j w) (x :: r.set j v) (F1 ++ G)
      simp only [RoL]
      exact ⟨x, _, F1, G, rfl, rfl, h1, h3⟩
    · rw [List.nodup_append]
      refine ⟨nd.1, h4, fun b hb c hc z => ?_⟩
      subst z
      rcases h5 b hc with q | q
      · exact nd.2.2 b hb b q rfl
      · exact dj b q (by simp [hb])
    · rcases List.mem_append.mp hb with q | q
      · exact .inl (by simp [q])
      · rcases h5 b q with z | z
        · exact .inl (by simp [z])
        · exact .inr z
def putFW (f : Str) (w : W) : List (Str × W) → List (Str × W)
  | [] => [(f, w)]
  | (g, u) :: r => if g = f then (g, w) :: r else (g, u) :: putFW f w r
theorem RoF.putW {w : W} {v : V} {Fw : List Addr} (hw : Ro K mg I H w v Fw) (f : Str) : ∀ {ws : List (Str × W)} {xs : List (Str × V)} {F : List Addr}, RoF K mg I H ws xs F → F.Nodup → Fw.Nodup → (∀ b ∈ Fw, b ∉ F) → ∃ F', RoF K mg I H (putFW f w ws) (L2.putF f v xs) F' ∧ F'.Nodup ∧ ∀ b ∈ F', b ∈ F ∨ b ∈ Fw
  | [], xs, F, h, _, ndw, _ => by
    simp only [RoF] at h
    obtain ⟨rfl, rfl⟩ := h
    refine ⟨Fw, ?_, ndw, fun b hb => .inr hb⟩
    unfold putFW L2.putF
    simp only [RoF]
    exact ⟨v, [], Fw, [], rfl, by simp, hw, rfl, rfl⟩
  | (q, u) :: ws, xs, F, h, nd, ndw, dj => by
    simp only [RoF] at h
    obtain ⟨x, r, F1, F2, rfl, rfl, h1, h2⟩ := h
    rw [List.nodup_append] at nd
    unfold putFW L2.putF
    by_cases hq : q = f
    · rw [if_pos hq, if_pos hq]
      refine ⟨Fw ++ F2, ?_, ?_, fun b hb => ?_⟩
      · simp only [RoF]
        exact ⟨v, r, Fw, F2, rfl, rfl, hw, h2⟩
      · rw [List.nodup_append]
        exact ⟨ndw, nd.2.1, fun b hb c hc z => by subst z; exact dj b hb (by simp [hc])⟩
      · rcases List.mem_append.mp hb with q | q
        · exact .inr q
        · exact .inl (by simp [q])
    · rw [if_neg hq, if_neg hq]
      obtain ⟨G, h3, h4, h5⟩ := RoF.putW hw f h2 nd.2.1 ndw fun b hb q => dj b hb (by simp [q])
      refine ⟨F1 ++ G, ?_, ?_, fun b hb => ?_⟩
      · simp only [RoF]
        exact ⟨x, _, F1, G, rfl, rfl, h1, h3⟩
      · rw [List.nodup_append]
        refine ⟨nd.1, h4, fun b hb c hc z => ?_⟩
        subst z
        rcases h5 b hc with q | q
        · exact nd.2.2 b hb b q rfl
        · exact dj b q (by simp [hb])
      · rcases List.mem_append.mp hb with q | q
        · exact .inl (by simp [q])
        · rcases h5 b q with z | z
          · exact .inl (by simp [z])
          · exact .inr z
/-- in its place, or at the end -/
def putKW (es : List (Key × W)) (k : Key) (w : W) : List (Key × W) :=
  if (es.any fun q => decide (q.1 = k)) = true then es.map (fun q => if q.1 = k then (q.1, w) else q) else es ++ [(k, w)]
theorem RoK.any {k : Key} : ∀ {ws : List (Key × W)} {xs : List (Key × V)} {F : List Addr}, RoK K mg I H ws xs F → (xs.any fun q => decide (q.1 = k)) = (ws.any fun q => decide (q.1 = k))
  | [], xs, F, h => by simp only [RoK] at h; obtain ⟨rfl, rfl⟩ := h; rfl
  | (q, u) :: ws, xs, F, h => by
    simp only [RoK] at h
    obtain ⟨x, r, F1, F2, rfl, rfl, h1, h2⟩ := h
    rw [List.any_cons, List.any_cons, RoK.any h2]
theorem RoK.len : ∀ {ws : List (Key × W)} {xs : List (Key × V)} {F : List Addr}, RoK K mg I H ws xs F → xs.length = ws.length
  | [], xs, F, h => by simp only [RoK] at h; obtain ⟨rfl, rfl⟩ := h; rfl
  | (q, u) :: ws, xs, F, h => by
    simp only [RoK] at h
    obtain ⟨x, r, F1, F2, rfl, rfl, h1, h2⟩ := h
    rw [List.length_cons, List.length_cons, RoK.len h2]
theorem RoK.mapP {d : D} {v : V} (hd : Rp K mg I d v) (k : Key) : ∀ {ws : List (Key × W)} {xs : List (Key × V)} {F : List Addr}, RoK K mg I H ws xs F → ∃ F', RoK K mg I H (ws.map fun q => if q.1 = k then (q.1, .p d) else q) (xs.map fun q => if q.1 = k then (q.1, v) else q) F' ∧ F'.Sublist F
  | [], xs, F, h => by simp only [RoK] at h; obtain ⟨rfl, rfl⟩ := h; exact ⟨[], by simp [RoK], List.Sublist.refl _⟩
  | (q, u) :: ws, xs, F, h => by
    simp only [RoK] at h
    obtain ⟨x, r, F1, F2, rfl, rfl, h1, h2⟩ := h
    obtain ⟨G, h3, h4⟩ := RoK.mapP hd k h2
    by_cases hq : q = k
    · refine ⟨G, ?_, h4.trans (List.sublist_append_right _ _)⟩
      simp only [List.map_cons, if_pos hq, RoK]
      exact ⟨v, _, [], G, rfl, rfl, by simp only [Ro]; exact ⟨hd, trivial⟩, h3⟩
    · refine ⟨F1 ++ G, ?_, List.Sublist.append (List.Sublist.refl _) h4⟩
      simp only [List.map_cons, if_neg hq, RoK]
      exact ⟨x, _, F1, G, rfl, rfl, h1, h3⟩
theorem RoK.append : ∀ {ws us : List (Key × W)} {xs ys : List (Key × V)} {F G : List Addr}, RoK K mg I H ws xs F → RoK K mg I H us ys G → RoK K mg I H (ws ++ us) (xs ++ ys) (F ++ G)
  | [], us, xs, ys, F, G, h, t => by simp only [RoK] at h; obtain ⟨rfl, rfl⟩ := h; exact t
  | (q, w) :: ws, us, xs, ys, F, G, h, t => by
    simp only [RoK] at h
    obtain ⟨x, r, F1, F2, rfl, rfl, h1, h2⟩ := h
    show RoK K mg I H ((q, w) :: (ws ++ us)) ((q, x) :: (r ++ ys)) (F1 ++ F2 ++ G)
    simp only [RoK]
    exact ⟨x, r ++ ys, F1, F2 ++ G, rfl, by simp, h1, h2.append t⟩
def isP : W → Bool
  | .p _ => true
  | _ => false
/-- d[k] = w: a datum, or a new key -/
def dputW (es : List (Key × W)) (k : Key) (w : W) : Option (List (Key × W)) := if isP w || !(es.any fun q => decide (q.1 = k)) then (if es.length < 1000000 then some (putKW es k w) else none) else none
theorem RoK.putW {w : W} {v : V} {Fw : List Addr} (hw : Ro K mg I H w v Fw) {k : Key} {ws us : List (Key × W)} {xs : List (Key × V)} {F : List Addr} (h : RoK K mg I H ws xs F) (nd : F.Nodup) (ndw : Fw.Nodup) (dj : ∀ b ∈ Fw, b ∉ F) (e : dputW ws k w = some us) :
    xs.length < sizeLine ∧ ∃ F', RoK K mg I H us (putK xs k v) F' ∧ F'.Nodup ∧ ∀ b ∈ F', b ∈ F ∨ b ∈ Fw := by
  unfold dputW at e
  split at e
  · rename_i hc
    split at e
    · rename_i hz
      cases e
      refine ⟨by rw [h.len]; exact lim_lt hz, ?_⟩
      unfold putKW putK
      rw [h.any]
      by_cases hk : (ws.any fun q => decide (q.1 = k)) = true
      · rw [if_pos hk, if_pos hk]
        rw [hk, Bool.not_true, Bool.or_false] at hc
        cases w with
        | p d =>
          simp only [Ro] at hw
          obtain ⟨hd, rfl⟩ := hw
          obtain ⟨F', h1, h2⟩ := h.mapP hd k
          exact ⟨F', h1, nd.sublist h2, fun b hb => .inl (h2.subset hb)⟩
        | _ => cases hc
      · rw [if_neg hk, if_neg hk]
        refine ⟨F ++ Fw, h.append ?_, ?_, fun b hb => List.mem_append.mp hb⟩
        · simp only [RoK]
          exact ⟨v, [], Fw, [], rfl, by simp, hw, rfl, rfl⟩
        · rw [List.nodup_append]
          exact ⟨nd, ndw, fun b hb c hc z => by subst z; exact dj b hc hb⟩
    · cases e
  · cases e
def ddelW (es : List (Key × W)) (k : Key) : Option (List (Key × W)) := if (es.any fun q => decide (q.1 = k)) = true then some (es.filter fun q => decide (q.1 ≠ k)) else none
theorem RoK.dropW {k : Key} : ∀ {ws : List (Key × W)} {xs : List (Key × V)} {F : List Addr}, RoK K mg I H ws xs F → ∃ F', RoK K mg I H (ws.filter fun q => decide (q.1 ≠ k)) (L2.dropK xs k) F' ∧ F'.Sublist F
  | [], xs, F, h => by simp only [RoK] at h; obtain ⟨rfl, rfl⟩ := h; exact ⟨[], by simp [RoK, L2.dropK], List.Sublist.refl _⟩
  | (q, u) :: ws, xs, F, h => by
    simp only [RoK] at h
    obtain ⟨x, r, F1, F2, rfl, rfl, h1, h2⟩ := h
    obtain ⟨G, h3, h4⟩ := RoK.dropW (k := k) h2
    unfold L2.dropK at h3 ⊢
    by_cases hq : q = k
    · refine ⟨G, ?_, h4.trans (List.sublist_append_right _ _)⟩
      rw [List.filter_cons_of_neg (by simp [hq]), List.filter_cons_of_neg (by simp [hq])]
      exact h3
    · refine ⟨F1 ++ G, ?_, List.Sublist.append (List.Sublist.refl _) h4⟩
      rw [List.filter_cons_of_pos (by simp [hq]), List.filter_cons_of_pos (by simp [hq])]
      simp only [RoK]
      exact ⟨x, _, F1, G, rfl, rfl, h1, h3⟩
/-- a store of an own value: the state behind -/
theorem store_step {e : Env} {Fs : Fp} {σ : L2.St} {p : Pth} {wr u u' : W} {v0 : V} {a : Addr} {Fw : List Addr} {w : W} {y : V} (R : Rel K mg I e Fs σ H) (o : Own K mg I H Fs w y Fw) (hw : e[p.1]? = some (some wr)) (hv : σ[p.1]? = some (some v0)) (hA : At H wr v0 p.2 u (.ref a)) (hc : ∀ G, Ro K mg I H u (.ref a) G → a ∈ G) :
    ∃ G, Ro K mg I H u (.ref a) G ∧ G.Nodup ∧ I a = none ∧ (∀ b ∈ Fw, b ∉ G) ∧ ∀ o' u' G1, G = a :: G1 → ∀ G', Ro K mg I (upd H a o') u' (.ref a) (a :: G') → G'.Nodup → (∀ b ∈ G', b ∈ G1 ∨ b ∈ Fw) →
      ∃ Fs', Rel K mg I (putE e p u') Fs' σ (upd H a o') ∧ ∀ F1 I1 H1, Ext F1 I1 H1 Fs I H → (∀ b ∈ Fw, MF F1 b ∨ H1 b = none) → Ext F1 I1 H1 Fs' I (upd H a o') := by
  obtain ⟨G, hG, nd, inF, hI, up⟩ := R.upd hw hv hA hc
  have dj : ∀ b ∈ Fw, b ∉ G := fun b hb q => o.dj b hb ⟨p.1, inF b q⟩
  refine ⟨G, hG, nd, hI, dj, fun o' u' G1 hG1 G' r' nd' sub => ?_⟩
  subst hG1
  rw [List.nodup_cons] at nd
  have na : a ∉ G' := fun q => by
    rcases sub a q with z | z
    · exact nd.1 z
    · exact dj a z (by simp)
  obtain ⟨Fs', R', x'⟩ := up o' u' (a :: G') r' (List.nodup_cons.mpr ⟨na, nd'⟩) fun b hb => by
    rcases List.mem_cons.mp hb with rfl | hb
    · exact .inl (by simp)
    · rcases sub b hb with z | z
      · exact .inl (by simp [z])
      · exact .inr ⟨o.out b z, o.dj b z⟩
  have e1 : putE e p u' = e.set p.1 (some (wr.put p.2 u')) := by unfold putE; rw [hw]
  refine ⟨Fs', by rw [e1]; exact R', fun F1 I1 H1 x hx => x' F1 I1 H1 x fun b hb => ?_⟩
  rcases List.mem_cons.mp hb with rfl | hb
  · exact .inl (by simp)
  · rcases sub b hb with z | z
    · exact .inl (by simp [z])
    · exact .inr (hx b z)
end
/-- o.f = w -/
def sFld (c f : Str) (lf : P Pth) (mw : M W) : S := fun e => (mw e).bind fun x => match x.1 with
  | .ex y => some (.ex y x.2)
  | w => (lf x.2).bind fun p => match atE x.2 p with
    | some (.oi c' gs) => if c' = c ∧ gs.length < 900 then some (.nx (putE x.2 p (.oi c' (putFW f w gs)))) else none
    | _ => none
/-- o[k] = w, o a dict -/
def sDPut (lf : P Pth) (g : P D) (mw : M W) : S := fun e => (mw e).bind fun x => match x.1 with
  | .ex y => some (.ex y x.2)
  | w => (lf x.2).bind fun p => (g x.2).bind fun d => (keyD d).bind fun k => match atE x.2 p with
    | some (.od es) => (dputW es k w).map fun es' => .nx (putE x.2 p (.od es'))
    | _ => none
/-- o[i] = w, o a list -/
def sLPut (lf : P Pth) (g : P D) (mw : M W) : S := fun e => (mw e).bind fun x => match x.1 with
  | .ex y => some (.ex y x.2)
  | w => (lf x.2).bind fun p => (g x.2).bind fun d => match d, atE x.2 p with
    | .int i, some (.ol ws) => (ixN ws.length i).map fun j => .nx (putE x.2 p (.ol (ws.set j w)))
    | _, _ => none
/-- del o[k] -/
def sDDel (lf : P Pth) (g : P D) : S := fun e => (lf e).bind fun p => (g e).bind fun d => (keyD d).bind fun k => match atE e p with
    | some (.od es) => (ddelW es k).map fun es' => .nx (putE e p (.od es'))
    | _ => none
/-- o[k] op= v, ints -/
def sDAug (f : D → D → Option D) (lf : P Pth) (g h : P D) : S := fun e => (lf e).bind fun p => (g e).bind fun d => (keyD d).bind fun k => match atE e p with
    | some (.od es) => match valW es k with
      | some (.p x) => (h e).bind fun y => (f x y).bind fun z => (dputW es k (.p z)).map fun es' => .nx (putE e p (.od es'))
      | _ => none
    | _ => none
/-- o.f op= v -/
def sFAug (op : D → D → Option D) (c f : Str) (lf : P Pth) (h : P D) : S := fun e => (lf e).bind fun p => match atE e p with
    | some (.oi c' gs) => if c' = c ∧ gs.length < 900 then (match getFW gs f with
      | some (.p x) => (h e).bind fun y => (op x y).map fun z => .nx (putE e p (.oi c' (putFW f (.p z) gs)))
      | _ => none) else none
    | _ => none
section
variable {X : Cx} {A : Nat → Bool} {Wx : WX} {o b value : Expr} {lf : P Pth} {g h : P D} {mw : M W} {pos pos' tpos : Pos} {c f : Str}
theorem ss_fld (hv : SO X Wx value mw) (ho : SL X o lf) (hC : ∀ C, X.mg c = some (.ref C) → Cls X.K C ∧ NoAttr X.K C f) (hs : swapsWith value (some (.Attribute o f pos')) pos.line X.env = pure false := by rfl) : SS X A Wx (.Assign [.Attribute o f pos'] value pos) (sFld c f lf mw) := by
  refine PS.imp (ps_fld ho hv hs) fun Dd σ H ⟨I, e, Fs, R, r, hm, k⟩ => ?_
  obtain ⟨⟨w, e1⟩, h1, hm⟩ := Option.bind_eq_some_iff.mp hm
  refine ⟨I, e, Fs, R, w, e1, h1, fun y I1 F1 H1 Fw R1 x1 o1 hF => ?_, fun y hy cls d I1 F1 H1 R1 x1 xr => ?_⟩
  · have hm : ((lf e1).bind fun p => match atE e1 p with
      | some (.oi c' gs) => if c' = c ∧ gs.length < 900 then some (SR.nx (putE e1 p (.oi c' (putFW f w gs)))) else none
      | _ => none) = some r := by
      cases w with
      | ex y => have q := o1.ro; simp only [Ro] at q
      | _ => exact hm
    obtain ⟨p, h2, hm⟩ := Option.bind_eq_some_iff.mp hm
    refine ⟨I1, e1, F1, R1, p, h2, fun v I2 H2 wr v0 u gr hw hv hsb hA => ?_⟩
    rw [atE_of (u := u) hw, hsb] at hm
    cases u with
    | oi c' gs =>
      have hm2 : (if c' = c ∧ gs.length < 900 then some (SR.nx (putE e1 p (.oi c' (putFW f w gs)))) else none) = some r := hm
      clear hm
      split at hm2
      · rename_i hc
        obtain ⟨hc, hz⟩ := hc
        cases hm2
        obtain ⟨R2, x2⟩ := gr.rel R1
        have o2 : Own X.K X.mg I2 H2 F1 w y Fw := o1.frame x2.g (fun b hb => o1.dj b hb) fun b hb => o1.dj b hb
        obtain ⟨G0, hG0⟩ := L_get R2 hw hv hA
        obtain ⟨a, rfl, hca⟩ := tag_ref hG0 (by simp [tagW])
        obtain ⟨G, hG, nd, hI, dj, st⟩ := store_step (u' := .oi c' (putFW f w gs)) R2 o2 hw hv hA hca
        have hG' := hG
        simp only [Ro] at hG'
        obtain ⟨a', C, dx, fs, G1, e2, hcm, ha, hG1, hFs⟩ := hG'
        cases e2
        subst hG1
        have lenF : ∀ {ws : List (Str × W)} {xs : List (Str × V)} {F : List Addr}, RoF X.K X.mg I2 H2 ws xs F → xs.length = ws.length := by
          intro ws
          induction ws with
          | nil => intro xs F h; simp only [RoF] at h; rw [h.1]; rfl
          | cons q ws ih =>
            intro xs F h
            obtain ⟨q, u⟩ := q
            simp only [RoF] at h
            obtain ⟨x, r, F1, F2, rfl, rfl, _, h2⟩ := h
            rw [List.length_cons, List.length_cons, ih h2]
        refine ⟨a, C, dx, fs, rfl, ha, (hC C (hc ▸ hcm)).1, (hC C (hc ▸ hcm)).2, by rw [lenF hFs]; omega, ?_⟩
        obtain ⟨G', h3, h4, h5⟩ := RoF.putW o2.ro f hFs (List.nodup_cons.mp nd).2 o2.nd fun b hb q => dj b hb (by simp [q])
        have na : ∀ b ∈ G', b ≠ a := fun b hb z => by
          subst z
          rcases h5 b hb with q | q
          · exact (List.nodup_cons.mp nd).1 q
          · exact dj b q (by simp)
        obtain ⟨Fs', R3, x3⟩ := st (.ins C dx (L2.putF f y fs)) (.oi c' (putFW f w gs)) G1 rfl G' (by
          simp only [Ro]
          exact ⟨a, C, dx, _, G', rfl, hcm, upd_same, rfl, h3.frame (Ex.refl _) _ _ _ fun b hb o ho _ => by rw [upd_ne (na b hb)]; exact ho⟩) h4 h5
        exact k σ I2 Fs' _ R3 (x3 Fs I H (x1.trans x2) hF) Agr.refl
      · cases hm2
    | _ => cases hm
  · subst hy
    cases hm
    exact k cls d σ I1 F1 H1 R1 x1 Agr.refl xr
theorem ss_dput (hu : X.A.units + 1 < cLine) (hv : SO X Wx value mw) (ho : SL X o lf) (hb : SV X b g) (hs : swapsWith value (some (.Subscript o b pos')) pos.line X.env = pure false := by rfl) : SS X A Wx (.Assign [.Subscript o b pos'] value pos) (sDPut lf g mw) := by
  refine PS.imp (ps_dput hu ho hb hv hs) fun Dd σ H ⟨I, e, Fs, R, r, hm, k⟩ => ?_
  obtain ⟨⟨w, e1⟩, h1, hm⟩ := Option.bind_eq_some_iff.mp hm
  refine ⟨I, e, Fs, R, w, e1, h1, fun y I1 F1 H1 Fw R1 x1 o1 hF => ?_, fun y hy cls d I1 F1 H1 R1 x1 xr => ?_⟩
  · have hm : ((lf e1).bind fun p => (g e1).bind fun d => (keyD d).bind fun k => match atE e1 p with
      | some (.od es) => (dputW es k w).map fun es' => SR.nx (putE e1 p (.od es'))
      | _ => none) = some r := by
      cases w with
      | ex y => have q := o1.ro; simp only [Ro] at q
      | _ => exact hm
    obtain ⟨p, h2, hm⟩ := Option.bind_eq_some_iff.mp hm
    obtain ⟨d, h3, hm⟩ := Option.bind_eq_some_iff.mp hm
    obtain ⟨ky, h4, hm⟩ := Option.bind_eq_some_iff.mp hm
    refine ⟨I1, e1, F1, R1, p, h2, fun v I2 H2 wr v0 u gr hw hv hsb hA => ?_⟩
    obtain ⟨R2, x2⟩ := gr.rel R1
    refine ⟨I2, e1, F1, R2, d, h3, fun kv I3 H3 gr3 rk => ?_⟩
    obtain ⟨R3, x3⟩ := gr3.rel R2
    rw [atE_of (u := u) hw, hsb] at hm
    cases u with
    | od es =>
      obtain ⟨es', h5, hm⟩ := Option.map_eq_some_iff.mp (show (dputW es ky w).map (fun es' => SR.nx (putE e1 p (.od es'))) = some r from hm)
      cases hm
      have x13 := x2.trans x3
      have o3 : Own X.K X.mg I3 H3 F1 w y Fw := o1.frame x13.g (fun b hb => o1.dj b hb) fun b hb => o1.dj b hb
      have hA3 := hA.mono gr3.heap p.2
      obtain ⟨G0, hG0⟩ := L_get R3 hw hv hA3
      obtain ⟨a, rfl, hca⟩ := tag_ref hG0 (by simp [tagW])
      obtain ⟨G, hG, nd, hI, dj, st⟩ := store_step (u' := .od es') R3 o3 hw hv hA3 hca
      have hG' := hG
      simp only [Ro] at hG'
      obtain ⟨a', kvs, G1, e2, ha, hG1, hFs⟩ := hG'
      cases e2
      subst hG1
      obtain ⟨hz, G', h6, h7, h8⟩ := RoK.putW o3.ro hFs (List.nodup_cons.mp nd).2 o3.nd (fun b hb q => dj b hb (by simp [q])) h5
      have na : ∀ b ∈ G', b ≠ a := fun b hb z => by
        subst z
        rcases h8 b hb with q | q
        · exact (List.nodup_cons.mp nd).1 q
        · exact dj b q (by simp)
      refine ⟨a, _, rfl, by rw [keyD_v h4 rk]; exact DPut.k ha hz, ?_⟩
      obtain ⟨Fs', R4, x4⟩ := st (.dK (putK kvs ky y)) (.od es') G1 rfl G' (by
        simp only [Ro]
        exact ⟨a, _, G', rfl, upd_same, rfl, h6.frame (Ex.refl _) _ _ _ fun b hb o ho _ => by rw [upd_ne (na b hb)]; exact ho⟩) h7 h8
      exact k σ I3 Fs' _ R4 (x4 Fs I H (x1.trans x13) hF) Agr.refl
    | _ => cases hm
  · subst hy
    cases hm
    exact k cls d σ I1 F1 H1 R1 x1 Agr.refl xr
end
end MV

namespace MV
open PySem L2
variable [TB]
theorem ixN_lt {n : Nat} {i : Int} {j : Nat} (h4 : ixN n i = some j) : j < n := by
  unfold ixN at h4
  split at h4
  · split at h4
    · cases h4; omega
    · cases h4
  · split at h4
    · cases h4; omega
    · cases h4
theorem nex_ro {K : PySem.W.Frag} {mg : Str → Option Value} {I H : Hp} {Fs : Fp} {α : Type} {w : W} {y : V} {Fw : List Addr} {a : D → α} {b : α} (o : Own K mg I H Fs w y Fw) : (match w with
    | .ex y => a y
    | _ => b) = b := by
  cases w with
  | ex y => have q := o.ro; simp only [Ro] at q
  | _ => rfl
section
variable {X : Cx} {A : Nat → Bool} {Wx : WX} {o b value : Expr} {lf : P Pth} {g h : P D} {mw : M W} {pos pos' tpos : Pos} {c f : Str}
theorem ss_lput (hv : SO X Wx value mw) (ho : SL X o lf) (hb : SV X b g) (hs : swapsWithSole [.Subscript o b tpos] value pos.line X.env = pure false := by rfl) (hw : swappedStores [.Subscript o b tpos] value X.env = pure none := by rfl)
    (h1 : (assignEach [.Subscript o b tpos] X.env).map (·.2) = [assign (.Subscript o b tpos) X.env] := by rfl)
    (ha : ∀ v, assign (.Subscript o b tpos) X.env v = (do
      let ov ← holding [v] (eval o X.env)
      let iv ← holding [v, ov] (eval b X.env)
      standAt tpos
      holding [v, ov, iv] (setItem ov iv v)
      release [v, ov, iv] []) := by intro _; rfl) : SS X A Wx (.Assign [.Subscript o b tpos] value pos) (sLPut lf g mw) := by
  refine PS.imp (ps_asg hv (pg_sub ho hb set_list ha) hs hw h1) fun Dd σ H ⟨I, e, Fs, R, r, hm, k⟩ => ?_
  obtain ⟨⟨w, e1⟩, h1, hm⟩ := Option.bind_eq_some_iff.mp hm
  refine ⟨I, e, Fs, R, w, e1, h1, fun y I1 F1 H1 Fw R1 x1 o1 hF => ?_, fun y hy cls d I1 F1 H1 R1 x1 xr => ?_⟩
  · have hm : ((lf e1).bind fun p => (g e1).bind fun d => match d, atE e1 p with
      | .int i, some (.ol ws) => (ixN ws.length i).map fun j => SR.nx (putE e1 p (.ol (ws.set j w)))
      | _, _ => none) = some r := by
      cases w with
      | ex y => have q := o1.ro; simp only [Ro] at q
      | _ => exact hm
    obtain ⟨p, h2, hm⟩ := Option.bind_eq_some_iff.mp hm
    obtain ⟨d, h3, hm⟩ := Option.bind_eq_some_iff.mp hm
    refine ⟨I1, e1, F1, R1, p, h2, fun v I2 H2 wr v0 u gr hw hv hsb hA => ?_⟩
    obtain ⟨R2, x2⟩ := gr.rel R1
    refine ⟨I2, e1, F1, R2, d, h3, fun kv I3 H3 gr3 rk => ?_⟩
    obtain ⟨R3, x3⟩ := gr3.rel R2
    rw [atE_of (u := u) hw, hsb] at hm
    cases d with
    | int i =>
      cases u with
      | ol ws =>
        obtain ⟨j, h5, hm⟩ := Option.map_eq_some_iff.mp (show ((ixN ws.length i).map fun j => SR.nx (putE e1 p (.ol (ws.set j w)))) = some r from hm)
        cases hm
        simp only [Rp] at rk
        subst rk
        have x13 := x2.trans x3
        have o3 : Own X.K X.mg I3 H3 F1 w y Fw := o1.frame x13.g (fun b hb => o1.dj b hb) fun b hb => o1.dj b hb
        have hA3 := hA.mono gr3.heap p.2
        obtain ⟨G0, hG0⟩ := L_get R3 hw hv hA3
        obtain ⟨a, rfl, hca⟩ := tag_ref hG0 (by simp [tagW])
        obtain ⟨G, hG, nd, hI, dj, st⟩ := store_step (u' := .ol (ws.set j w)) R3 o3 hw hv hA3 hca
        have hG' := hG
        simp only [Ro] at hG'
        obtain ⟨a', xs, G1, e2, ha, hG1, hFs⟩ := hG'
        cases e2
        subst hG1
        obtain ⟨G', h6, h7, h8⟩ := RoL.setW o3.ro j hFs (List.nodup_cons.mp nd).2 o3.nd fun b hb q => dj b hb (by simp [q])
        have na : ∀ b ∈ G', b ≠ a := fun b hb z => by
          subst z
          rcases h8 b hb with q | q
          · exact (List.nodup_cons.mp nd).1 q
          · exact dj b q (by simp)
        refine ⟨a, xs, i, j, rfl, rfl, ha, by rw [← hFs.len]; exact h5, ?_⟩
        obtain ⟨Fs', R4, x4⟩ := st (.lst (xs.set j y)) (.ol (ws.set j w)) G1 rfl G' (by
          simp only [Ro]
          exact ⟨a, _, G', rfl, upd_same, rfl, h6.frame (Ex.refl _) _ _ _ fun b hb o ho _ => by rw [upd_ne (na b hb)]; exact ho⟩) h7 h8
        exact k σ I3 Fs' _ R4 (x4 Fs I H (x1.trans x13) hF) Agr.refl
      | _ => cases hm
    | _ => cases u <;> cases hm
  · subst hy
    cases hm
    exact k cls d σ I1 F1 H1 R1 x1 Agr.refl xr
theorem ss_ddel (ho : SL X o lf) (hb : SV X b g) : SS X A Wx (.Delete [.Subscript o b tpos] pos) (sDDel lf g) := by
  refine PS.imp (ps_ddel ho hb) fun Dd σ H ⟨I, e, Fs, R, r, hm, k⟩ => ?_
  obtain ⟨p, h2, hm⟩ := Option.bind_eq_some_iff.mp hm
  obtain ⟨d, h3, hm⟩ := Option.bind_eq_some_iff.mp hm
  obtain ⟨ky, h4, hm⟩ := Option.bind_eq_some_iff.mp hm
  refine ⟨I, e, Fs, R, p, h2, fun v I2 H2 wr v0 u gr hw hv hsb hA => ?_⟩
  obtain ⟨R2, x2⟩ := gr.rel R
  refine ⟨I2, e, Fs, R2, d, h3, fun kv I3 H3 gr3 rk => ?_⟩
  obtain ⟨R3, x3⟩ := gr3.rel R2
  rw [atE_of (u := u) hw, hsb] at hm
  cases u with
  | od es =>
    obtain ⟨es', h5, hm⟩ := Option.map_eq_some_iff.mp (show (ddelW es ky).map (fun es' => SR.nx (putE e p (.od es'))) = some r from hm)
    cases hm
    have hA3 := hA.mono gr3.heap p.2
    obtain ⟨G0, hG0⟩ := L_get R3 hw hv hA3
    obtain ⟨a, rfl, hca⟩ := tag_ref hG0 (by simp [tagW])
    obtain ⟨G, hG, nd, inF, hI, up⟩ := R3.upd hw hv hA3 hca
    have hG' := hG
    simp only [Ro] at hG'
    obtain ⟨a', kvs, G1, e2, ha, hG1, hFs⟩ := hG'
    cases e2
    subst hG1
    unfold ddelW at h5
    split at h5
    · rename_i hany
      cases h5
      obtain ⟨G', h6, h7⟩ := hFs.dropW (k := ky)
      have na : a ∉ G' := fun q => (List.nodup_cons.mp nd).1 (h7.subset q)
      refine ⟨a, kvs, ky, rfl, ha, keyD_v h4 rk, by rw [← valV_any, hFs.any]; exact hany, ?_⟩
      obtain ⟨Fs', R4, x4⟩ := up (.dK (L2.dropK kvs ky)) (.od (es.filter fun q => decide (q.1 ≠ ky))) (a :: G') (by
        simp only [Ro]
        exact ⟨a, _, G', rfl, upd_same, rfl, h6.frame (Ex.refl _) _ _ _ fun b hb o ho _ => by rw [upd_ne (fun z => by subst z; exact na hb)]; exact ho⟩) (List.nodup_cons.mpr ⟨na, (List.nodup_cons.mp nd).2.sublist h7⟩) (fun b hb => by
          rcases List.mem_cons.mp hb with rfl | hb
          · exact .inl (by simp)
          · exact .inl (by simp [h7.subset hb]))
      have e1 : putE e p (.od (es.filter fun q => decide (q.1 ≠ ky))) = e.set p.1 (some (wr.put p.2 (.od (es.filter fun q => decide (q.1 ≠ ky))))) := by unfold putE; rw [hw]
      refine k σ I3 Fs' _ (by rw [e1]; exact R4) (x4 Fs I H (x2.trans x3) fun b hb => ?_) Agr.refl
      rcases List.mem_cons.mp hb with rfl | hb
      · exact .inl (by simp)
      · exact .inl (by simp [h7.subset hb])
    · cases h5
  | _ => cases hm
/-- a number's operator in place -/
def AugR (X : Cx) (op : Operator) (rd : V → V → Hp → VK → Prop) (f : D → D → Option D) : Prop := InOp X op rd ∧ ∀ x y z I H v u Q, Ex I H → Rp X.K X.mg I x v → Rp X.K X.mg I y u → f x y = some z → (∀ v' I' H', Gr I H I' H' → Rp X.K X.mg I' z v' → Q v' H') → rd v u H Q
def dAddI : D → D → Option D
  | .int i, .int j => some (.int (i + j))
  | _, _ => none
theorem aug_add : AugR X .Add L2.rAdd dAddI := ⟨in_add, fun x y z I H v u Q s rx ry h k => by
  unfold dAddI at h
  split at h
  · cases h
    simp only [Rp] at rx ry
    exact ⟨_, _, rx, ry, k _ I H .same rp_int⟩
  · cases h⟩
theorem aug_sub : AugR X .Sub L2.rSub dSub := ⟨in_sub, fun x y z I H v u Q s rx ry h k => by
  unfold dSub dI at h
  split at h
  · cases h
    simp only [Rp] at rx ry
    exact ⟨_, _, rx, ry, k _ I H .same rp_int⟩
  · cases h⟩
theorem ss_daug {op : Operator} {rd : V → V → Hp → VK → Prop} {fo : D → D → Option D} (hu : X.A.units + 1 < cLine) (hf : AugR X op rd fo) (ho : SL X o lf) (hb : SV X b g) (hv : SV X value h)
    (ha : ∀ ov iv new, augStore b ov iv new = (do holding [new, ov, iv] (setItem ov iv new); release [new, ov, iv] []; pure .next) := by intros; rfl) : SS X A Wx (.AugAssign (.Subscript o b tpos) op value pos) (sDAug fo lf g h) := by
  refine PS.imp (ps_daug hu ho hb hv hf.1 ha) fun Dd σ H ⟨I, e, Fs, R, r, hm, k⟩ => ?_
  obtain ⟨p, h2, hm⟩ := Option.bind_eq_some_iff.mp hm
  obtain ⟨d, h3, hm⟩ := Option.bind_eq_some_iff.mp hm
  obtain ⟨ky, h4, hm⟩ := Option.bind_eq_some_iff.mp hm
  refine ⟨I, e, Fs, R, p, h2, fun v I2 H2 wr v0 u gr hw hv hsb hA => ?_⟩
  obtain ⟨R2, x2⟩ := gr.rel R
  refine ⟨I2, e, Fs, R2, d, h3, fun kv I3 H3 gr3 rk => ?_⟩
  obtain ⟨R3, x3⟩ := gr3.rel R2
  rw [atE_of (u := u) hw, hsb] at hm
  cases u with
  | od es =>
    have hm : (match valW es ky with
      | some (.p x) => (h e).bind fun y => (fo x y).bind fun z => (dputW es ky (.p z)).map fun es' => SR.nx (putE e p (.od es'))
      | _ => none) = some r := hm
    split at hm
    · rename_i x hx
      obtain ⟨y, h5, hm⟩ := Option.bind_eq_some_iff.mp hm
      obtain ⟨z, h6, hm⟩ := Option.bind_eq_some_iff.mp hm
      obtain ⟨es', h7, hm⟩ := Option.map_eq_some_iff.mp hm
      cases hm
      have hA3 := hA.mono gr3.heap p.2
      obtain ⟨G0, hG0⟩ := L_get R3 hw hv hA3
      obtain ⟨a, rfl, hca⟩ := tag_ref hG0 (by simp [tagW])
      simp only [Ro] at hG0
      obtain ⟨a0, kvs0, G1, e0, ha0, _, hF0⟩ := hG0
      cases e0
      obtain ⟨vx, A0, GX, B0, hvx, _, hrx, _⟩ := hF0.lens hx
      simp only [Ro] at hrx
      refine ⟨a, vx, rfl, by rw [keyD_v h4 rk, ← hvx]; exact DGet.k ha0, ?_⟩
      refine ⟨I3, e, Fs, R3, y, h5, fun vy I4 H4 gr4 ry => ?_⟩
      obtain ⟨R4, x4⟩ := gr4.rel R3
      refine hf.2 x y z I4 H4 vx vy _ R4.sub (hrx.1.mono (gr4.fz R3.sub) _ _) ry h6 fun vz I5 H5 gr5 rz => ?_
      obtain ⟨R5, x5⟩ := gr5.rel R4
      have hA5 := (hA3.mono gr4.heap p.2).mono gr5.heap p.2
      have o5 : Own X.K X.mg I5 H5 Fs (.p z) vz [] := .pure rz
      obtain ⟨G, hG, nd, hI, dj, st⟩ := store_step (u' := .od es') R5 o5 hw hv hA5 fun G h => tag_mem (by simp [tagW]) h
      have hG' := hG
      simp only [Ro] at hG'
      obtain ⟨a', kvs, G1', e2, ha, hG1, hFs⟩ := hG'
      cases e2
      subst hG1
      obtain ⟨hz, G', h8, h9, h10⟩ := RoK.putW o5.ro hFs (List.nodup_cons.mp nd).2 o5.nd (fun b hb q => dj b hb (by simp [q])) h7
      have na : ∀ b ∈ G', b ≠ a := fun b hb z => by
        subst z
        rcases h10 b hb with q | q
        · exact (List.nodup_cons.mp nd).1 q
        · cases q
      refine ⟨_, by rw [keyD_v h4 rk]; exact DPut.k ha hz, ?_⟩
      obtain ⟨Fs', R6, x6⟩ := st (.dK (putK kvs ky vz)) (.od es') G1' rfl G' (by
        simp only [Ro]
        exact ⟨a, _, G', rfl, upd_same, rfl, h8.frame (Ex.refl _) _ _ _ fun b hb o ho _ => by rw [upd_ne (na b hb)]; exact ho⟩) h9 h10
      exact k σ I5 Fs' _ R6 (x6 Fs I H (((x2.trans x3).trans x4).trans x5) fun b hb => by cases hb) Agr.refl
    · cases hm
  | _ => cases hm
theorem ss_faug {op : Operator} {rd : V → V → Hp → VK → Prop} {fo : D → D → Option D} (hf : AugR X op rd fo) (ho : SL X o lf) (hC : ∀ C, X.mg c = some (.ref C) → Cls X.K C ∧ NoAttr X.K C f) (hv : SV X value h) : SS X A Wx (.AugAssign (.Attribute o f tpos) op value pos) (sFAug fo c f lf h) := by
  refine PS.imp (ps_fldaug ho hv hf.1) fun Dd σ H ⟨I, e, Fs, R, r, hm, k⟩ => ?_
  obtain ⟨p, h2, hm⟩ := Option.bind_eq_some_iff.mp hm
  refine ⟨I, e, Fs, R, p, h2, fun v I2 H2 wr v0 u gr hw hv hsb hA => ?_⟩
  obtain ⟨R2, x2⟩ := gr.rel R
  rw [atE_of (u := u) hw, hsb] at hm
  cases u with
  | oi c' gs =>
    have hm2 : (if c' = c ∧ gs.length < 900 then (match getFW gs f with
      | some (.p x) => (h e).bind fun y => (fo x y).map fun z => SR.nx (putE e p (.oi c' (putFW f (.p z) gs)))
      | _ => none) else none) = some r := hm
    clear hm
    split at hm2
    · rename_i hc
      obtain ⟨hc, hz⟩ := hc
      split at hm2
      · rename_i x hx
        obtain ⟨y, h5, hm⟩ := Option.bind_eq_some_iff.mp hm2
        obtain ⟨z, h6, hm⟩ := Option.map_eq_some_iff.mp hm
        cases hm
        obtain ⟨G0, hG0⟩ := L_get R2 hw hv hA
        obtain ⟨a, rfl, hca⟩ := tag_ref hG0 (by simp [tagW])
        simp only [Ro] at hG0
        obtain ⟨a0, C, dx, fs0, G1, e0, hcm, ha0, _, hF0⟩ := hG0
        cases e0
        obtain ⟨vx, A0, GX, B0, hvx, _, hrx, _⟩ := hF0.lens hx
        simp only [Ro] at hrx
        have hcc := hC C (hc ▸ hcm)
        refine ⟨a, C, dx, fs0, vx, rfl, ha0, hcc.1, hcc.2, hvx, ?_⟩
        refine ⟨I2, e, Fs, R2, y, h5, fun vy I4 H4 gr4 ry => ?_⟩
        obtain ⟨R4, x4⟩ := gr4.rel R2
        refine hf.2 x y z I4 H4 vx vy _ R4.sub (hrx.1.mono (gr4.fz R2.sub) _ _) ry h6 fun vz I5 H5 gr5 rz => ?_
        obtain ⟨R5, x5⟩ := gr5.rel R4
        have hA5 := (hA.mono gr4.heap p.2).mono gr5.heap p.2
        have o5 : Own X.K X.mg I5 H5 Fs (.p z) vz [] := .pure rz
        obtain ⟨G, hG, nd, hI, dj, st⟩ := store_step (u' := .oi c' (putFW f (.p z) gs)) R5 o5 hw hv hA5 fun G h => tag_mem (by simp [tagW]) h
        have hG' := hG
        simp only [Ro] at hG'
        obtain ⟨a', C', dx', fs, G1', e2, hcm', ha, hG1, hFs⟩ := hG'
        cases e2
        subst hG1
        have eC : C' = C := by
          rw [hcm] at hcm'
          cases hcm'
          rfl
        subst eC
        have lenF : ∀ {ws : List (Str × W)} {xs : List (Str × V)} {F : List Addr}, RoF X.K X.mg I5 H5 ws xs F → xs.length = ws.length := by
          intro ws
          induction ws with
          | nil => intro xs F h; simp only [RoF] at h; rw [h.1]; rfl
          | cons q ws ih =>
            intro xs F h
            obtain ⟨q, u⟩ := q
            simp only [RoF] at h
            obtain ⟨x, r, F1, F2, rfl, rfl, _, h2⟩ := h
            rw [List.length_cons, List.length_cons, ih h2]
        obtain ⟨G', h8, h9, h10⟩ := RoF.putW o5.ro f hFs (List.nodup_cons.mp nd).2 o5.nd fun b hb q => dj b hb (by simp [q])
        have na : ∀ b ∈ G', b ≠ a := fun b hb z => by
          subst z
          rcases h10 b hb with q | q
          · exact (List.nodup_cons.mp nd).1 q
          · cases q
        refine ⟨dx', fs, ha, by rw [lenF hFs]; omega, ?_⟩
        obtain ⟨Fs', R6, x6⟩ := st (.ins C' dx' (L2.putF f vz fs)) (.oi c' (putFW f (.p z) gs)) G1' rfl G' (by
          simp only [Ro]
          exact ⟨a, C', dx', _, G', rfl, hcm', upd_same, rfl, h8.frame (Ex.refl _) _ _ _ fun b hb o ho _ => by rw [upd_ne (na b hb)]; exact ho⟩) h9 h10
        exact k σ I5 Fs' _ R6 (x6 Fs I H ((x2.trans x4).trans x5) fun b hb => by cases hb) Agr.refl
      · cases hm2
    · cases hm2
  | _ => cases hm
end
end MV

namespace MV
open PySem L2
variable [TB]

/-! ### methods of own classes -/
section
variable {X : Cx} {Wx : WX} {k : Nat} {f C : Addr} {fd : FuncData} {ps : List Str} {sp : Sp} {m : Str} {pos apos : Pos} {e o : Expr} {es : List Expr} {ta : TE} {t : TA}
def tMth (C : Addr) (m : Str) (sp : Sp) (Wx : WX) (ta : TE) (t : TA) : TE := fun σ H Q => ta σ H fun x H1 => (∃ a dx fs, x = .ref a ∧ H1 a = some (.ins C dx fs) ∧ fs.lookup m = none) ∧ t σ H1 fun vs H2 => sp (x :: vs) H2 Q (WE Wx σ)
theorem pe_mth {pl : Sem Bool} (tk : L2N.Takes X Wx) (ho : PE X o ta) (cl : Cls X.K C) (hm : Meth X.K C m f) (F : FnOk X.prog X.w X.K X.mg X.base (L2N.CX X.prog X.w) k f fd ps sp) (hr : Room k X.A) (hb : Binds X.K fd ps []) (ha : PA X (e :: es) t)
    (hst : starEach (e :: es) X.env = (false, eval e X.env) :: starEach es X.env := by rfl) (hpl : (backTo pos (starEach es X.env)).any (·.1) = false := by rfl)
    (ht : eval (.Call (.Attribute o m apos) (e :: es) [] pos) X.env = (do
      let ov ← eval o X.env
      standAt apos.atName
      let (f, first) ← holding [ov] (getMethod ov m pl)
      callWith pos f first (backTo pos (starEach (e :: es) X.env)) (backToKw pos (keywordEach [] X.env))) := by rfl) : PE X (.Call (.Attribute o m apos) (e :: es) [] pos) (tMth C m sp Wx ta t) := by
  constructor
  intro pins s σ H Q I h
  apply PySem.W.methodCall_KW (pl := pl) _ ht
  refine thn (ho.run pins s σ H _ I h) ?_
  rintro u s1 ⟨x, H1, I1, rx, ⟨a, dx, fs, rfl, ea, l⟩, q⟩
  obtain rfl : u = Value.ref a := rx
  apply getmeth_ok I1 ea cl hm l
  apply PySem.W.callWith_K (first := [.ref a]) (h₀ := X.base) I.ok.mod.kin hm.kp _ hst hpl
  refine thn (ha.run pos pins s1 σ H1 _ I1 q) ?_
  rintro us s2 ⟨vs, H2, I2, r, q2⟩
  exact ⟨I2.kIn, run_fnS (E := WE Wx) (us := .ref a :: us) (vs := .ref a :: vs) F hr hb (L2N.passAt tk σ) I2 (.cons rfl r) q2⟩
theorem pe_mth0 {pl : Sem Bool} (tk : L2N.Takes X Wx) (ho : PE X o ta) (cl : Cls X.K C) (hm : Meth X.K C m f) (F : FnOk X.prog X.w X.K X.mg X.base (L2N.CX X.prog X.w) k f fd ps sp) (hr : Room k X.A) (hb : Binds X.K fd ps [])
    (ht : eval (.Call (.Attribute o m apos) [] [] pos) X.env = (do
      let ov ← eval o X.env
      standAt apos.atName
      let (f, first) ← holding [ov] (getMethod ov m pl)
      callWith pos f first (backTo pos (starEach [] X.env)) (backToKw pos (keywordEach [] X.env))) := by rfl) : PE X (.Call (.Attribute o m apos) [] [] pos) (tMth C m sp Wx ta tNil) := by
  constructor
  intro pins s σ H Q I h
  apply PySem.W.methodCall_KW (pl := pl) _ ht
  refine thn (ho.run pins s σ H _ I h) ?_
  rintro u s1 ⟨x, H1, I1, rx, ⟨a, dx, fs, rfl, ea, l⟩, q⟩
  obtain rfl : u = Value.ref a := rx
  apply getmeth_ok I1 ea cl hm l
  exact PySem.W.callWith_K0 (first := [.ref a]) I1.kIn hm.kp (run_fnS (E := WE Wx) (us := [.ref a]) (vs := [.ref a]) F hr hb (L2N.passAt tk σ) I1 (.cons rfl .nil) q)
end
/-- the receiver, owned (slot i), of the class c; m is no field -/
def aRO (c m : Str) (i : Nat) (r : M (List Arg)) : M (List Arg) := fun e => match e[i]? with
  | some (some (.oi c' gs)) => if c' = c ∧ (getFW gs m).isNone = true then (r e).map fun y => (.io i :: y.1, y.2) else none
  | _ => none
/-- .. frozen -/
def aRD (c m : Str) (mo : M D) (r : M (List Arg)) : M (List Arg) := fun e => (mo e).bind fun x => match x.1 with
  | .inst c' gs => if c' = c ∧ (gs.lookup m).isNone = true then (r x.2).map fun y => (.d x.1 :: y.1, y.2) else none
  | _ => none
section
variable {K : PySem.W.Frag} {mg : Str → Option Value} {I H : Hp}
theorem RoF.lookNone {f : Str} : ∀ {ws : List (Str × W)} {xs : List (Str × V)} {F : List Addr}, RoF K mg I H ws xs F → (getFW ws f).isNone = true → xs.lookup f = none
  | [], xs, F, h, e => by simp only [RoF] at h; obtain ⟨rfl, rfl⟩ := h; rfl
  | (q, u) :: ws, xs, F, h, e => by
    simp only [RoF] at h
    obtain ⟨x, r, F1, F2, rfl, rfl, h1, h2⟩ := h
    unfold getFW at e
    split at e
    · cases e
    · rename_i hq
      have hb : (f == q) = false := by rw [beq_eq_false_iff_ne]; exact Ne.symm hq
      rw [List.lookup_cons, hb]
      exact h2.lookNone e
theorem RpF.look {f : Str} : ∀ {ds : List (Str × D)} {xs : List (Str × V)}, RpF K mg I ds xs → (∀ d, ds.lookup f = some d → ∃ x, xs.lookup f = some x ∧ Rp K mg I d x) ∧ (ds.lookup f = none → xs.lookup f = none)
  | [], xs, h => by simp only [RpF] at h; subst h; exact ⟨fun d e => by simp at e, fun _ => rfl⟩
  | (q, d0) :: ds, xs, h => by
    simp only [RpF] at h
    obtain ⟨x, r, rfl, h1, h2⟩ := h
    obtain ⟨k1, k2⟩ := RpF.look (f := f) h2
    by_cases hb : (f == q) = true
    · rw [List.lookup_cons, List.lookup_cons, hb]
      exact ⟨fun d e => by cases e; exact ⟨x, rfl, h1⟩, fun e => by cases e⟩
    · have hb : (f == q) = false := by simpa using hb
      rw [List.lookup_cons, List.lookup_cons, hb]
      exact ⟨k1, k2⟩
end
theorem aro_run {K : PySem.W.Frag} {mg : Str → Option Value} {c m : Str} {i : Nat} {r : M (List Arg)} {C : Addr} {σ : L2.St} {H : Hp} {P : List V → Hp → Prop} (hC : mg c = some (.ref C)) (h : tAr K mg (aRO c m i r) σ H P) :
    tVar i σ H fun x H1 => (∃ a dx fs, x = .ref a ∧ H1 a = some (.ins C dx fs) ∧ fs.lookup m = none) ∧ tAr K mg r σ H1 fun vs H2 => P (x :: vs) H2 := by
  obtain ⟨I, e, Fs, R, as, e', hm, k⟩ := h
  unfold aRO at hm
  split at hm
  · rename_i c' gs hw
    split at hm
    · rename_i hc
      obtain ⟨rfl, hn⟩ := hc
      obtain ⟨⟨y, e2⟩, h2, hm⟩ := Option.map_eq_some_iff.mp hm
      cases hm
      obtain ⟨v, h1, ro⟩ := R.at_ i _ hw
      refine ⟨v, h1, ?_, I, e, Fs, R, y, e2, h2, fun vs I2 F2 H2 R2 x2 r2 => k (v :: vs) I2 F2 H2 R2 x2 ⟨v, vs, rfl, h1, r2⟩⟩
      simp only [Ro] at ro
      obtain ⟨a, C', dx, fs, G, rfl, hc, ha, _, hF⟩ := ro
      rw [hC] at hc
      cases hc
      exact ⟨a, dx, fs, rfl, ha, hF.lookNone hn⟩
    · cases hm
  · cases hm
theorem ard_run {K : PySem.W.Frag} {mg : Str → Option Value} {c m : Str} {mo : M D} {r : M (List Arg)} {C : Addr} {σ : L2.St} {H : Hp} {P : List V → Hp → Prop} (hC : mg c = some (.ref C)) (h : tAr K mg (aRD c m mo r) σ H P) :
    tE K mg mo σ H fun x H1 => (∃ a dx fs, x = .ref a ∧ H1 a = some (.ins C dx fs) ∧ fs.lookup m = none) ∧ tAr K mg r σ H1 fun vs H2 => P (x :: vs) H2 := by
  obtain ⟨I, e, Fs, R, as, e', hm, k⟩ := h
  obtain ⟨⟨d, e1⟩, h1, hm⟩ := Option.bind_eq_some_iff.mp hm
  refine ⟨I, e, Fs, R, d, e1, h1, fun v I1 F1 H1 R1 x1 r1 => ?_⟩
  cases d with
  | inst c' gs =>
    have hm2 : (if c' = c ∧ (gs.lookup m).isNone = true then (r e1).map fun y => (Arg.d (.inst c' gs) :: y.1, y.2) else none) = some (as, e') := hm
    clear hm
    split at hm2
    · rename_i hc
      obtain ⟨hc, hn⟩ := hc
      subst hc
      obtain ⟨⟨y, e2⟩, h2, hm⟩ := Option.map_eq_some_iff.mp hm2
      cases hm
      refine ⟨?_, I1, e1, F1, R1, y, e2, h2, fun vs I2 F2 H2 R2 x2 r2 => k (v :: vs) I2 F2 H2 R2 (x1.trans x2) ⟨v, vs, rfl, r1.mono x2.g.ex _ _, r2⟩⟩
      simp only [Rp] at r1
      obtain ⟨a, C', dx, fs, rfl, hc, ha, hF⟩ := r1
      rw [hC] at hc
      cases hc
      exact ⟨a, dx, fs, rfl, R1.sub _ _ ha, hF.look.2 (Option.isNone_iff_eq_none.mp hn)⟩
    · cases hm2
  | _ => cases hm
/-- a method of the class c -/
def Mt (P : Program) (w : World) (K : PySem.W.Frag) (mg : Str → Option Value) (base : Heap) (k : Nat) (c m : Str) (ps : List Str) (g : FSem) : Prop :=
  ∃ C f fd, mg c = some (.ref C) ∧ Cls K C ∧ Meth K C m f ∧ Binds K fd ps [] ∧ FnOk P w K mg base (L2N.CX P w) k f fd ps (spF K mg ps.length g)
section
variable {X : Cx} {Wx : WX} {k : Nat} {ps : List Str} {g : FSem} {c m : Str} {pos apos p : Pos} {a o : Expr} {es : List Expr} {ma : M (List Arg)} {mo : M D} {i : Nat} {x : Str}
theorem so_mthO {pl : Sem Bool} (tk : L2N.Takes X Wx) (F : Mt X.prog X.w X.K X.mg X.base k c m ps g) (hr : Room k X.A) (ho : PE X (.Name x p) (tVar i)) (ha : SA X (a :: es) ma) (hn : ∀ as e e', aRO c m i ma e = some (as, e') → as.length = ps.length)
    (hst : starEach (a :: es) X.env = (false, eval a X.env) :: starEach es X.env := by rfl) (hpl : (backTo pos (starEach es X.env)).any (·.1) = false := by rfl)
    (ht : eval (.Call (.Attribute (.Name x p) m apos) (a :: es) [] pos) X.env = (do
      let ov ← eval (.Name x p) X.env
      standAt apos.atName
      let (f, first) ← holding [ov] (getMethod ov m pl)
      callWith pos f first (backTo pos (starEach (a :: es) X.env)) (backToKw pos (keywordEach [] X.env))) := by rfl) : SO X Wx (.Call (.Attribute (.Name x p) m apos) (a :: es) [] pos) (mCall g (aRO c m i ma)) := by
  obtain ⟨C, f, fd, hC, cl, hm, hb, F⟩ := F
  exact PE.imp (pe_mth tk ho cl hm F hr hb ha hst hpl ht) fun σ H Q h => aro_run hC (call_step hn h)
theorem so_mthO0 {pl : Sem Bool} (tk : L2N.Takes X Wx) (F : Mt X.prog X.w X.K X.mg X.base k c m ps g) (hr : Room k X.A) (ho : PE X (.Name x p) (tVar i)) (hn : ∀ as e e', aRO c m i aNil e = some (as, e') → as.length = ps.length)
    (ht : eval (.Call (.Attribute (.Name x p) m apos) [] [] pos) X.env = (do
      let ov ← eval (.Name x p) X.env
      standAt apos.atName
      let (f, first) ← holding [ov] (getMethod ov m pl)
      callWith pos f first (backTo pos (starEach [] X.env)) (backToKw pos (keywordEach [] X.env))) := by rfl) : SO X Wx (.Call (.Attribute (.Name x p) m apos) [] [] pos) (mCall g (aRO c m i aNil)) := by
  obtain ⟨C, f, fd, hC, cl, hm, hb, F⟩ := F
  refine PE.imp (pe_mth0 tk ho cl hm F hr hb ht) fun σ H Q h => ?_
  obtain ⟨v, h1, h2, I, e, Fs, R, as, e', h3, h4⟩ := aro_run hC (call_step hn h)
  cases h3
  exact ⟨v, h1, h2, h4 [] I Fs H R Ext.refl rfl⟩
theorem so_mthD {pl : Sem Bool} (tk : L2N.Takes X Wx) (F : Mt X.prog X.w X.K X.mg X.base k c m ps g) (hr : Room k X.A) (ho : SE X o mo) (ha : SA X (a :: es) ma) (hn : ∀ as e e', aRD c m mo ma e = some (as, e') → as.length = ps.length)
    (hst : starEach (a :: es) X.env = (false, eval a X.env) :: starEach es X.env := by rfl) (hpl : (backTo pos (starEach es X.env)).any (·.1) = false := by rfl)
    (ht : eval (.Call (.Attribute o m apos) (a :: es) [] pos) X.env = (do
      let ov ← eval o X.env
      standAt apos.atName
      let (f, first) ← holding [ov] (getMethod ov m pl)
      callWith pos f first (backTo pos (starEach (a :: es) X.env)) (backToKw pos (keywordEach [] X.env))) := by rfl) : SO X Wx (.Call (.Attribute o m apos) (a :: es) [] pos) (mCall g (aRD c m mo ma)) := by
  obtain ⟨C, f, fd, hC, cl, hm, hb, F⟩ := F
  exact PE.imp (pe_mth tk ho cl hm F hr hb ha hst hpl ht) fun σ H Q h => ard_run hC (call_step hn h)
theorem so_mthD0 {pl : Sem Bool} (tk : L2N.Takes X Wx) (F : Mt X.prog X.w X.K X.mg X.base k c m ps g) (hr : Room k X.A) (ho : SE X o mo) (hn : ∀ as e e', aRD c m mo aNil e = some (as, e') → as.length = ps.length)
    (ht : eval (.Call (.Attribute o m apos) [] [] pos) X.env = (do
      let ov ← eval o X.env
      standAt apos.atName
      let (f, first) ← holding [ov] (getMethod ov m pl)
      callWith pos f first (backTo pos (starEach [] X.env)) (backToKw pos (keywordEach [] X.env))) := by rfl) : SO X Wx (.Call (.Attribute o m apos) [] [] pos) (mCall g (aRD c m mo aNil)) := by
  obtain ⟨C, f, fd, hC, cl, hm, hb, F⟩ := F
  refine PE.imp (pe_mth0 tk ho cl hm F hr hb ht) fun σ H Q h => ?_
  obtain ⟨I, e, Fs, R, d, e', h1, k1⟩ := ard_run hC (call_step hn h)
  refine ⟨I, e, Fs, R, d, e', h1, fun v I' Fs' H' R' x r => ?_⟩
  obtain ⟨h2, I2, e2, F2, R2, as, e3, h3, h4⟩ := k1 v I' Fs' H' R' x r
  cases h3
  exact ⟨h2, h4 [] I2 F2 H' R2 Ext.refl rfl⟩
end
theorem len_ro {c m : Str} {i : Nat} {r : M (List Arg)} {n : Nat} (hr : ∀ (as : List Arg) (e e' : Env), r e = some (as, e') → as.length = n) : ∀ (as : List Arg) (e e' : Env), aRO c m i r e = some (as, e') → as.length = n + 1 := fun as e e' h => by
  unfold aRO at h
  split at h
  · split at h
    · obtain ⟨⟨y, e2⟩, h2, hm⟩ := Option.map_eq_some_iff.mp h
      cases hm
      rw [List.length_cons, hr _ _ _ h2]
    · cases h
  · cases h
theorem len_rd {c m : Str} {mo : M D} {r : M (List Arg)} {n : Nat} (hr : ∀ (as : List Arg) (e e' : Env), r e = some (as, e') → as.length = n) : ∀ (as : List Arg) (e e' : Env), aRD c m mo r e = some (as, e') → as.length = n + 1 := fun as e e' h => by
  obtain ⟨⟨d, e1⟩, h1, h⟩ := Option.bind_eq_some_iff.mp h
  cases d with
  | inst c' gs =>
    have hm2 : (if c' = c ∧ (gs.lookup m).isNone = true then (r e1).map fun y => (Arg.d (.inst c' gs) :: y.1, y.2) else none) = some (as, e') := h
    split at hm2
    · obtain ⟨⟨y, e2⟩, h2, hm⟩ := Option.map_eq_some_iff.mp hm2
      cases hm
      rw [List.length_cons, hr _ _ _ h2]
    · cases hm2
  | _ => cases h
end MV

namespace MV
open PySem L2
variable [TB]

/-! ### making an instance -/
theorem gather_len : ∀ {as : List Arg} {e e2 : Env} {ws : List W}, gather as e = some (ws, e2) → ws.length = as.length
  | [], e, e2, ws, g => by cases g; rfl
  | .d d :: r, e, e2, ws, g => by
    obtain ⟨⟨ws', e'⟩, g1, g2⟩ := Option.map_eq_some_iff.mp (show (gather r e).map (fun x => (W.p d :: x.1, x.2)) = some (ws, e2) from g)
    cases g2
    rw [List.length_cons, List.length_cons, gather_len g1]
  | .io i :: r, e, e2, ws, g => by
    have g' : (match e[i]? with
      | some (some w) => (gather r (e.set i none)).map fun x => (w :: x.1, x.2)
      | _ => none) = some (ws, e2) := g
    split at g'
    · obtain ⟨⟨ws', e'⟩, g1, g2⟩ := Option.map_eq_some_iff.mp g'
      cases g2
      rw [List.length_cons, List.length_cons, gather_len g1]
    · cases g'
/-- what __init__ gives: the instance -/
def mkR (as : List Arg) (e2 : Env) : W × Env → Option (W × Env)
  | (.ex y, oe) => some (.ex y, scatter as oe.tail e2)
  | (.p .none, some w :: oe) => some (w, scatter as oe e2)
  | _ => none
def mMake (c : Str) (g : FSem) (ma : M (List Arg)) : M W := fun e => (ma e).bind fun x => (gather x.1 x.2).bind fun y => (g (.oi c [] :: y.1)).bind fun z => mkR x.1 y.2 z
theorem make_step {K : PySem.W.Frag} {mg : Str → Option Value} {c : Str} {C : Addr} {n : Nat} {f : FSem} {ma : M (List Arg)} {σ : L2.St} {H : Hp} {Q : VK} {Wx : WX} (hC : mg c = some (.ref C)) (hn : ∀ as e e', ma e = some (as, e') → as.length = n) (h : tO K mg Wx (mMake c f ma) σ H Q) :
    tAr K mg ma σ H fun vs H1 => ∀ x dx, H1 x = none → H1 dx = none → dx ≠ x → spF K mg (n + 1) f (.ref x :: vs) (upd (upd H1 dx (.own x)) x (.ins C dx [])) (fun v H2 => v = .non ∧ Q (.ref x) H2) (WE Wx σ) := by
  obtain ⟨I, e, Fs, R, w, e', hm, k, kx⟩ := h
  obtain ⟨⟨as, e1⟩, h1, hm⟩ := Option.bind_eq_some_iff.mp hm
  obtain ⟨⟨ws, e2⟩, h2, hm⟩ := Option.bind_eq_some_iff.mp hm
  obtain ⟨⟨w', oe⟩, h3, hm⟩ := Option.bind_eq_some_iff.mp hm
  refine ⟨I, e, Fs, R, as, e1, h1, fun vs I1 F1 H1 R1 x1 ha x dx hx hdx hne => ?_⟩
  obtain ⟨Fa, F2, Ra, R2, i1, i2, i3⟩ := gather_ok R1 ha h2
  have hl : ws.length = n := by rw [gather_len h2]; exact hn as e e1 h1
  -- the new objects
  have hx' : upd H1 dx (.own x) x = none := by rw [upd_ne (Ne.symm hne)]; exact hx
  have hIx : I1 x = none := sub_none R1.sub hx
  have grow : ∀ a u, H1 a = some u → upd (upd H1 dx (.own x)) x (.ins C dx []) a = some u := fun a u q => by
    rw [upd_ne (ne_of_none q hx), upd_ne (ne_of_none q hdx)]; exact q
  have back : ∀ a, upd (upd H1 dx (.own x)) x (.ins C dx []) a = none → H1 a = none := fun a q => by
    cases z : H1 a with
    | none => rfl
    | some u => rw [grow a u z] at q; cases q
  have Ra' := (Ra.loose (o := .own x) hdx).loose (o := .ins C dx []) hx'
  have R2' := (R2.loose (o := .own x) hdx).loose (o := .ins C dx []) hx'
  have nxF : ∀ Ft : Fp, ∀ e : Env, ∀ τ : L2.St, Rel K mg I1 e Ft τ H1 → ¬ MF Ft x := fun Ft e τ R ⟨i, hi⟩ => R.live i x hi hx
  have ow : Own K mg I1 (upd (upd H1 dx (.own x)) x (.ins C dx [])) Fa (.oi c []) (.ref x) [x] := by
    refine ⟨?_, by simp, fun a q => ?_, fun a q => ?_⟩
    · simp only [Ro]
      exact ⟨x, C, dx, [], [], rfl, hC, upd_same, rfl, by simp [RoF]⟩
    · rw [List.mem_singleton.mp q]; exact hIx
    · rw [List.mem_singleton.mp q]; exact nxF _ _ _ Ra
  have Rc := Ra'.cons ow
  have dead : ∀ a, MF F2 a → ¬ MF (consF [x] Fa) a := fun a m q => by
    rcases q.cons with z | z
    · rw [List.mem_singleton.mp z] at m; exact nxF _ _ _ R2 m
    · exact i3 a z m
  have fin : ∀ I' Fo H' (o0 : Option W) (oe' : Env), Rel K mg I' (o0 :: oe') Fo (some (.ref x) :: vs.map some) H' → Ext (consF [x] Fa) I1 (upd (upd H1 dx (.own x)) x (.ins C dx [])) Fo I' H' →
      ∃ F', Rel K mg I' (scatter as oe' e2) F' σ H' ∧ (∀ a, MF F' a → (∃ j, a ∈ Fo (j + 1)) ∨ MF F2 a) ∧ Ext F1 I1 H1 F' I' H' := fun I' Fo H' o0 oe' Ro x' => by
    have R3 := R2'.frame x'.g Ro.sub dead
    have djo : ∀ a, MF (fun j => Fo (j + 1)) a → ¬ MF F2 a := fun a ⟨j, hj⟩ q => by
      rcases x'.fp a ⟨j + 1, hj⟩ with z | z
      · exact dead a q z
      · obtain ⟨i, hi⟩ := q
        exact R2'.live i a hi z
    obtain ⟨F', R', m'⟩ := scatter_ok R3 (ha.mono x'.g.ex) Ro.tail djo
    refine ⟨F', R', m', ⟨⟨x'.g.ex, fun a u hu m nt => x'.g.fr a u (grow a u hu) (fun q => ?_) nt, fun a q => ?_, fun t => x'.g.tb (t.ext grow), fun a ps hu m => x'.g.tl a ps (grow a _ hu) fun q => ?_⟩, fun a q => ?_⟩⟩
    · rcases q.cons with z | z
      · rw [List.mem_singleton.mp z, hx] at hu; cases hu
      · exact m (i1 a z)
    · rcases x'.g.new a q with z | z | z
      · exact .inl z
      · exact .inr (.inl (back a z))
      · rcases z.cons with y | y
        · rw [List.mem_singleton.mp y]; exact .inr (.inl hx)
        · exact .inr (.inr (i1 a y))
    · rcases q.cons with z | z
      · rw [List.mem_singleton.mp z, hx] at hu; cases hu
      · exact m (i1 a z)
    · rcases m' a q with ⟨j, hj⟩ | z
      · rcases x'.fp a ⟨j + 1, hj⟩ with y | y
        · rcases y.cons with t | t
          · rw [List.mem_singleton.mp t]; exact .inr hx
          · exact .inl (i1 a t)
        · exact .inr (back a y)
      · exact .inl (i2 a z)
  have hfs : ∀ b, (MF F1 b ∨ H1 b = none) → MF Fs b ∨ H b = none := fun b q => by
    rcases q with z | z
    · exact x1.fp b z
    · cases y : H b with
      | none => exact .inr rfl
      | some u =>
        by_cases m : MF Fs b
        · exact .inl m
        · rw [x1.g.back m z] at y; cases y
  refine ⟨I1, .oi c [] :: ws, consF [x] Fa, by simp [hl], Rc, w', oe, h3, fun v I' Fo H' F Ro x' o hF => ?_, fun y hy cls d I' Fo H' Ro x' xr => ?_⟩
  · cases oe with
    | nil => have := Ro.len; simp at this
    | cons o0 oe =>
      cases w' with
      | ex y => have q := o.ro; simp only [MV.Ro] at q
      | p d =>
        cases d with
        | none =>
          cases o0 with
          | none => cases hm
          | some w0 =>
            cases hm
            have q := o.ro
            simp only [MV.Ro, Rp] at q
            refine ⟨q.1, ?_⟩
            obtain ⟨F', R', m', xx⟩ := fin I' Fo H' (some w) oe Ro x'
            obtain ⟨v0, e0, r0⟩ := Ro.at_ 0 w rfl
            have e0 : V.ref x = v0 := by simpa using e0
            subst e0
            refine k (.ref x) I' F' H' (Fo 0) R' (x1.trans xx) ⟨r0, Ro.nd 0, Ro.out 0, fun a ha0 q => ?_⟩ fun a ha0 => hfs a ?_
            · rcases m' a q with ⟨j, hj⟩ | z
              · have := Ro.dj _ _ a ha0 hj
                omega
              · rcases x'.fp a ⟨0, ha0⟩ with y | y
                · exact dead a z y
                · obtain ⟨i, hi⟩ := z
                  exact R2'.live i a hi y
            · rcases x'.fp a ⟨0, ha0⟩ with y | y
              · rcases y.cons with t | t
                · rw [List.mem_singleton.mp t]; exact .inr hx
                · exact .inl (i1 a t)
              · exact .inr (back a y)
        | _ => cases o0 <;> cases hm
      | _ => cases o0 <;> cases hm
  · subst hy
    cases oe with
    | nil => have := Ro.len; simp at this
    | cons o0 oe =>
      cases hm
      obtain ⟨F', R', m', xx⟩ := fin I' Fo H' o0 oe Ro x'
      exact kx y rfl cls d I' F' H' R' (x1.trans xx) xr
section
variable {X : Cx} {Wx : WX} {k : Nat} {f C : Addr} {fd : FuncData} {ps : List Str} {sp : Sp} {x : Str} {p pos : Pos} {e : Expr} {es : List Expr} {t : TA}
def tMk (C : Addr) (sp : Sp) (Wx : WX) (t : TA) : TE := fun σ H Q => t σ H fun vs H1 => ∀ x dx, H1 x = none → H1 dx = none → dx ≠ x → sp (.ref x :: vs) (upd (upd H1 dx (.own x)) x (.ins C dx [])) (fun v H2 => v = .non ∧ Q (.ref x) H2) (WE Wx σ)
theorem run_mk {pins : List (Addr × Obj)} {σ : L2.St} {H : Hp} {s : Shared} {Q : VK} {us : List Value} {vs : List V} (tk : L2N.Takes X Wx) (M : Mk X.K C f) (F : FnOk X.prog X.w X.K X.mg X.base (L2N.CX X.prog X.w) k f fd ps sp) (hr : Room (k + 1) X.A) (hb : Binds X.K fd ps []) (I : Inv X pins σ H s) (r : Vals vs us)
    (h : ∀ x dx, H x = none → H dx = none → dx ≠ x → sp (.ref x :: vs) (upd (upd H dx (.own x)) x (.ins C dx [])) (fun v H2 => v = .non ∧ Q (.ref x) H2) (WE Wx σ)) : wpAny (model X.prog X.w) X.A (call (.ref C) us) (EP X pins σ Q) X.xe s := by
  have n0 := Nat.le_refl s.heap.objs.size
  have hq := h (s.heap.objs.size + 1) s.heap.objs.size (I.hok.fresh (Nat.le_succ _)) (I.hok.fresh n0) (Nat.ne_of_lt (Nat.lt_succ_self _))
  have J := Inv.made (C := C) I
  have rr : Vals (V.ref (s.heap.objs.size + 1) :: vs) (Value.ref (s.heap.objs.size + 1) :: us) := .cons rfl r
  have hlen : ([Value.ref (s.heap.objs.size + 1)] ++ us).length = ps.length := by
    have := rr.length
    rw [F.len _ _ _ _ hq] at this
    exact this.symm
  have bb := hb _ (Value.ref (s.heap.objs.size + 1) :: us) J.kIn (by rw [List.append_nil]; exact hlen)
  rw [List.append_nil] at bb
  refine wpAny_call (make_map (f := f) I.kIn M.makes M.init (beq_iff_eq.mp M.fn) (codeAny_mono (F.run _ X.stack _ _ ⟨Value.ref (s.heap.objs.size + 1) :: us, []⟩ (Value.ref (s.heap.objs.size + 1) :: us) _ _ (WE Wx σ) (hr.make C us []) (J.env0.make C us []) bb rr hq) ?_))
  rintro (er | fl) s' q
  · exact L2N.passAt tk σ pins _ _ er s' J q
  · cases fl with
    | ret u =>
      obtain ⟨v, H', I3, rv, ev, q3⟩ := J.after q
      subst ev
      exact ⟨rv, V.ref (s.heap.objs.size + 1), H', I3, rfl, q3⟩
    | _ => exact False.elim q
theorem pe_mk (tk : L2N.Takes X Wx) (M : Mk X.K C f) (F : FnOk X.prog X.w X.K X.mg X.base (L2N.CX X.prog X.w) k f fd ps sp) (hr : Room (k + 1) X.A) (hg : Gl X x) (hm : X.mg x = some (.ref C)) (hb : Binds X.K fd ps []) (ha : PA X (e :: es) t)
    (hdb : (x == ("__debug__" : Str)) = false := by decide) (he : starEach (e :: es) X.env = (false, eval e X.env) :: starEach es X.env := by rfl) (hpl : (backTo pos (starEach es X.env)).any (·.1) = false := by rfl) : PE X (.Call (.Name x p) (e :: es) [] pos) (tMk C sp Wx t) := by
  constructor
  intro pins s σ H Q I h
  apply wpAny_Call_Name_kw (ld_glob I hg hm _ hdb)
  apply PySem.W.callWith_K (h₀ := X.base) I.ok.mod.kin M.kp _ he hpl
  refine thn (ha.run pos pins s σ H _ I h) ?_
  rintro us s1 ⟨vs, H1, I1, r, q⟩
  exact ⟨I1.kIn, run_mk tk M F hr hb I1 r q⟩
theorem pe_mk0 (tk : L2N.Takes X Wx) (M : Mk X.K C f) (F : FnOk X.prog X.w X.K X.mg X.base (L2N.CX X.prog X.w) k f fd ps sp) (hr : Room (k + 1) X.A) (hg : Gl X x) (hm : X.mg x = some (.ref C)) (hb : Binds X.K fd ps [])
    (hdb : (x == ("__debug__" : Str)) = false := by decide) : PE X (.Call (.Name x p) [] [] pos) (tMk C sp Wx tNil) := by
  constructor
  intro pins s σ H Q I h
  apply wpAny_Call_Name_kw (ld_glob I hg hm _ hdb)
  exact PySem.W.callWith_K0 I.kIn M.kp (run_mk (us := []) tk M F hr hb I .nil h)
end
/-- the class c, its __init__ -/
def Mkr (P : Program) (w : World) (K : PySem.W.Frag) (mg : Str → Option Value) (base : Heap) (k : Nat) (c : Str) (ps : List Str) (g : FSem) : Prop :=
  ∃ C f fd, mg c = some (.ref C) ∧ Mk K C f ∧ Binds K fd ps [] ∧ FnOk P w K mg base (L2N.CX P w) k f fd ps (spF K mg ps.length g)
section
variable {X : Cx} {Wx : WX} {k : Nat} {ps : List Str} {p0 : Str} {g : FSem} {c : Str} {pos p : Pos} {a : Expr} {es : List Expr} {ma : M (List Arg)}
theorem so_mk (tk : L2N.Takes X Wx) (F : Mkr X.prog X.w X.K X.mg X.base k c (p0 :: ps) g) (hr : Room (k + 1) X.A) (hg : Gl X c) (ha : SA X (a :: es) ma) (hn : ∀ as e e', ma e = some (as, e') → as.length = ps.length)
    (hdb : (c == ("__debug__" : Str)) = false := by decide) (he : starEach (a :: es) X.env = (false, eval a X.env) :: starEach es X.env := by rfl) (hpl : (backTo pos (starEach es X.env)).any (·.1) = false := by rfl) : SO X Wx (.Call (.Name c p) (a :: es) [] pos) (mMake c g ma) := by
  obtain ⟨C, f, fd, hC, M, hb, F⟩ := F
  exact PE.imp (pe_mk tk M F hr hg hC hb ha hdb he hpl) fun σ H Q h => make_step hC hn h
theorem so_mk0 (tk : L2N.Takes X Wx) (F : Mkr X.prog X.w X.K X.mg X.base k c [p0] g) (hr : Room (k + 1) X.A) (hg : Gl X c)
    (hdb : (c == ("__debug__" : Str)) = false := by decide) : SO X Wx (.Call (.Name c p) [] [] pos) (mMake c g aNil) := by
  obtain ⟨C, f, fd, hC, M, hb, F⟩ := F
  refine PE.imp (pe_mk0 tk M F hr hg hC hb hdb) fun σ H Q h => ?_
  obtain ⟨I, e, Fs, R, as, e', h1, h2⟩ := make_step (n := 0) hC (fun as e e' h => by cases h; rfl) h
  cases h1
  exact h2 [] I Fs H R Ext.refl rfl
end
/-! ### fields of frozen instances -/
def dFld (c f : Str) : D → Option D
  | .inst c' gs => if c' = c then gs.lookup f else none
  | _ => none
section
variable {X : Cx} {o : Expr} {mo : M D} {fo : P D} {c f : Str} {pos : Pos}
theorem fld_of {K : PySem.W.Frag} {mg : Str → Option Value} {I H : Hp} {d z : D} {v : V} (hC : ∀ C, mg c = some (.ref C) → Cls K C ∧ NoAttr K C f) (s : Ex I H) (r : Rp K mg I d v) (h : dFld c f d = some z) : ∃ a C dx fs v', v = .ref a ∧ H a = some (.ins C dx fs) ∧ Cls K C ∧ NoAttr K C f ∧ fs.lookup f = some v' ∧ Rp K mg I z v' := by
  unfold dFld at h
  split at h
  · rename_i c' gs
    split at h
    · rename_i hc
      subst hc
      simp only [Rp] at r
      obtain ⟨a, C, dx, fs, rfl, hc, ha, hF⟩ := r
      obtain ⟨x, hx, rx⟩ := hF.look.1 z h
      exact ⟨a, C, dx, fs, x, rfl, s _ _ ha, (hC C hc).1, (hC C hc).2, hx, rx⟩
    · cases h
  · cases h
theorem se_fld (ho : SE X o mo) (hC : ∀ C, X.mg c = some (.ref C) → Cls X.K C ∧ NoAttr X.K C f) (hb : attributeBase o f X.env (eval o X.env) = eval o X.env := by rfl) : SE X (.Attribute o f pos) (mUn (dFld c f) mo) := by
  refine PE.imp (pe_fld ho hb) fun σ H Q ⟨I, e, Fs, R, d', e', hm, k⟩ => ?_
  obtain ⟨⟨x, e1⟩, h1, hm⟩ := Option.bind_eq_some_iff.mp hm
  obtain ⟨z, h3, hm⟩ := Option.map_eq_some_iff.mp hm
  cases hm
  refine ⟨I, e, Fs, R, x, e1, h1, fun v I1 F1 H1 R1 x1 r1 => ?_⟩
  obtain ⟨a, C, dx, fs, v', q1, q2, q3, q4, q5, q6⟩ := fld_of hC R1.sub r1 h3
  exact ⟨a, C, dx, fs, v', q1, q2, q3, q4, q5, k v' I1 F1 H1 R1 x1 q6⟩
theorem sv_fld (ho : SV X o fo) (hC : ∀ C, X.mg c = some (.ref C) → Cls X.K C ∧ NoAttr X.K C f) (hb : attributeBase o f X.env (eval o X.env) = eval o X.env := by rfl) : SV X (.Attribute o f pos) (vUn (dFld c f) fo) := by
  refine PE.imp (pe_fld ho hb) fun σ H Q ⟨I, e, Fs, R, d', hm, k⟩ => ?_
  obtain ⟨x, h1, h3⟩ := Option.bind_eq_some_iff.mp hm
  refine ⟨I, e, Fs, R, x, h1, fun v I1 H1 g1 r1 => ?_⟩
  obtain ⟨a, C, dx, fs, v', q1, q2, q3, q4, q5, q6⟩ := fld_of hC (g1.rel R).1.sub r1 h3
  exact ⟨a, C, dx, fs, v', q1, q2, q3, q4, q5, k v' I1 H1 g1 q6⟩
end
end MV

namespace MV
open PySem L2
variable [TB]

/-! ### an owned thing is frozen -/
mutual
def frz : W → Option D
  | .p d => some d
  | .ol ws => (frzL ws).map .lst
  | .ot ws => (frzL ws).map .tup
  | .od es => (frzK es).map .dict
  | .oi c fs => (frzF fs).map (.inst c)
  | .ex _ => none
def frzL : List W → Option (List D)
  | [] => some []
  | w :: ws => (frz w).bind fun d => (frzL ws).map (d :: ·)
def frzK : List (Key × W) → Option (List (Key × D))
  | [] => some []
  | (k, w) :: ws => (frz w).bind fun d => (frzK ws).map ((k, d) :: ·)
def frzF : List (Str × W) → Option (List (Str × D))
  | [] => some []
  | (k, w) :: ws => (frz w).bind fun d => (frzF ws).map ((k, d) :: ·)
end
/-- behind some dicts' locking -/
inductive Lk (P : Hp → Prop) : Hp → Prop where
  | done {H : Hp} (h : P H) : Lk P H
  | lock {H : Hp} (d : Addr) (kvs : List (Key × V)) (h : H d = some (.dK kvs)) (k : ∀ od, Lk P (upd H d (.frz od (.dK kvs)))) : Lk P H
theorem ps_lk {X : Cx} {st : Stmt} {t : TS} (h : PS X st t) : PS X st (fun D σ H => Lk (fun H' => t D σ H') H) := ⟨fun pins s σ H D I hw => by
  revert I
  induction hw with
  | done q => exact fun I => h.run pins s σ _ D I q
  | lock d kvs hd _ ih =>
    intro I
    obtain ⟨od, I1⟩ := I.lock hd True.intro
    exact ih od I1⟩
section
variable {K : PySem.W.Frag} {mg : Str → Option Value} {P : Hp → Prop}
mutual
theorem frz_ok : ∀ (w : W) (d : D) (v : V) (F : List Addr) (I H : Hp), frz w = some d → Ro K mg I H w v F → F.Nodup → (∀ b ∈ F, I b = none) → Ex I H →
    (∀ I' H', Ex I I' → Ex I' H' → (∀ b, b ∉ F → I' b = I b ∧ H' b = H b) → (∀ b, b ∈ F → H' b ≠ none) → Rp K mg I' d v → Lk P H') → Lk P H
  | .p d0, d, v, F, I, H, e, h, nd, out, s, k => by
    cases e
    simp only [Ro] at h
    obtain ⟨h, rfl⟩ := h
    exact k I H (Ex.refl _) s (fun _ _ => ⟨rfl, rfl⟩) (fun b q => by cases q) h
  | .ol ws, d, v, F, I, H, e, h, nd, out, s, k => by
    obtain ⟨ds, e1, rfl⟩ := Option.map_eq_some_iff.mp (show (frzL ws).map .lst = some d from e)
    simp only [Ro] at h
    obtain ⟨a, xs, G, rfl, ha, rfl, hL⟩ := h
    rw [List.nodup_cons] at nd
    refine frzL_ok ws ds xs G I H e1 hL nd.2 (fun b q => out b (by simp [q])) s fun I' H' ex s' off lv r => ?_
    have o := off a nd.1
    have hI : I' a = none := o.1.trans (out a (by simp))
    refine k (upd I' a (.lst xs)) H' (ex.trans (Ex.new hI)) (fun b u q => ?_) (fun b q => ?_) (fun b q => ?_) ?_
    · by_cases z : b = a
      · subst z; rw [upd_same] at q; cases q; exact o.2.trans ha
      · rw [upd_ne z] at q; exact s' b u q
    · have h1 : b ≠ a := fun z => q (by simp [z])
      have h2 : b ∉ G := fun z => q (by simp [z])
      rw [upd_ne h1]
      exact off b h2
    · rcases List.mem_cons.mp q with z | z
      · rw [z, o.2, ha]; exact fun y => by cases y
      · exact lv b z
    · simp only [Rp]
      exact ⟨a, xs, rfl, upd_same, r.mono (Ex.new hI) _ _⟩
  | .ot ws, d, v, F, I, H, e, h, nd, out, s, k => by
    obtain ⟨ds, e1, rfl⟩ := Option.map_eq_some_iff.mp (show (frzL ws).map .tup = some d from e)
    simp only [Ro] at h
    obtain ⟨a, xs, G, rfl, ha, rfl, hL⟩ := h
    rw [List.nodup_cons] at nd
    refine frzL_ok ws ds xs G I H e1 hL nd.2 (fun b q => out b (by simp [q])) s fun I' H' ex s' off lv r => ?_
    have o := off a nd.1
    have hI : I' a = none := o.1.trans (out a (by simp))
    refine k (upd I' a (.tup xs)) H' (ex.trans (Ex.new hI)) (fun b u q => ?_) (fun b q => ?_) (fun b q => ?_) ?_
    · by_cases z : b = a
      · subst z; rw [upd_same] at q; cases q; exact o.2.trans ha
      · rw [upd_ne z] at q; exact s' b u q
    · have h1 : b ≠ a := fun z => q (by simp [z])
      have h2 : b ∉ G := fun z => q (by simp [z])
      rw [upd_ne h1]
      exact off b h2
    · rcases List.mem_cons.mp q with z | z
      · rw [z, o.2, ha]; exact fun y => by cases y
      · exact lv b z
    · simp only [Rp]
      exact ⟨a, xs, rfl, (.of (upd_same : upd _ a (HO.tup xs) a = some _)), r.mono (Ex.new hI) _ _⟩
  | .od ws, d, v, F, I, H, e, h, nd, out, s, k => by
    obtain ⟨ds, e1, rfl⟩ := Option.map_eq_some_iff.mp (show (frzK ws).map .dict = some d from e)
    simp only [Ro] at h
    obtain ⟨a, xs, G, rfl, ha, rfl, hL⟩ := h
    rw [List.nodup_cons] at nd
    refine frzK_ok ws ds xs G I H e1 hL nd.2 (fun b q => out b (by simp [q])) s fun I' H' ex s' off lv r => ?_
    have o := off a nd.1
    have hI : I' a = none := o.1.trans (out a (by simp))
    refine .lock a xs (o.2.trans ha) fun od => ?_
    refine k (upd I' a (.frz od (.dK xs))) (upd H' a (.frz od (.dK xs))) (ex.trans (Ex.new hI)) (fun b u q => ?_) (fun b q => ?_) (fun b q => ?_) ?_
    · by_cases z : b = a
      · subst z; rw [upd_same] at q ⊢; exact q
      · rw [upd_ne z] at q ⊢; exact s' b u q
    · have h1 : b ≠ a := fun z => q (by simp [z])
      have h2 : b ∉ G := fun z => q (by simp [z])
      rw [upd_ne h1, upd_ne h1]
      exact off b h2
    · by_cases z : b = a
      · subst z; rw [upd_same]; exact fun y => by cases y
      · rw [upd_ne z]
        rcases List.mem_cons.mp q with y | y
        · exact absurd y z
        · exact lv b y
    · simp only [Rp]
      exact ⟨a, od, xs, rfl, upd_same, r.mono (Ex.new hI) _ _⟩
  | .oi c ws, d, v, F, I, H, e, h, nd, out, s, k => by
    obtain ⟨ds, e1, rfl⟩ := Option.map_eq_some_iff.mp (show (frzF ws).map (.inst c) = some d from e)
    simp only [Ro] at h
    obtain ⟨a, C, dx, xs, G, rfl, hc, ha, rfl, hL⟩ := h
    rw [List.nodup_cons] at nd
    refine frzF_ok ws ds xs G I H e1 hL nd.2 (fun b q => out b (by simp [q])) s fun I' H' ex s' off lv r => ?_
    have o := off a nd.1
    have hI : I' a = none := o.1.trans (out a (by simp))
    refine k (upd I' a (.ins C dx xs)) H' (ex.trans (Ex.new hI)) (fun b u q => ?_) (fun b q => ?_) (fun b q => ?_) ?_
    · by_cases z : b = a
      · subst z; rw [upd_same] at q; cases q; exact o.2.trans ha
      · rw [upd_ne z] at q; exact s' b u q
    · have h1 : b ≠ a := fun z => q (by simp [z])
      have h2 : b ∉ G := fun z => q (by simp [z])
      rw [upd_ne h1]
      exact off b h2
    · rcases List.mem_cons.mp q with z | z
      · rw [z, o.2, ha]; exact fun y => by cases y
      · exact lv b z
    · simp only [Rp]
      exact ⟨a, C, dx, xs, rfl, hc, upd_same, r.mono (Ex.new hI) _ _⟩
  | .ex _, d, v, F, I, H, e, h, nd, out, s, k => by cases e
theorem frzL_ok : ∀ (ws : List W) (ds : List D) (xs : List V) (F : List Addr) (I H : Hp), frzL ws = some ds → RoL K mg I H ws xs F → F.Nodup → (∀ b ∈ F, I b = none) → Ex I H →
    (∀ I' H', Ex I I' → Ex I' H' → (∀ b, b ∉ F → I' b = I b ∧ H' b = H b) → (∀ b, b ∈ F → H' b ≠ none) → RpL K mg I' ds xs → Lk P H') → Lk P H
  | [], ds, xs, F, I, H, e, h, nd, out, s, k => by
    cases e
    simp only [RoL] at h
    obtain ⟨rfl, rfl⟩ := h
    exact k I H (Ex.refl _) s (fun _ _ => ⟨rfl, rfl⟩) (fun b q => by cases q) RpL.nil
  | w :: ws, ds, xs, F, I, H, e, h, nd, out, s, k => by
    obtain ⟨d, e1, e2⟩ := Option.bind_eq_some_iff.mp (show ((frz w).bind fun d => (frzL ws).map (d :: ·)) = some ds from e)
    obtain ⟨ds', e3, rfl⟩ := Option.map_eq_some_iff.mp e2
    simp only [RoL] at h
    obtain ⟨x, r, F1, F2, rfl, rfl, h1, h2⟩ := h
    rw [List.nodup_append] at nd
    have n21 : ∀ b ∈ F2, b ∉ F1 := fun b hb q => nd.2.2 b q b hb rfl
    refine frz_ok w d x F1 I H e1 h1 nd.1 (fun b q => out b (by simp [q])) s fun I1 H1 ex1 s1 off1 lv1 r1 => ?_
    refine frzL_ok ws ds' r F2 I1 H1 e3 (h2.frame ex1 _ _ _ fun b hb o ho _ => by rw [(off1 b (n21 b hb)).2]; exact ho) nd.2.1 (fun b q => by rw [(off1 b (n21 b q)).1]; exact out b (by simp [q])) s1 fun I2 H2 ex2 s2 off2 lv2 r2 => ?_
    refine k I2 H2 (ex1.trans ex2) s2 (fun b q => ?_) (fun b q => ?_) (RpL.cons (r1.mono ex2 _ _) r2)
    · have q1 : b ∉ F1 := fun z => q (by simp [z])
      have q2 : b ∉ F2 := fun z => q (by simp [z])
      exact ⟨(off2 b q2).1.trans (off1 b q1).1, (off2 b q2).2.trans (off1 b q1).2⟩
    · by_cases z : b ∈ F2
      · exact lv2 b z
      · rw [(off2 b z).2]
        exact lv1 b (by rcases List.mem_append.mp q with y | y; exact y; exact absurd y z)
theorem frzK_ok : ∀ (ws : List (Key × W)) (ds : List (Key × D)) (xs : List (Key × V)) (F : List Addr) (I H : Hp), frzK ws = some ds → RoK K mg I H ws xs F → F.Nodup → (∀ b ∈ F, I b = none) → Ex I H →
    (∀ I' H', Ex I I' → Ex I' H' → (∀ b, b ∉ F → I' b = I b ∧ H' b = H b) → (∀ b, b ∈ F → H' b ≠ none) → RpK K mg I' ds xs → Lk P H') → Lk P H
  | [], ds, xs, F, I, H, e, h, nd, out, s, k => by
    cases e
    simp only [RoK] at h
    obtain ⟨rfl, rfl⟩ := h
    exact k I H (Ex.refl _) s (fun _ _ => ⟨rfl, rfl⟩) (fun b q => by cases q) (by simp only [RpK])
  | (ky, w) :: ws, ds, xs, F, I, H, e, h, nd, out, s, k => by
    obtain ⟨d, e1, e2⟩ := Option.bind_eq_some_iff.mp (show ((frz w).bind fun d => (frzK ws).map ((ky, d) :: ·)) = some ds from e)
    obtain ⟨ds', e3, rfl⟩ := Option.map_eq_some_iff.mp e2
    simp only [RoK] at h
    obtain ⟨x, r, F1, F2, rfl, rfl, h1, h2⟩ := h
    rw [List.nodup_append] at nd
    have n21 : ∀ b ∈ F2, b ∉ F1 := fun b hb q => nd.2.2 b q b hb rfl
    refine frz_ok w d x F1 I H e1 h1 nd.1 (fun b q => out b (by simp [q])) s fun I1 H1 ex1 s1 off1 lv1 r1 => ?_
    refine frzK_ok ws ds' r F2 I1 H1 e3 (h2.frame ex1 _ _ _ fun b hb o ho _ => by rw [(off1 b (n21 b hb)).2]; exact ho) nd.2.1 (fun b q => by rw [(off1 b (n21 b q)).1]; exact out b (by simp [q])) s1 fun I2 H2 ex2 s2 off2 lv2 r2 => ?_
    refine k I2 H2 (ex1.trans ex2) s2 (fun b q => ?_) (fun b q => ?_) ?_
    · have q1 : b ∉ F1 := fun z => q (by simp [z])
      have q2 : b ∉ F2 := fun z => q (by simp [z])
      exact ⟨(off2 b q2).1.trans (off1 b q1).1, (off2 b q2).2.trans (off1 b q1).2⟩
    · by_cases z : b ∈ F2
      · exact lv2 b z
      · rw [(off2 b z).2]
        exact lv1 b (by rcases List.mem_append.mp q with y | y; exact y; exact absurd y z)
    · simp only [RpK]
      exact ⟨x, r, rfl, r1.mono ex2 _ _, r2⟩
theorem frzF_ok : ∀ (ws : List (Str × W)) (ds : List (Str × D)) (xs : List (Str × V)) (F : List Addr) (I H : Hp), frzF ws = some ds → RoF K mg I H ws xs F → F.Nodup → (∀ b ∈ F, I b = none) → Ex I H →
    (∀ I' H', Ex I I' → Ex I' H' → (∀ b, b ∉ F → I' b = I b ∧ H' b = H b) → (∀ b, b ∈ F → H' b ≠ none) → RpF K mg I' ds xs → Lk P H') → Lk P H
  | [], ds, xs, F, I, H, e, h, nd, out, s, k => by
    cases e
    simp only [RoF] at h
    obtain ⟨rfl, rfl⟩ := h
    exact k I H (Ex.refl _) s (fun _ _ => ⟨rfl, rfl⟩) (fun b q => by cases q) (by simp only [RpF])
  | (ky, w) :: ws, ds, xs, F, I, H, e, h, nd, out, s, k => by
    obtain ⟨d, e1, e2⟩ := Option.bind_eq_some_iff.mp (show ((frz w).bind fun d => (frzF ws).map ((ky, d) :: ·)) = some ds from e)
    obtain ⟨ds', e3, rfl⟩ := Option.map_eq_some_iff.mp e2
    simp only [RoF] at h
    obtain ⟨x, r, F1, F2, rfl, rfl, h1, h2⟩ := h
    rw [List.nodup_append] at nd
    have n21 : ∀ b ∈ F2, b ∉ F1 := fun b hb q => nd.2.2 b q b hb rfl
    refine frz_ok w d x F1 I H e1 h1 nd.1 (fun b q => out b (by simp [q])) s fun I1 H1 ex1 s1 off1 lv1 r1 => ?_
    refine frzF_ok ws ds' r F2 I1 H1 e3 (h2.frame ex1 _ _ _ fun b hb o ho _ => by rw [(off1 b (n21 b hb)).2]; exact ho) nd.2.1 (fun b q => by rw [(off1 b (n21 b q)).1]; exact out b (by simp [q])) s1 fun I2 H2 ex2 s2 off2 lv2 r2 => ?_
    refine k I2 H2 (ex1.trans ex2) s2 (fun b q => ?_) (fun b q => ?_) ?_
    · have q1 : b ∉ F1 := fun z => q (by simp [z])
      have q2 : b ∉ F2 := fun z => q (by simp [z])
      exact ⟨(off2 b q2).1.trans (off1 b q1).1, (off2 b q2).2.trans (off1 b q1).2⟩
    · by_cases z : b ∈ F2
      · exact lv2 b z
      · rw [(off2 b z).2]
        exact lv1 b (by rcases List.mem_append.mp q with y | y; exact y; exact absurd y z)
    · simp only [RpF]
      exact ⟨x, r, rfl, r1.mono ex2 _ _, r2⟩
end
theorem Rel.frz {I H : Hp} {e : Env} {Fs : Fp} {σ : L2.St} {p : Pth} {w u : W} {v0 x : V} {d : D} (R : Rel K mg I e Fs σ H) (hw : e[p.1]? = some (some w)) (hv : σ[p.1]? = some (some v0)) (hA : At H w v0 p.2 u x) (hf : MV.frz u = some d)
    (k : ∀ I' Fs' H', Rel K mg I' (putE e p (.p d)) Fs' σ H' → Ext Fs I H Fs' I' H' → P H') : Lk P H := by
  obtain ⟨v1, hv1, ro⟩ := R.at_ _ w hw
  rw [hv] at hv1
  cases hv1
  obtain ⟨A, G, B, hF, hG, kl⟩ := ro.lens p.2 hA
  have nd := R.nd p.1
  rw [hF] at nd
  rw [List.nodup_append, List.nodup_append] at nd
  obtain ⟨ndA, ⟨ndG, ndB, dGB⟩, dA⟩ := nd
  have inG : ∀ b, b ∈ G → b ∈ Fs p.1 := fun b hb => by rw [hF]; simp [hb]
  have inAB : ∀ b, b ∈ A ++ B → b ∈ Fs p.1 ∧ b ∉ G := fun b hb => by
    rcases List.mem_append.mp hb with q | q
    · exact ⟨by rw [hF]; simp [q], fun z => dA b q b (by simp [z]) rfl⟩
    · exact ⟨by rw [hF]; simp [q], fun z => dGB b z b q rfl⟩
  refine frz_ok u d x G I H hf hG ndG (fun b q => R.out _ b (inG b q)) R.sub fun I' H' ex s off lv r => .done ?_
  have ro' : Ro K mg I' H' (w.put p.2 (.p d)) v0 (A ++ B) := by
    have := kl I' H' (.p d) [] ex (fun b hb o ho _ => by
      have := inAB b (by rcases hb with z | z <;> simp [z])
      rw [(off b this.2).2]; exact ho) (by simp only [Ro]; exact ⟨r, trivial⟩)
    simpa using this
  have e1 : putE e p (.p d) = e.set p.1 (some (w.put p.2 (.p d))) := by unfold putE; rw [hw]
  have subF : ∀ j a, a ∈ putF Fs p.1 (A ++ B) j → a ∈ Fs j ∧ a ∉ G := fun j a ha => by
    by_cases z : j = p.1
    · subst z; rw [putF_same] at ha; exact inAB a ha
    · rw [putF_ne z] at ha
      exact ⟨ha, fun q => z (R.dj j p.1 a ha (inG a q))⟩
  have ot := fun (t : TbR I H) => t.off (I' := I') (H' := H') off (hG.nx _ _ _)
  refine k I' (putF Fs p.1 (A ++ B)) H' ⟨s, by rw [e1]; simp [R.len], fun j u' q => ?_, fun j => ?_, fun j l a h1 h2 => R.dj j l a (subF j a h1).1 (subF l a h2).1, fun j a ha => ?_, fun j a ha => ?_, ot R.tb⟩ ⟨⟨ex, fun a o ho hm _ => ?_, fun a ha => ?_, ot, fun a ps ho hm => ⟨ps, ((off a fun z => hm ⟨p.1, inG a z⟩).2).trans ho⟩⟩, fun a ⟨j, hj⟩ => .inl ⟨j, (subF j a hj).1⟩⟩
  · rw [e1] at q
    by_cases z : j = p.1
    · subst z
      have hl : p.1 < e.length := (List.getElem?_eq_some_iff.mp hw).1
      rw [List.getElem?_set_self hl] at q
      cases q
      rw [putF_same]
      exact ⟨v0, hv, ro'⟩
    · rw [List.getElem?_set_ne (Ne.symm z)] at q
      obtain ⟨y, hy, ry⟩ := R.at_ j u' q
      rw [putF_ne z]
      refine ⟨y, hy, ry.frame ex _ _ _ fun a ha o ho _ => ?_⟩
      rw [(off a fun q => z (R.dj j p.1 a ha (inG a q))).2]
      exact ho
  · by_cases z : j = p.1
    · subst z
      rw [putF_same, List.nodup_append]
      exact ⟨ndA, ndB, fun b hb c hc y => dA b hb c (by simp [hc]) y⟩
    · rw [putF_ne z]; exact R.nd j
  · have := subF j a ha
    rw [(off a this.2).1]
    exact R.out j a this.1
  · have := subF j a ha
    rw [(off a this.2).2]
    exact R.live j a this.1
  · have : a ∉ G := fun q => hm ⟨p.1, inG a q⟩
    rw [(off a this).2]
    exact ho
  · by_cases z : a ∈ G
    · exact .inr (.inr ⟨p.1, inG a z⟩)
    · rw [(off a z).1] at ha; exact .inl ha
end
/-- the place p is frozen, then s -/
def sFz (p : Pth) (s : S) : S := fun e => (atE e p).bind fun u => (frz u).bind fun d => s (putE e p (.p d))
theorem ss_fz {X : Cx} {A : Nat → Bool} {Wx : WX} {st : Stmt} {m : S} (p : Pth) (h : SS X A Wx st m) : SS X A Wx st (sFz p m) := PS.imp (ps_lk h) fun Dd σ H ⟨I, e, Fs, R, r, hm, k⟩ => by
  obtain ⟨u, h1, hm⟩ := Option.bind_eq_some_iff.mp hm
  obtain ⟨d, h2, hm⟩ := Option.bind_eq_some_iff.mp hm
  have hw : ∃ w, e[p.1]? = some (some w) ∧ w.sub p.2 = some u := by
    unfold atE at h1
    split at h1
    · rename_i w hw
      exact ⟨w, hw, h1⟩
    · cases h1
  obtain ⟨w, hw, hs⟩ := hw
  obtain ⟨v0, hv, ro⟩ := R.at_ _ w hw
  obtain ⟨x, hx⟩ := At.of p.2 ro hs
  exact R.frz hw hv hx h2 fun I' Fs' H' R' x' => ⟨I', _, Fs', R', r, hm, k.from x' Agr.refl⟩
end MV

namespace MV
open PySem L2
variable [TB]

/-! ### several values, owned or not -/
section
variable (K : PySem.W.Frag) (mg : Str → Option Value) (I H : Hp) (Fs : Fp)
def OwnL : List W → List V → List (List Addr) → Prop
  | [], vs, Gs => vs = [] ∧ Gs = []
  | w :: ws, vs, Gs => ∃ v vt F Gt, vs = v :: vt ∧ Gs = F :: Gt ∧ Own K mg I H Fs w v F ∧ (∀ a ∈ F, ∀ G ∈ Gt, a ∉ G) ∧ OwnL ws vt Gt
end
def tAW (K : PySem.W.Frag) (mg : Str → Option Value) (Wx : WX) (m : M (List W)) : TA := fun σ H Q => ∃ I e Fs, Rel K mg I e Fs σ H ∧ ∃ ws e', m e = some (ws, e') ∧
  (∀ vs I' Fs' H' Gs, Rel K mg I' e' Fs' σ H' → Ext Fs I H Fs' I' H' → OwnL K mg I' H' Fs' ws vs Gs → (∀ G ∈ Gs, ∀ a ∈ G, MF Fs a ∨ H a = none) → Q vs H') ∧
  ∀ y, ws = [.ex y] → ∀ cls d I' Fs' H', Rel K mg I' e' Fs' σ H' → Ext Fs I H Fs' I' H' → XR K mg I' y cls d → Wx cls d σ H'
def SAW (X : Cx) (Wx : WX) (es : List Expr) (m : M (List W)) : Prop := PA X es (tAW X.K X.mg Wx m)
def consW (w : W) (ws : List W) : List W := match ws with
  | [.ex z] => [.ex z]
  | ws => w :: ws
def wNil : M (List W) := fun e => some ([], e)
def wCons (m : M W) (r : M (List W)) : M (List W) := fun e => (m e).bind fun x => match x.1 with
  | .ex y => some ([.ex y], x.2)
  | w => (r x.2).map fun y => (consW w y.1, y.2)
section
variable {X : Cx} {Wx : WX} {a : Expr} {es : List Expr} {pos : Pos} {mw : M W} {r : M (List W)}
theorem saw_nil : SAW X Wx [] wNil := PA.imp pa_nil fun σ H Q ⟨I, e, Fs, R, ws, e', hm, k, _⟩ => by
  cases hm
  exact k [] I Fs H [] R Ext.refl ⟨rfl, rfl⟩ fun G q => by cases q
theorem saw_cons (h : SO X Wx a mw) (hr : SAW X Wx es r) (hs : starEach (a :: es) X.env = (false, eval a X.env) :: starEach es X.env := by rfl) : SAW X Wx (a :: es) (wCons mw r) := by
  refine PA.imp (pa_cons h hr hs) fun σ H Q ⟨I, e, Fs, R, ws, e', hm, k, kx⟩ => ?_
  obtain ⟨⟨w, e1⟩, h1, hm⟩ := Option.bind_eq_some_iff.mp hm
  refine ⟨I, e, Fs, R, w, e1, h1, fun v I1 F1 H1 Fw R1 x1 o1 hF => ?_, fun y hy cls d I1 F1 H1 R1 x1 xr => ?_⟩
  · have hm : (r e1).map (fun y => (consW w y.1, y.2)) = some (ws, e') := by
      cases w with
      | ex y => have q := o1.ro; simp only [Ro] at q
      | _ => exact hm
    obtain ⟨⟨wr, e2⟩, h2, hm⟩ := Option.map_eq_some_iff.mp hm
    cases hm
    refine ⟨I1, e1, F1, R1, wr, e2, h2, fun vs I2 F2 H2 Gs R2 x2 ol hG => ?_, fun y hy cls d I2 F2 H2 R2 x2 xr => ?_⟩
    · have hc : consW w wr = w :: wr := by
        unfold consW
        split
        · rename_i z
          obtain ⟨v, vt, F, Gt, _, _, o, _⟩ := ol
          have q := o.ro
          simp only [Ro] at q
        · rfl
      have live : ∀ b ∈ Fw, H1 b ≠ none := fun b hb => by
        obtain ⟨u, hu⟩ := o1.ro.live _ _ _ b hb
        rw [hu]; exact fun q => by cases q
      have o2 : Own X.K X.mg I2 H2 F2 w v Fw := o1.frame x2.g (fun b hb => o1.dj b hb) fun b hb q => by
        rcases x2.fp b q with z | z
        · exact o1.dj b hb z
        · exact live b hb z
      have ol' : OwnL X.K X.mg I2 H2 F2 (consW w wr) (v :: vs) (Fw :: Gs) := by
        rw [hc]
        refine ⟨v, vs, Fw, Gs, rfl, rfl, o2, fun b hb G hGs q => ?_, ol⟩
        rcases hG G hGs b q with z | z
        · exact o1.dj b hb z
        · exact live b hb z
      refine k (v :: vs) I2 F2 H2 (Fw :: Gs) R2 (x1.trans x2) ol' fun G hG' b hb => ?_
      rcases List.mem_cons.mp hG' with z | z
      · rw [z] at hb; exact hF b hb
      · rcases hG G z b hb with y | y
        · exact x1.fp b y
        · cases q : H b with
          | none => exact .inr rfl
          | some u =>
            by_cases m : MF Fs b
            · exact .inl m
            · rw [x1.g.back m y] at q; cases q
    · subst hy
      exact kx y rfl cls d I2 F2 H2 R2 (x1.trans x2) xr
  · subst hy
    cases hm
    exact kx y rfl cls d I1 F1 H1 R1 x1 xr
/-- what is raised, or the list's use -/
def onW {α : Type} (ws : List W) (a : D → α) (b : List W → α) : α := match ws with
  | [.ex y] => a y
  | ws => b ws
theorem onW_own {K : PySem.W.Frag} {mg : Str → Option Value} {I H : Hp} {Fs : Fp} {α : Type} {ws : List W} {vs : List V} {Gs : List (List Addr)} {a : D → α} {b : List W → α} (o : OwnL K mg I H Fs ws vs Gs) : onW ws a b = b ws := by
  unfold onW
  split
  · rename_i z
    obtain ⟨v, vt, F, Gt, _, _, o, _⟩ := o
    have q := o.ro
    simp only [Ro] at q
  · rfl
def allPW : List W → Option (List D)
  | [] => some []
  | .p d :: ws => (allPW ws).map (d :: ·)
  | _ => none
theorem allPW_rp {K : PySem.W.Frag} {mg : Str → Option Value} {I H : Hp} {Fs : Fp} : ∀ {ws : List W} {ds : List D} {vs : List V} {Gs : List (List Addr)}, allPW ws = some ds → OwnL K mg I H Fs ws vs Gs → RpL K mg I ds vs
  | [], ds, vs, Gs, h, o => by cases h; obtain ⟨rfl, rfl⟩ := o; exact RpL.nil
  | .p d :: ws, ds, vs, Gs, h, o => by
    obtain ⟨es, h1, rfl⟩ := Option.map_eq_some_iff.mp (show (allPW ws).map (d :: ·) = some ds from h)
    obtain ⟨v, vt, F, Gt, rfl, rfl, o1, _, o2⟩ := o
    have q := o1.ro
    simp only [Ro] at q
    exact RpL.cons q.1 (allPW_rp h1 o2)
  | .ol _ :: _, ds, vs, Gs, h, o => by cases h
  | .ot _ :: _, ds, vs, Gs, h, o => by cases h
  | .od _ :: _, ds, vs, Gs, h, o => by cases h
  | .oi _ _ :: _, ds, vs, Gs, h, o => by cases h
  | .ex _ :: _, ds, vs, Gs, h, o => by cases h
/-- a tuple, a list of data -/
def mTupW (m : M (List W)) : M W := fun e => (m e).bind fun x => onW x.1 (fun y => some (.ex y, x.2)) fun ws => (allPW ws).bind fun ds => (fTup ds).map fun d => (.p d, x.2)
theorem so_tupW {x1 : Nat} {m : M (List W)} (h : SAW X Wx es m) : SO X Wx (.Tuple es x1 pos) (mTupW m) := PE.imp (pe_tup h) fun σ H Q ⟨I, e, Fs, R, w, e', hm, k, kx⟩ => by
  obtain ⟨⟨ws, e1⟩, h1, hm⟩ := Option.bind_eq_some_iff.mp hm
  refine ⟨I, e, Fs, R, ws, e1, h1, fun vs I1 F1 H1 Gs R1 x1 ol hG => ?_, fun y hy cls d I1 F1 H1 R1 x1 xr => ?_⟩
  · have hm : ((allPW ws).bind fun ds => (fTup ds).map fun d => (W.p d, e1)) = some (w, e') := (onW_own (a := fun y => some (W.ex y, e1)) (b := fun ws => (allPW ws).bind fun ds => (fTup ds).map fun d => (W.p d, e1)) ol).symm.trans hm
    obtain ⟨ds, h2, hm⟩ := Option.bind_eq_some_iff.mp hm
    obtain ⟨d, h3, hm⟩ := Option.map_eq_some_iff.mp hm
    cases hm
    refine cd_tupD I1 H1 ds d vs _ R1.sub (allPW_rp h2 ol) h3 fun v' I3 H3 g3 r3 => ?_
    obtain ⟨R3, x3⟩ := g3.rel R1
    exact k v' I3 F1 H3 [] R3 (x1.trans x3) (.pure r3) fun _ z => by cases z
  · subst hy
    cases hm
    exact kx y rfl cls d I1 F1 H1 R1 x1 xr
theorem OwnL.roL {K : PySem.W.Frag} {mg : Str → Option Value} {I H : Hp} {Fs : Fp} : ∀ {ws : List W} {vs : List V} {Gs : List (List Addr)}, OwnL K mg I H Fs ws vs Gs → RoL K mg I H ws vs Gs.flatten ∧ Gs.flatten.Nodup ∧ (∀ a ∈ Gs.flatten, I a = none) ∧ ∀ a ∈ Gs.flatten, ¬ MF Fs a
  | [], vs, Gs, o => by obtain ⟨rfl, rfl⟩ := o; exact ⟨by simp [RoL], by simp, fun a q => by simp at q, fun a q => by simp at q⟩
  | w :: ws, vs, Gs, o => by
    obtain ⟨v, vt, F, Gt, rfl, rfl, o1, dj, o2⟩ := o
    obtain ⟨k1, k2, k3, k4⟩ := o2.roL
    refine ⟨?_, ?_, fun a q => ?_, fun a q => ?_⟩
    · rw [List.flatten_cons]
      simp only [RoL]
      exact ⟨v, vt, F, Gt.flatten, rfl, rfl, o1.ro, k1⟩
    · rw [List.flatten_cons, List.nodup_append]
      refine ⟨o1.nd, k2, fun a ha b hb z => ?_⟩
      subst z
      obtain ⟨G, h1, h2⟩ := List.mem_flatten.mp hb
      exact dj a ha G h1 h2
    · rw [List.flatten_cons] at q
      rcases List.mem_append.mp q with z | z
      · exact o1.out a z
      · exact k3 a z
    · rw [List.flatten_cons] at q
      rcases List.mem_append.mp q with z | z
      · exact o1.dj a z
      · exact k4 a z
def mOlW (m : M (List W)) : M W := fun e => (m e).bind fun x => onW x.1 (fun y => some (.ex y, x.2)) fun ws => if ws.length ≤ 1000000 then some (.ol ws, x.2) else none
theorem so_lstW {m : M (List W)} (h : SAW X Wx es m) : SO X Wx (.List es pos) (mOlW m) := PE.imp (pe_lst h) fun σ H Q ⟨I, e, Fs, R, w, e', hm, k, kx⟩ => by
  obtain ⟨⟨ws, e1⟩, h1, hm⟩ := Option.bind_eq_some_iff.mp hm
  refine ⟨I, e, Fs, R, ws, e1, h1, fun vs I1 F1 H1 Gs R1 x1 ol hG => ?_, fun y hy cls d I1 F1 H1 R1 x1 xr => ?_⟩
  · have hm : (if ws.length ≤ 1000000 then some (W.ol ws, e1) else none) = some (w, e') := (onW_own (a := fun y => some (W.ex y, e1)) (b := fun ws => if ws.length ≤ 1000000 then some (W.ol ws, e1) else none) ol).symm.trans hm
    split at hm
    · rename_i hz
      cases hm
      obtain ⟨k1, k2, k3, k4⟩ := ol.roL
      refine ⟨by rw [← k1.len]; exact lim_le hz, fun q hq => ?_⟩
      have R2 := R1.loose (o := .lst vs) hq
      have hI : I1 q = none := sub_none R1.sub hq
      have nq : q ∉ Gs.flatten := fun z => by
        obtain ⟨u, hu⟩ := k1.live _ _ _ q z
        rw [hq] at hu; cases hu
      have hback : ∀ b, H1 b = none → MF Fs b ∨ H b = none := fun b hb => by
        cases e0 : H b with
        | none => exact .inr rfl
        | some u =>
          by_cases mm : MF Fs b
          · exact .inl mm
          · rw [x1.g.back mm hb] at e0; cases e0
      refine k (.ref q) I1 F1 _ (q :: Gs.flatten) R2 ⟨⟨x1.g.ex, fun c u q' mm nt => Ex.new hq c u (x1.g.fr c u q' mm nt), x1.g.new, fun t => (x1.g.tb t).ext (Ex.new hq), fun a ps q mm => let ⟨p', h'⟩ := x1.g.tl a ps q mm; ⟨p', Ex.new hq a _ h'⟩⟩, x1.fp⟩ ⟨?_, List.nodup_cons.mpr ⟨nq, k2⟩, fun c hc => ?_, fun c hc => ?_⟩ fun c hc => ?_
      · simp only [Ro]
        exact ⟨q, vs, _, rfl, upd_same, rfl, k1.frame (Ex.refl _) _ _ _ fun b hb o ho _ => by rw [upd_ne (fun z => by subst z; exact nq hb)]; exact ho⟩
      · rcases List.mem_cons.mp hc with rfl | hc
        · exact hI
        · exact k3 c hc
      · rcases List.mem_cons.mp hc with rfl | hc
        · exact fun ⟨i, hi⟩ => R1.live i c hi hq
        · exact k4 c hc
      · rcases List.mem_cons.mp hc with rfl | hc
        · exact hback c hq
        · obtain ⟨G, h3, h4⟩ := List.mem_flatten.mp hc
          exact hG G h3 c h4
    · cases hm
  · subst hy
    cases hm
    exact kx y rfl cls d I1 F1 H1 R1 x1 xr
end
/-! ### a, b = x, y -/
def setA : List Nat → List W → Env → Env
  | i :: is, w :: ws, e => setA is ws (e.set i (some w))
  | _, _, e => e
def setV : List Nat → List V → L2.St → L2.St
  | i :: is, w :: ws, e => setV is ws (e.set i (some w))
  | _, _, e => e
theorem setA_ok {K : PySem.W.Frag} {mg : Str → Option Value} {I H : Hp} : ∀ {is : List Nat} {ws : List W} {vs : List V} {Gs : List (List Addr)} {e : Env} {Fs : Fp} {σ : L2.St}, Rel K mg I e Fs σ H → OwnL K mg I H Fs ws vs Gs → ∃ F', Rel K mg I (setA is ws e) F' (setV is vs σ) H ∧ ∀ a, MF F' a → MF Fs a ∨ ∃ G ∈ Gs, a ∈ G
  | [], ws, vs, Gs, e, Fs, σ, R, o => ⟨Fs, by cases ws <;> exact R, fun a m => .inl m⟩
  | i :: is, [], vs, Gs, e, Fs, σ, R, o => by obtain ⟨rfl, rfl⟩ := o; exact ⟨Fs, R, fun a m => .inl m⟩
  | i :: is, w :: ws, vs, Gs, e, Fs, σ, R, o => by
    obtain ⟨v, vt, F, Gt, rfl, rfl, o1, dj, o2⟩ := o
    have R1 := R.put (i := i) o1
    have o3 : OwnL K mg I H (putF Fs i F) ws vt Gt := by
      have : ∀ {ws : List W} {vt : List V} {Gt : List (List Addr)}, (∀ a ∈ F, ∀ G ∈ Gt, a ∉ G) → OwnL K mg I H Fs ws vt Gt → OwnL K mg I H (putF Fs i F) ws vt Gt := by
        intro ws
        induction ws with
        | nil => intro vt Gt _ h; exact h
        | cons u us ih =>
          intro vt Gt dj h
          obtain ⟨v2, vt2, F2, Gt2, rfl, rfl, p1, p2, p3⟩ := h
          refine ⟨v2, vt2, F2, Gt2, rfl, rfl, ⟨p1.ro, p1.nd, p1.out, fun a ha m => ?_⟩, p2, ih (fun a ha G hG => dj a ha G (by simp [hG])) p3⟩
          rcases m.put with z | z
          · exact dj a z F2 (by simp) ha
          · exact p1.dj a ha z
      exact this dj o2
    obtain ⟨F', R', m'⟩ := setA_ok R1 o3
    refine ⟨F', R', fun a m => ?_⟩
    rcases m' a m with z | ⟨G, h1, h2⟩
    · rcases z.put with y | y
      · exact .inr ⟨F, by simp, y⟩
      · exact .inl y
    · exact .inr ⟨G, by simp [h1], h2⟩
theorem OwnL.len {K : PySem.W.Frag} {mg : Str → Option Value} {I H : Hp} {Fs : Fp} : ∀ {ws : List W} {vs : List V} {Gs : List (List Addr)}, OwnL K mg I H Fs ws vs Gs → vs.length = ws.length
  | [], vs, Gs, o => by obtain ⟨rfl, rfl⟩ := o; rfl
  | w :: ws, vs, Gs, o => by
    obtain ⟨v, vt, F, Gt, rfl, rfl, _, _, o2⟩ := o
    rw [List.length_cons, List.length_cons, o2.len]
def sPar (is : List Nat) (m : M (List W)) : S := fun e => (m e).bind fun x => onW x.1 (fun y => some (.ex y x.2)) fun ws => if ws.length = is.length then some (.nx (setA is ws x.2)) else none
def agrV {A : Nat → Bool} : ∀ {is : List Nat} {vs : List V} {σ τ : L2.St}, (∀ i ∈ is, A i = true) → Agr A σ τ → Agr A σ (setV is vs τ)
  | [], vs, σ, τ, h, a => by cases vs <;> exact a
  | i :: is, [], σ, τ, h, a => a
  | i :: is, v :: vs, σ, τ, h, a => agrV (τ := τ.set i (some v)) (fun j hj => h j (by simp [hj])) (a.set (h i (by simp)))
theorem par_run {K : PySem.W.Frag} {mg : Str → Option Value} {A : Nat → Bool} {Wx : WX} {is : List Nat} {m : M (List W)} {Dd : Ends} {σ : L2.St} {H : Hp} (hA : ∀ i ∈ is, A i = true) (h : tS K mg A Wx (sPar is m) Dd σ H) :
    tAW K mg Wx m σ H fun vs H1 => vs.length = is.length ∧ ∀ H2, (∃ p o, H1 p = none ∧ H2 = upd H1 p o) ∨ H2 = H1 → Dd.nx (setV is vs σ) H2 := by
  obtain ⟨I, e, Fs, R, r, hm, k⟩ := h
  obtain ⟨⟨ws, e1⟩, h1, hm⟩ := Option.bind_eq_some_iff.mp hm
  refine ⟨I, e, Fs, R, ws, e1, h1, fun vs I1 F1 H1 Gs R1 x1 ol hG => ?_, fun y hy cls d I1 F1 H1 R1 x1 xr => ?_⟩
  · have hm : (if ws.length = is.length then some (SR.nx (setA is ws e1)) else none) = some r := (onW_own (a := fun y => some (SR.ex y e1)) (b := fun ws => if ws.length = is.length then some (SR.nx (setA is ws e1)) else none) ol).symm.trans hm
    split at hm
    · rename_i hz
      cases hm
      refine ⟨by rw [ol.len]; exact hz, fun H2 hH2 => ?_⟩
      obtain ⟨F', R', m'⟩ := setA_ok (is := is) R1 ol
      have fp : ∀ a, MF F' a → MF Fs a ∨ H a = none := fun a q => by
        rcases m' a q with z | ⟨G, h3, h4⟩
        · exact x1.fp a z
        · exact hG G h3 a h4
      rcases hH2 with ⟨p, o, hp, rfl⟩ | rfl
      · exact k _ I1 F' _ (R'.loose hp) ⟨⟨x1.g.ex, fun c u q' mm nt => Ex.new hp c u (x1.g.fr c u q' mm nt), x1.g.new, fun t => (x1.g.tb t).ext (Ex.new hp), fun a ps q mm => let ⟨p', h'⟩ := x1.g.tl a ps q mm; ⟨p', Ex.new hp a _ h'⟩⟩, fp⟩ (agrV hA Agr.refl)
      · exact k _ I1 F' _ R' ⟨x1.g, fp⟩ (agrV hA Agr.refl)
    · cases hm
  · subst hy
    cases hm
    exact k cls d σ I1 F1 H1 R1 x1 Agr.refl xr
section
variable {X : Cx} {A : Nat → Bool} {Wx : WX} {a b c : Expr} {x y z : Str} {i j l : Nat} {m : M (List W)} {px py pz pt pt2 pos : Pos} {kt k2 : Nat}
theorem ss_par2 (hA : A i = true) (hA2 : A j = true) (hc : X.calm = true) (hN : X.N.Nodup) (hi : X.N[i]? = some x) (hj : X.N[j]? = some y) (hij : i ≠ j) (hx : X.env.scope.names.lookup x = some .local) (hy : X.env.scope.names.lookup y = some .local) (ha : SAW X Wx [a, b] m)
    (hw : swappedStores [.Tuple [.Name x px, .Name y py] kt pt] (.Tuple [a, b] k2 pt2) X.env = pure (some [x, y])) (hs : swapsWithSole [.Tuple [.Name x px, .Name y py] kt pt] (.Tuple [a, b] k2 pt2) pos.line X.env = pure false := by rfl) :
    SS X A Wx (.Assign [.Tuple [.Name x px, .Name y py] kt pt] (.Tuple [a, b] k2 pt2) pos) (sPar [i, j] m) := PS.imp (ps_par hc hN hi hj hij hx hy ha hw hs) fun Dd σ H h => by
  obtain ⟨I, e, Fs, R, ws, e1, h1, k, kx⟩ := par_run (by simp [hA, hA2]) h
  refine ⟨I, e, Fs, R, ws, e1, h1, fun vs I1 F1 H1 Gs R1 x1 ol hG => ?_, kx⟩
  obtain ⟨hl, kk⟩ := k vs I1 F1 H1 Gs R1 x1 ol hG
  obtain ⟨v, w, rfl⟩ : ∃ v w, vs = [v, w] := by
    match vs, hl with
    | [v, w], _ => exact ⟨v, w, rfl⟩
  exact ⟨v, w, rfl, kk H1 (.inr rfl)⟩
theorem ss_par3 (hA : A i = true) (hA2 : A j = true) (hA3 : A l = true) (hc : X.calm = true) (hN : X.N.Nodup) (hi : X.N[i]? = some x) (hj : X.N[j]? = some y) (hl : X.N[l]? = some z) (hij : i ≠ j) (hil : i ≠ l) (hjl : j ≠ l) (hx : X.env.scope.names.lookup x = some .local) (hy : X.env.scope.names.lookup y = some .local) (hz : X.env.scope.names.lookup z = some .local) (ha : SAW X Wx [a, b, c] m)
    (hw : swappedStores [.Tuple [.Name x px, .Name y py, .Name z pz] kt pt] (.Tuple [a, b, c] k2 pt2) X.env = pure (some [x, y, z])) (hs : swapsWithSole [.Tuple [.Name x px, .Name y py, .Name z pz] kt pt] (.Tuple [a, b, c] k2 pt2) pos.line X.env = pure false := by rfl) :
    SS X A Wx (.Assign [.Tuple [.Name x px, .Name y py, .Name z pz] kt pt] (.Tuple [a, b, c] k2 pt2) pos) (sPar [i, j, l] m) := PS.imp (ps_par3 hc hN hi hj hl hij hil hjl hx hy hz ha hw hs) fun Dd σ H h => by
  obtain ⟨I, e, Fs, R, ws, e1, h1, k, kx⟩ := par_run (by simp [hA, hA2, hA3]) h
  refine ⟨I, e, Fs, R, ws, e1, h1, fun vs I1 F1 H1 Gs R1 x1 ol hG => ?_, kx⟩
  obtain ⟨hl, kk⟩ := k vs I1 F1 H1 Gs R1 x1 ol hG
  obtain ⟨v, w, u, rfl⟩ : ∃ v w u, vs = [v, w, u] := by
    match vs, hl with
    | [v, w, u], _ => exact ⟨v, w, u, rfl⟩
  exact ⟨v, w, u, rfl, kk H1 (.inr rfl)⟩
end
end MV

namespace MV
open PySem L2
variable [TB]

/-! ### one thing more in hand -/
section
variable {K : PySem.W.Frag} {mg : Str → Option Value} {I H I' H' : Hp} {e : Env} {Fs Fa Fb : Fp} {σ τ : L2.St} {w : W} {v : V} {F : List Addr}
theorem Own.step (o : Own K mg I H Fa w v F) (x : Ext Fa I H Fb I' H') : Own K mg I' H' Fb w v F := o.frame x.g (fun b hb => o.dj b hb) fun b hb q => by
  rcases x.fp b q with z | z
  · exact o.dj b hb z
  · obtain ⟨u, hu⟩ := o.ro.live _ _ _ b hb
    rw [hu] at z; cases z
theorem Rel.uncons (R : Rel K mg I (some w :: e) Fs (some v :: τ) H) : Own K mg I H (fun j => Fs (j + 1)) w v (Fs 0) ∧ Rel K mg I e (fun j => Fs (j + 1)) τ H := by
  obtain ⟨v', hv, ro⟩ := R.at_ 0 w rfl
  have ev : v = v' := by simpa using hv
  subst ev
  exact ⟨⟨ro, R.nd 0, R.out 0, fun a ha ⟨j, hj⟩ => by have := R.dj _ _ a ha hj; omega⟩, R.tail⟩
end
/-! ### dict comprehensions -/
def dcRun (own : List Nat) (t : Tg) (c : M Bool) (mk : M D) (mv : M W) : List D → List (Key × W) → Env → Option (List (Key × W) × Env)
  | [], acc, e => some (acc, e)
  | d :: ds, acc, e => (t d e).bind fun e1 => (c e1).bind fun x => if x.1 = true then (mk x.2).bind fun y => (mv y.2).bind fun z => if nex z.1 = true then (keyD y.1).bind fun k => (dputW acc k z.1).bind fun acc' => dcRun own t c mk mv ds acc' (wipeE z.2 own) else none
    else dcRun own t c mk mv ds acc (wipeE x.2 own)
def mDc (own : List Nat) (mi : M (List D)) (t : Tg) (c : M Bool) (mk : M D) (mv : M W) : M W := fun e => (mi e).bind fun x => (dcRun own t c mk mv x.1 [] (wipeE x.2 own)).map fun r => (.od r.1, r.2)
theorem dc_run {K : PySem.W.Frag} {mg : Str → Option Value} {Wx : WX} {own : List Nat} {mi : M (List D)} {t : Tg} {c : M Bool} {mk : M D} {mv : M W} {σ : L2.St} {H : Hp} {Q : VK} (h : tO K mg Wx (mDc own mi t c mk mv) σ H Q) :
    tDc (tI K mg mi) (tG K mg (ownA own) t) (tT K mg c) (tE K mg mk) (tO K mg W0 mv) own σ H Q := by
  obtain ⟨I, e, Fs, R, w, e', hm, k, _⟩ := h
  obtain ⟨⟨ds, e1⟩, h1, hm⟩ := Option.bind_eq_some_iff.mp hm
  obtain ⟨⟨ys, e2⟩, h2, hm⟩ := Option.map_eq_some_iff.mp hm
  cases hm
  refine ⟨I, e, Fs, R, ds, e1, h1, fun J I1 F1 H1 R1 x1 hJ D hD => ?_⟩
  have hback : ∀ b, H1 b = none → MF Fs b ∨ H b = none := fun b hb => by
    cases e0 : H b with
    | none => exact .inr rfl
    | some u =>
      by_cases mm : MF Fs b
      · exact .inl mm
      · rw [x1.g.back mm hb] at e0; cases e0
  -- the state: the dict in hand, then the slots
  let St (i : Nat) (acc : List (Key × W)) (ec : Env) (Hc : Hp) : Prop := ∃ I2 F2, Rel K mg I2 (some (.od acc) :: ec) F2 (some (.ref D) :: wipe σ own) Hc ∧ Ext Fs I H (fun j => F2 (j + 1)) I2 Hc ∧ Ex I1 I2 ∧ (∀ b ∈ F2 0, MF Fs b ∨ H b = none) ∧ dcRun own t c mk mv (ds.drop i) acc ec = some (ys, e2)
  refine ⟨fun i n Hc => n = ds.length - i ∧ i ≤ ds.length ∧ ∃ acc ec, St i acc ec Hc, ⟨ds.length, ?_⟩, ?_⟩
  · obtain ⟨F2, R2, m2⟩ := R1.wiped own
    have R3 := R2.loose (o := .dK []) hD
    have hI : I1 D = none := sub_none R1.sub hD
    have hF : ¬ MF F2 D := fun ⟨i, hi⟩ => R2.live i D hi hD
    have ow : Own K mg I1 (upd H1 D (.dK [])) F2 (.od []) (.ref D) [D] := ⟨by simp only [Ro]; exact ⟨D, [], [], rfl, upd_same, rfl, by simp [RoK]⟩, by simp, fun a q => by rw [List.mem_singleton.mp q]; exact hI, fun a q => by rw [List.mem_singleton.mp q]; exact hF⟩
    refine ⟨by simp, Nat.zero_le _, [], wipeE e1 own, I1, _, R3.cons ow, ?_, Ex.refl _, fun b q => by rw [List.mem_singleton.mp q]; exact hback D hD, by rw [List.drop_zero]; exact h2⟩
    exact ⟨⟨x1.g.ex, fun a u q mm nt => Ex.new hD a u (x1.g.fr a u q mm nt), x1.g.new, fun t => (x1.g.tb t).ext (Ex.new hD), fun a ps q mm => let ⟨p', h'⟩ := x1.g.tl a ps q mm; ⟨p', Ex.new hD a _ h'⟩⟩, fun a mm => x1.fp a (m2 a mm)⟩
  · rintro i n Hc ⟨rfl, hi, acc, ec, I2, F2, RR, x2, ex2, hf0, hrun⟩
    obtain ⟨od, R2⟩ := RR.uncons
    have it := hJ i I2 Hc ex2 R2.sub
    by_cases hlt : i < ds.length
    · refine .inr ?_
      obtain ⟨hgo, hy⟩ := it.1 _ (List.getElem?_eq_getElem hlt)
      refine ⟨hgo, fun H' => ∃ acc ec, St (i + 1) acc ec H', fun H' h => ⟨ds.length - (i + 1), by omega, rfl, hlt, h⟩, fun v H3 hv => ?_⟩
      obtain ⟨I3, g3, r3⟩ := hy v H3 hv
      obtain ⟨R3, x3⟩ := g3.rel R2
      have o3 := od.step x3
      rw [List.drop_eq_getElem_cons hlt] at hrun
      simp only [dcRun] at hrun
      obtain ⟨e4, h4, hrun⟩ := Option.bind_eq_some_iff.mp hrun
      obtain ⟨⟨b, e5⟩, h5, hrun⟩ := Option.bind_eq_some_iff.mp hrun
      refine ⟨I3, ec, _, ds[i], R3, r3, e4, h4, fun σ4 F4 R4 m4 a4 hl4 => ?_⟩
      have hw : wipe σ4 own = wipe σ own := by
        have q := wipe_agr (σ := wipe σ own) hl4 (by
          intro j hj
          rw [a4 j hj]
          rw [wipe_get (σ := wipe σ own), if_neg (by simpa [ownA] using hj)])
        rw [q]
        refine List.ext_getElem? fun j => ?_
        rw [wipe_get, wipe_get]
        by_cases y : j ∈ own
        · rw [if_pos y, if_pos y]
          cases σ[j]? <;> rfl
        · rw [if_neg y, if_neg y]
      have x4 : Ext (fun j => F2 (j + 1)) I3 H3 F4 I3 H3 := ⟨Gx.refl, fun a q => .inl (m4 a q)⟩
      have o4 := o3.step x4
      refine ⟨hw, I3, e4, F4, R4, b, e5, h5, fun I5 F5 H5 R5 x5 => ?_⟩
      have o5 := o4.step x5
      have xs5 := ((x2.trans x3).trans x4).trans x5
      have ex5 : Ex I1 I5 := (ex2.trans x3.g.ex).trans x5.g.ex
      cases b with
      | false =>
        dsimp only
        rw [if_neg Bool.false_ne_true]
        rw [if_neg Bool.false_ne_true] at hrun
        obtain ⟨F6, R6, m6⟩ := R5.wiped own
        rw [hw] at R6
        have o6 : Own K mg I5 H5 F6 (.od acc) (.ref D) (F2 0) := ⟨o5.ro, o5.nd, o5.out, fun a ha q => o5.dj a ha (m6 a q)⟩
        exact ⟨acc, wipeE e5 own, I5, _, R6.cons o6, ⟨xs5.g, fun a q => xs5.fp a (m6 a q)⟩, ex5, hf0, hrun⟩
      | true =>
        dsimp only
        rw [if_pos rfl]
        rw [if_pos rfl] at hrun
        obtain ⟨⟨y, e6⟩, h6, hrun⟩ := Option.bind_eq_some_iff.mp hrun
        obtain ⟨⟨z, e7⟩, h7, hrun⟩ := Option.bind_eq_some_iff.mp hrun
        have hrun : (if nex z = true then (keyD y).bind fun k => (dputW acc k z).bind fun acc' => dcRun own t c mk mv (List.drop (i + 1) ds) acc' (wipeE e7 own) else none) = some (ys, e2) := hrun
        split at hrun
        case isFalse => cases hrun
        rename_i hne
        obtain ⟨ky, h8, hrun⟩ := Option.bind_eq_some_iff.mp hrun
        obtain ⟨acc', h9, hrun⟩ := Option.bind_eq_some_iff.mp hrun
        refine ⟨I5, e5, F5, R5, y, e6, h6, fun yv I6 F6 H6 R6 x6 r6 => ?_⟩
        have o6 := o5.step x6
        refine ⟨I6, e6, F6, R6, z, e7, h7, fun zv I7 F7 H7 Fz R7 x7 oz hFz => ?_, fun yy hyy => by subst hyy; cases hne⟩
        have o7 := o6.step x7
        have xs7 := (xs5.trans x6).trans x7
        obtain ⟨F8, R8, m8⟩ := R7.wiped own
        rw [hw] at R8
        have o8 : Own K mg I7 H7 F8 (.od acc) (.ref D) (F2 0) := ⟨o7.ro, o7.nd, o7.out, fun a ha q => o7.dj a ha (m8 a q)⟩
        have RC := R8.cons o8
        have live0 : ∀ b ∈ F2 0, H6 b ≠ none := fun b hb => by
          obtain ⟨u, hu⟩ := o6.ro.live _ _ _ b hb
          rw [hu]; exact fun q => by cases q
        have ozc : Own K mg I7 H7 (consF (F2 0) F8) z zv Fz := ⟨oz.ro, oz.nd, oz.out, fun a ha q => by
          rcases q.cons with q1 | q1
          · rcases hFz a ha with q2 | q2
            · exact o6.dj a q1 q2
            · exact live0 a q1 q2
          · exact oz.dj a ha (m8 a q1)⟩
        obtain ⟨G, hG, nd, hI, dj, st⟩ := store_step (p := (0, [])) (wr := .od acc) (u := .od acc) (u' := .od acc') (v0 := .ref D) (a := D) RC ozc rfl rfl ⟨rfl, rfl⟩ fun G h => tag_mem (by simp [tagW]) h
        have hG' := hG
        simp only [Ro] at hG'
        obtain ⟨a', kvs, G1, e2', ha, hG1, hFs⟩ := hG'
        cases e2'
        subst hG1
        obtain ⟨hz, G', h10, h11, h12⟩ := RoK.putW oz.ro hFs (List.nodup_cons.mp nd).2 oz.nd (fun b hb q => dj b hb (by simp [q])) h9
        have na : ∀ b ∈ G', b ≠ D := fun b hb z => by
          subst z
          rcases h12 b hb with q | q
          · exact (List.nodup_cons.mp nd).1 q
          · exact dj b q (by simp)
        refine ⟨kvs, ky, keyD_v h8 r6, ha, hz, ?_⟩
        have x0 : Ext Fs I H (consF (F2 0) F8) I7 H7 := ⟨xs7.g, fun a q => by
          rcases q.cons with q1 | q1
          · exact hf0 a q1
          · exact xs7.fp a (m8 a q1)⟩
        obtain ⟨Fs', R9, x9⟩ := st (.dK (putK kvs ky zv)) (.od acc') G1 rfl G' (by
          simp only [Ro]
          exact ⟨D, _, G', rfl, upd_same, rfl, h10.frame (Ex.refl _) _ _ _ fun b hb o ho _ => by rw [upd_ne (na b hb)]; exact ho⟩) h11 h12
        have x10 := x9 Fs I H x0 fun b hb => by
          rcases hFz b hb with q | q
          · exact (xs5.trans x6).fp b q
          · cases e0 : H b with
            | none => exact .inr rfl
            | some u =>
              by_cases mm : MF Fs b
              · exact .inl mm
              · rw [(xs5.trans x6).g.back mm q] at e0; cases e0
        have eput : putE (some (W.od acc) :: wipeE e7 own) (0, []) (.od acc') = some (.od acc') :: wipeE e7 own := by
          simp [putE, W.put]
        rw [eput] at R9
        exact ⟨acc', wipeE e7 own, I7, Fs', R9, ⟨x10.g, fun a ⟨j, hj⟩ => x10.fp a ⟨j + 1, hj⟩⟩, (ex5.trans x6.g.ex).trans x7.g.ex, fun b hb => x10.fp b ⟨0, hb⟩, hrun⟩
    · have hie : i = ds.length := by omega
      subst hie
      refine .inl ⟨it.2 (Nat.le_refl _), ?_⟩
      rw [List.drop_length] at hrun
      simp only [dcRun] at hrun
      cases hrun
      exact k (.ref D) I2 (fun j => F2 (j + 1)) Hc (F2 0) R2.unwiped x2 od hf0
theorem so_dc {X : Cx} {Wx : WX} {kx vx tg iter : Expr} {ifs : List Expr} {scope : Scope} {own : List (Str × Nat)} {pos : Pos} {mi : M (List D)} {t : Tg} {c : M Bool} {mk : M D} {mv : M W} (hc : X.calm = true) (hN : X.N.Nodup) (ok : BlkOk X.N X.env.scope scope own) (hi : SI X tg iter mi)
    (hg : ∀ (s : Shared) (H : Hp) (C : Addr) (cl : List (Str × Addr)) (fp : List Addr), SG (X.blk s H scope (compEnvC scope cl C X.env) fp) (ownA (own.map (·.2))) tg t) (ht : ∀ (s : Shared) (H : Hp) (C : Addr) (cl : List (Str × Addr)) (fp : List Addr), STs (X.blk s H scope (compEnvC scope cl C X.env) fp) ifs c)
    (hk : ∀ (s : Shared) (H : Hp) (C : Addr) (cl : List (Str × Addr)) (fp : List Addr), SE (X.blk s H scope (compEnvC scope cl C X.env) fp) kx mk)
    (he : ∀ (s : Shared) (H : Hp) (C : Addr) (cl : List (Str × Addr)) (fp : List Addr), SO (X.blk s H scope (compEnvC scope cl C X.env) fp) W0 vx mv) (hs : ∀ x, foldedSetIterable iter X.env x = pure x := by intro _; rfl) :
    SO X Wx (.DictComp kx vx [⟨tg, iter, ifs, 0⟩] scope pos) (mDc (own.map (·.2)) mi t c mk mv) := PE.imp (pe_dc (g := tG X.K X.mg (ownA (List.map (fun (x : Str × Nat) => x.2) own)) t) (tt := tT X.K X.mg c) (tk := tE X.K X.mg mk) (tv := tO X.K X.mg W0 mv) hc hN hi ok hg ht hk he hs) fun σ H Q h => dc_run h
/-- {} -/
def mDnew : M W := fun e => some (.od [], e)
theorem so_dnew {X : Cx} {Wx : WX} {pos : Pos} : SO X Wx (.Dict [] [] pos) mDnew := PE.imp pe_dnewK fun σ H Q ⟨I, e, Fs, R, w, e', hm, k, _⟩ => by
  cases hm
  intro q hq
  have hI : I q = none := sub_none R.sub hq
  refine k (.ref q) I Fs _ [q] (R.loose hq) ⟨Gx.refl.set (.inr hq) (.none hq), fun a m => .inl m⟩ ⟨?_, by simp, fun a h => by rw [List.mem_singleton.mp h]; exact hI, fun a h m => ?_⟩ fun a h => by rw [List.mem_singleton.mp h]; exact .inr hq
  · simp only [Ro]
    exact ⟨q, [], [], rfl, upd_same, rfl, by simp [RoK]⟩
  · rw [List.mem_singleton.mp h] at m
    obtain ⟨i, hi⟩ := m
    exact R.live i q hi hq
/-! ### x.append(w), x a name -/
def mAppO (i : Nat) (mw : M W) : M W := fun e => match e[i]? with
  | some (some (.ol _)) => (mw e).bind fun x => match x.1 with
    | .ex y => some (.ex y, x.2)
    | w => match x.2[i]? with
      | some (some (.ol ws)) => if ws.length < 1000000 then some (.p .none, x.2.set i (some (.ol (ws ++ [w])))) else none
      | _ => none
  | _ => none
theorem so_appO {X : Cx} {Wx : WX} {i : Nat} {x : Str} {a : Expr} {mw : M W} {p apos cpos : Pos} (hx : PE X (.Name x p) (tVar i)) (ha : SO X Wx a mw)
    (hbase : attributeBase (.Name x p) "append" X.env (eval (.Name x p) X.env) = eval (.Name x p) X.env := by rfl)
    (hfew : ((backTo cpos (starEach [a] X.env)).all (fun x => !x.1) && (backToKw cpos (keywordEach [] X.env)).all (fun x => x.1.isSome)
      && decide ([a].length + ([] : List Keyword).length + (if ([] : List Keyword).isEmpty then 0 else 1) < 30)) = true := by rfl)
    (hline : (apos.endLine == cpos.line) = true := by rfl) (hs : starEach [a] X.env = (false, eval a X.env) :: starEach [] X.env := by rfl) (hplain : (backTo cpos (starEach [] X.env)).any (·.1) = false := by rfl) :
    SO X Wx (.Call (.Attribute (.Name x p) "append" apos) [a] [] cpos) (mAppO i mw) := PE.imp (pe_bm PySem.F.plainAttrs_list PySem.F.slot_list_append PySem.F.type_list_append mt_append hx (pa_one ha hs) hbase hfew hline hs hplain) fun σ H Q ⟨I, e, Fs, R, w, e', hm, k, kx⟩ => by
  unfold mAppO at hm
  split at hm
  · rename_i ws0 hw0
    obtain ⟨v0, hv0, ro0⟩ := R.at_ i _ hw0
    obtain ⟨⟨u, e1⟩, h1, hm⟩ := Option.bind_eq_some_iff.mp hm
    refine ⟨v0, hv0, tag_ty ro0 (T := "list") rfl (.inl rfl), I, e, Fs, R, u, e1, h1, fun y I1 F1 H1 Fw R1 x1 o1 hF => ?_, fun y hy cls d I1 F1 H1 R1 x1 xr => ?_⟩
    · have hm : (match e1[i]? with
        | some (some (.ol ws)) => if ws.length < 1000000 then some (W.p .none, e1.set i (some (.ol (ws ++ [u])))) else none
        | _ => none) = some (w, e') := by
        cases u with
        | ex y => have q := o1.ro; simp only [Ro] at q
        | _ => exact hm
      split at hm
      · rename_i ws hw
        split at hm
        · rename_i hz
          cases hm
          obtain ⟨v1, hv1, ro1⟩ := R1.at_ i _ hw
          rw [hv0] at hv1
          cases hv1
          have ro1' := ro1
          simp only [Ro] at ro1'
          obtain ⟨l, xs, G0, rfl, hl, _, hL0⟩ := ro1'
          obtain ⟨G, hG, nd, hI, dj, st⟩ := store_step (p := (i, [])) (wr := .ol ws) (u := .ol ws) (u' := .ol (ws ++ [u])) R1 o1 hw hv0 ⟨rfl, rfl⟩ fun G h => tag_mem (by simp [tagW]) h
          have hG' := hG
          simp only [Ro] at hG'
          obtain ⟨a', xs', G1, e2, ha', hG1, hL⟩ := hG'
          cases e2
          subst hG1
          rw [hl] at ha'
          cases ha'
          refine ⟨l, xs, y, rfl, rfl, hl, by rw [← hL.len]; exact lim_lt hz, ?_⟩
          have nd1 := List.nodup_cons.mp nd
          have ndA : (G1 ++ Fw).Nodup := by
            rw [List.nodup_append]
            exact ⟨nd1.2, o1.nd, fun b hb c hc z => by subst z; exact dj b hc (by simp [hb])⟩
          have na : ∀ b ∈ G1 ++ Fw, b ≠ l := fun b hb z => by
            subst z
            rcases List.mem_append.mp hb with q | q
            · exact nd1.1 q
            · exact dj b q (by simp)
          have hcat : RoL X.K X.mg I1 H1 (ws ++ [u]) (xs ++ [y]) (G1 ++ Fw) := hL.append (by simp only [RoL]; exact ⟨y, [], Fw, [], rfl, by simp, o1.ro, rfl, rfl⟩)
          obtain ⟨Fs', R2, x2⟩ := st (.lst (xs ++ [y])) (.ol (ws ++ [u])) G1 rfl (G1 ++ Fw) (by
            simp only [Ro]
            exact ⟨l, _, G1 ++ Fw, rfl, upd_same, rfl, hcat.frame (Ex.refl _) _ _ _ fun b hb o ho _ => by rw [upd_ne (na b hb)]; exact ho⟩) ndA fun b hb => List.mem_append.mp hb
          have eput : putE e1 (i, []) (.ol (ws ++ [u])) = e1.set i (some (.ol (ws ++ [u]))) := by
            unfold putE
            rw [hw]
            rfl
          rw [eput] at R2
          exact k .non I1 Fs' _ [] R2 (x2 Fs I H x1 hF) (.pure rp_none) fun b hb => by cases hb
        · cases hm
      · cases hm
    · subst hy
      cases hm
      exact kx y rfl cls d I1 F1 H1 R1 x1 xr
  · cases hm
end MV

namespace MV
open PySem L2
variable [TB]

/-! ### a method of a place whose argument does not touch the place's root -/
theorem At.frame {K : PySem.W.Frag} {mg : Str → Option Value} {I H H' : Hp} : ∀ (p : List Stp) {w : W} {v : V} {F : List Addr} {u : W} {x : V}, Ro K mg I H w v F → (∀ a ∈ F, ∀ o, H a = some o → NT o → H' a = some o) → At H w v p u x → At H' w v p u x
  | [], w, v, F, u, x, h, fr, a => by cases w <;> exact a
  | s :: p, .p d, v, F, u, x, h, fr, a => by cases s <;> exact a.elim
  | s :: p, .ex d, v, F, u, x, h, fr, a => by cases s <;> exact a.elim
  | .ix j :: p, .ol ws, v, F, u, x, h, fr, a => by
    obtain ⟨l, xs, w', x', rfl, h1, h2, h3, h4⟩ := a
    simp only [Ro] at h
    obtain ⟨l', xs', G, e, h1', rfl, h5⟩ := h
    cases e
    rw [h1] at h1'
    cases h1'
    obtain ⟨y, A, G1, B, e, rfl, h6, k⟩ := h5.lens h2
    rw [h3] at e
    cases e
    exact ⟨l, xs, w', x', rfl, fr l (by simp) _ h1 (fun _ z => by cases z), h2, h3, h4.frame p h6 fun a ha => fr a (by simp [ha])⟩
  | .ix j :: p, .ot ws, v, F, u, x, h, fr, a => by
    obtain ⟨l, xs, w', x', rfl, h1, h2, h3, h4⟩ := a
    simp only [Ro] at h
    obtain ⟨l', xs', G, e, h1', rfl, h5⟩ := h
    cases e
    rw [h1] at h1'
    cases h1'
    obtain ⟨y, A, G1, B, e, rfl, h6, k⟩ := h5.lens h2
    rw [h3] at e
    cases e
    exact ⟨l, xs, w', x', rfl, fr l (by simp) _ h1 (fun _ z => by cases z), h2, h3, h4.frame p h6 fun a ha => fr a (by simp [ha])⟩
  | .ky j :: p, .od ws, v, F, u, x, h, fr, a => by
    obtain ⟨l, xs, w', x', rfl, h1, h2, h3, h4⟩ := a
    simp only [Ro] at h
    obtain ⟨l', xs', G, e, h1', rfl, h5⟩ := h
    cases e
    rw [h1] at h1'
    cases h1'
    obtain ⟨y, A, G1, B, e, rfl, h6, k⟩ := h5.lens h2
    rw [h3] at e
    cases e
    exact ⟨l, xs, w', x', rfl, fr l (by simp) _ h1 (fun _ z => by cases z), h2, h3, h4.frame p h6 fun a ha => fr a (by simp [ha])⟩
  | .fd j :: p, .oi c ws, v, F, u, x, h, fr, a => by
    obtain ⟨l, C, dx, xs, w', x', rfl, h1, h2, h3, h4⟩ := a
    simp only [Ro] at h
    obtain ⟨l', C', dx', xs', G, e, hc, h1', rfl, h5⟩ := h
    cases e
    rw [h1] at h1'
    cases h1'
    obtain ⟨y, A, G1, B, e, rfl, h6, k⟩ := h5.lens h2
    rw [h3] at e
    cases e
    exact ⟨l, C, dx, xs, w', x', rfl, fr l (by simp) _ h1 (fun _ z => by cases z), h2, h3, h4.frame p h6 fun a ha => fr a (by simp [ha])⟩
  | .ky _ :: p, .ol ws, v, F, u, x, h, fr, a => a.elim
  | .ky _ :: p, .ot ws, v, F, u, x, h, fr, a => a.elim
  | .fd _ :: p, .ol ws, v, F, u, x, h, fr, a => a.elim
  | .fd _ :: p, .ot ws, v, F, u, x, h, fr, a => a.elim
  | .ix _ :: p, .od ws, v, F, u, x, h, fr, a => a.elim
  | .fd _ :: p, .od ws, v, F, u, x, h, fr, a => a.elim
  | .ix _ :: p, .oi _ ws, v, F, u, x, h, fr, a => a.elim
  | .ky _ :: p, .oi _ ws, v, F, u, x, h, fr, a => a.elim
def mMetL (f : W → List D → Option (W × D)) (lf : P Pth) (m : M D) : M D := fun e => (lf e).bind fun p => match e[p.1]? with
  | some (some w) => (w.sub p.2).bind fun u => (m (e.set p.1 none)).bind fun x => (f u [x.1]).map fun y => (y.2, x.2.set p.1 (some (w.put p.2 y.1)))
  | _ => none
section
variable {X : Cx} {o a : Expr} {lf : P Pth} {m : M D} {name : Str} {apos cpos : Pos} {T id : String} {r : V → List V → Hp → VK → Prop} {f : W → List D → Option (W × D)}
theorem se_metL (pa : PlainAttrs T) (slot : Slot T name id) (hty : typeOf (.builtin id) = pure (.type "method_descriptor")) (hm : MtR X id r) (hf : MetW X.K X.mg T r f) (hft : MetT T f) (hT : T = "list" ∨ T = "dict") (ho : SL X o lf) (ha : SE X a m)
    (hbase : attributeBase o name X.env (eval o X.env) = eval o X.env := by rfl)
    (hfew : ((backTo cpos (starEach [a] X.env)).all (fun x => !x.1) && (backToKw cpos (keywordEach [] X.env)).all (fun x => x.1.isSome)
      && decide ([a].length + ([] : List Keyword).length + (if ([] : List Keyword).isEmpty then 0 else 1) < 30)) = true := by rfl)
    (hline : (apos.endLine == cpos.line) = true := by rfl) (hs : starEach [a] X.env = (false, eval a X.env) :: starEach [] X.env := by rfl) (hplain : (backTo cpos (starEach [] X.env)).any (·.1) = false := by rfl) :
    SE X (.Call (.Attribute o name apos) [a] [] cpos) (mMetL f lf m) := PE.imp (pe_bm pa slot hty hm ho (pa_one ha hs) hbase hfew hline hs hplain) fun σ H Q ⟨I, e, Fs, R, d, e', hm, k⟩ => by
  obtain ⟨p, h1, hm⟩ := Option.bind_eq_some_iff.mp hm
  refine ⟨I, e, Fs, R, p, h1, fun v I1 H1 w v0 u1 g1 hw hv hsb hA => ?_⟩
  rw [hw] at hm
  obtain ⟨u, h2, hm⟩ := Option.bind_eq_some_iff.mp (show ((w.sub p.2).bind fun u => (m (e.set p.1 none)).bind fun x => (f u [x.1]).map fun y => (y.2, x.2.set p.1 (some (w.put p.2 y.1)))) = some (d, e') from hm)
  rw [hsb] at h2
  cases h2
  obtain ⟨⟨y, e2⟩, h3, hm⟩ := Option.bind_eq_some_iff.mp hm
  obtain ⟨⟨u', z⟩, h4, hm⟩ := Option.map_eq_some_iff.mp hm
  cases hm
  have ht := hft _ _ _ h4
  obtain ⟨R1, x1⟩ := g1.rel R
  obtain ⟨G, hG⟩ := L_get R1 hw hv hA
  obtain ⟨v0', hv', ow⟩ := R1.own hw
  rw [hv] at hv'
  cases hv'
  refine ⟨tag_ty hG ht hT, I1, e.set p.1 none, _, R1.drop, y, e2, h3, fun yv I2 F2 H2 R2 x2 ry => ?_⟩
  have o2 := ow.step x2
  have R3 := R2.put (i := p.1) o2
  rw [set_id hv] at R3
  have hl : p.1 < e2.length := by rw [R2.len]; exact (List.getElem?_eq_some_iff.mp hv).1
  have hw2 : (e2.set p.1 (some w))[p.1]? = some (some w) := List.getElem?_set_self hl
  have xx : Ext Fs I H (putF F2 p.1 (Fs p.1)) I2 H2 := (x1.trans (Ext.drop Ext.refl |>.trans x2)).put fun a ha => .inl ⟨p.1, ha⟩
  have hA2 : At H2 w v0 p.2 u1 v := hA.frame p.2 ow.ro fun a ha o ho nt => x2.g.fr a o ho (ow.dj a ha) nt
  refine met_step hf hT R3 xx hw2 hv hsb hA2 (RpL.cons ry RpL.nil) h4 (fun v' Fs' H' R' x' rz => ?_) ht
  have e1 : putE (e2.set p.1 (some w)) p u' = e2.set p.1 (some (w.put p.2 u')) := by
    unfold putE
    rw [hw2]
    exact List.set_set ..
  rw [e1] at R'
  exact k v' I2 Fs' H' R' x' rz
end

/-! ### what is asked of owned things -/
/-- k in d -/
def vInD (neg : Bool) (g : P D) (f : P Pth) : P D := fun e => (g e).bind fun d => (keyD d).bind fun k => (f e).bind fun p => match atE e p with
  | some (.od es) => some (.bool (if neg then !(valW es k).isSome else (valW es k).isSome))
  | _ => none
theorem RoK.val {K : PySem.W.Frag} {mg : Str → Option Value} {I H : Hp} {ws : List (Key × W)} {xs : List (Key × V)} {F : List Addr} {k : Key} (h : RoK K mg I H ws xs F) : (valV xs k).isSome = (valW ws k).isSome := by
  have : ∀ ws : List (Key × W), (ws.any fun q => decide (q.1 = k)) = (valW ws k).isSome := by
    intro ws
    induction ws with
    | nil => rfl
    | cons q ws ih =>
      by_cases hq : q.1 = k
      · simp [valW, hq]
      · simp [valW, List.find?_cons, hq] at ih ⊢
        exact ih
  rw [← valV_any, h.any, this]
section
variable {X : Cx} {o b : Expr} {f : P Pth} {g : P D} {pos : Pos}
theorem ind_run {K : PySem.W.Frag} {mg : Str → Option Value} {neg : Bool} {σ : L2.St} {H : Hp} {Q : VK} (h : tV K mg (vInD neg g f) σ H Q) : tV K mg g σ H fun y H1 => tL K mg f σ H1 fun x H2 => ∃ a r, x = .ref a ∧ DGet H2 a y r ∧ Q (.bl (if neg then !r.isSome else r.isSome)) H2 := by
  obtain ⟨I, e, Fs, R, d, hm, k⟩ := h
  obtain ⟨dk, h1, hm⟩ := Option.bind_eq_some_iff.mp hm
  obtain ⟨ky, h2, hm⟩ := Option.bind_eq_some_iff.mp hm
  obtain ⟨p, h3, hm⟩ := Option.bind_eq_some_iff.mp hm
  refine ⟨I, e, Fs, R, dk, h1, fun y I1 H1 g1 ry => ?_⟩
  obtain ⟨R1, x1⟩ := g1.rel R
  refine ⟨I1, e, Fs, R1, p, h3, fun v I2 H2 w v0 u g2 hw hv hs hA => ?_⟩
  rw [atE_of (u := u) hw, hs] at hm
  cases u with
  | od es =>
    cases hm
    obtain ⟨R2, x2⟩ := g2.rel R1
    obtain ⟨G, hG⟩ := L_get R2 hw hv hA
    simp only [Ro] at hG
    obtain ⟨a, kvs, G1, rfl, ha, _, hF⟩ := hG
    refine ⟨a, _, rfl, by rw [keyD_v h2 ry]; exact DGet.k ha, ?_⟩
    rw [hF.val]
    exact k _ I2 H2 (.more g1 g2) rp_bool
  | _ => cases hm
theorem sv_inD (hu : X.A.units + 1 < cLine) (hb : SV X b g) (ho : SL X o f) (hm : behindInMarks .In o = false := by first | rfl | with_unfolding_all rfl) : SV X (.Compare b [.In] [o] pos) (vInD false g f) :=
  PE.imp (pe_cmp (pc_din hu hb ho) hm) fun σ H Q h => ind_run h
theorem sv_notInD (hu : X.A.units + 1 < cLine) (hb : SV X b g) (ho : SL X o f) (hm : behindInMarks .NotIn o = false := by first | rfl | with_unfolding_all rfl) : SV X (.Compare b [.NotIn] [o] pos) (vInD true g f) :=
  PE.imp (pe_cmp (pc_dnotin hu hb ho) hm) fun σ H Q h => ind_run h
end
/-- the numbers in order -/
def insI (i : Int) : List Int → List Int
  | [] => [i]
  | j :: r => if i ≤ j then i :: j :: r else j :: insI i r
def isort : List Int → List Int
  | [] => []
  | i :: r => insI i (isort r)
theorem insI_perm (i : Int) : ∀ r, (insI i r).Perm (i :: r)
  | [] => List.Perm.refl _
  | j :: r => by
    unfold insI
    split
    · exact List.Perm.refl _
    · exact ((insI_perm i r).cons j).trans (List.Perm.swap i j r)
theorem isort_perm : ∀ r, (isort r).Perm r
  | [] => List.Perm.refl _
  | i :: r => (insI_perm i _).trans ((isort_perm r).cons i)
theorem insI_sorted (i : Int) : ∀ {r}, r.Pairwise (· ≤ ·) → (insI i r).Pairwise (· ≤ ·)
  | [], _ => by simp [insI]
  | j :: r, h => by
    unfold insI
    rw [List.pairwise_cons] at h
    split
    · rename_i hij
      rw [List.pairwise_cons]
      refine ⟨fun k hk => ?_, List.pairwise_cons.mpr h⟩
      rcases List.mem_cons.mp hk with rfl | hk
      · exact hij
      · exact Int.le_trans hij (h.1 k hk)
    · rename_i hij
      rw [List.pairwise_cons]
      refine ⟨fun k hk => ?_, insI_sorted i h.2⟩
      rcases List.mem_cons.mp ((insI_perm i r).subset hk) with rfl | hk
      · omega
      · exact h.1 k hk
theorem isort_sorted : ∀ r, (isort r).Pairwise (· ≤ ·)
  | [] => List.Pairwise.nil
  | i :: r => insI_sorted i (isort_sorted r)
theorem sorted_uniq : ∀ {a b : List Int}, a.Perm b → a.Pairwise (· ≤ ·) → b.Pairwise (· ≤ ·) → a = b
  | [], b, p, _, _ => (List.Perm.nil_eq p)
  | x :: a, [], p, _, _ => by have := p.length_eq; simp at this
  | x :: a, y :: b, p, ha, hb => by
    rw [List.pairwise_cons] at ha hb
    have h1 : x ≤ y := by
      rcases List.mem_cons.mp (p.symm.subset (by simp : y ∈ y :: b)) with z | z
      · omega
      · exact ha.1 y z
    have h2 : y ≤ x := by
      rcases List.mem_cons.mp (p.subset (by simp : x ∈ x :: a)) with z | z
      · omega
      · exact hb.1 x z
    have e : x = y := by omega
    subst e
    rw [sorted_uniq (List.Perm.cons_inv p) ha.2 hb.2]
theorem sorted_is {a b : List Int} (p : a.Perm b) (h : a.Pairwise (· ≤ ·)) : a = isort b := sorted_uniq (p.trans (isort_perm b).symm) h (isort_sorted b)
def intsD : List D → Option (List Int)
  | [] => some []
  | .int i :: r => (intsD r).map (i :: ·)
  | _ => none
theorem ints_v {K : PySem.W.Frag} {mg : Str → Option Value} {I : Hp} : ∀ {ds : List D} {ns : List Int} {xs : List V}, intsD ds = some ns → RpL K mg I ds xs → xs = ns.map V.int
  | [], ns, xs, h, r => by cases h; simp only [RpL] at r; exact r
  | .int b :: ds, ns, xs, h, r => by
    simp only [RpL] at r
    obtain ⟨x, t, rfl, h1, h2⟩ := r
    obtain ⟨cs, h3, rfl⟩ := Option.map_eq_some_iff.mp (show (intsD ds).map (b :: ·) = some ns from h)
    simp only [Rp] at h1
    rw [h1, ints_v h3 h2]
    rfl
  | .none :: _, _, _, h, _ => by cases h
  | .bool _ :: _, _, _, h, _ => by cases h
  | .str _ :: _, _, _, h, _ => by cases h
  | .lst _ :: _, _, _, h, _ => by cases h
  | .fl _ :: _, _, _, h, _ => by cases h
  | .tup _ :: _, _, _, h, _ => by cases h
  | .dict _ :: _, _, _, h, _ => by cases h
  | .inst _ _ :: _, _, _, h, _ => by cases h
theorem rpl_ints {K : PySem.W.Frag} {mg : Str → Option Value} {I : Hp} : ∀ ns : List Int, RpL K mg I (ns.map D.int) (ns.map V.int)
  | [] => RpL.nil
  | n :: ns => RpL.cons rp_int (rpl_ints ns)
def keysI : List (Key × W) → Option (List Int)
  | [] => some []
  | (.inl i, _) :: r => (keysI r).map (i :: ·)
  | _ => none
theorem keysI_ok {K : PySem.W.Frag} {mg : Str → Option Value} {I H : Hp} : ∀ {ws : List (Key × W)} {xs : List (Key × V)} {F : List Addr} {ks : List Int}, RoK K mg I H ws xs F → keysI ws = some ks → xs.map (·.1) = ks.map Sum.inl
  | [], xs, F, ks, h, e => by cases e; simp only [RoK] at h; obtain ⟨rfl, rfl⟩ := h; rfl
  | (.inl i, w) :: ws, xs, F, ks, h, e => by
    obtain ⟨cs, e1, rfl⟩ := Option.map_eq_some_iff.mp (show (keysI ws).map (i :: ·) = some ks from e)
    simp only [RoK] at h
    obtain ⟨x, r, F1, F2, rfl, rfl, h1, h2⟩ := h
    simp [keysI_ok h2 e1]
  | (.inr _, w) :: ws, xs, F, ks, h, e => by cases e
/-- sorted(d), d's keys ints -/
def wSortD : W → Option D
  | .od es => (keysI es).bind fun ks => if ks.length < 64 then some (.lst ((isort ks).map .int)) else none
  | _ => none
theorem obs_sortD {X : Cx} (hc : X.calm = true) : ∃ r, CallR X (.builtin "sorted") r ∧ ObsW X.K X.mg (fun v => r [v]) wSortD := by
  refine ⟨_, call_sortedDI hc, fun I H u z v G Q s h e k => ?_⟩
  unfold wSortD at e
  split at e
  · obtain ⟨ks, e1, e⟩ := Option.bind_eq_some_iff.mp e
    split at e
    · rename_i hz
      cases e
      simp only [Ro] at h
      obtain ⟨a, kvs, G1, rfl, ha, _, hF⟩ := h
      refine ⟨a, kvs, ks, rfl, .inl ha, keysI_ok hF e1, hz, fun ys p hp hs hn => ?_⟩
      rw [sorted_is hp hs]
      exact k _ _ _ (.new p _ hn) (rp_lst s hn (rpl_ints _))
    · cases e
  · cases e
theorem sv_sortD {X : Cx} {o : Expr} {f : P Pth} {p pos : Pos} (hc : X.calm = true) (hg : Gl X "sorted") (hm : X.mg "sorted" = none) (ho : SL X o f) (hs : starEach [o] X.env = (false, eval o X.env) :: starEach [] X.env := by rfl) : SV X (.Call (.Name "sorted" p) [o] [] pos) (vObs wSortD f) := by
  obtain ⟨r, h1, h2⟩ := obs_sortD hc
  exact sv_obsB h1 h2 hg hm (by rfl) ho (by decide) (by decide) hs
/-- sorted of a list of ints -/
def fSortI : List D → Option D
  | [.lst ds] => (intsD ds).bind fun ns => if ns.length < 64 then some (.lst ((isort ns).map .int)) else none
  | _ => none
theorem cd_sortI {X : Cx} : CallD X.K X.mg (rSorted X.K) fSortI := by
  intro I H ds z vs Q s r e k
  unfold fSortI at e
  split at e
  · obtain ⟨ns, e1, e⟩ := Option.bind_eq_some_iff.mp e
    split at e
    · rename_i hz
      cases e
      obtain ⟨v, rfl, h⟩ := r.one
      simp only [Rp] at h
      obtain ⟨a, xs, rfl, h1, h2⟩ := h
      have := ints_v e1 h2
      subst this
      refine ⟨a, ns, rfl, .of (s _ _ h1), hz, fun ys p hp hs hn => ?_⟩
      rw [sorted_is hp hs]
      exact k _ _ _ (.new p _ hn) (rp_lst s hn (rpl_ints _))
    · cases e
  · cases e
/-- tuple(x) -/
def fTuple : List D → Option D
  | [.lst ds] => some (.tup ds)
  | [.fl ds] => some (.tup ds)
  | [.tup ds] => some (.tup ds)
  | _ => none
theorem cd_tuple {K : PySem.W.Frag} {mg : Str → Option Value} : CallD K mg (fun xs H Q => ∃ p ys, xs = [.ref p] ∧ ((SqL K H p ys ∧ ∀ l, H l = none → Q (.ref l) (upd H l (.tup ys))) ∨ (SqT K H p ys ∧ Q (.ref p) H))) fTuple := by
  intro I H ds z vs Q s r e k
  unfold fTuple at e
  split at e
  · cases e
    obtain ⟨v, rfl, h⟩ := r.one
    simp only [Rp] at h
    obtain ⟨a, xs, rfl, h1, h2⟩ := h
    exact ⟨a, xs, rfl, .inl ⟨.of (s _ _ h1), fun l hl => k _ _ _ (.new l _ hl) (rp_tup s hl h2)⟩⟩
  · cases e
    obtain ⟨v, rfl, h⟩ := r.one
    simp only [Rp] at h
    obtain ⟨a, xs, rfl, h1, h2⟩ := h
    exact ⟨a, xs, rfl, .inl ⟨ex_l s h1, fun l hl => k _ _ _ (.new l _ hl) (rp_tup s hl h2)⟩⟩
  · cases e
    obtain ⟨v, rfl, h⟩ := r.one
    have h' := h
    simp only [Rp] at h
    obtain ⟨a, xs, rfl, h1, h2⟩ := h
    exact ⟨a, xs, rfl, .inr ⟨ex_t s h1, k _ _ _ .same h'⟩⟩
  · cases e
/-- list(range(n)), list(range(a, b)) -/
def mListRg (f : D → Option (Int × Int)) (m : M D) : M D := fun e => (m e).bind fun x => (f x.1).bind fun q => if -1000000 ≤ q.1 ∧ q.1 ≤ 1000000 ∧ -1000000 ≤ q.2 ∧ q.2 ≤ 1000000 then some (.lst (rngD q.1 (q.2 - q.1).toNat), x.2) else none
theorem rpl_rng {K : PySem.W.Frag} {mg : Str → Option Value} {I : Hp} (a b : Int) : RpL K mg I (rngD a (b - a).toNat) (rgV a b) := by
  unfold rngD rgV
  generalize List.range (b - a).toNat = l
  induction l with
  | nil => exact RpL.nil
  | cons n ns ih => exact RpL.cons rp_int ih
def rg1 : D → Option (Int × Int)
  | .int n => some (0, n)
  | _ => none
theorem se_listRg1 {X : Cx} {a : Expr} {m : M D} {p p2 pos pos2 : Pos} (hc : X.calm = true) (hg : Gl X "list") (hm : X.mg "list" = none) (hg2 : Gl X "range") (hm2 : X.mg "range" = none) (ha : SE X a m)
    (na : starEach [a] X.env = (false, eval a X.env) :: starEach [] X.env := by rfl) (nb : starEach [.Call (.Name "range" p2) [a] [] pos2] X.env = (false, eval (.Call (.Name "range" p2) [a] [] pos2) X.env) :: starEach [] X.env := by rfl) :
    SE X (.Call (.Name "list" p) [.Call (.Name "range" p2) [a] [] pos2] [] pos) (mListRg rg1 m) := PE.imp (pe_listRg hc hg hm (prg_1 hg2 hm2 ha na) nb) fun σ H Q ⟨I, e, Fs, R, d, e', hm, k⟩ => by
  obtain ⟨⟨x, e1⟩, h1, hm⟩ := Option.bind_eq_some_iff.mp hm
  obtain ⟨⟨lo, hi⟩, h2, hm⟩ := Option.bind_eq_some_iff.mp hm
  have hm : (if -1000000 ≤ lo ∧ lo ≤ 1000000 ∧ -1000000 ≤ hi ∧ hi ≤ 1000000 then some (D.lst (rngD lo (hi - lo).toNat), e1) else none) = some (d, e') := hm
  split at hm
  · rename_i hz
    cases hm
    cases x with
    | int n =>
      cases h2
      refine ⟨I, e, Fs, R, .int hi, _, h1, fun v I1 F1 H1 R1 x1 r1 => ?_⟩
      simp only [Rp] at r1
      subst r1
      refine ⟨_, rfl, ⟨by omega, by omega, by omega, by omega, by omega⟩, fun q hq => ?_⟩
      obtain ⟨R2, x2⟩ := (Gr.new q (.lst (rgV 0 hi)) hq : Gr I1 H1 _ _).rel R1
      exact k _ _ F1 _ R2 (x1.trans x2) (rp_lst R1.sub hq (rpl_rng 0 hi))
    | _ => cases h2
  · cases hm
end MV

namespace MV
open PySem L2
variable [TB]
theorem _root_.L2.Room.u1 {k : Nat} {A : Around} (r : Room k A) : A.units + 1 < cLine := by have := r.un; omega
theorem hfld {K : PySem.W.Frag} {mg : Str → Option Value} {c f : Str} {A : Addr} (h : mg c = some (.ref A)) (h1 : Cls K A) (h2 : NoAttr K A f) : ∀ C, mg c = some (.ref C) → Cls K C ∧ NoAttr K C f := fun C e => by
  rw [h] at e
  cases e
  exact ⟨h1, h2⟩
/-- a place named by an expression is frozen, then s -/
def sFzL (lf : P Pth) (s : S) : S := fun e => (lf e).bind fun p => sFz p s e
theorem ss_fzL {X : Cx} {A : Nat → Bool} {Wx : WX} {st : Stmt} {m : S} (lf : P Pth) (h : SS X A Wx st m) : SS X A Wx st (sFzL lf m) := ⟨fun pins s σ H D I ⟨I0, e, Fs, R, r, hm, k⟩ => by
  obtain ⟨p, h1, hm⟩ := Option.bind_eq_some_iff.mp hm
  exact (ss_fz p h).run pins s σ H D I ⟨I0, e, Fs, R, r, hm, k⟩⟩
theorem st_inD {X : Cx} {o b : Expr} {f : P Pth} {g : P D} {pos : Pos} (hu : X.A.units + 1 < cLine) (hb : SV X b g) (ho : SL X o f) (hm : behindInMarks .In o = false := by first | rfl | with_unfolding_all rfl) : ST X (.Compare b [.In] [o] pos) (mBool (mV (vInD false g f))) :=
  PT.imp (pt_cmp (pc_din hu hb ho) hm) fun σ H Q h => by
    obtain ⟨I, e, Fs, R, c, e', h1, k⟩ := h
    obtain ⟨⟨d, e1⟩, h2, h3⟩ := Option.bind_eq_some_iff.mp h1
    obtain ⟨d', h4, h5⟩ := Option.map_eq_some_iff.mp h2
    cases h5
    cases d with
    | bool b' =>
      cases h3
      refine ind_run (neg := false) (Q := fun x H1 => ∃ c, x = .bl c ∧ Q c H1) ⟨I, e, Fs, R, _, h4, fun v I' H' g r => ?_⟩
      simp only [Rp] at r
      subst r
      obtain ⟨R', x'⟩ := g.rel R
      exact ⟨_, rfl, k I' Fs H' R' x'⟩
    | _ => cases h3
theorem st_notInD {X : Cx} {o b : Expr} {f : P Pth} {g : P D} {pos : Pos} (hu : X.A.units + 1 < cLine) (hb : SV X b g) (ho : SL X o f) (hm : behindInMarks .NotIn o = false := by first | rfl | with_unfolding_all rfl) : ST X (.Compare b [.NotIn] [o] pos) (mBool (mV (vInD true g f))) :=
  PT.imp (pt_cmp (pc_dnotin hu hb ho) hm) fun σ H Q h => by
    obtain ⟨I, e, Fs, R, c, e', h1, k⟩ := h
    obtain ⟨⟨d, e1⟩, h2, h3⟩ := Option.bind_eq_some_iff.mp h1
    obtain ⟨d', h4, h5⟩ := Option.map_eq_some_iff.mp h2
    cases h5
    cases d with
    | bool b' =>
      cases h3
      refine ind_run (neg := true) (Q := fun x H1 => ∃ c, x = .bl c ∧ Q c H1) ⟨I, e, Fs, R, _, h4, fun v I' H' g r => ?_⟩
      simp only [Rp] at r
      subst r
      obtain ⟨R', x'⟩ := g.rel R
      exact ⟨_, rfl, k I' Fs H' R' x'⟩
    | _ => cases h3
/-! ### a, b = x, y by a tuple -/
def tgsN : List Nat → TGs
  | [] => gNil
  | i :: is => gCons (gName i) (tgsN is)
theorem tgsN_run : ∀ (is : List Nat) (vs : List V) (σ : L2.St) (H : Hp) (Q : L2.St → Hp → Prop), vs.length = is.length → Q (setV is vs σ) H → tgsN is vs σ H Q
  | [], [], σ, H, Q, h, q => ⟨rfl, q⟩
  | i :: is, v :: vs, σ, H, Q, h, q => ⟨v, vs, rfl, tgsN_run is vs _ H Q (by simpa using h) q⟩
  | [], _ :: _, σ, H, Q, h, q => by simp at h
  | _ :: _, [], σ, H, Q, h, q => by simp at h
theorem ss_parT {X : Cx} {A : Nat → Bool} {Wx : WX} {ts es : List Expr} {is : List Nat} {m : M (List W)} {pt pt2 pos : Pos} {kt k2 : Nat} (hA : is.all A = true) (hc : X.calm = true) (hg : PGs X ts (tgsN is)) (ha : SAW X Wx es m)
    (hn : (assignEach ts X.env).length = is.length := by rfl) (hst : (assignEach ts X.env).findIdx? (·.1) = none := by rfl)
    (hs : swapsWithSole [.Tuple ts kt pt] (.Tuple es k2 pt2) pos.line X.env = pure false := by rfl) (hw : swappedStores [.Tuple ts kt pt] (.Tuple es k2 pt2) X.env = pure none := by rfl)
    (h1 : (assignEach [.Tuple ts kt pt] X.env).map (·.2) = [assign (.Tuple ts kt pt) X.env] := by rfl) (hz : is.length ≤ 1000 := by decide) :
    SS X A Wx (.Assign [.Tuple ts kt pt] (.Tuple es k2 pt2) pos) (sPar is m) := PS.imp (ps_asg (pe_tup ha) (pg_tup (n := is.length) hc hg hn hst) hs hw h1) fun Dd σ H h => by
  obtain ⟨I, e, Fs, R, ws, e1, h1, k, kx⟩ := par_run (fun i hi => List.all_eq_true.mp hA i hi) h
  refine ⟨I, e, Fs, R, ws, e1, h1, fun vs I1 F1 H1 Gs R1 x1 ol hG => ?_, kx⟩
  obtain ⟨hl, kk⟩ := k vs I1 F1 H1 Gs R1 x1 ol hG
  refine ⟨by rw [hl, sizeLine_eq]; omega, fun p hp => ⟨p, vs, rfl, .of upd_same, hl, tgsN_run is vs σ _ _ hl (kk _ (.inl ⟨p, _, hp, rfl⟩))⟩⟩
/-! ### x op= e, x a name -/
def sAug (i : Nat) (f : D → D → Option D) (m : M D) : S := fun e => match e[i]? with
  | some (some (.p x)) => (m e).bind fun y => (f x y.1).map fun z => .nx (y.2.set i (some (.p z)))
  | _ => none
theorem ss_aug {X : Cx} {A : Nat → Bool} {Wx : WX} {op : Operator} {g : Int → Int → Int} {i : Nat} {x : Str} {a : Expr} {m : M D} {pos pos' : Pos} (hp : PIp X op (ipI g)) (hA : A i = true) (hN : X.N.Nodup) (hi : X.N[i]? = some x) (hx : Loc X.env.scope x) (ha : SE X a m) (hf : X.fn x = true ∨ X.env.scope.names.lookup x = some .local := by first | exact .inl rfl | exact .inr rfl | assumption) :
    SS X A Wx (.AugAssign (.Name x pos') op a pos) (sAug i (dI fun p q => some (.int (g p q))) m) := PS.imp (ps_aug hN hi hx ha hp hf) fun Dd σ H ⟨I, e, Fs, R, r, hm, k⟩ => by
  unfold sAug at hm
  split at hm
  · rename_i d hd
    obtain ⟨⟨y, e1⟩, h1, hm⟩ := Option.bind_eq_some_iff.mp hm
    obtain ⟨z, h2, hm⟩ := Option.map_eq_some_iff.mp hm
    cases hm
    obtain ⟨v, hv, ro⟩ := R.at_ i _ hd
    simp only [Ro] at ro
    refine ⟨v, hv, I, e, Fs, R, y, e1, h1, fun u I1 F1 H1 R1 x1 r1 => ?_⟩
    cases d with
    | int p =>
      cases y with
      | int q =>
        cases h2
        simp only [Rp] at ro r1
        refine ⟨p, q, ro.1, r1, k _ I1 _ H1 (R1.put (F := []) (.pure (d := .int (g p q)) rp_int)) (x1.put fun b hb => ?_) (Agr.refl.set hA)⟩
        cases hb
      | _ => cases h2
    | _ => cases h2
  · cases hm
/-! ### what is walked: a list or a tuple -/
def iSeq (m : M D) : M (List D) := fun e => (m e).bind fun x => match x.1 with
  | .lst ds => some (ds, x.2)
  | .fl ds => some (ds, x.2)
  | .tup ds => some (ds, x.2)
  | _ => none
theorem si_seq {X : Cx} {tg a : Expr} {m : M D} (h : SE X a m) : SI X tg a (iSeq m) := ⟨fun pins s σ H R I hq => by
  obtain ⟨I0, e, Fs, R0, ds, e', hm, k⟩ := hq
  obtain ⟨⟨d, e1⟩, h1, hm⟩ := Option.bind_eq_some_iff.mp hm
  cases d with
  | lst xs => cases hm; exact (si_list (tg := tg) h).run pins s σ H R I ⟨I0, e, Fs, R0, ds, _, by unfold iLst; rw [h1]; rfl, k⟩
  | fl xs => cases hm; exact (si_list (tg := tg) h).run pins s σ H R I ⟨I0, e, Fs, R0, ds, _, by unfold iLst; rw [h1]; rfl, k⟩
  | tup xs => cases hm; exact (si_tup (tg := tg) h).run pins s σ H R I ⟨I0, e, Fs, R0, ds, _, by unfold iTpl; rw [h1]; rfl, k⟩
  | _ => cases hm⟩
end MV

namespace MV
open PySem L2
/-! ### evaluation: the pure part, places, owned things -/
section
variable {e : Env} {d x y : D} {i j k : Nat} {f g : P D} {lf : P Pth} {p : Pth} {w u : W} {c fl : Str} {st : List Stp}
@[simp] theorem ev_mV : mV f e = retK (f e) e := by unfold mV retK; cases f e <;> rfl
def vrK : Option (Option W) → Option D
  | some (some (.p d)) => some d
  | _ => none
@[simp] theorem ev_vVar : vVar i e = vrK e[i]? := by unfold vVar vrK; rcases e[i]? with _ | _ | w <;> first | rfl | (cases w <;> rfl)
@[simp] theorem vrK_s : vrK (some (some (.p d))) = some d := rfl
@[simp] theorem ev_vC : vC d e = some d := rfl
def v2K (h : D → D → Option D) : Option D → Option D → Option D
  | some x, some y => h x y
  | _, _ => none
@[simp] theorem ev_vOp {h : D → D → Option D} : vOp h f g e = v2K h (f e) (g e) := by unfold vOp v2K; rcases f e with _ | x <;> rcases g e with _ | y <;> rfl
@[simp] theorem v2K_s {h : D → D → Option D} : v2K h (some x) (some y) = h x y := rfl
@[simp] theorem ev_vUn {h : D → Option D} : vUn h f e = (f e).bind h := rfl
@[simp] theorem ev_vaNil : vaNil e = some [] := rfl
@[simp] theorem ev_vaCons {r : P (List D)} : vaCons f r e = (f e).bind fun x => (r e).map fun y => x :: y := rfl
@[simp] theorem ev_vDisp {h : List D → Option D} {r : P (List D)} : vDisp h r e = (r e).bind h := rfl
def at1 (st : List Stp) : Option (Option W) → Option W
  | some (some w) => w.sub st
  | _ => none
@[simp] theorem ev_atE : atE e p = at1 p.2 e[p.1]? := by unfold atE at1; rcases e[p.1]? with _ | _ | w <;> rfl
@[simp] theorem at1_s : at1 st (some (some w)) = w.sub st := rfl
def put1 (e : Env) (p : Pth) (u : W) : Option (Option W) → Env
  | some (some w) => e.set p.1 (some (w.put p.2 u))
  | _ => e
@[simp] theorem ev_putE : putE e p u = put1 e p u e[p.1]? := by unfold putE put1; rcases e[p.1]? with _ | _ | w <;> rfl
@[simp] theorem put1_s : put1 e p u (some (some w)) = e.set p.1 (some (w.put p.2 u)) := rfl
@[simp] theorem sub_nil : w.sub [] = some w := by cases w <;> rfl
@[simp] theorem put_nil : w.put [] u = u := by cases w <;> rfl
def lnK (i : Nat) : Option (Option W) → Option Pth
  | some (some _) => some (i, [])
  | _ => none
@[simp] theorem ev_lName : lName i e = lnK i e[i]? := by unfold lName lnK; rcases e[i]? with _ | _ | w <;> rfl
@[simp] theorem lnK_s : lnK i (some (some w)) = some (i, []) := rfl
def rdK (e : Env) : Option Pth → Option D
  | some p => rd1 (atE e p)
  | none => none
where rd1 : Option W → Option D
  | some (.p d) => some d
  | _ => none
@[simp] theorem ev_vRead : vRead lf e = rdK e (lf e) := by
  unfold vRead rdK
  rcases lf e with _ | p
  · rfl
  · simp only [Option.bind_some, rdK.rd1] <;> rcases atE e p with _ | w <;> first | rfl | (cases w <;> rfl)
@[simp] theorem rdK_s : rdK e (some p) = rdK.rd1 (atE e p) := rfl
@[simp] theorem rd1_s : rdK.rd1 (some (.p d)) = some d := rfl
-- append to a name
def apK (i : Nat) (mw : M W) (e : Env) : Option (Option W) → Option (W × Env)
  | some (some (.ol _)) => ap2 i (mw e)
  | _ => none
where
  ap2 (i : Nat) : Option (W × Env) → Option (W × Env)
  | some x => ap3 i x.1 x.2
  | none => none
  ap3 (i : Nat) (w : W) (e : Env) : Option (W × Env) := match w with
  | .ex y => some (.ex y, e)
  | w => ap4 i w e e[i]?
  ap4 (i : Nat) (w : W) (e : Env) : Option (Option W) → Option (W × Env)
  | some (some (.ol ws)) => if ws.length < 1000000 then some (.p .none, e.set i (some (.ol (ws ++ [w])))) else none
  | _ => none
@[simp] theorem ev_appO {mw : M W} : mAppO i mw e = apK i mw e e[i]? := by
  unfold mAppO apK
  rcases e[i]? with _ | _ | w0
  · rfl
  · rfl
  · cases w0 with
    | ol ws =>
      simp only [apK.ap2]
      rcases mw e with _ | ⟨w1, e1⟩
      · rfl
      · simp only [Option.bind_some, apK.ap3]
        cases w1 with
        | ex y => rfl
        | _ =>
          simp only [apK.ap4] <;> rcases e1[i]? with _ | _ | w2 <;> first | rfl | (cases w2 <;> rfl)
    | _ => rfl
@[simp] theorem apK_s {mw : M W} {ws : List W} : apK i mw e (some (some (.ol ws))) = apK.ap2 i (mw e) := rfl
@[simp] theorem ap2_s {w : W} : apK.ap2 i (some (w, e)) = apK.ap3 i w e := rfl
@[simp] theorem ap3_p : apK.ap3 i (.p d) e = apK.ap4 i (.p d) e e[i]? := rfl
@[simp] theorem ap3_ol {ws : List W} : apK.ap3 i (.ol ws) e = apK.ap4 i (.ol ws) e e[i]? := rfl
@[simp] theorem ap4_s {ws : List W} : apK.ap4 i w e (some (some (.ol ws))) = if ws.length < 1000000 then some (.p .none, e.set i (some (.ol (ws ++ [w])))) else none := rfl
-- several values
@[simp] theorem ev_wNil : wNil e = some ([], e) := rfl
def wcK (r : M (List W)) : Option (W × Env) → Option (List W × Env)
  | some x => wc2 r x.1 x.2
  | none => none
where
  wc2 (r : M (List W)) (w : W) (e : Env) : Option (List W × Env) := match w with
  | .ex y => some ([.ex y], e)
  | w => wc3 w (r e)
  wc3 (w : W) : Option (List W × Env) → Option (List W × Env)
  | some y => some (consW w y.1, y.2)
  | none => none
@[simp] theorem ev_wCons {mw : M W} {r : M (List W)} : wCons mw r e = wcK r (mw e) := by
  unfold wCons wcK
  rcases mw e with _ | ⟨w, e1⟩
  · rfl
  · simp only [Option.bind_some, wcK.wc2]
    cases w with
    | ex y => rfl
    | _ => simp only [wcK.wc3]; rcases r e1 with _ | z <;> rfl
@[simp] theorem wcK_s {r : M (List W)} : wcK r (some (w, e)) = wcK.wc2 r w e := rfl
theorem wc2_n {r : M (List W)} (h : nex w = true) : wcK.wc2 r w e = wcK.wc3 w (r e) := by cases w <;> first | rfl | cases h
@[simp] theorem wc2_p {r : M (List W)} : wcK.wc2 r (.p d) e = wcK.wc3 (.p d) (r e) := rfl
@[simp] theorem wc2_ol {r : M (List W)} {ws : List W} : wcK.wc2 r (.ol ws) e = wcK.wc3 (.ol ws) (r e) := rfl
@[simp] theorem wc2_od {r : M (List W)} {ws : List (Key × W)} : wcK.wc2 r (.od ws) e = wcK.wc3 (.od ws) (r e) := rfl
@[simp] theorem wc2_oi {r : M (List W)} {ws : List (Str × W)} : wcK.wc2 r (.oi c ws) e = wcK.wc3 (.oi c ws) (r e) := rfl
@[simp] theorem wc3_s {ws : List W} : wcK.wc3 w (some (ws, e)) = some (consW w ws, e) := rfl
@[simp] theorem consW_nil : consW w [] = [w] := rfl
@[simp] theorem consW_2 {w1 w2 : W} {ws : List W} : consW w (w1 :: w2 :: ws) = w :: w1 :: w2 :: ws := by cases w1 <;> rfl
theorem consW_1 {w1 : W} (h : nex w1 = true) : consW w [w1] = [w, w1] := by cases w1 <;> first | rfl | cases h
@[simp] theorem consW_1p : consW w [.p d] = [w, .p d] := rfl
@[simp] theorem consW_1ol {ws : List W} : consW w [.ol ws] = [w, .ol ws] := rfl
@[simp] theorem consW_1od {ws : List (Key × W)} : consW w [.od ws] = [w, .od ws] := rfl
@[simp] theorem consW_1oi {ws : List (Str × W)} : consW w [.oi c ws] = [w, .oi c ws] := rfl
@[simp] theorem onW_2 {α : Type} {w1 w2 : W} {ws : List W} {a : D → α} {b : List W → α} : onW (w1 :: w2 :: ws) a b = b (w1 :: w2 :: ws) := by cases w1 <;> rfl
@[simp] theorem onW_0 {α : Type} {a : D → α} {b : List W → α} : onW [] a b = b [] := rfl
theorem onW_1 {α : Type} {a : D → α} {b : List W → α} (h : nex w = true) : onW [w] a b = b [w] := by cases w <;> first | rfl | cases h
@[simp] theorem onW_1p {α : Type} {a : D → α} {b : List W → α} : onW [.p d] a b = b [.p d] := rfl
@[simp] theorem onW_1ol {α : Type} {ws : List W} {a : D → α} {b : List W → α} : onW [.ol ws] a b = b [.ol ws] := rfl
def parK (is : List Nat) : Option (List W × Env) → Option SR
  | some x => onW x.1 (fun y => some (.ex y x.2)) fun ws => if ws.length = is.length then some (.nx (setA is ws x.2)) else none
  | none => none
@[simp] theorem ev_par {is : List Nat} {m : M (List W)} : sPar is m e = parK is (m e) := by unfold sPar parK; cases m e <;> rfl
@[simp] theorem parK_s {is : List Nat} {ws : List W} : parK is (some (ws, e)) = onW ws (fun y => some (.ex y e)) fun ws => if ws.length = is.length then some (.nx (setA is ws e)) else none := rfl
@[simp] theorem setA_c {i : Nat} {is : List Nat} {ws : List W} : setA (i :: is) (w :: ws) e = setA is ws (e.set i (some w)) := rfl
@[simp] theorem setA_n {ws : List W} : setA [] ws e = e := by cases ws <;> rfl
def olwK : Option (List W × Env) → Option (W × Env)
  | some x => onW x.1 (fun y => some (.ex y, x.2)) fun ws => if ws.length ≤ 1000000 then some (.ol ws, x.2) else none
  | none => none
@[simp] theorem ev_olW {m : M (List W)} : mOlW m e = olwK (m e) := by unfold mOlW olwK; cases m e <;> rfl
@[simp] theorem olwK_s {ws : List W} : olwK (some (ws, e)) = onW ws (fun y => some (.ex y, e)) fun ws => if ws.length ≤ 1000000 then some (.ol ws, e) else none := rfl
def tupwK : Option (List W × Env) → Option (W × Env)
  | some x => onW x.1 (fun y => some (.ex y, x.2)) fun ws => (allPW ws).bind fun ds => (fTup ds).map fun d => (.p d, x.2)
  | none => none
@[simp] theorem ev_tupW {m : M (List W)} : mTupW m e = tupwK (m e) := by unfold mTupW tupwK; cases m e <;> rfl
@[simp] theorem tupwK_s {ws : List W} : tupwK (some (ws, e)) = onW ws (fun y => some (.ex y, e)) fun ws => (allPW ws).bind fun ds => (fTup ds).map fun d => (.p d, e) := rfl
@[simp] theorem allPW_n : allPW [] = some [] := rfl
@[simp] theorem allPW_c {ws : List W} : allPW (.p d :: ws) = (allPW ws).map (d :: ·) := rfl
-- freezing
def fzK (e : Env) (s : S) : Option Pth → Option SR
  | some p => fz1 e p s (atE e p)
  | none => none
where
  fz1 (e : Env) (p : Pth) (s : S) : Option W → Option SR
  | some u => fz2 e p s (frz u)
  | none => none
  fz2 (e : Env) (p : Pth) (s : S) : Option D → Option SR
  | some d => s (putE e p (.p d))
  | none => none
@[simp] theorem ev_fzL {s : S} : sFzL lf s e = fzK e s (lf e) := by
  unfold sFzL fzK
  rcases lf e with _ | p
  · rfl
  · simp only [Option.bind_some, sFz, fzK.fz1]
    rcases atE e p with _ | u
    · rfl
    · simp only [Option.bind_some, fzK.fz2]
      rcases frz u with _ | d <;> rfl
@[simp] theorem fzK_s {s : S} : fzK e s (some p) = fzK.fz1 e p s (atE e p) := rfl
@[simp] theorem fz1_s {s : S} : fzK.fz1 e p s (some u) = fzK.fz2 e p s (frz u) := rfl
@[simp] theorem fz2_s {s : S} : fzK.fz2 e p s (some d) = s (putE e p (.p d)) := rfl
@[simp] theorem frz_p : frz (.p d) = some d := by unfold frz; rfl
theorem frzL_p : ∀ ds : List D, frzL (ds.map .p) = some ds
  | [] => by unfold frzL; rfl
  | d :: ds => by rw [List.map_cons]; unfold frzL; rw [frzL_p ds, frz_p]; rfl
@[simp] theorem frz_ol {ds : List D} : frz (.ol (ds.map .p)) = some (.lst ds) := by unfold frz; rw [frzL_p]; rfl
@[simp] theorem frz_ol0 : frz (.ol []) = some (.lst []) := frz_ol (ds := [])
-- calls of methods, making
def roK (c m : Str) (i : Nat) (r : M (List Arg)) (e : Env) : Option (Option W) → Option (List Arg × Env)
  | some (some (.oi c' gs)) => if c' = c ∧ (getFW gs m).isNone = true then ro2 i (r e) else none
  | _ => none
where ro2 (i : Nat) : Option (List Arg × Env) → Option (List Arg × Env)
  | some y => some (.io i :: y.1, y.2)
  | none => none
@[simp] theorem ev_aRO {m : Str} {r : M (List Arg)} : aRO c m i r e = roK c m i r e e[i]? := by
  unfold aRO roK
  rcases e[i]? with _ | _ | w0
  · rfl
  · rfl
  · cases w0 with
    | oi c' gs => simp only [roK.ro2]; rcases r e with _ | y <;> rfl
    | _ => rfl
@[simp] theorem roK_s {m : Str} {r : M (List Arg)} {c' : Str} {gs : List (Str × W)} : roK c m i r e (some (some (.oi c' gs))) = if c' = c ∧ (getFW gs m).isNone = true then roK.ro2 i (r e) else none := rfl
@[simp] theorem ro2_s {as : List Arg} : roK.ro2 i (some (as, e)) = some (.io i :: as, e) := rfl
def mkK1 (c : Str) (h : FSem) : Option (List Arg × Env) → Option (W × Env)
  | some x => mk2 c h x.1 (gather x.1 x.2)
  | none => none
where
  mk2 (c : Str) (h : FSem) (as : List Arg) : Option (List W × Env) → Option (W × Env)
  | some y => mk3 as y.2 (h (.oi c [] :: y.1))
  | none => none
  mk3 (as : List Arg) (e2 : Env) : Option (W × Env) → Option (W × Env)
  | some z => mkR as e2 z
  | none => none
@[simp] theorem ev_make {h : FSem} {m : M (List Arg)} : mMake c h m e = mkK1 c h (m e) := by
  unfold mMake mkK1
  rcases m e with _ | ⟨as, e1⟩
  · rfl
  · simp only [Option.bind_some, mkK1.mk2]
    rcases gather as e1 with _ | ⟨ws, e2⟩
    · rfl
    · simp only [Option.bind_some, mkK1.mk3]
      rcases h (.oi c [] :: ws) with _ | z <;> rfl
@[simp] theorem mkK1_s {h : FSem} {as : List Arg} : mkK1 c h (some (as, e)) = mkK1.mk2 c h as (gather as e) := rfl
@[simp] theorem mk2_s {h : FSem} {as : List Arg} {ws : List W} : mkK1.mk2 c h as (some (ws, e)) = mkK1.mk3 as e (h (.oi c [] :: ws)) := rfl
@[simp] theorem mk3_s {as : List Arg} {oe : Env} : mkK1.mk3 as e (some (.p .none, some w :: oe)) = some (w, scatter as oe e) := rfl
@[simp] theorem fTup_s {ds : List D} : fTup ds = if ds.length ≤ LIM then some (.tup ds) else none := rfl
end
/-! ### a list or a tuple walked -/
def sqK : Option (D × Env) → Option (List D × Env)
  | some (.lst ds, e) => some (ds, e)
  | some (.fl ds, e) => some (ds, e)
  | some (.tup ds, e) => some (ds, e)
  | _ => none
@[simp] theorem ev_iSeq {m : M D} {e : Env} : iSeq m e = sqK (m e) := by
  unfold iSeq sqK
  rcases m e with _ | ⟨d, e1⟩
  · rfl
  · cases d <;> rfl
@[simp] theorem sqK_l {ds : List D} {e : Env} : sqK (some (.lst ds, e)) = some (ds, e) := rfl
@[simp] theorem sqK_f {ds : List D} {e : Env} : sqK (some (.fl ds, e)) = some (ds, e) := rfl
@[simp] theorem sqK_t {ds : List D} {e : Env} : sqK (some (.tup ds, e)) = some (ds, e) := rfl
/-! ### loops -/
/-- by what has been done -/
theorem forRun_pre {α : Type} {tg : Tg} {b : S} (g : α → D) (P : List α → Env → Prop) (xs : List α) (hs : ∀ pre x post e, xs = pre ++ x :: post → P pre e → ∃ e1 e2, tg (g x) e = some e1 ∧ b e1 = some (.nx e2) ∧ P (pre ++ [x]) e2) :
    ∀ (e : Env), P [] e → ∃ e', forRun tg b (xs.map g) e = some (.nx e') ∧ P xs e' := by
  have : ∀ (post pre : List α) (e : Env), xs = pre ++ post → P pre e → ∃ e', forRun tg b (post.map g) e = some (.nx e') ∧ P xs e' := by
    intro post
    induction post with
    | nil => intro pre e hx hp; rw [List.append_nil] at hx; subst hx; exact ⟨e, rfl, hp⟩
    | cons x post ih =>
      intro pre e hx hp
      obtain ⟨e1, e2, h1, h2, h3⟩ := hs pre x post e hx hp
      obtain ⟨e', h4, h5⟩ := ih (pre ++ [x]) e2 (by rw [hx]; simp) h3
      exact ⟨e', by rw [List.map_cons, forRun_cons h1 h2]; exact h4, h5⟩
  exact fun e h => this xs [] e rfl h
/-- the items bear a property, the state an invariant -/
theorem forRun_mem {tg : Tg} {b : S} (P : Env → Prop) : ∀ (ds : List D) (hs : ∀ d ∈ ds, ∀ e, P e → ∃ e1 e2, tg d e = some e1 ∧ b e1 = some (.nx e2) ∧ P e2) (e : Env), P e → ∃ e', forRun tg b ds e = some (.nx e') ∧ P e'
  | [], _, e, h => ⟨e, rfl, h⟩
  | d :: ds, hs, e, h => by
    obtain ⟨e1, e2, h1, h2, h3⟩ := hs d (by simp) e h
    obtain ⟨e', h4, h5⟩ := forRun_mem P ds (fun d hd => hs d (by simp [hd])) e2 h3
    exact ⟨e', by rw [forRun_cons h1 h2]; exact h4, h5⟩
/-- a while loop by a measure -/
theorem whRun_ok {α : Type} {c : M Bool} {b : S} (E : α → Env → Prop) (mu : α → Nat) (Fin : Env → Prop) (hs : ∀ a e, E a e → (∃ e1, c e = some (false, e1) ∧ Fin e1) ∨ ∃ e1 e2 a', c e = some (true, e1) ∧ b e1 = some (.nx e2) ∧ E a' e2 ∧ mu a' < mu a) :
    ∀ (n : Nat) (a : α) (e : Env), E a e → mu a < n → ∃ e', whRun c b n e = some (.nx e') ∧ Fin e'
  | 0, a, e, _, h => by omega
  | n + 1, a, e, he, h => by
    rcases hs a e he with ⟨e1, h1, h2⟩ | ⟨e1, e2, a', h1, h2, h3, h4⟩
    · exact ⟨e1, by unfold whRun; rw [h1]; rfl, h2⟩
    · obtain ⟨e', h5, h6⟩ := whRun_ok E mu Fin hs n a' e2 h3 (by omega)
      refine ⟨e', ?_, h6⟩
      unfold whRun
      rw [h1]
      simp only [Option.bind_some, if_true, h2]
      exact h5
end MV

namespace MV
open PySem L2
variable [TB]
/-! ### what is known no more -/
def killR (is : List Nat) : SR → SR
  | .nx e => .nx (wipeE e is)
  | .ct e => .ct (wipeE e is)
  | r => r
def sKill (is : List Nat) (m : S) : S := fun e => (m e).map (killR is)
theorem Rel.kill {K : PySem.W.Frag} {mg : Str → Option Value} {I H : Hp} {e : Env} {Fs : Fp} {σ : L2.St} (R : Rel K mg I e Fs σ H) (is : List Nat) : ∃ F', Rel K mg I (wipeE e is) F' σ H ∧ ∀ a, MF F' a → MF Fs a := by
  obtain ⟨F', R', m⟩ := R.wiped is
  exact ⟨F', R'.unwiped, m⟩
theorem Ext.less {Fs F1 F2 : Fp} {I H I' H' : Hp} (x : Ext Fs I H F1 I' H') (m : ∀ a, MF F2 a → MF F1 a) : Ext Fs I H F2 I' H' := ⟨x.g, fun a h => x.fp a (m a h)⟩
theorem kill_run {K : PySem.W.Frag} {mg : Str → Option Value} {A : Nat → Bool} {Wx : WX} {is : List Nat} {m : S} {Dd : Ends} {σ : L2.St} {H : Hp} (h : tS K mg A Wx (sKill is m) Dd σ H) : tS K mg A Wx m Dd σ H := by
  obtain ⟨I, e, Fs, R, r, hm, k⟩ := h
  obtain ⟨r0, h0, rfl⟩ := Option.map_eq_some_iff.mp hm
  refine ⟨I, e, Fs, R, r0, h0, ?_⟩
  cases r0 with
  | nx e0 =>
    exact fun σ' I' Fs' H' R' x a => by
      obtain ⟨F', R2, m2⟩ := R'.kill is
      exact k σ' I' F' H' R2 (x.less m2) a
  | ct e0 =>
    exact fun σ' I' Fs' H' R' x a => by
      obtain ⟨F', R2, m2⟩ := R'.kill is
      exact k σ' I' F' H' R2 (x.less m2) a
  | rt w e0 => exact k
  | bk e0 => exact k
  | ex y e0 => exact k
theorem sb_kill {X : Cx} {A : Nat → Bool} {Wx : WX} {st : List Stmt} {m : S} (is : List Nat) (h : SB X A Wx st m) : SB X A Wx st (sKill is m) := PSs.imp h fun Dd σ H q => kill_run q
def kilK (is : List Nat) : Option SR → Option SR
  | some r => some (killR is r)
  | none => none
@[simp] theorem ev_kill {is : List Nat} {m : S} {e : Env} : sKill is m e = kilK is (m e) := by unfold sKill kilK; cases m e <;> rfl
@[simp] theorem kilK_nx {is : List Nat} {e : Env} : kilK is (some (.nx e)) = some (.nx (wipeE e is)) := rfl
@[simp] theorem kilK_ct {is : List Nat} {e : Env} : kilK is (some (.ct e)) = some (.ct (wipeE e is)) := rfl
@[simp] theorem kilK_rt {is : List Nat} {e : Env} {w : W} : kilK is (some (.rt w e)) = some (.rt w e) := rfl
@[simp] theorem kilK_bk {is : List Nat} {e : Env} : kilK is (some (.bk e)) = some (.bk e) := rfl
@[simp] theorem kilK_ex {is : List Nat} {e : Env} {x : D} : kilK is (some (.ex x e)) = some (.ex x e) := rfl
/-! ### a comprehension's turn -/
section
variable {own : List Nat} {tg : Tg} {c : M Bool} {m : M D} {e e1 : Env} {d : D} {b : Bool}
def lsM (own : List Nat) : Option (D × Env) → Option (Option D × Env)
  | some (y, e) => some (some y, wipeE e own)
  | none => none
def lsC (own : List Nat) (m : M D) : Option (Bool × Env) → Option (Option D × Env)
  | some (b, e) => if b = true then lsM own (m e) else some (none, wipeE e own)
  | none => none
def lsT (own : List Nat) (c : M Bool) (m : M D) : Option Env → Option (Option D × Env)
  | some e => lsC own m (c e)
  | none => none
def lcStep (own : List Nat) (tg : Tg) (c : M Bool) (m : M D) (d : D) (e : Env) : Option (Option D × Env) := lsT own c m (tg d e)
@[simp] theorem lsM_s : lsM own (some (d, e)) = some (some d, wipeE e own) := rfl
@[simp] theorem lsC_s : lsC own m (some (b, e)) = cond b (lsM own (m e)) (some (none, wipeE e own)) := by cases b <;> rfl
@[simp] theorem lsT_s : lsT own c m (some e) = lsC own m (c e) := rfl
theorem lcRun_c {ds : List D} : lcRun own tg c m (d :: ds) e = (lcStep own tg c m d e).bind fun x => (lcRun own tg c m ds x.2).map fun r => (x.1.toList ++ r.1, r.2) := by
  unfold lcStep
  simp only [lcRun]
  rcases tg d e with _ | e1
  · rfl
  · simp only [Option.bind_some, lsT]
    rcases c e1 with _ | ⟨b, e2⟩
    · rfl
    · cases b with
      | true =>
        simp only [Option.bind_some, lsC, if_true]
        rcases m e2 with _ | ⟨y, e3⟩
        · rfl
        · rfl
      | false =>
        simp only [Option.bind_some, lsC]
        simp
theorem lcRun_eq {α : Type} {g : α → D} {h : α → Option D} : ∀ {xs : List α}, (∀ x ∈ xs, lcStep own tg c m (g x) e = some (h x, e)) → lcRun own tg c m (xs.map g) e = some (xs.filterMap h, e)
  | [], _ => rfl
  | x :: xs, k => by
    rw [List.map_cons, lcRun_c, k x (by simp), Option.bind_some, lcRun_eq fun y hy => k y (by simp [hy])]
    cases e : h x <;> simp [e]
theorem lcRun_mp {α : Type} {g : α → D} (f : α → D) {xs : List α} (k : ∀ x ∈ xs, lcStep own tg c m (g x) e = some (some (f x), e)) : lcRun own tg c m (xs.map g) e = some (xs.map f, e) := by
  rw [lcRun_eq (h := fun x => some (f x)) k]
  simp
theorem lcRun_ft {α : Type} {g : α → D} (f : α → D) (p : α → Bool) {xs : List α} (k : ∀ x ∈ xs, lcStep own tg c m (g x) e = some (cond (p x) (some (f x)) none, e)) : lcRun own tg c m (xs.map g) e = some ((xs.filter p).map f, e) := by
  rw [lcRun_eq (h := fun x => cond (p x) (some (f x)) none) k]
  congr 1
  congr 1
  clear k
  induction xs with
  | nil => rfl
  | cons x xs ih => cases hp : p x <;> simp [hp, ih]
/-- the state by an invariant, the results by a property -/
theorem lcRun_st {α : Type} {g : α → D} (P : List α → List D → Env → Prop) : ∀ (xs : List α), (∀ pre x post acc e, xs = pre ++ x :: post → P pre acc e → ∃ o e', lcStep own tg c m (g x) e = some (o, e') ∧ P (pre ++ [x]) (acc ++ o.toList) e') →
    ∀ e, P [] [] e → ∃ ys e', lcRun own tg c m (xs.map g) e = some (ys, e') ∧ P xs ys e' := by
  intro xs hs
  have : ∀ (post pre : List α) (acc : List D) (e : Env), xs = pre ++ post → P pre acc e → ∃ ys e', lcRun own tg c m (post.map g) e = some (ys, e') ∧ P xs (acc ++ ys) e' := by
    intro post
    induction post with
    | nil => intro pre acc e hx hp; rw [List.append_nil] at hx; subst hx; exact ⟨[], e, rfl, by rw [List.append_nil]; exact hp⟩
    | cons x post ih =>
      intro pre acc e hx hp
      obtain ⟨o, e2, h1, h2⟩ := hs pre x post acc e hx hp
      obtain ⟨ys, e', h3, h4⟩ := ih (pre ++ [x]) _ e2 (by rw [hx]; simp) h2
      exact ⟨o.toList ++ ys, e', by rw [List.map_cons, lcRun_c, h1, Option.bind_some, h3]; rfl, by rw [← List.append_assoc]; exact h4⟩
  intro e h
  obtain ⟨ys, e', h1, h2⟩ := this xs [] [] e rfl h
  exact ⟨ys, e', h1, by simpa using h2⟩
end
/-! ### a loop's turn -/
section
variable {tg : Tg} {b : S} {e : Env} {d : D}
def fsT (b : S) : Option Env → Option SR
  | some e => b e
  | none => none
def forStep (tg : Tg) (b : S) (d : D) (e : Env) : Option SR := fsT b (tg d e)
@[simp] theorem fsT_s : fsT b (some e) = b e := rfl
theorem forRun_c {ds : List D} : forRun tg b (d :: ds) e = (forStep tg b d e).bind fun r => match r with
    | .nx e2 => forRun tg b ds e2
    | .ct e2 => forRun tg b ds e2
    | .bk e2 => some (.nx e2)
    | .rt w e2 => some (.rt w e2)
    | .ex x e2 => some (.ex x e2) := by
  unfold forStep
  simp only [forRun]
  rcases tg d e with _ | e1
  · rfl
  · rfl
theorem forRun_fold {α σ : Type} {g : α → D} (E : σ → Env) (f : σ → α → σ) : ∀ (xs : List α) (s : σ), (∀ s, ∀ x ∈ xs, forStep tg b (g x) (E s) = some (.nx (E (f s x)))) → forRun tg b (xs.map g) (E s) = some (.nx (E (xs.foldl f s)))
  | [], s, _ => rfl
  | x :: xs, s, k => by
    rw [List.map_cons, forRun_c, k s x (by simp), Option.bind_some]
    exact forRun_fold E f xs (f s x) fun s y hy => k s y (by simp [hy])
theorem forRun_same {α : Type} {g : α → D} : ∀ {xs : List α}, (∀ x ∈ xs, forStep tg b (g x) e = some (.nx e)) → forRun tg b (xs.map g) e = some (.nx e)
  | [], _ => rfl
  | x :: xs, k => by rw [List.map_cons, forRun_c, k x (by simp), Option.bind_some]; exact forRun_same fun y hy => k y (by simp [hy])
/-- all or the first that is not -/
theorem forRun_all {α : Type} {g : α → D} {w : W} (p : α → Bool) : ∀ {xs : List α}, (∀ x ∈ xs, (p x = true → forStep tg b (g x) e = some (.nx e)) ∧ (p x = false → ∃ z, forStep tg b (g x) e = some (.rt w z))) →
    (xs.all p = true ∧ forRun tg b (xs.map g) e = some (.nx e)) ∨ (xs.all p = false ∧ ∃ z, forRun tg b (xs.map g) e = some (.rt w z))
  | [], _ => .inl ⟨rfl, rfl⟩
  | x :: xs, k => by
    have ih := forRun_all p (xs := xs) fun y hy => k y (by simp [hy])
    cases hp : p x with
    | true =>
      have h := (k x (by simp)).1 hp
      rw [List.map_cons, forRun_c, h, Option.bind_some, List.all_cons, hp, Bool.true_and]
      exact ih
    | false =>
      obtain ⟨z, h⟩ := (k x (by simp)).2 hp
      right
      exact ⟨by rw [List.all_cons, hp, Bool.false_and], z, by rw [List.map_cons, forRun_c, h, Option.bind_some]⟩
/-- the first that something is said of -/
theorem forRun_find {α : Type} {g : α → D} (p : α → Option W) : ∀ {xs : List α}, (∀ x ∈ xs, (p x = none → forStep tg b (g x) e = some (.nx e)) ∧ (∀ w, p x = some w → ∃ z, forStep tg b (g x) e = some (.rt w z))) →
    (xs.findSome? p = none ∧ forRun tg b (xs.map g) e = some (.nx e)) ∨ (∃ w, xs.findSome? p = some w ∧ ∃ z, forRun tg b (xs.map g) e = some (.rt w z))
  | [], _ => .inl ⟨rfl, rfl⟩
  | x :: xs, k => by
    have ih := forRun_find p (xs := xs) fun y hy => k y (by simp [hy])
    cases hp : p x with
    | none =>
      have h := (k x (by simp)).1 hp
      rw [List.map_cons, forRun_c, h, Option.bind_some, List.findSome?_cons, hp]
      exact ih
    | some w =>
      obtain ⟨z, h⟩ := (k x (by simp)).2 w hp
      right
      exact ⟨w, by rw [List.findSome?_cons, hp], z, by rw [List.map_cons, forRun_c, h, Option.bind_some]⟩
/-- what has been done, and what was done before -/
theorem forRun_st {α : Type} {g : α → D} (P : List α → Env → Prop) (xs : List α) (hs : ∀ pre x post e, xs = pre ++ x :: post → P pre e → ∃ e2, (forStep tg b (g x) e = some (.nx e2) ∨ forStep tg b (g x) e = some (.ct e2)) ∧ P (pre ++ [x]) e2) :
    ∀ (e : Env), P [] e → ∃ e', forRun tg b (xs.map g) e = some (.nx e') ∧ P xs e' := by
  have : ∀ (post pre : List α) (e : Env), xs = pre ++ post → P pre e → ∃ e', forRun tg b (post.map g) e = some (.nx e') ∧ P xs e' := by
    intro post
    induction post with
    | nil => intro pre e hx hp; rw [List.append_nil] at hx; subst hx; exact ⟨e, rfl, hp⟩
    | cons x post ih =>
      intro pre e hx hp
      obtain ⟨e2, h1, h3⟩ := hs pre x post e hx hp
      obtain ⟨e', h4, h5⟩ := ih (pre ++ [x]) e2 (by rw [hx]; simp) h3
      exact ⟨e', by rw [List.map_cons, forRun_c]; rcases h1 with h1 | h1 <;> rw [h1, Option.bind_some] <;> exact h4, h5⟩
  exact fun e h => this xs [] e rfl h
end
/-! ### conditions not known yet -/
section
variable {α : Type} {e e1 : Env} {b c : Bool} {p : Prop} [Decidable p] {x y : D}
@[simp] theorem andK_b {u : M Bool} : andK u (some (b, e)) = cond b (u e) (some (false, e)) := by cases b <;> rfl
@[simp] theorem orK_b {u : M Bool} : orK u (some (b, e)) = cond b (some (true, e)) (u e) := by cases b <;> rfl
@[simp] theorem ifK_b {f g : Env → Option α} : ifK f g (some (b, e)) = cond b (f e) (g e) := by cases b <;> rfl
@[simp] theorem chK3_b {g : D → D → Option D} {mc : M D} {y : D} : chK3 g mc y e (some (.bool b)) = cond b (opK2 g y (mc e)) (some (.bool false, e)) := by cases b <;> rfl
@[simp] theorem ite_b1 : (if p then some (b, e) else some (false, e)) = some (decide p && b, e) := by by_cases h : p <;> simp [h]
@[simp] theorem ite_b2 : (if p then some (true, e) else some (b, e)) = some (decide p || b, e) := by by_cases h : p <;> simp [h]
@[simp] theorem ite_d1 : (if p then some (D.bool b, e) else some (D.bool false, e)) = some (D.bool (decide p && b), e) := by by_cases h : p <;> simp [h]
@[simp] theorem ite_d2 : (if p then some (D.bool true, e) else some (D.bool b, e)) = some (D.bool (decide p || b), e) := by by_cases h : p <;> simp [h]
@[simp] theorem ite_o1 : (if p then some (some x, e) else some (none, e)) = some (cond (decide p) (some x) none, e) := by by_cases h : p <;> simp [h]
@[simp] theorem cond_b1 : cond c (some (b, e)) (some (false, e)) = some (c && b, e) := by cases c <;> simp
@[simp] theorem cond_b2 : cond c (some (true, e)) (some (b, e)) = some (c || b, e) := by cases c <;> simp
@[simp] theorem cond_d1 : cond c (some (D.bool b, e)) (some (D.bool false, e)) = some (D.bool (c && b), e) := by cases c <;> simp
@[simp] theorem cond_d2 : cond c (some (D.bool true, e)) (some (D.bool b, e)) = some (D.bool (c || b), e) := by cases c <;> simp
@[simp] theorem cond_o1 : cond c (some (some x, e)) (some (none, e)) = some (cond c (some x) none, e) := by cases c <;> simp
end
end MV

namespace MV
open PySem L2
variable [TB]
/-! ### [e for x in a for y in b] -/
def lc2Run (own : List Nat) (t : Tg) (c : M Bool) (mi1 : M (List D)) (vs1 : List Nat) (t1 : Tg) (c1 : M Bool) (m : M D) : List D → Env → Option (List D × Env)
  | [], e => some ([], e)
  | d :: ds, e => (t d e).bind fun e1 => (c e1).bind fun b => if b.1 = true then (mi1 b.2).bind fun x => if x.1.length ≤ 1000 then (lcRun vs1 t1 c1 m x.1 (wipeE x.2 vs1)).bind fun y => (lc2Run own t c mi1 vs1 t1 c1 m ds (wipeE y.2 own)).map fun r => (y.1 ++ r.1, r.2) else none
    else lc2Run own t c mi1 vs1 t1 c1 m ds (wipeE b.2 own)
def mLc2 (own : List Nat) (mi : M (List D)) (t : Tg) (c : M Bool) (mi1 : M (List D)) (vs1 : List Nat) (t1 : Tg) (c1 : M Bool) (m : M D) : M D := fun e => (mi e).bind fun x => if x.1.length ≤ 1000 then (lc2Run own t c mi1 vs1 t1 c1 m x.1 (wipeE x.2 own)).map fun r => (.lst r.1, r.2) else none
/-- the state of a list being made at Dd -/
structure Mk2 (K : PySem.W.Frag) (mg : Str → Option Value) (I H : Hp) (Fs : Fp) (I1 : Hp) (Dd : Addr) (τ : L2.St) (Hc : Hp) (ec : Env) (acc : List V) (dacc : List D) (I2 : Hp) (F2 : Fp) : Prop where
  rel : Rel K mg I2 ec F2 τ Hc
  ext : Ext Fs I H F2 I2 Hc
  ex : Ex I1 I2
  at_ : Hc Dd = some (.lst acc)
  nI : I2 Dd = none
  nF : ¬ MF F2 Dd
  r : RpL K mg I2 dacc acc
section
variable {K : PySem.W.Frag} {mg : Str → Option Value} {I H : Hp} {Fs : Fp} {I1 : Hp} {Dd : Addr} {τ : L2.St} {Hc : Hp} {ec : Env} {acc : List V} {dacc : List D} {I2 : Hp} {F2 : Fp}
theorem keepAt {Fa : Fp} {Ia Ha : Hp} {Fb : Fp} {Ib Hb : Hp} {o : HO} (x : Ext Fa Ia Ha Fb Ib Hb) (h1 : Ha Dd = some o) (h2 : Ia Dd = none) (h3 : ¬ MF Fa Dd) (n : NT o := by intro _ z; cases z) : Hb Dd = some o ∧ Ib Dd = none ∧ ¬ MF Fb Dd := by
  refine ⟨x.g.fr Dd o h1 h3 n, ?_, fun q => ?_⟩
  · cases q : Ib Dd with
    | none => rfl
    | some u =>
      rcases x.g.new Dd (by rw [q]; exact fun z => by cases z) with z | z | z
      · exact absurd h2 z
      · rw [h1] at z; cases z
      · exact absurd z h3
  · rcases x.fp Dd q with z | z
    · exact h3 z
    · rw [h1] at z; cases z
theorem Mk2.step (k : Mk2 K mg I H Fs I1 Dd τ Hc ec acc dacc I2 F2) {τ' : L2.St} {H' : Hp} {e' : Env} {I' : Hp} {F' : Fp} (R : Rel K mg I' e' F' τ' H') (x : Ext F2 I2 Hc F' I' H') : Mk2 K mg I H Fs I1 Dd τ' H' e' acc dacc I' F' := by
  obtain ⟨a, b, c⟩ := keepAt x k.at_ k.nI k.nF
  exact ⟨R, k.ext.trans x, k.ex.trans x.g.ex, a, b, c, k.r.mono x.g.ex _ _⟩
theorem Mk2.less (k : Mk2 K mg I H Fs I1 Dd τ Hc ec acc dacc I2 F2) {τ' : L2.St} {e' : Env} {F' : Fp} (R : Rel K mg I2 e' F' τ' Hc) (m : ∀ a, MF F' a → MF F2 a) : Mk2 K mg I H Fs I1 Dd τ' Hc e' acc dacc I2 F' :=
  ⟨R, k.ext.less m, k.ex, k.at_, k.nI, fun q => k.nF (m _ q), k.r⟩
theorem Mk2.push (hDH : MF Fs Dd ∨ H Dd = none) (k : Mk2 K mg I H Fs I1 Dd τ Hc ec acc dacc I2 F2) {z : V} {y : D} (r : Rp K mg I2 y z) : Mk2 K mg I H Fs I1 Dd τ (upd Hc Dd (.lst (acc ++ [z]))) ec (acc ++ [z]) (dacc ++ [y]) I2 F2 := by
  exact ⟨k.rel.loose2 k.nI k.nF (.lst k.at_), ⟨k.ext.g.set hDH (.lst k.at_), k.ext.fp⟩, k.ex, upd_same, k.nI, k.nF, k.r.append (RpL.cons r RpL.nil)⟩
theorem wipe_wipe {σ : L2.St} {own : List Nat} : wipe (wipe σ own) own = wipe σ own := by
  refine List.ext_getElem? fun j => ?_
  rw [wipe_get, wipe_get]
  by_cases y : j ∈ own
  · rw [if_pos y, if_pos y]
    cases σ[j]? <;> rfl
  · rw [if_neg y, if_neg y]
theorem tg_wipe {σ σ4 : L2.St} {own : List Nat} (hl : σ4.length = (wipe σ own).length) (a : Agr (ownA own) (wipe σ own) σ4) : wipe σ4 own = wipe σ own := by
  have q := wipe_agr (σ := wipe σ own) hl (by
    intro j hj
    rw [a j hj]
    rw [wipe_get (σ := wipe σ own), if_neg (by simpa [ownA] using hj)])
  rw [q, wipe_wipe]
theorem lc2_run {own vs1 : List Nat} {mi mi1 : M (List D)} {t t1 : Tg} {c c1 : M Bool} {m : M D} {σ : L2.St} {H : Hp} {Q : VK} (h : tE K mg (mLc2 own mi t c mi1 vs1 t1 c1 m) σ H Q) :
    tLc2 (tI K mg mi) (tG K mg (ownA own) t) (tT K mg c) (tI K mg mi1) (tG K mg (ownA vs1) t1) (tT K mg c1) (tE K mg m) own vs1 σ H Q := by
  obtain ⟨I, e, Fs, R, d, e', hm, k⟩ := h
  obtain ⟨⟨ds, e1⟩, h1, hm⟩ := Option.bind_eq_some_iff.mp hm
  have hm : (if ds.length ≤ 1000 then (lc2Run own t c mi1 vs1 t1 c1 m ds (wipeE e1 own)).map fun r => (D.lst r.1, r.2) else none) = some (d, e') := hm
  split at hm
  case isFalse => cases hm
  rename_i hlen
  obtain ⟨⟨ys, e2⟩, h2, hm⟩ := Option.map_eq_some_iff.mp hm
  cases hm
  refine ⟨I, e, Fs, R, ds, e1, h1, fun J I1 F1 H1 R1 x1 hJ D hD => ?_⟩
  have hsz : sizeLine = 16777216 := sizeLine_eq
  have hDH : MF Fs D ∨ H D = none := by
    cases q : H D with
    | none => exact .inr rfl
    | some u =>
      by_cases mm : MF Fs D
      · exact .inl mm
      · exfalso
        rw [x1.g.back mm hD] at q
        cases q
  refine ⟨fun i n Hc => n = ds.length - i ∧ i ≤ ds.length ∧ ∃ I2 F2 ec acc dacc rest, Mk2 K mg I H Fs I1 D (wipe σ own) Hc ec acc dacc I2 F2 ∧ dacc.length ≤ i * 1000 ∧
    lc2Run own t c mi1 vs1 t1 c1 m (ds.drop i) ec = some (rest, e2) ∧ ys = dacc ++ rest, ⟨ds.length, ?_⟩, ?_⟩
  · obtain ⟨F2, R2, m2⟩ := R1.wiped own
    have R3 := R2.loose (o := .lst []) hD
    have hI : I1 D = none := by
      cases q : I1 D with
      | none => rfl
      | some u => rw [R1.sub D u q] at hD; cases hD
    have hF : ¬ MF F2 D := fun ⟨i, hi⟩ => R2.live i D hi hD
    exact ⟨by simp, Nat.zero_le _, I1, F2, wipeE e1 own, [], [], ys, ⟨R3, ⟨⟨x1.g.ex, fun a u q mm nt => Ex.new hD a u (x1.g.fr a u q mm nt), x1.g.new, fun t => (x1.g.tb t).ext (Ex.new hD), fun a ps q mm => let ⟨p', h'⟩ := x1.g.tl a ps q mm; ⟨p', Ex.new hD a _ h'⟩⟩, fun a mm => x1.fp a (m2 a mm)⟩, Ex.refl _, upd_same, hI, hF, RpL.nil⟩, Nat.zero_le _, by rw [List.drop_zero]; exact h2, rfl⟩
  · rintro i n Hc ⟨rfl, hi, I2, F2, ec, acc, dacc, rest, Z, hl, hrun, hys⟩
    have it := hJ i I2 Hc Z.ex Z.rel.sub
    by_cases hlt : i < ds.length
    · refine .inr ?_
      obtain ⟨hgo, hy⟩ := it.1 _ (List.getElem?_eq_getElem hlt)
      refine ⟨hgo, fun H' => ∃ I2 F2 ec acc dacc rest, Mk2 K mg I H Fs I1 D (wipe σ own) H' ec acc dacc I2 F2 ∧ dacc.length ≤ (i + 1) * 1000 ∧
        lc2Run own t c mi1 vs1 t1 c1 m (ds.drop (i + 1)) ec = some (rest, e2) ∧ ys = dacc ++ rest, fun H' h => ⟨ds.length - (i + 1), by omega, rfl, hlt, h⟩, fun v H3 hv => ?_⟩
      obtain ⟨I3, g3, r3⟩ := hy v H3 hv
      obtain ⟨R3, x3⟩ := g3.rel Z.rel
      have Z3 := Z.step R3 x3
      rw [List.drop_eq_getElem_cons hlt] at hrun
      simp only [lc2Run] at hrun
      obtain ⟨e4, h4, hrun⟩ := Option.bind_eq_some_iff.mp hrun
      obtain ⟨⟨b, e5⟩, h5, hrun⟩ := Option.bind_eq_some_iff.mp hrun
      refine ⟨I3, ec, F2, ds[i], R3, r3, e4, h4, fun σ4 F4 R4 m4 a4 hl4 => ?_⟩
      have hw : wipe σ4 own = wipe σ own := tg_wipe hl4 a4
      have Z4 := Z3.less R4 m4
      refine ⟨hw, I3, e4, F4, R4, b, e5, h5, fun I5 F5 H5 R5 x5 => ?_⟩
      have Z5 := Z4.step R5 x5
      cases b with
      | false =>
        show (if false = true then _ else _)
        rw [if_neg Bool.false_ne_true]
        rw [if_neg Bool.false_ne_true] at hrun
        obtain ⟨F6, R6, m6⟩ := R5.wiped own
        rw [hw] at R6
        exact ⟨I5, F6, wipeE e5 own, acc, dacc, rest, Z5.less R6 m6, by omega, hrun, hys⟩
      | true =>
        show (if true = true then _ else _)
        rw [if_pos rfl]
        rw [if_pos rfl] at hrun
        obtain ⟨⟨xs, e6⟩, h6, hrun⟩ := Option.bind_eq_some_iff.mp hrun
        have hrun : (if xs.length ≤ 1000 then (lcRun vs1 t1 c1 m xs (wipeE e6 vs1)).bind fun y => (lc2Run own t c mi1 vs1 t1 c1 m (ds.drop (i + 1)) (wipeE y.2 own)).map fun r => (y.1 ++ r.1, r.2) else none) = some (rest, e2) := hrun
        split at hrun
        case isFalse => cases hrun
        rename_i hxs
        obtain ⟨⟨as, e7⟩, h7, hrun⟩ := Option.bind_eq_some_iff.mp hrun
        obtain ⟨⟨rs, e8⟩, h8, hrun⟩ := Option.map_eq_some_iff.mp hrun
        cases hrun
        refine ⟨I5, e5, F5, R5, xs, e6, h6, fun J1 I6 F6 H6 R6 x6 hJ1 => ?_⟩
        have Z6 := Z5.step R6 x6
        refine ⟨fun j n Hc => n = xs.length - j ∧ j ≤ xs.length ∧ ∃ I2 F2 ec acc da rest, Mk2 K mg I H Fs I1 D (wipe σ4 vs1) Hc ec acc (dacc ++ da) I2 F2 ∧ Ex I6 I2 ∧ da.length ≤ j ∧
          lcRun vs1 t1 c1 m (xs.drop j) ec = some (rest, e7) ∧ as = da ++ rest, ⟨xs.length, ?_⟩, ?_⟩
        · obtain ⟨F7, R7, m7⟩ := R6.wiped vs1
          exact ⟨by simp, Nat.zero_le _, I6, F7, _, acc, [], as, by rw [List.append_nil]; exact Z6.less R7 m7, Ex.refl _, Nat.zero_le _, by rw [List.drop_zero]; exact h7, rfl⟩
        · rintro j n Hj ⟨rfl, hj, Ij, Fj, ej, accj, da, restj, Zj, exj, hlj, hrunj, hasj⟩
          have itj := hJ1 j Ij Hj exj Zj.rel.sub
          by_cases hlt1 : j < xs.length
          · refine .inr ?_
            obtain ⟨hgo1, hy1⟩ := itj.1 _ (List.getElem?_eq_getElem hlt1)
            refine ⟨hgo1, fun H' => ∃ I2 F2 ec acc da rest, Mk2 K mg I H Fs I1 D (wipe σ4 vs1) H' ec acc (dacc ++ da) I2 F2 ∧ Ex I6 I2 ∧ da.length ≤ j + 1 ∧
              lcRun vs1 t1 c1 m (xs.drop (j + 1)) ec = some (rest, e7) ∧ as = da ++ rest, fun H' h => ⟨xs.length - (j + 1), by omega, rfl, hlt1, h⟩, fun v1 G3 hv1 => ?_⟩
            obtain ⟨J3, k3, s3⟩ := hy1 v1 G3 hv1
            obtain ⟨S3, y3⟩ := k3.rel Zj.rel
            have Y3 := Zj.step S3 y3
            rw [List.drop_eq_getElem_cons hlt1] at hrunj
            simp only [lcRun] at hrunj
            obtain ⟨f4, g4, hrunj⟩ := Option.bind_eq_some_iff.mp hrunj
            obtain ⟨⟨b1, f5⟩, g5, hrunj⟩ := Option.bind_eq_some_iff.mp hrunj
            refine ⟨J3, ej, Fj, xs[j], S3, s3, f4, g4, fun τ4 G4 S4 n4 b4 ml4 => ?_⟩
            have hw1 : wipe τ4 vs1 = wipe σ4 vs1 := tg_wipe ml4 b4
            have Y4 := Y3.less S4 n4
            refine ⟨hw1, J3, f4, G4, S4, b1, f5, g5, fun J5 G5 K5 S5 y5 => ?_⟩
            have Y5 := Y4.step S5 y5
            have exx : Ex I6 J5 := (exj.trans y3.g.ex).trans y5.g.ex
            cases b1 with
            | false =>
              show (if false = true then _ else _)
              rw [if_neg Bool.false_ne_true]
              rw [if_neg Bool.false_ne_true] at hrunj
              obtain ⟨G6, S6, n6⟩ := S5.wiped vs1
              rw [hw1] at S6
              exact ⟨J5, G6, _, accj, da, restj, Y5.less S6 n6, exx, by omega, hrunj, hasj⟩
            | true =>
              show (if true = true then _ else _)
              rw [if_pos rfl]
              rw [if_pos rfl] at hrunj
              obtain ⟨⟨y, f6⟩, g6, hrunj⟩ := Option.bind_eq_some_iff.mp hrunj
              obtain ⟨⟨rj, f7⟩, g7, hrunj⟩ := Option.map_eq_some_iff.mp hrunj
              cases hrunj
              refine ⟨J5, f5, G5, S5, y, f6, g6, fun z J6 G6 K6 S6 y6 s6 => ?_⟩
              have Y6 := Y5.step S6 y6
              have hacc := Y6.r.length
              rw [List.length_append] at hacc
              refine ⟨accj, Y6.at_, by omega, ?_⟩
              obtain ⟨G7, S7, n7⟩ := S6.wiped vs1
              rw [hw1] at S7
              have Y8 := (Y6.less S7 n7).push hDH s6
              rw [List.append_assoc] at Y8
              exact ⟨J6, G7, _, accj ++ [z], da ++ [y], rj, Y8, exx.trans y6.g.ex, by simp; omega, g7, by rw [hasj]; simp⟩
          · have hje : j = xs.length := by omega
            subst hje
            refine .inl ⟨itj.2 (Nat.le_refl _), ?_⟩
            rw [List.drop_length] at hrunj
            simp only [lcRun] at hrunj
            cases hrunj
            rw [List.append_nil] at hasj
            subst hasj
            obtain ⟨G6, S6, n6⟩ := (Zj.rel.unwiped).wiped own
            rw [hw] at S6
            exact ⟨Ij, G6, _, accj, dacc ++ as, rs, Zj.less S6 n6, by simp; omega, h8, by rw [hys]; simp⟩
    · have hie : i = ds.length := by omega
      subst hie
      refine .inl ⟨it.2 (Nat.le_refl _), ?_⟩
      rw [List.drop_length] at hrun
      simp only [lc2Run] at hrun
      cases hrun
      rw [List.append_nil] at hys
      subst hys
      have R3 := (Z.rel.unwiped).freeze Z.at_ Z.nI Z.nF (.lst Z.at_)
      refine k (.ref D) (upd I2 D (.lst acc)) F2 Hc R3 ⟨⟨fun a u q => ?_, Z.ext.g.fr, fun a q => ?_, fun t => (Z.ext.g.tb t).frz (.lst Z.at_), Z.ext.g.tl⟩, Z.ext.fp⟩ ?_
      · rw [upd_ne (fun z => by subst z; have := Z.nI; rw [Z.ext.g.ex a u q] at this; cases this)]
        exact Z.ext.g.ex a u q
      · by_cases z : a = D
        · subst z
          right
          rcases hDH with w | w
          · exact .inr w
          · exact .inl w
        · rw [upd_ne z] at q
          exact Z.ext.g.new a q
      · simp only [Rp]
        exact ⟨D, acc, rfl, upd_same, Z.r.mono (Ex.new Z.nI) _ _⟩
end
theorem se_lc2 {X : Cx} {elt tg iter tg1 iter1 : Expr} {ifs ifs1 : List Expr} {scope : Scope} {own : List (Str × Nat)} {vs1 : List Nat} {pos : Pos} {mi mi1 : M (List D)} {t t1 : Tg} {c c1 : M Bool} {m : M D} (hc : X.calm = true) (hN : X.N.Nodup) (ok : BlkOk X.N X.env.scope scope own) (hv : ∀ i ∈ vs1, i ∈ own.map (·.2)) (hi : SI X tg iter mi)
    (hg : ∀ (s : Shared) (H : Hp) (C : Addr) (cl : List (Str × Addr)) (fp : List Addr), SG (X.blk s H scope (compEnvC scope cl C X.env) fp) (ownA (own.map (·.2))) tg t) (ht : ∀ (s : Shared) (H : Hp) (C : Addr) (cl : List (Str × Addr)) (fp : List Addr), STs (X.blk s H scope (compEnvC scope cl C X.env) fp) ifs c)
    (hi1 : ∀ (s : Shared) (H : Hp) (C : Addr) (cl : List (Str × Addr)) (fp : List Addr), SI (X.blk s H scope (compEnvC scope cl C X.env) fp) tg1 iter1 mi1)
    (hg1 : ∀ (s : Shared) (H : Hp) (C : Addr) (cl : List (Str × Addr)) (fp : List Addr), SG (X.blk s H scope (compEnvC scope cl C X.env) fp) (ownA vs1) tg1 t1) (ht1 : ∀ (s : Shared) (H : Hp) (C : Addr) (cl : List (Str × Addr)) (fp : List Addr), STs (X.blk s H scope (compEnvC scope cl C X.env) fp) ifs1 c1)
    (he : ∀ (s : Shared) (H : Hp) (C : Addr) (cl : List (Str × Addr)) (fp : List Addr), SE (X.blk s H scope (compEnvC scope cl C X.env) fp) elt m) (hs : ∀ x, foldedSetIterable iter X.env x = pure x := by intro _; rfl) (hs1 : ∀ env x, foldedSetIterable iter1 env x = pure x := by intro _ _; rfl) :
    SE X (.ListComp elt [⟨tg, iter, ifs, 0⟩, ⟨tg1, iter1, ifs1, 0⟩] scope pos) (mLc2 (own.map (·.2)) mi t c mi1 vs1 t1 c1 m) :=
  PE.imp (pe_lc2 (wi1 := tI X.K X.mg mi1) (g := tG X.K X.mg (ownA (List.map (fun (x : Str × Nat) => x.2) own)) t) (tt := tT X.K X.mg c) (g1 := tG X.K X.mg (ownA vs1) t1) (tt1 := tT X.K X.mg c1) (te := tE X.K X.mg m) hc hN hi ok hv hg ht hi1 hg1 ht1 he hs hs1) fun σ H Q h => lc2_run h
/-! ### methods of a named owned thing, any data as arguments -/
def mMetN (f : W → List D → Option (W × D)) (i : Nat) (ma : M (List Arg)) : M D := fun e => match e[i]? with
  | some (some (.ol _)) => (ma e).bind fun x => (allD x.1).bind fun ds => match x.2[i]? with
    | some (some u) => (f u ds).map fun y => (y.2, x.2.set i (some y.1))
    | _ => none
  | _ => none
theorem se_metN {X : Cx} {i : Nat} {x : Str} {p : Pos} {a : Expr} {es : List Expr} {ma : M (List Arg)} {name : Str} {apos cpos : Pos} {id : String} {r : V → List V → Hp → VK → Prop} {f : W → List D → Option (W × D)}
    (slot : Slot "list" name id) (hty : typeOf (.builtin id) = pure (.type "method_descriptor")) (hm : MtR X id r) (hf : MetW X.K X.mg "list" r f) (hft : MetT "list" f) (hx : PE X (.Name x p) (tVar i)) (ha : SA X (a :: es) ma)
    (hbase : attributeBase (.Name x p) name X.env (eval (.Name x p) X.env) = eval (.Name x p) X.env := by rfl)
    (hfew : ((backTo cpos (starEach (a :: es) X.env)).all (fun x => !x.1) && (backToKw cpos (keywordEach [] X.env)).all (fun x => x.1.isSome)
      && decide ((a :: es).length + ([] : List Keyword).length + (if ([] : List Keyword).isEmpty then 0 else 1) < 30)) = true := by rfl)
    (hline : (apos.endLine == cpos.line) = true := by rfl) (hs : starEach (a :: es) X.env = (false, eval a X.env) :: starEach es X.env := by rfl) (hplain : (backTo cpos (starEach es X.env)).any (·.1) = false := by rfl) :
    SE X (.Call (.Attribute (.Name x p) name apos) (a :: es) [] cpos) (mMetN f i ma) := PE.imp (pe_bm PySem.F.plainAttrs_list slot hty hm hx ha hbase hfew hline hs hplain) fun σ H Q ⟨I, e, Fs, R, d, e', hm, k⟩ => by
  unfold mMetN at hm
  split at hm
  · rename_i ws0 hw0
    obtain ⟨v0, hv0, ro0⟩ := R.at_ i _ hw0
    obtain ⟨⟨as, e1⟩, h1, hm⟩ := Option.bind_eq_some_iff.mp hm
    obtain ⟨ds, h2, hm⟩ := Option.bind_eq_some_iff.mp hm
    refine ⟨v0, hv0, tag_ty ro0 (T := "list") rfl (.inl rfl), I, e, Fs, R, as, e1, h1, fun vs I1 F1 H1 R1 x1 ar => ?_⟩
    have hm : (match e1[i]? with
      | some (some u) => (f u ds).map fun y => (y.2, e1.set i (some y.1))
      | _ => none) = some (d, e') := hm
    split at hm
    · rename_i u hu
      obtain ⟨⟨u', z⟩, h3, hm⟩ := Option.map_eq_some_iff.mp hm
      cases hm
      have ht := hft _ _ _ h3
      obtain ⟨v1, hv1, ro1⟩ := R1.at_ i _ hu
      rw [hv0] at hv1
      cases hv1
      refine met_step (p := (i, [])) hf (.inl rfl) R1 x1 hu hv0 (by cases u <;> rfl) (by cases u <;> exact ⟨rfl, rfl⟩) (allD_rp h2 ar) h3 (fun v' Fs' H' R' x' rz => ?_) ht
      have e1' : putE e1 (i, []) u' = e1.set i (some u') := by
        unfold putE
        rw [hu]
        show e1.set i (some (u.put [] u')) = _
        cases u <;> rfl
      rw [e1'] at R'
      exact k v' I1 Fs' H' R' x' rz
    · cases hm
  · cases hm
/-- insert -/
def wIns : W → List D → Option (W × D)
  | .ol ws, [.int i, d] => if 0 ≤ i ∧ i < 1000000 ∧ ws.length < 1000000 then some (.ol (ws.take i.toNat ++ [.p d] ++ ws.drop i.toNat), .none) else none
  | _, _ => none
theorem RoL.splitAt {K : PySem.W.Frag} {mg : Str → Option Value} {I H : Hp} : ∀ (n : Nat) {ws : List W} {xs : List V} {F : List Addr}, RoL K mg I H ws xs F → ∃ F1 F2, F = F1 ++ F2 ∧ RoL K mg I H (ws.take n) (xs.take n) F1 ∧ RoL K mg I H (ws.drop n) (xs.drop n) F2
  | 0, ws, xs, F, h => ⟨[], F, rfl, by simp [RoL], by simpa using h⟩
  | n + 1, [], xs, F, h => by
    simp only [RoL] at h
    obtain ⟨rfl, rfl⟩ := h
    exact ⟨[], [], rfl, by simp [RoL], by simp [RoL]⟩
  | n + 1, w :: ws, xs, F, h => by
    simp only [RoL] at h
    obtain ⟨x, r, F1, F2, rfl, rfl, h1, h2⟩ := h
    obtain ⟨G1, G2, rfl, q1, q2⟩ := RoL.splitAt n h2
    refine ⟨F1 ++ G1, G2, by simp, ?_, by simpa using q2⟩
    rw [List.take_succ_cons, List.take_succ_cons]
    simp only [RoL]
    exact ⟨x, _, F1, G1, rfl, rfl, h1, q1⟩
theorem met_insert {K : PySem.W.Frag} {mg : Str → Option Value} : MetW K mg "list" (fun x vs H Q => ∃ (l : Addr) (xs : List V) (i : Int) (y : V), x = .ref l ∧ vs = [.int i, y] ∧ H l = some (.lst xs) ∧ xs.length < sizeLine ∧ 0 ≤ i ∧ i < 2 ^ 63 ∧
    Q .non (upd H l (.lst (xs.take i.toNat ++ [y] ++ xs.drop i.toNat)))) wIns := by
  intro I H a u u' z ds vs G Q s h nd hI rv hf k
  unfold wIns at hf
  split at hf
  · rename_i ws i d
    split at hf
    · rename_i hz
      cases hf
      simp only [RpL] at rv
      obtain ⟨v1, r1, rfl, hv1, v2, r2, rfl, hd, rfl⟩ := rv
      simp only [Rp] at hv1
      subst hv1
      simp only [Ro] at h
      obtain ⟨a', xs, G0, e, h1, rfl, h2⟩ := h
      cases e
      refine ⟨rfl, a, xs, i, v2, rfl, rfl, h1, by rw [← h2.len]; exact lim_lt hz.2.2, hz.1, by have := hz.2.1; omega, k _ _ (chg_l (ws := ws) (xs := xs) hI nd (G1 := G0) ?_ (List.nodup_cons.mp nd).2 fun b hb => hb) rp_none⟩
      obtain ⟨G1, G2, rfl, q1, q2⟩ := RoL.splitAt i.toNat h2
      have := (q1.append (RoL.ofP (K := K) (mg := mg) (I := I) (H := H) (RpL.cons hd RpL.nil))).append q2
      simpa using this
    · cases hf
  · cases hf
theorem mtt_insert : MetT "list" wIns := fun u ds x h => by
  unfold wIns at h
  split at h
  · rfl
  · cases h
/-- how many -/
def wLen : W → Option D
  | .ol ws => some (.int ws.length)
  | .p (.lst ds) => some (.int ds.length)
  | .p (.fl ds) => some (.int ds.length)
  | .p (.tup ds) => some (.int ds.length)
  | _ => none
theorem obs_len {K : PySem.W.Frag} {mg : Str → Option Value} : ObsW K mg (fun v H Q => ∃ x n, [v] = [x] ∧ LenV K x H n ∧ Q (.int n) H) wLen := by
  intro I H u z v G Q s h e k
  unfold wLen at e
  split at e
  · cases e
    simp only [Ro] at h
    obtain ⟨a, xs, G0, rfl, h1, rfl, h2⟩ := h
    exact ⟨_, _, rfl, .inl ⟨xs, .of h1, h2.len⟩, k _ I H .same rp_int⟩
  · cases e
    simp only [Ro, Rp] at h
    obtain ⟨⟨a, xs, rfl, h1, h2⟩, _⟩ := h
    exact ⟨_, _, rfl, .inl ⟨xs, .of (s _ _ h1), h2.length⟩, k _ I H .same rp_int⟩
  · cases e
    simp only [Ro, Rp] at h
    obtain ⟨⟨a, xs, rfl, h1, h2⟩, _⟩ := h
    exact ⟨_, _, rfl, .inl ⟨xs, ex_l s h1, h2.length⟩, k _ I H .same rp_int⟩
  · cases e
    simp only [Ro, Rp] at h
    obtain ⟨⟨a, xs, rfl, h1, h2⟩, _⟩ := h
    exact ⟨_, _, rfl, .inr ⟨xs, ex_t s h1, h2.length⟩, k _ I H .same rp_int⟩
  · cases e
theorem sv_lenW {X : Cx} {o : Expr} {f : P Pth} {p pos : Pos} (hg : Gl X "len") (hm : X.mg "len" = none) (ho : SL X o f) (hs : starEach [o] X.env = (false, eval o X.env) :: starEach [] X.env := by rfl) : SV X (.Call (.Name "len" p) [o] [] pos) (vObs wLen f) :=
  sv_obsB call_len (obs_len (K := X.K) (mg := X.mg)) hg hm boot_len ho (by decide) (by decide) hs
theorem Rp.sqL {K : PySem.W.Frag} {mg : Str → Option Value} {I H : Hp} {ds : List D} {v : V} (s : Ex I H) (h : Rp K mg I (.lst ds) v) : ∃ a xs, v = .ref a ∧ SqL K H a xs ∧ xs.length = ds.length := by
  simp only [Rp] at h
  obtain ⟨a, xs, rfl, h1, h2⟩ := h
  exact ⟨a, xs, rfl, .of (s _ _ h1), h2.length.symm⟩
end MV

namespace MV
open PySem L2
/-! ### evaluation: places, methods, stores -/
section
variable {e e1 : Env} {lf : P Pth} {f g h : P D} {p : Pth} {c fl : Str} {k : Key} {d x y : D} {u w : W} {es : List (Key × W)} {gs : List (Str × W)} {ws : List W}
def lfK (c fl : Str) (e : Env) : Option Pth → Option Pth
  | some p => lf2 c fl p (atE e p)
  | none => none
where lf2 (c fl : Str) (p : Pth) : Option W → Option Pth
  | some (.oi c' gs) => if c' = c then (getFW gs fl).bind fun _ => some (p.1, p.2 ++ [.fd fl]) else none
  | _ => none
@[simp] theorem ev_lFld : lFld c fl lf e = lfK c fl e (lf e) := by
  unfold lFld lfK
  cases lf e with
  | none => rfl
  | some p => simp only [Option.bind_some, lfK.lf2] <;> rcases atE e p with _ | u <;> first | rfl | (cases u <;> rfl)
@[simp] theorem lfK_s : lfK c fl e (some p) = lfK.lf2 c fl p (atE e p) := rfl
@[simp] theorem lf2_s : lfK.lf2 c fl p (some (.oi c gs)) = (getFW gs fl).bind fun _ => some (p.1, p.2 ++ [.fd fl]) := by unfold lfK.lf2; simp
def lkK (g : P D) (e : Env) : Option Pth → Option Pth
  | some p => lk2 p e (g e)
  | none => none
where
  lk2 (p : Pth) (e : Env) : Option D → Option Pth
  | some d => lk3 p e (keyD d)
  | none => none
  lk3 (p : Pth) (e : Env) : Option Key → Option Pth
  | some k => lk4 p k (atE e p)
  | none => none
  lk4 (p : Pth) (k : Key) : Option W → Option Pth
  | some (.od es) => (valW es k).bind fun _ => some (p.1, p.2 ++ [.ky k])
  | _ => none
@[simp] theorem ev_lKey : lKey lf g e = lkK g e (lf e) := by
  unfold lKey lkK
  cases lf e with
  | none => rfl
  | some p =>
    simp only [Option.bind_some, lkK.lk2]
    cases g e with
    | none => rfl
    | some d =>
      simp only [Option.bind_some, lkK.lk3]
      cases keyD d with
      | none => rfl
      | some k => simp only [Option.bind_some, lkK.lk4] <;> rcases atE e p with _ | u <;> first | rfl | (cases u <;> rfl)
@[simp] theorem lkK_s : lkK g e (some p) = lkK.lk2 p e (g e) := rfl
@[simp] theorem lk2_s : lkK.lk2 p e (some d) = lkK.lk3 p e (keyD d) := rfl
@[simp] theorem lk3_s : lkK.lk3 p e (some k) = lkK.lk4 p k (atE e p) := rfl
@[simp] theorem lk4_s : lkK.lk4 p k (some (.od es)) = (valW es k).bind fun _ => some (p.1, p.2 ++ [.ky k]) := rfl
@[simp] theorem keyD_i {i : Int} : keyD (.int i) = some (.inl i) := rfl
@[simp] theorem keyD_s {z : Str} : keyD (.str z) = some (.inr z) := rfl
def liK (g : P D) (e : Env) : Option Pth → Option Pth
  | some p => li2 p e (g e)
  | none => none
where
  li2 (p : Pth) (e : Env) : Option D → Option Pth
  | some (.int i) => li3 p i (atE e p)
  | _ => none
  li3 (p : Pth) (i : Int) : Option W → Option Pth
  | some (.ol ws) => (ixN ws.length i).map fun j => (p.1, p.2 ++ [.ix j])
  | some (.ot ws) => (ixN ws.length i).map fun j => (p.1, p.2 ++ [.ix j])
  | _ => none
@[simp] theorem ev_lIx : lIx lf g e = liK g e (lf e) := by
  unfold lIx liK
  cases lf e with
  | none => rfl
  | some p =>
    simp only [Option.bind_some, liK.li2]
    cases g e with
    | none => rfl
    | some d =>
      simp only [Option.bind_some]
      cases d <;> first | rfl | (simp only [liK.li3]; rcases atE e p with _ | u <;> first | rfl | (cases u <;> rfl))
@[simp] theorem liK_s : liK g e (some p) = liK.li2 p e (g e) := rfl
@[simp] theorem li2_s {i : Int} : liK.li2 p e (some (.int i)) = liK.li3 p i (atE e p) := rfl
@[simp] theorem li3_t {i : Int} : liK.li3 p i (some (.ot ws)) = (ixN ws.length i).map fun j => (p.1, p.2 ++ [.ix j]) := rfl
@[simp] theorem li3_s {i : Int} : liK.li3 p i (some (.ol ws)) = (ixN ws.length i).map fun j => (p.1, p.2 ++ [.ix j]) := rfl
def obK (hh : W → Option D) (e : Env) : Option Pth → Option D
  | some p => (atE e p).bind hh
  | none => none
@[simp] theorem ev_vObs {hh : W → Option D} : vObs hh lf e = obK hh e (lf e) := by unfold vObs obK; cases lf e <;> rfl
@[simp] theorem obK_s {hh : W → Option D} : obK hh e (some p) = (atE e p).bind hh := rfl
def inK (neg : Bool) (lf : P Pth) (e : Env) : Option D → Option D
  | some d => in2 neg lf e (keyD d)
  | none => none
where
  in2 (neg : Bool) (lf : P Pth) (e : Env) : Option Key → Option D
  | some k => in3 neg k e (lf e)
  | none => none
  in3 (neg : Bool) (k : Key) (e : Env) : Option Pth → Option D
  | some p => in4 neg k (atE e p)
  | none => none
  in4 (neg : Bool) (k : Key) : Option W → Option D
  | some (.od es) => some (.bool (if neg then !(valW es k).isSome else (valW es k).isSome))
  | _ => none
@[simp] theorem ev_vInD {neg : Bool} : vInD neg g lf e = inK neg lf e (g e) := by
  unfold vInD inK
  cases g e with
  | none => rfl
  | some d =>
    simp only [Option.bind_some, inK.in2]
    cases keyD d with
    | none => rfl
    | some k =>
      simp only [Option.bind_some, inK.in3]
      cases lf e with
      | none => rfl
      | some p => simp only [Option.bind_some, inK.in4] <;> rcases atE e p with _ | u <;> first | rfl | (cases u <;> rfl)
@[simp] theorem inK_s {neg : Bool} : inK neg lf e (some d) = inK.in2 neg lf e (keyD d) := rfl
@[simp] theorem in2_s {neg : Bool} : inK.in2 neg lf e (some k) = inK.in3 neg k e (lf e) := rfl
@[simp] theorem in3_s {neg : Bool} : inK.in3 neg k e (some p) = inK.in4 neg k (atE e p) := rfl
@[simp] theorem in4_t : inK.in4 true k (some (.od es)) = some (.bool !(valW es k).isSome) := rfl
@[simp] theorem in4_f : inK.in4 false k (some (.od es)) = some (.bool (valW es k).isSome) := rfl
-- methods
variable {ff : W → List D → Option (W × D)} {as : P (List D)} {ds : List D}
def meK (ff : W → List D → Option (W × D)) (as : P (List D)) (e : Env) : Option Pth → Option (D × Env)
  | some p => me2 ff p e (as e)
  | none => none
where
  me2 (ff : W → List D → Option (W × D)) (p : Pth) (e : Env) : Option (List D) → Option (D × Env)
  | some ds => me3 ff ds p e (atE e p)
  | none => none
  me3 (ff : W → List D → Option (W × D)) (ds : List D) (p : Pth) (e : Env) : Option W → Option (D × Env)
  | some u => me4 p e (ff u ds)
  | none => none
  me4 (p : Pth) (e : Env) : Option (W × D) → Option (D × Env)
  | some x => some (x.2, putE e p x.1)
  | none => none
@[simp] theorem ev_mMet : mMet ff lf as e = meK ff as e (lf e) := by
  unfold mMet meK
  cases lf e with
  | none => rfl
  | some p =>
    simp only [Option.bind_some, meK.me2]
    cases as e with
    | none => rfl
    | some ds =>
      simp only [Option.bind_some, meK.me3]
      cases atE e p with
      | none => rfl
      | some u => simp only [Option.bind_some, meK.me4]; cases ff u ds <;> rfl
@[simp] theorem meK_s : meK ff as e (some p) = meK.me2 ff p e (as e) := rfl
@[simp] theorem me2_s : meK.me2 ff p e (some ds) = meK.me3 ff ds p e (atE e p) := rfl
@[simp] theorem me3_s : meK.me3 ff ds p e (some u) = meK.me4 p e (ff u ds) := rfl
@[simp] theorem me4_s : meK.me4 p e (some (u, d)) = some (d, putE e p u) := rfl
variable {m : M D}
def mlK (ff : W → List D → Option (W × D)) (m : M D) (e : Env) : Option Pth → Option (D × Env)
  | some p => ml2 ff m p e e[p.1]?
  | none => none
where
  ml2 (ff : W → List D → Option (W × D)) (m : M D) (p : Pth) (e : Env) : Option (Option W) → Option (D × Env)
  | some (some w) => ml3 ff m p e w (w.sub p.2)
  | _ => none
  ml3 (ff : W → List D → Option (W × D)) (m : M D) (p : Pth) (e : Env) (w : W) : Option W → Option (D × Env)
  | some u => ml4 ff p w u (m (e.set p.1 none))
  | none => none
  ml4 (ff : W → List D → Option (W × D)) (p : Pth) (w u : W) : Option (D × Env) → Option (D × Env)
  | some x => ml5 p w x.2 (ff u [x.1])
  | none => none
  ml5 (p : Pth) (w : W) (e : Env) : Option (W × D) → Option (D × Env)
  | some y => some (y.2, e.set p.1 (some (w.put p.2 y.1)))
  | none => none
@[simp] theorem ev_mMetL : mMetL ff lf m e = mlK ff m e (lf e) := by
  unfold mMetL mlK
  cases lf e with
  | none => rfl
  | some p =>
    simp only [Option.bind_some, mlK.ml2]
    rcases e[p.1]? with _ | _ | w
    · rfl
    · rfl
    · simp only [mlK.ml3]
      cases w.sub p.2 with
      | none => rfl
      | some u =>
        simp only [Option.bind_some, mlK.ml4]
        cases m (e.set p.1 none) with
        | none => rfl
        | some x => simp only [Option.bind_some, mlK.ml5]; cases ff u [x.1] <;> rfl
@[simp] theorem mlK_s : mlK ff m e (some p) = mlK.ml2 ff m p e e[p.1]? := rfl
@[simp] theorem ml2_s : mlK.ml2 ff m p e (some (some w)) = mlK.ml3 ff m p e w (w.sub p.2) := rfl
@[simp] theorem ml3_s : mlK.ml3 ff m p e w (some u) = mlK.ml4 ff p w u (m (e.set p.1 none)) := rfl
@[simp] theorem ml4_s : mlK.ml4 ff p w u (some (d, e)) = mlK.ml5 p w e (ff u [d]) := rfl
@[simp] theorem ml5_s : mlK.ml5 p w e (some (u, d)) = some (d, e.set p.1 (some (w.put p.2 u))) := rfl
variable {ma : M (List Arg)} {i : Nat} {args : List Arg}
def mnK (ff : W → List D → Option (W × D)) (i : Nat) (ma : M (List Arg)) (e : Env) : Option (Option W) → Option (D × Env)
  | some (some (.ol _)) => mn2 ff i (ma e)
  | _ => none
where
  mn2 (ff : W → List D → Option (W × D)) (i : Nat) : Option (List Arg × Env) → Option (D × Env)
  | some x => mn3 ff i x.2 (allD x.1)
  | none => none
  mn3 (ff : W → List D → Option (W × D)) (i : Nat) (e : Env) : Option (List D) → Option (D × Env)
  | some ds => mn4 ff i e ds e[i]?
  | none => none
  mn4 (ff : W → List D → Option (W × D)) (i : Nat) (e : Env) (ds : List D) : Option (Option W) → Option (D × Env)
  | some (some u) => mn5 i e (ff u ds)
  | _ => none
  mn5 (i : Nat) (e : Env) : Option (W × D) → Option (D × Env)
  | some y => some (y.2, e.set i (some y.1))
  | none => none
@[simp] theorem ev_mMetN : mMetN ff i ma e = mnK ff i ma e e[i]? := by
  unfold mMetN mnK
  rcases e[i]? with _ | _ | w
  · rfl
  · rfl
  · cases w with
    | ol ws =>
      simp only [mnK.mn2]
      rcases ma e with _ | ⟨as, e1⟩
      · rfl
      · simp only [Option.bind_some, mnK.mn3]
        rcases allD as with _ | ds
        · rfl
        · simp only [Option.bind_some, mnK.mn4]
          rcases e1[i]? with _ | _ | u
          · rfl
          · rfl
          · simp only [mnK.mn5]; cases ff u ds <;> rfl
    | _ => rfl
@[simp] theorem mnK_s : mnK ff i ma e (some (some (.ol ws))) = mnK.mn2 ff i (ma e) := rfl
@[simp] theorem mn2_s : mnK.mn2 ff i (some (args, e)) = mnK.mn3 ff i e (allD args) := rfl
@[simp] theorem mn3_s : mnK.mn3 ff i e (some ds) = mnK.mn4 ff i e ds e[i]? := rfl
@[simp] theorem mn4_s : mnK.mn4 ff i e ds (some (some u)) = mnK.mn5 i e (ff u ds) := rfl
@[simp] theorem mn5_s : mnK.mn5 i e (some (u, d)) = some (d, e.set i (some u)) := rfl
@[simp] theorem wApp_s : wApp (.ol ws) [d] = if ws.length < 1000000 then some (.ol (ws ++ [.p d]), .none) else none := rfl
@[simp] theorem wExt_s : wExt (.ol ws) [.lst ds] = if ws.length + ds.length ≤ 1000000 then some (.ol (ws ++ ds.map .p), .none) else none := rfl
@[simp] theorem wIns_s {i : Int} : wIns (.ol ws) [.int i, d] = if 0 ≤ i ∧ i < 1000000 ∧ ws.length < 1000000 then some (.ol (ws.take i.toNat ++ [.p d] ++ ws.drop i.toNat), .none) else none := rfl
@[simp] theorem wLen_ol : wLen (.ol ws) = some (.int ws.length) := rfl
@[simp] theorem wLen_l : wLen (.p (.lst ds)) = some (.int ds.length) := rfl
-- stores
variable {mw : M W}
def fdK (c fl : Str) (lf : P Pth) : Option (W × Env) → Option SR
  | some x => fd2 c fl lf x.2 x.1
  | none => none
where
  fd2 (c fl : Str) (lf : P Pth) (e : Env) : W → Option SR
  | .ex y => some (.ex y e)
  | w => fd3 c fl w e (lf e)
  fd3 (c fl : Str) (w : W) (e : Env) : Option Pth → Option SR
  | some p => fd4 c fl w e p (atE e p)
  | none => none
  fd4 (c fl : Str) (w : W) (e : Env) (p : Pth) : Option W → Option SR
  | some (.oi c' gs) => if c' = c ∧ gs.length < 900 then some (.nx (putE e p (.oi c' (putFW fl w gs)))) else none
  | _ => none
@[simp] theorem ev_sFld : sFld c fl lf mw e = fdK c fl lf (mw e) := by
  unfold sFld fdK
  rcases mw e with _ | ⟨w, e1⟩
  · rfl
  · simp only [Option.bind_some]
    cases w <;> first | rfl | (
      simp only [fdK.fd2, fdK.fd3]
      cases lf e1 with
      | none => rfl
      | some p => simp only [Option.bind_some, fdK.fd4] <;> rcases atE e1 p with _ | u <;> first | rfl | (cases u <;> rfl))
@[simp] theorem fdK_s : fdK c fl lf (some (w, e)) = fdK.fd2 c fl lf e w := rfl
theorem fd2_n (h : nex w = true) : fdK.fd2 c fl lf e w = fdK.fd3 c fl w e (lf e) := by cases w <;> first | rfl | cases h
@[simp] theorem fd2_p : fdK.fd2 c fl lf e (.p d) = fdK.fd3 c fl (.p d) e (lf e) := rfl
@[simp] theorem fd2_ol : fdK.fd2 c fl lf e (.ol ws) = fdK.fd3 c fl (.ol ws) e (lf e) := rfl
@[simp] theorem fd2_od : fdK.fd2 c fl lf e (.od es) = fdK.fd3 c fl (.od es) e (lf e) := rfl
@[simp] theorem fd3_s : fdK.fd3 c fl w e (some p) = fdK.fd4 c fl w e p (atE e p) := rfl
@[simp] theorem fd4_s : fdK.fd4 c fl w e p (some (.oi c gs)) = if gs.length < 900 then some (.nx (putE e p (.oi c (putFW fl w gs)))) else none := by unfold fdK.fd4; simp
def duK (ff : D → D → Option D) (g h : P D) (e : Env) : Option Pth → Option SR
  | some p => du2 ff h p e (g e)
  | none => none
where
  du2 (ff : D → D → Option D) (h : P D) (p : Pth) (e : Env) : Option D → Option SR
  | some d => du3 ff h p e (keyD d)
  | none => none
  du3 (ff : D → D → Option D) (h : P D) (p : Pth) (e : Env) : Option Key → Option SR
  | some k => du4 ff h p k e (atE e p)
  | none => none
  du4 (ff : D → D → Option D) (h : P D) (p : Pth) (k : Key) (e : Env) : Option W → Option SR
  | some (.od es) => du5 ff h p k e es (valW es k)
  | _ => none
  du5 (ff : D → D → Option D) (h : P D) (p : Pth) (k : Key) (e : Env) (es : List (Key × W)) : Option W → Option SR
  | some (.p x) => du6 ff p k e es x (h e)
  | _ => none
  du6 (ff : D → D → Option D) (p : Pth) (k : Key) (e : Env) (es : List (Key × W)) (x : D) : Option D → Option SR
  | some y => du7 p k e es (ff x y)
  | none => none
  du7 (p : Pth) (k : Key) (e : Env) (es : List (Key × W)) : Option D → Option SR
  | some z => du8 p e (dputW es k (.p z))
  | none => none
  du8 (p : Pth) (e : Env) : Option (List (Key × W)) → Option SR
  | some es => some (.nx (putE e p (.od es)))
  | none => none
@[simp] theorem ev_sDAug {op : D → D → Option D} : sDAug op lf g h e = duK op g h e (lf e) := by
  unfold sDAug duK
  cases lf e with
  | none => rfl
  | some p =>
    simp only [Option.bind_some, duK.du2]
    cases g e with
    | none => rfl
    | some d =>
      simp only [Option.bind_some, duK.du3]
      cases keyD d with
      | none => rfl
      | some k =>
        simp only [Option.bind_some, duK.du4]
        rcases atE e p with _ | u
        · rfl
        · cases u with
          | od es =>
            simp only [duK.du5]
            rcases valW es k with _ | u2
            · rfl
            · cases u2 with
              | p x =>
                simp only [duK.du6]
                cases h e with
                | none => rfl
                | some y =>
                  simp only [Option.bind_some, duK.du7]
                  cases op x y with
                  | none => rfl
                  | some z => simp only [Option.bind_some, duK.du8]; cases dputW es k (.p z) <;> rfl
              | _ => rfl
          | _ => rfl
@[simp] theorem duK_s {op : D → D → Option D} : duK op g h e (some p) = duK.du2 op h p e (g e) := rfl
@[simp] theorem du2_s {op : D → D → Option D} : duK.du2 op h p e (some d) = duK.du3 op h p e (keyD d) := rfl
@[simp] theorem du3_s {op : D → D → Option D} : duK.du3 op h p e (some k) = duK.du4 op h p k e (atE e p) := rfl
@[simp] theorem du4_s {op : D → D → Option D} : duK.du4 op h p k e (some (.od es)) = duK.du5 op h p k e es (valW es k) := rfl
@[simp] theorem du5_s {op : D → D → Option D} : duK.du5 op h p k e es (some (.p x)) = duK.du6 op p k e es x (h e) := rfl
@[simp] theorem du6_s {op : D → D → Option D} : duK.du6 op p k e es x (some y) = duK.du7 p k e es (op x y) := rfl
@[simp] theorem du7_s : duK.du7 p k e es (some x) = duK.du8 p e (dputW es k (.p x)) := rfl
@[simp] theorem du8_s : duK.du8 p e (some es) = some (.nx (putE e p (.od es))) := rfl
def ddK (g : P D) (e : Env) : Option Pth → Option SR
  | some p => dd2 p e (g e)
  | none => none
where
  dd2 (p : Pth) (e : Env) : Option D → Option SR
  | some d => dd3 p e (keyD d)
  | none => none
  dd3 (p : Pth) (e : Env) : Option Key → Option SR
  | some k => dd4 p k e (atE e p)
  | none => none
  dd4 (p : Pth) (k : Key) (e : Env) : Option W → Option SR
  | some (.od es) => duK.du8 p e (ddelW es k)
  | _ => none
@[simp] theorem ev_sDDel : sDDel lf g e = ddK g e (lf e) := by
  unfold sDDel ddK
  cases lf e with
  | none => rfl
  | some p =>
    simp only [Option.bind_some, ddK.dd2]
    cases g e with
    | none => rfl
    | some d =>
      simp only [Option.bind_some, ddK.dd3]
      cases keyD d with
      | none => rfl
      | some k =>
        simp only [Option.bind_some, ddK.dd4]
        rcases atE e p with _ | u
        · rfl
        · cases u with
          | od es => simp only [duK.du8]; cases ddelW es k <;> rfl
          | _ => rfl
@[simp] theorem ddK_s : ddK g e (some p) = ddK.dd2 p e (g e) := rfl
@[simp] theorem dd2_s : ddK.dd2 p e (some d) = ddK.dd3 p e (keyD d) := rfl
@[simp] theorem dd3_s : ddK.dd3 p e (some k) = ddK.dd4 p k e (atE e p) := rfl
@[simp] theorem dd4_s : ddK.dd4 p k e (some (.od es)) = duK.du8 p e (ddelW es k) := rfl
def lpK (lf : P Pth) (g : P D) : Option (W × Env) → Option SR
  | some x => lp2 lf g x.2 x.1
  | none => none
where
  lp2 (lf : P Pth) (g : P D) (e : Env) : W → Option SR
  | .ex y => some (.ex y e)
  | w => lp3 g w e (lf e)
  lp3 (g : P D) (w : W) (e : Env) : Option Pth → Option SR
  | some p => lp4 w e p (g e)
  | none => none
  lp4 (w : W) (e : Env) (p : Pth) : Option D → Option SR
  | some (.int i) => lp5 w e p i (atE e p)
  | _ => none
  lp5 (w : W) (e : Env) (p : Pth) (i : Int) : Option W → Option SR
  | some (.ol ws) => (ixN ws.length i).map fun j => .nx (putE e p (.ol (ws.set j w)))
  | _ => none
@[simp] theorem ev_sLPut : sLPut lf g mw e = lpK lf g (mw e) := by
  unfold sLPut lpK
  rcases mw e with _ | ⟨w, e1⟩
  · rfl
  · simp only [Option.bind_some]
    cases w <;> first | rfl | (
      simp only [lpK.lp2, lpK.lp3]
      cases lf e1 with
      | none => rfl
      | some p =>
        simp only [Option.bind_some, lpK.lp4]
        cases g e1 with
        | none => rfl
        | some d => simp only [Option.bind_some]; cases d <;> first | rfl | (simp only [lpK.lp5]; rcases atE e1 p with _ | u <;> first | rfl | (cases u <;> rfl)))
@[simp] theorem lpK_s : lpK lf g (some (w, e)) = lpK.lp2 lf g e w := rfl
@[simp] theorem lp2_p : lpK.lp2 lf g e (.p d) = lpK.lp3 g (.p d) e (lf e) := rfl
@[simp] theorem lp3_s : lpK.lp3 g w e (some p) = lpK.lp4 w e p (g e) := rfl
@[simp] theorem lp4_s {i : Int} : lpK.lp4 w e p (some (.int i)) = lpK.lp5 w e p i (atE e p) := rfl
@[simp] theorem lp5_s {i : Int} : lpK.lp5 w e p i (some (.ol ws)) = (ixN ws.length i).map fun j => .nx (putE e p (.ol (ws.set j w))) := rfl
@[simp] theorem sub_f {fl : Str} {st : List Stp} : W.sub (.oi c gs) (.fd fl :: st) = (getFW gs fl).bind fun w => W.sub w st := by rw [W.sub]
@[simp] theorem sub_k {st : List Stp} : W.sub (.od es) (.ky k :: st) = (valW es k).bind fun w => W.sub w st := by rw [W.sub]
@[simp] theorem sub_i {j : Nat} {st : List Stp} : W.sub (.ol ws) (.ix j :: st) = ws[j]?.bind fun w => W.sub w st := by rw [W.sub]
theorem put_f {fl : Str} {st : List Stp} {w0 : W} (hh : getFW gs fl = some w0) : W.put (.oi c gs) (.fd fl :: st) u = .oi c (setFW gs fl (W.put w0 st u)) := by rw [W.put]; simp only [hh]
theorem put_k {st : List Stp} {w0 : W} (hh : valW es k = some w0) : W.put (.od es) (.ky k :: st) u = .od (setW es k (W.put w0 st u)) := by rw [W.put]; simp only [hh]
theorem put_i {j : Nat} {st : List Stp} {w0 : W} (hh : ws[j]? = some w0) : W.put (.ol ws) (.ix j :: st) u = .ol (ws.set j (W.put w0 st u)) := by rw [W.put]; simp only [hh]
@[simp] theorem dAddI_i {a b : Int} : dAddI (.int a) (.int b) = some (.int (a + b)) := rfl
@[simp] theorem dSub_i {a b : Int} : dSub (.int a) (.int b) = some (.int (a - b)) := rfl
def lrK (f : D → Option (Int × Int)) : Option (D × Env) → Option (D × Env)
  | some x => lr2 x.2 (f x.1)
  | none => none
where lr2 (e : Env) : Option (Int × Int) → Option (D × Env)
  | some q => if -1000000 ≤ q.1 ∧ q.1 ≤ 1000000 ∧ -1000000 ≤ q.2 ∧ q.2 ≤ 1000000 then some (.lst (rngD q.1 (q.2 - q.1).toNat), e) else none
  | none => none
@[simp] theorem ev_listRg {f : D → Option (Int × Int)} : mListRg f m e = lrK f (m e) := by
  unfold mListRg lrK
  rcases m e with _ | ⟨d, e1⟩
  · rfl
  · simp only [Option.bind_some, lrK.lr2]; cases f d <;> rfl
@[simp] theorem lrK_s {f : D → Option (Int × Int)} : lrK f (some (d, e)) = lrK.lr2 e (f d) := rfl
@[simp] theorem lr2_s {a b : Int} : lrK.lr2 e (some (a, b)) = if -1000000 ≤ a ∧ a ≤ 1000000 ∧ -1000000 ≤ b ∧ b ≤ 1000000 then some (.lst (rngD a (b - a).toNat), e) else none := rfl
@[simp] theorem rg1_i {a : Int} : rg1 (.int a) = some (0, a) := rfl
end
/-- by what has been done, the state told in full -/
theorem forRun_go {α : Type} {tg : Tg} {b : S} {g : α → D} (E : List α → Env) (xs : List α) (hs : ∀ pre x post, xs = pre ++ x :: post → forStep tg b (g x) (E pre) = some (.nx (E (pre ++ [x])))) : forRun tg b (xs.map g) (E []) = some (.nx (E xs)) := by
  obtain ⟨e', h1, h2⟩ := forRun_st (tg := tg) (b := b) (g := g) (fun pre e => e = E pre) xs (fun pre x post e hx he => ⟨_, .inl (by rw [he]; exact hs pre x post hx), rfl⟩) (E []) rfl
  rw [h1, h2]
@[simp] theorem frz_map {α : Type} {f : α → D} {xs : List α} : frz (.ol (xs.map fun x => .p (f x))) = some (.lst (xs.map f)) := by
  have := @frz_ol (xs.map f)
  rw [List.map_map] at this
  exact this
/-! ### dicts given by a function on their keys -/
def dmap (S : List Int) (g : Int → W) : List (Key × W) := S.map fun s => (Sum.inl s, g s)
theorem valW_in {S : List Int} {g : Int → W} {k : Int} (h : k ∈ S) : valW (dmap S g) (.inl k) = some (g k) := by
  unfold valW dmap
  induction S with
  | nil => cases h
  | cons s S ih =>
    by_cases z : s = k
    · subst z; simp
    · have hk : k ∈ S := by
        rcases List.mem_cons.mp h with e | e
        · exact absurd e.symm z
        · exact e
      have := ih hk
      simp only [List.map_cons, List.find?_cons]
      rw [decide_eq_false (fun q => z (by cases q; rfl))]
      exact this
theorem valW_out {S : List Int} {g : Int → W} {k : Int} (h : k ∉ S) : valW (dmap S g) (.inl k) = none := by
  unfold valW dmap
  induction S with
  | nil => rfl
  | cons s S ih =>
    simp only [List.mem_cons, not_or] at h
    simp only [List.map_cons, List.find?_cons]
    rw [decide_eq_false (fun q => h.1 (by cases q; rfl))]
    exact ih h.2
theorem valW_d {S : List Int} {g : Int → W} {k : Int} : (valW (dmap S g) (.inl k)).isSome = decide (k ∈ S) := by
  by_cases h : k ∈ S
  · rw [valW_in h]; simp [h]
  · rw [valW_out h]; simp [h]
theorem dmap_any {S : List Int} {g : Int → W} {k : Int} : ((dmap S g).any fun q => decide (q.1 = Sum.inl k)) = decide (k ∈ S) := by
  unfold dmap
  rw [List.any_map]
  induction S with
  | nil => rfl
  | cons s S ih =>
    rw [List.any_cons, ih]
    by_cases z : s = k
    · simp [z]
    · have : k ≠ s := fun q => z q.symm
      simp [z, this]
theorem dmap_congr {S : List Int} {g h : Int → W} (e : ∀ s ∈ S, g s = h s) : dmap S g = dmap S h := List.map_congr_left fun s hs => by rw [e s hs]
theorem dmap_len {S : List Int} {g : Int → W} : (dmap S g).length = S.length := by simp [dmap]
theorem putKW_dmap {S : List Int} {g : Int → W} {k : Int} {w : W} (h : k ∈ S) : putKW (dmap S g) (.inl k) w = dmap S fun s => if s = k then w else g s := by
  unfold putKW
  rw [dmap_any, if_pos (by simpa using h)]
  unfold dmap
  rw [List.map_map]
  refine List.map_congr_left fun s _ => ?_
  by_cases z : s = k
  · simp [z]
  · simp [z]
theorem dputW_dmap {S : List Int} {g : Int → W} {k : Int} {d : D} (h : k ∈ S) (hl : S.length < 1000000) : dputW (dmap S g) (.inl k) (.p d) = some (dmap S fun s => if s = k then .p d else g s) := by
  unfold dputW
  rw [putKW_dmap h, dmap_len]
  simp [isP, hl]
theorem setW_dmap {S : List Int} {g : Int → W} {k : Int} {w : W} (nd : S.Nodup) : setW (dmap S g) (.inl k) w = dmap S fun s => if s = k then w else g s := by
  unfold dmap
  induction S with
  | nil => rfl
  | cons s S ih =>
    rw [List.nodup_cons] at nd
    simp only [List.map_cons, setW]
    by_cases z : s = k
    · subst z
      simp only [if_true, true_and]
      congr 1
      refine List.map_congr_left fun t ht => ?_
      have : t ≠ s := fun q => nd.1 (by rw [← q]; exact ht)
      simp [this]
    · simp only [if_neg z]
      rw [if_neg (fun q => z (by cases q; rfl)), ih nd.2]
theorem ddelW_dmap {S : List Int} {g : Int → W} {k : Int} (h : k ∈ S) : ddelW (dmap S g) (.inl k) = some (dmap (S.filter fun s => decide (s ≠ k)) g) := by
  unfold ddelW
  rw [dmap_any, if_pos (by simpa using h)]
  unfold dmap
  rw [List.filter_map]
  congr 3
  funext s
  simp
theorem keysI_dmap {S : List Int} {g : Int → W} : keysI (dmap S g) = some S := by
  unfold dmap
  induction S with
  | nil => rfl
  | cons s S ih => show (keysI _).map _ = _; rw [ih]; rfl
theorem isort_id : ∀ {l : List Int}, l.Pairwise (· ≤ ·) → isort l = l := fun h => (sorted_is (List.Perm.refl _) h).symm
theorem wSortD_dmap {S : List Int} {g : Int → W} (h : S.Pairwise (· ≤ ·)) (hl : S.length < 64) : wSortD (.od (dmap S g)) = some (.lst (S.map .int)) := by
  show (keysI _).bind _ = _
  rw [keysI_dmap]
  simp only [Option.bind_some]
  rw [if_pos hl, isort_id h]
/-- {s: g(s) for s in ..} -/
theorem dcRun_int {own : List Nat} {i : Nat} {c : M Bool} {mk : M D} {mv : M W} {e : Env} (g : Int → W) : ∀ (S A : List Int), (A ++ S).Nodup → (A ++ S).length < 1000000 → (∀ s ∈ S, nex (g s) = true ∧ ∃ e1 e2 e3, gN i (.int s) e = some e1 ∧ c e1 = some (true, e2) ∧ mk e2 = some (.int s, e3) ∧ ∃ e4, mv e3 = some (g s, e4) ∧ wipeE e4 own = e) →
    dcRun own (gN i) c mk mv (S.map .int) (dmap A g) e = some (dmap (A ++ S) g, e)
  | [], A, _, _, _ => by simp [dcRun]
  | s :: S, A, nd, hl, k => by
    obtain ⟨hn, e1, e2, e3, h1, h2, h3, e4, h4, h5⟩ := k s (by simp)
    have hs : s ∉ A := fun q => by
      rw [List.nodup_append] at nd
      exact nd.2.2 s q s (by simp) rfl
    have hp : dputW (dmap A g) (.inl s) (g s) = some (dmap (A ++ [s]) g) := by
      unfold dputW putKW
      rw [dmap_any, decide_eq_false hs, dmap_len]
      simp only [Bool.not_false, Bool.or_true, if_true, Bool.false_eq_true, if_false]
      rw [if_pos (by simp at hl; omega)]
      simp [dmap]
    have ih := dcRun_int g S (A ++ [s]) (by simpa using nd) (by simpa using hl) fun t ht => k t (by simp [ht])
    rw [List.map_cons]
    simp only [dcRun, h1, Option.bind_some, h2, if_true, h3, h4, hn, keyD_i, hp, h5]
    rw [ih]
    simp
def dcK (own : List Nat) (t : Tg) (c : M Bool) (mk : M D) (mv : M W) : Option (List D × Env) → Option (W × Env)
  | some x => dc2 (dcRun own t c mk mv x.1 [] (wipeE x.2 own))
  | none => none
where dc2 : Option (List (Key × W) × Env) → Option (W × Env)
  | some r => some (.od r.1, r.2)
  | none => none
@[simp] theorem ev_mDc {own : List Nat} {mi : M (List D)} {t : Tg} {c : M Bool} {mk : M D} {mv : M W} {e : Env} : mDc own mi t c mk mv e = dcK own t c mk mv (mi e) := by
  unfold mDc dcK
  cases mi e with
  | none => rfl
  | some x => simp only [Option.bind_some, dcK.dc2]; cases dcRun own t c mk mv x.1 [] (wipeE x.2 own) <;> rfl
@[simp] theorem dcK_s {own : List Nat} {t : Tg} {c : M Bool} {mk : M D} {mv : M W} {e : Env} {ds : List D} : dcK own t c mk mv (some (ds, e)) = dcK.dc2 (dcRun own t c mk mv ds [] (wipeE e own)) := rfl
@[simp] theorem dc2_s {es : List (Key × W)} {e : Env} : dcK.dc2 (some (es, e)) = some (.od es, e) := rfl
end MV

namespace SumX
open PySem PySem.Spec PyProof.Rows L2
open Sem (wp)
theorem args_sum_start (a v : Value) : argsOk "sum" ⟨[a], [(Str.ofString "start", v)]⟩ := by unfold argsOk; kernel_rfl
section
variable {prog : Program} {w : World} {A : Around} {E : Value → Shared → Prop} {s : Shared} {l : Addr}
/-- a walk whose numbering begins with one more -/
theorem walk_up {I : Addr} {fp wr : List Addr} {n : Nat} {P : Nat → Value → Prop} {St : Nat → Heap → Prop} (W : Walks prog w A I fp wr n P St) : Walks prog w A I fp wr (n + 1) (fun i v => ∃ j, i = j + 1 ∧ P j v) (fun i h => ∃ j, i = j + 1 ∧ St j h) where
  sub := W.sub
  frame := fun i h h' ⟨j, e, st⟩ k => ⟨j, e, W.frame j h h' st k⟩
  item := fun i s Q E hi ⟨j, e, st⟩ hQ => W.item j s Q E (by omega) st fun v h' tk p st' k => hQ v h' tk ⟨j, e, p⟩ ⟨j + 1, by omega, st'⟩ k
  done := fun s Q E ⟨j, e, st⟩ hQ => W.done s Q E (by obtain rfl : n = j := by omega
                                                      exact st) hQ
  self := fun i s Q E ⟨j, e, st⟩ hQ => W.self j s Q E st hQ
theorem pre_up (val : Nat → Int) (c : Int) : ∀ n, preSum (fun i => match i with | 0 => c | j + 1 => val j) (n + 1) = c + preSum val n
  | 0 => by simp [preSum]
  | n + 1 => by
    rw [preSum, pre_up val c n]
    show c + preSum val n + val n = c + (preSum val n + val n)
    omega
theorem sum_from {xs : Array (Int × Tok)} {c : Int} {t : Tok} {Q : Value → Shared → Prop} (hc : -(2 ^ 63) ≤ c ∧ c < 2 ^ 63) (hh : A.handled = none) (hl : s.heap.IsList l (intItems xs))
    (h : ∀ h' tk t', (∀ b o, s.heap.get? b = some o → h'.get? b = some o) → Q (.int (c + preSum (numAt xs) xs.size) t') { s with heap := h', toks := tk }) :
    wpAny (model prog w) A (call (.builtin "sum") [.ref l] [(Str.ofString "start", .int c t)]) Q E s := by
  refine PyProof.Rows.kmk_tree F.kind_sum F.plain_sum F.entry_sum (args_sum_start _ _) ?_
  unfold Builtin.«sum»
  simp only [List.length_cons, List.length_nil]
  rw [if_neg (by decide)]
  refine wpAny_bind (wpAny_of_eq (show Builtin.Builtins.bindParams "sum" ["start"] 0 ⟨[], [(Str.ofString "start", .int c t)]⟩ = pure [some (.int c t)] from rfl) ?_)
  refine wpAny_bind (iter_intList hl fun s₂ e st hfp hlI => ?_)
  subst e
  have W := Walks.list (A := A.in1) (prog := prog) (w := w) hh s.heap.objs.size l hlI (intItems xs)
  have W' := walk_up W
  have hval : ∀ i v, (∃ j, i = j + 1 ∧ (intItems xs)[j]? = some v) → ∃ t, v = Value.int ((fun i => match i with | 0 => c | j + 1 => numAt xs j) i) t := fun i v ⟨j, e, q⟩ => by
    subst e
    exact intItems_at q
  have fin : ∀ (t1 : Tok) (stage : Int) (tk1 : Tok), (stage = 0 ∨ stage = 2) → wpAny (model prog w) A.in1 (do
      forIn [("str", "strings", "''"), ("bytes", "bytes", "b''"), ("bytearray", "bytearray", "b''")] PUnit.unit fun (x : String × String × String) (__s : PUnit) => do
          let d ← isInstance (Value.int c t1) (Value.type x.1)
          if d = true then do
              rule "sum.start-refused"
              raiseErrorMade "TypeError" (toString "sum() can't sum " ++ toString x.2.1 ++ toString " [use " ++ toString x.2.2 ++ toString ".join(seq) instead]")
              pure (ForInStep.yield PUnit.unit)
            else pure (ForInStep.yield PUnit.unit)
      let d ← newList [Value.int c t1]
      again (Code.builtin "sum.loop" { pos := [Value.ref s.heap.objs.size, d, rawInt stage, rawInt 0] }))
      (fun fin s' => match fin with
        | .done f => (match (Except.ok f : Result) with | .ok (.ret v) => Q v s' | .ok _ => False | .error e => E e s')
        | .again c' => c'.quiet = true ∧ codeAny (model prog w) A c' (fun r s' => match r with | .ok (.ret v) => Q v s' | .ok _ => False | .error e => E e s') s') E { s with heap := s.heap.push { cls := .type "list_iterator", data := .fields #[.ref l, .int 0 0] }, toks := tk1 } := by
    intro t1 stage tk1 hst1
    simp only [List.forIn_cons, List.forIn_nil]
    refine wpAny_bind (wpAny_bind (wpAny_bind (wpAny_isInstance (T := "int") (b := false) (typeIs_int _ _ _) PySem.sub_int_str ?_)))
    simp only [Bool.false_eq_true, if_false]
    refine wpAny_pure (wpAny_bind (wpAny_bind (wpAny_isInstance (T := "int") (b := false) (typeIs_int _ _ _) PySem.sub_int_bytes ?_)))
    simp only [Bool.false_eq_true, if_false]
    refine wpAny_pure (wpAny_bind (wpAny_bind (wpAny_isInstance (T := "int") (b := false) (typeIs_int _ _ _) PySem.sub_int_bytearray ?_)))
    simp only [Bool.false_eq_true, if_false]
    refine wpAny_pure (wpAny_pure ?_)
    refine wpAny_bind (wpAny_newObj_type ?_)
    have hSf : (s.heap.push { cls := .type "list_iterator", data := .fields #[.ref l, .int 0 0] }).objs.size ∉ [s.heap.objs.size, l] := fun hm => Nat.lt_irrefl _ (hfp _ hm)
    refine wpAny_pure ⟨plainId_quiet F.plain_sum_loop _, codeAny_sum_loopG W' (fun i => match i with | 0 => c | j + 1 => numAt xs j) hval _ hSf xs.size 1 _ t1 0 stage hst1 (by simp [intItems]) (by omega)
      ⟨0, rfl, W.frame _ _ _ st fun b _ o e => Heap.get?_push_of_some _ e⟩ ?_ fun h' tk t' hk => ?_⟩
    · have e1 : preSum (fun i => match i with | 0 => c | j + 1 => numAt xs j) 1 = c := by simp [preSum]
      rw [e1]
      exact Heap.get?_push_size _ rfl
    · have hz : (intItems xs).size = xs.size := by simp [intItems]
      rw [hz, pre_up]
      refine h h' tk t' fun b o e => ?_
      have e2 := Heap.get?_push_of_some { cls := .type "list_iterator", data := .fields #[.ref l, .int 0 0] } e
      have hb := Heap.lt_size e
      exact hk b o (fun hm => by rcases List.mem_cons.mp hm with z | z; exact Nat.ne_of_lt hb z; cases z) (Nat.ne_of_lt (Heap.lt_size e2)) (Heap.get?_push_of_some _ e2)
  show wpAny (model prog w) A.in1 (if _ = true then _ else _) _ _ _
  split
  · refine wpAny_bind (wpAny_rule (wpAny_bind (wpAny_mkInt (wpAny_bind (wpAny_pure ?_)))))
    exact fin _ 0 _ (Or.inl rfl)
  · refine wpAny_bind (wpAny_pure ?_)
    exact fin t 2 s.toks (Or.inr rfl)
end
end SumX

namespace MV
open PySem L2
variable [TB]
/-! ### built-ins with keywords, more built-ins -/
section
variable {X : Cx}
theorem ints_reads {h : Heap} : ∀ {ns : List Int} {us : List Value}, PyProof.Rows.IntsAre us ns → ReadsAll h us (ns.map .int) [] := by
  intro ns us r
  induction r with
  | nil => exact .nil
  | cons _ _ _ ih => exact ReadsAll.cons (as := []) (bs := []) (.int _ _) ih
theorem alike_ints {ns : List Int} : PySem.W.AlikeAll (ns.map PyData.int) := by
  refine ⟨fun x hx y hy => ?_, fun x hx => ?_⟩
  · obtain ⟨i, _, rfl⟩ := List.mem_map.mp hx
    obtain ⟨j, _, rfl⟩ := List.mem_map.mp hy
    simp [PySem.W.alike]
  · obtain ⟨i, _, rfl⟩ := List.mem_map.mp hx
    exact fun z => by cases z
theorem depth_ints : ∀ ns : List Int, PyData.depthAll (ns.map .int) = 0
  | [] => by simp [PyData.depthAll]
  | i :: l => by rw [List.map_cons]; simp only [PyData.depthAll, PyData.depth]; rw [depth_ints l]; rfl
def rSumS (K : PySem.W.Frag) : List V → List V → Hp → VK → Prop := fun vs zs H Q => ∃ (a : Addr) (ns : List Int) (c : Int), vs = [V.ref a] ∧ zs = [.int c] ∧ SqL K H a (ns.map V.int) ∧ (-(2 ^ 63) ≤ c ∧ c < 2 ^ 63) ∧ Q (.int (c + ns.sum)) H
theorem cr_sumS (hc : X.calm = true) : CallRK X (.builtin "sum") [Str.ofString "start"] (rSumS X.K) := by
  intro pins s σ H vs zs us ws Q I r rz h
  obtain ⟨a, ns, c, rfl, rfl, hs, hcc, q⟩ := h
  obtain ⟨its, rv, hl, _⟩ := I.list hs
  obtain ⟨w1, rfl, t, rfl⟩ := vals1 rz
  rw [Vals.ref1 r]
  obtain ⟨xs, e⟩ := rv.ints.allInts.items
  have hn : numsOf (intItems xs).toList = ns := by rw [← e]; exact rv.ints.numsOf
  rw [nums_intItems] at hn
  have hl := hl.isList
  rw [e] at hl
  refine SumX.sum_from hcc (I.ok.hd hc) hl fun h' tk t' hk => ?_
  refine ⟨.int _, H, I.kept hk, ⟨_, rfl⟩, ?_⟩
  rw [preSum_eq, List.take_of_length_le (by simp), hn]
  exact q
def dfl (ns : List Int) (f : Int → Int → Int) (d : V) : V := match ns with
  | [] => d
  | n :: r => .int (r.foldl f n)
def rBestD (K : PySem.W.Frag) (f : Int → Int → Int) : List V → List V → Hp → VK → Prop := fun vs zs H Q => ∃ (a : Addr) (ns : List Int) (d : V), vs = [V.ref a] ∧ zs = [d] ∧ SqL K H a (ns.map V.int) ∧ Q (dfl ns f d) H
theorem cr_maxD (hc : X.calm = true) (hu : X.A.units + 1 < cLine) : CallRK X (.builtin "max") [Str.ofString "default"] (rBestD X.K max) := by
  intro pins s σ H vs zs us ws Q I r rz h
  obtain ⟨a, ns, d, rfl, rfl, hs, q⟩ := h
  obtain ⟨its, rv, hl, _⟩ := I.list hs
  obtain ⟨w1, rfl, rd⟩ := vals1 rz
  rw [Vals.ref1 r]
  refine PySem.W.max_list_default (I.ok.hd hc) hl.isList (ints_reads (ns := ns) (by simpa using rv.ints)) alike_ints (by rw [depth_ints]; exact hu) (fun z h' tk hk => ?_) fun y ys i v h' tk bs e hv rr hk => ?_
  · have : ns = [] := by simpa using z
    subst this
    exact ⟨d, H, I.kept hk, rd, q⟩
  · cases ns with
    | nil => cases e
    | cons n ns =>
      cases e
      rw [PySem.W.maxD_ints] at rr
      cases rr with
      | int _ t => exact ⟨.int _, H, I.kept hk, ⟨t, rfl⟩, q⟩
theorem cr_minD (hc : X.calm = true) (hu : X.A.units + 1 < cLine) : CallRK X (.builtin "min") [Str.ofString "default"] (rBestD X.K min) := by
  intro pins s σ H vs zs us ws Q I r rz h
  obtain ⟨a, ns, d, rfl, rfl, hs, q⟩ := h
  obtain ⟨its, rv, hl, _⟩ := I.list hs
  obtain ⟨w1, rfl, rd⟩ := vals1 rz
  rw [Vals.ref1 r]
  refine PySem.W.min_list_default (I.ok.hd hc) hl.isList (ints_reads (ns := ns) (by simpa using rv.ints)) alike_ints (by rw [depth_ints]; exact hu) (fun z h' tk hk => ?_) fun y ys i v h' tk bs e hv rr hk => ?_
  · have : ns = [] := by simpa using z
    subst this
    exact ⟨d, H, I.kept hk, rd, q⟩
  · cases ns with
    | nil => cases e
    | cons n ns =>
      cases e
      rw [PySem.W.minD_ints] at rr
      cases rr with
      | int _ t => exact ⟨.int _, H, I.kept hk, ⟨t, rfl⟩, q⟩
end
/-- data with keywords -/
def CallDK (K : PySem.W.Frag) (mg : Str → Option Value) (r : List V → List V → Hp → VK → Prop) (f : List D → List D → Option D) : Prop :=
  ∀ (I H : Hp) (ds es : List D) (z : D) (vs zs : List V) (Q : VK), Ex I H → RpL K mg I ds vs → RpL K mg I es zs → f ds es = some z → (∀ v' I' H', Gr I H I' H' → Rp K mg I' z v' → Q v' H') → r vs zs H Q
def mDispK (f : List D → List D → Option D) (ma mk : M (List Arg)) : M D := fun e => (ma e).bind fun x => (allD x.1).bind fun ds => (mk x.2).bind fun y => (allD y.1).bind fun es => (f ds es).map fun d => (d, y.2)
theorem se_callBK {X : Cx} {id : String} {x : Str} {a : Expr} {es : List Expr} {kws : List Keyword} {ks : List Str} {p pos : Pos} {r : List V → List V → Hp → VK → Prop} {f : List D → List D → Option D} {m mk : M (List Arg)} (hc : CallRK X (.builtin id) ks r) (hf : CallDK X.K X.mg r f) (hg : Gl X x) (hm : X.mg x = none) (hv : bootBuiltins x = some (.builtin id)) (ha : SA X (a :: es) m) (hk : SK X kws mk) (hn : x ≠ "__name__" := by decide) (hdb : (x == ("__debug__" : Str)) = false := by decide)
    (he : backTo pos (starEach (a :: es) X.env) = (false, eval a X.env) :: backTo pos (starEach es X.env) := by rfl) (hpl : (backTo pos (starEach (a :: es) X.env)).any (·.1) = false := by rfl)
    (hall : (backToKw pos (keywordEach kws X.env)).all (·.1.isSome) = true := by rfl) (hnone : (backToKw pos (keywordEach kws X.env)).any (·.1.isNone) = false := by rfl) (hks : (backToKw pos (keywordEach kws X.env)).filterMap (·.1) = ks := by rfl) :
    SE X (.Call (.Name x p) (a :: es) kws pos) (mDispK f m mk) := PE.imp (pe_callBK hc hg hm hv ha hk hn hdb he hpl hall hnone hks) fun σ H Q ⟨I, e, Fs, R, d, e', hm, k⟩ => by
  obtain ⟨⟨as, e1⟩, h1, hm⟩ := Option.bind_eq_some_iff.mp hm
  obtain ⟨ds, h2, hm⟩ := Option.bind_eq_some_iff.mp hm
  obtain ⟨⟨bs, e2⟩, h3, hm⟩ := Option.bind_eq_some_iff.mp hm
  obtain ⟨es', h4, hm⟩ := Option.bind_eq_some_iff.mp hm
  obtain ⟨z0, h5, hm⟩ := Option.map_eq_some_iff.mp hm
  cases hm
  refine ⟨I, e, Fs, R, as, e1, h1, fun vs I1 F1 H1 R1 x1 ar => ⟨I1, e1, F1, R1, bs, e2, h3, fun zs I2 F2 H2 R2 x2 br => ?_⟩⟩
  refine hf I2 H2 ds es' d vs zs Q R2.sub (RpL.mono x2.g.ex _ _ (allD_rp h2 ar)) (allD_rp h4 br) h5 fun v' I3 H3 g r3 => ?_
  obtain ⟨R3, x3⟩ := g.rel R2
  exact k v' I3 F2 H3 R3 ((x1.trans x2).trans x3) r3
def fSumS : List D → List D → Option D
  | [.lst ds], [.int c] => if -1000000 ≤ c ∧ c ≤ 1000000 then (intsD ds).map fun ns => .int (c + ns.sum) else none
  | _, _ => none
theorem cd_sumS {K : PySem.W.Frag} {mg : Str → Option Value} : CallDK K mg (rSumS K) fSumS := by
  intro I H ds es z vs zs Q s r rz e k
  unfold fSumS at e
  split at e
  · rename_i ds0 c
    split at e
    · rename_i hc
      obtain ⟨ns, h1, e⟩ := Option.map_eq_some_iff.mp e
      cases e
      obtain ⟨v, rfl, h⟩ := r.one
      obtain ⟨u, rfl, hu⟩ := rz.one
      simp only [Rp] at h hu
      subst hu
      obtain ⟨a, xs, rfl, h2, h3⟩ := h
      have := ints_v h1 h3
      subst this
      exact ⟨a, ns, c, rfl, rfl, .of (s _ _ h2), by omega, k _ I H .same rp_int⟩
    · cases e
  · cases e
def fBestD (f : Int → Int → Int) : List D → List D → Option D
  | [.lst ds], [d] => (intsD ds).map fun ns => match ns with
    | [] => d
    | n :: r => .int (r.foldl f n)
  | _, _ => none
theorem cd_bestD {K : PySem.W.Frag} {mg : Str → Option Value} {f : Int → Int → Int} : CallDK K mg (rBestD K f) (fBestD f) := by
  intro I H ds es z vs zs Q s r rz e k
  unfold fBestD at e
  split at e
  · rename_i ds0 d
    obtain ⟨ns, h1, e⟩ := Option.map_eq_some_iff.mp e
    obtain ⟨v, rfl, h⟩ := r.one
    obtain ⟨u, rfl, hu⟩ := rz.one
    simp only [Rp] at h
    obtain ⟨a, xs, rfl, h2, h3⟩ := h
    have := ints_v h1 h3
    subst this
    refine ⟨a, ns, u, rfl, rfl, .of (s _ _ h2), ?_⟩
    cases ns with
    | nil => cases e; exact k _ I H .same hu
    | cons n ns => cases e; exact k _ I H .same rp_int
  · cases e
/-- sum(xs) -/
def fSum : List D → Option D
  | [.lst ds] => (intsD ds).map fun ns => .int ns.sum
  | _ => none
theorem cd_sum {K : PySem.W.Frag} {mg : Str → Option Value} : CallD K mg (rSum K) fSum := by
  intro I H ds z vs Q s r e k
  unfold fSum at e
  split at e
  · obtain ⟨ns, h1, e⟩ := Option.map_eq_some_iff.mp e
    cases e
    obtain ⟨v, rfl, h⟩ := r.one
    simp only [Rp] at h
    obtain ⟨a, xs, rfl, h2, h3⟩ := h
    have := ints_v h1 h3
    subst this
    exact ⟨a, ns, rfl, .of (s _ _ h2), k _ I H .same rp_int⟩
  · cases e
/-- max(a, b), min(a, b) -/
def fMax2 : List D → Option D
  | [.int i, .int j] => some (.int (if j > i then j else i))
  | _ => none
def fMin2 : List D → Option D
  | [.int i, .int j] => some (.int (if j < i then j else i))
  | _ => none
theorem cd_max2 {K : PySem.W.Frag} {mg : Str → Option Value} : CallD K mg (fun xs H Q => ∃ i j, xs = [.int i, .int j] ∧ Q (.int (if j > i then j else i)) H) fMax2 := by
  intro I H ds z vs Q s r e k
  unfold fMax2 at e
  split at e
  · cases e
    simp only [RpL] at r
    obtain ⟨v1, r1, rfl, h1, v2, r2, rfl, h2, rfl⟩ := r
    simp only [Rp] at h1 h2
    subst h1 h2
    exact ⟨_, _, rfl, k _ I H .same rp_int⟩
  · cases e
theorem cd_min2 {K : PySem.W.Frag} {mg : Str → Option Value} : CallD K mg (fun xs H Q => ∃ i j, xs = [.int i, .int j] ∧ Q (.int (if j < i then j else i)) H) fMin2 := by
  intro I H ds z vs Q s r e k
  unfold fMin2 at e
  split at e
  · cases e
    simp only [RpL] at r
    obtain ⟨v1, r1, rfl, h1, v2, r2, rfl, h2, rfl⟩ := r
    simp only [Rp] at h1 h2
    subst h1 h2
    exact ⟨_, _, rfl, k _ I H .same rp_int⟩
  · cases e
/-- min(xs), max(xs), xs a list of ints -/
def fMin1 : List D → Option D
  | [.lst ds] => (intsD ds).bind fun ns => match ns with
    | [] => none
    | n :: r => some (.int (r.foldl min n))
  | _ => none
theorem foldl_min : ∀ (r : List Int) (n : Int), (r.foldl min n ∈ n :: r) ∧ ∀ y ∈ n :: r, r.foldl min n ≤ y
  | [], n => by simp
  | a :: r, n => by
    obtain ⟨h1, h2⟩ := foldl_min r (min n a)
    rw [List.foldl_cons]
    refine ⟨?_, fun y hy => ?_⟩
    · rcases List.mem_cons.mp h1 with h | h
      · rw [h]
        rcases Int.le_total n a with z | z
        · rw [Int.min_eq_left z]; simp
        · rw [Int.min_eq_right z]; simp
      · simp [h]
    · have h0 := h2 (min n a) (by simp)
      rcases List.mem_cons.mp hy with rfl | hy
      · have := Int.min_le_left y a; omega
      · rcases List.mem_cons.mp hy with rfl | hy
        · have := Int.min_le_right n y; omega
        · exact h2 y (by simp [hy])
theorem cd_min1 {K : PySem.W.Frag} {mg : Str → Option Value} : CallD K mg (rMin K) fMin1 := by
  intro I H ds z vs Q s r e k
  unfold fMin1 at e
  split at e
  · obtain ⟨ns, h1, e⟩ := Option.bind_eq_some_iff.mp e
    obtain ⟨v, rfl, h⟩ := r.one
    simp only [Rp] at h
    obtain ⟨a, xs, rfl, h2, h3⟩ := h
    have := ints_v h1 h3
    subst this
    cases ns with
    | nil => cases e
    | cons n ns =>
      cases e
      refine ⟨a, _, rfl, .of (s _ _ h2), by simp, fun m hm hle => ?_⟩
      obtain ⟨q1, q2⟩ := foldl_min ns n
      have : m = ns.foldl min n := by
        have := hle _ q1
        have := q2 m hm
        omega
      rw [this]
      exact k _ I H .same rp_int
  · cases e
end MV

namespace StarX
open PySem PySem.Spec L2
open Sem (wp)
section
variable {prog : Program} {w : World} {A : Around} {E : Value → Shared → Prop} {s : Shared}
theorem walk_from {I : Addr} {fp wr : List Addr} {n : Nat} {P : Nat → Value → Prop} {St : Nat → Heap → Prop} (W : Walks prog w A I fp wr n P St) (k : Nat) (hk : k ≤ n) : Walks prog w A I fp wr (n - k) (fun i => P (k + i)) (fun i => St (k + i)) where
  sub := W.sub
  frame := fun i h h' st q => W.frame (k + i) h h' st q
  item := fun i s Q E hi st hQ => W.item (k + i) s Q E (by omega) st fun v h' tk p st' q => hQ v h' tk p st' q
  done := fun s Q E st hQ => W.done s Q E (by
    have e : k + (n - k) = n := by omega
    have st : St (k + (n - k)) s.heap := st
    rw [e] at st
    exact st) hQ
  self := fun i s Q E st hQ => W.self (k + i) s Q E st hQ
/-- a, *b = t -/
theorem unpack_star {t : Addr} {items : Array Value} {x : Value} {Q : List Value → Shared → Prop} (hh : A.handled = none) (ht : s.heap.IsTuple t items) (h0 : items[0]? = some x) (hz : items.size ≤ sizeLine)
    (hQ : ∀ h' tk l c, h'.get? l = some { cls := .type "list", data := .seq (items.toList.drop 1).toArray c } → s.heap.get? l = none → (∀ b o, s.heap.get? b = some o → h'.get? b = some o) → Q [x, .ref l] { s with heap := h', toks := tk }) :
    wpAny (model prog w) A (unpackItems (.ref t) 2 (some 1)) Q E s := by
  have hlt : t ≠ s.heap.objs.size := by obtain ⟨o, ho, _⟩ := ht; exact Nat.ne_of_lt (Heap.lt_size ho)
  have hpos : 0 < items.size := by
    by_cases z : 0 < items.size
    · exact z
    · rw [Array.getElem?_eq_none (by omega)] at h0; cases h0
  unfold unpackItems
  refine wpAny_bind ?_
  unfold notIterableAtAll
  refine wpAny_bind (wpAny_specialOf ht.typeIs PySem.F.slot_tuple_iter.lookup ?_)
  refine wpAny_pure ?_
  simp only [Bool.false_eq_true, if_false]
  refine wpAny_bind (wpAny_holding (wpAny_pyIter_tuple ht ?_))
  refine wpAny_bind (wpAny_holding (wpAny_draw_tuple hlt 1 0 _ _ ⟨_, Heap.get?_push_size _ rfl, rfl, rfl⟩ (ht.push _) (by omega) fun h₁ hit₁ hs₁ => ?_))
  have hall : List.take 1 (List.drop 0 items.toList) = [x] := by
    rw [List.drop_zero]
    have : items.toList[0]? = some x := by rw [← h0]; simp
    cases e : items.toList with
    | nil => rw [e] at this; cases this
    | cons y ys => rw [e] at this; cases this; rfl
  rw [hall]
  rw [if_neg (by simp)]
  have ht₁ : h₁.IsTuple t items := (ht.push _).extBut hs₁.extBut hlt
  have W := (walk_from (Walks.tuple (A := A.in1) (prog := prog) (w := w) hh s.heap.objs.size t hlt items) 1 (by omega)).toS
  have hb1 : s.heap.objs.size < h₁.objs.size := by obtain ⟨o, ho, _⟩ := hit₁; exact Heap.lt_size ho
  refine wpAny_bind (wpAny_holding (wpAny_collect_iter (T := "tuple_iterator") (.inr (.inr (.inr rfl))) W (fun i s st => st.1.typeIs) ⟨hit₁, ht₁⟩ (fun b hb => ?_) (by simp) (fun s' acc m ha => ?_) (by omega)))
  · rcases List.mem_cons.mp hb with rfl | hb
    · exact hb1
    · rcases List.mem_cons.mp hb with rfl | hb
      · obtain ⟨o, ho, _⟩ := ht₁; exact Heap.lt_size ho
      · cases hb
  · have eacc : acc.toList = items.toList.drop 1 := by
      refine List.ext_getElem? fun j => ?_
      rw [List.getElem?_drop, Array.getElem?_toList, Array.getElem?_toList]
      by_cases hj : j < acc.size
      · obtain ⟨v, hv⟩ : ∃ v, acc[j]? = some v := ⟨acc[j], by simp [hj]⟩
        rw [hv, ha.2 j v hv]
      · have h1 := ha.1
        rw [Array.getElem?_eq_none (by omega), Array.getElem?_eq_none (by omega)]
    have e1 : (2 : Nat) - 1 - 1 = 0 := rfl
    rw [if_neg (by omega)]
    rw [e1, Nat.sub_zero, List.take_length, List.drop_length, eacc]
    have hz' : (items.toList.drop 1).length ≤ sizeLine := by
      rw [List.length_drop]
      have : items.toList.length = items.size := by simp
      omega
    refine wpAny_bind (wpAny_newList ?_ hz')
    refine wpAny_pure ?_
    have kp : ∀ b o, s.heap.get? b = some o → s'.heap.get? b = some o := fun b o e => by
      have hb := Heap.lt_size e
      refine m.heap b o (fun z => ?_) (hs₁.extBut b o (Nat.ne_of_lt hb) (Heap.get?_push_of_some _ e))
      rcases List.mem_cons.mp z with z | z
      · exact Nat.ne_of_lt hb z
      · cases z
    have es : ({ s' with heap := s'.heap.push { cls := .type "list", data := .seq (items.toList.drop 1).toArray } } : Shared) = { s with heap := s'.heap.push { cls := .type "list", data := .seq (items.toList.drop 1).toArray }, toks := s'.toks } := by
      have g := m.gens
      have d := m.drawn
      have o := m.os
      obtain ⟨hp, gg, dd, tt, oo⟩ := s'
      simp only at g d o
      subst g d o
      rfl
    have hq := hQ (s'.heap.push { cls := .type "list", data := .seq (items.toList.drop 1).toArray }) s'.toks s'.heap.objs.size _ (Heap.get?_push_size _ rfl) ?_ fun b o e => Heap.get?_push_of_some _ (kp b o e)
    · rw [es]
      exact hq
    · cases e : s.heap.get? s'.heap.objs.size with
      | none => rfl
      | some o => exact absurd (Heap.lt_size (kp _ o e)) (Nat.lt_irrefl _)
end
end StarX

namespace L2
open PySem PySem.Spec PyProof.Rows
section
variable {X : Cx}
/-- a, *b = t: b a new list -/
def gStar (K : PySem.W.Frag) (t : TGs) : TG := fun v σ H Q => ∃ a x r, v = .ref a ∧ SqT K H a (x :: r) ∧ ∀ l, H l = none → t [x, .ref l] σ (upd H l (.lst r)) Q
theorem pg_star {ea eb : Expr} {k : Nat} {pos sp : Pos} {t : TGs} (hc : X.calm = true) (h : PGs X [ea, eb] t)
    (hn : (assignEach [ea, .Starred eb sp] X.env).length = 2 := by rfl) (hst : (assignEach [ea, .Starred eb sp] X.env).findIdx? (·.1) = some 1 := by rfl) (he : (assignEach [ea, .Starred eb sp] X.env).map (·.2) = (assignEach [ea, eb] X.env).map (·.2) := by rfl) :
    PG X (.Tuple [ea, .Starred eb sp] k pos) (gStar X.K t) := by
  refine ⟨fun pins s σ H v u Q I r hw => ?_⟩
  obtain ⟨a, x, xs, e1, hq, hw⟩ := hw
  subst e1
  cases r
  obtain ⟨its, rv, ht, hz⟩ := I.tuple hq
  cases rv with
  | cons rx rr =>
    rename_i ux ur
    rw [arm_assign_Tuple]
    refine wpAny_bind (wpAny_standAt ?_)
    unfold unpack
    rw [hn, hst, he]
    have hl := rr.length
    refine wpAny_bind (wpAny_holding (StarX.unpack_star (x := ux) (I.ok.hd hc) ht (by simp) (by simpa [← hl] using hz) fun h' tk l c hg hgn kp => ?_))
    have hn : H l = none := I.hok.gone hgn
    have I1 : Inv X pins σ (upd H l (.lst xs)) { s with heap := h', toks := tk } := I.laidN kp hgn hn
      (show ObjOk X.prog X.w _ _ _ (.lst xs) from ⟨by simp at hz; omega, ur, c, rr, by simpa using hg⟩)
    exact h.run pins _ σ _ [x, V.ref l] _ Q I1 (.cons rx (.cons (show RelV (V.ref l) (Value.ref l) from rfl) .nil)) (hw l hn)
end
end L2
namespace MV
open PySem L2
variable [TB]
/-- a, *b = t, two names -/
def sStar (i j : Nat) (m : M D) : S := fun e => (m e).bind fun x => match x.1 with
  | .tup (d :: r) => some (.nx ((x.2.set i (some (.p d))).set j (some (.p (.lst r)))))
  | _ => none
theorem ss_star {X : Cx} {A : Nat → Bool} {Wx : WX} {ea eb a : Expr} {i j k : Nat} {m : M D} {pos tp sp : Pos} (hA : A i = true) (hB : A j = true) (hc : X.calm = true) (he : SE X a m) (hg : PGs X [ea, eb] (gCons (gName i) (gCons (gName j) gNil)))
    (hs : swapsWithSole [.Tuple [ea, .Starred eb sp] k tp] a pos.line X.env = pure false := by rfl) (hw : swappedStores [.Tuple [ea, .Starred eb sp] k tp] a X.env = pure none := by rfl)
    (h1 : (assignEach [.Tuple [ea, .Starred eb sp] k tp] X.env).map (·.2) = [assign (.Tuple [ea, .Starred eb sp] k tp) X.env] := by rfl)
    (hn : (assignEach [ea, .Starred eb sp] X.env).length = 2 := by rfl) (hst : (assignEach [ea, .Starred eb sp] X.env).findIdx? (·.1) = some 1 := by rfl) (hm : (assignEach [ea, .Starred eb sp] X.env).map (·.2) = (assignEach [ea, eb] X.env).map (·.2) := by rfl) :
    SS X A Wx (.Assign [.Tuple [ea, .Starred eb sp] k tp] a pos) (sStar i j m) := PS.imp (ps_asg he (pg_star hc hg hn hst hm) hs hw h1) fun Dd σ H ⟨I, e, Fs, R, r, hm, q⟩ => by
  obtain ⟨⟨d, e1⟩, h1, hm⟩ := Option.bind_eq_some_iff.mp hm
  refine ⟨I, e, Fs, R, d, e1, h1, ?_⟩
  cases d with
  | tup ds =>
    cases ds with
    | nil => cases hm
    | cons d0 r0 =>
    cases hm
    intro v I1 F1 H1 R1 x1 r1
    simp only [Rp] at r1
    obtain ⟨a, xs, rfl, hq, hr⟩ := r1
    simp only [RpL] at hr
    obtain ⟨x, xr, rfl, hx, hr⟩ := hr
    refine ⟨a, x, xr, rfl, ex_t R1.sub hq, fun l hl => ?_⟩
    obtain ⟨R2, x2⟩ := R1.laid (o := .lst xr) hl
    have hI : I1 l = none := sub_none R1.sub hl
    have R3 := R2.putD (i := i) (hx.mono x2.g.ex _ _)
    have hrl : Rp X.K X.mg (upd I1 l (.lst xr)) (.lst r0) (.ref l) := by
      simp only [Rp]
      exact ⟨l, xr, rfl, upd_same, RpL.mono x2.g.ex _ _ hr⟩
    have R4 := R3.putD (i := j) hrl
    have x3 := ((x1.trans x2).less (F2 := putF F1 i []) (fun a m => m.nil)).less (F2 := putF (putF F1 i []) j []) (fun a m => m.nil)
    refine ⟨x, [.ref l], rfl, ?_⟩
    refine ⟨.ref l, [], rfl, ?_⟩
    exact ⟨rfl, q _ _ _ _ R4 x3 ((Agr.refl.set hA).set hB)⟩
  | _ => cases hm
def starK (i j : Nat) : Option (D × Env) → Option SR
  | some (.tup (d :: r), e) => some (.nx ((e.set i (some (.p d))).set j (some (.p (.lst r)))))
  | _ => none
@[simp] theorem ev_star {i j : Nat} {m : M D} {e : Env} : sStar i j m e = starK i j (m e) := by
  unfold sStar starK
  rcases m e with _ | ⟨d, e1⟩
  · rfl
  · cases d with
    | tup ds => cases ds <;> rfl
    | _ => rfl
@[simp] theorem starK_s {i j : Nat} {d : D} {r : List D} {e : Env} : starK i j (some (.tup (d :: r), e)) = some (.nx ((e.set i (some (.p d))).set j (some (.p (.lst r))))) := rfl
end MV

namespace MV
open PySem L2
section
variable {e : Env} {b c : Bool}
@[simp] theorem cond_d3 : cond c (some (D.bool false, e)) (some (D.bool b, e)) = some (D.bool (!c && b), e) := by cases c <;> simp
@[simp] theorem cond_b3 : cond c (some (false, e)) (some (b, e)) = some (!c && b, e) := by cases c <;> simp
end
/-! ### plain data: numbers, texts, lists and tuples of them -/
def Pd : Nat → D → Prop
  | _, .int _ => True
  | _, .str x => PyData.strOk x = true
  | n + 1, .lst ds => ∀ d ∈ ds, Pd n d
  | n + 1, .tup ds => ∀ d ∈ ds, Pd n d
  | _, _ => False
theorem Pd.up : ∀ {n m : Nat} {d : D}, n ≤ m → Pd n d → Pd m d
  | n, m, .int _, _, _ => by cases m <;> trivial
  | n, m, .str x, _, h => by cases n <;> cases m <;> exact h
  | 0, m, .lst ds, _, h => h.elim
  | n + 1, 0, .lst ds, hl, h => by omega
  | n + 1, m + 1, .lst ds, hl, h => fun d hd => Pd.up (by omega) (h d hd)
  | 0, m, .tup ds, _, h => h.elim
  | n + 1, 0, .tup ds, hl, h => by omega
  | n + 1, m + 1, .tup ds, hl, h => fun d hd => Pd.up (by omega) (h d hd)
  | n, m, .none, _, h => by cases n <;> exact h.elim
  | n, m, .bool _, _, h => by cases n <;> exact h.elim
  | n, m, .fl _, _, h => by cases n <;> exact h.elim
  | n, m, .ft _, _, h => by cases n <;> exact h.elim
  | n, m, .exc _ _ _ _, _, h => by cases n <;> exact h.elim
  | n, m, .dict _, _, h => by cases n <;> exact h.elim
  | n, m, .inst _ _, _, h => by cases n <;> exact h.elim
theorem pds_py {n : Nat} (ih : ∀ d, Pd n d → ∃ p, toPy d = some p ∧ p.canLay0 = true ∧ p.depth ≤ n) : ∀ ds : List D, (∀ d ∈ ds, Pd n d) → ∃ ps, toPys ds = some ps ∧ PyData.canLayAll0 ps = true ∧ PyData.depthAll ps ≤ n
  | [], _ => ⟨[], by simp [toPys], by simp [PyData.canLayAll0], by simp [PyData.depthAll]⟩
  | d :: ds, h => by
    obtain ⟨p, h1, h2, h3⟩ := ih d (h d (by simp))
    obtain ⟨ps, q1, q2, q3⟩ := pds_py ih ds fun d hd => h d (by simp [hd])
    exact ⟨p :: ps, by simp [toPys, h1, q1], by simp [PyData.canLayAll0, h2, q2], by simp only [PyData.depthAll]; omega⟩
theorem pd_py : ∀ (n : Nat) (d : D), Pd n d → ∃ p, toPy d = some p ∧ p.canLay0 = true ∧ p.depth ≤ n
  | n, .int i, _ => ⟨.int i, by simp [toPy], by simp [PyData.canLay0], by simp [PyData.depth]⟩
  | n, .str x, h => ⟨.str x, by simp [toPy], by cases n <;> simpa [PyData.canLay0, Pd] using h, by simp [PyData.depth]⟩
  | 0, .lst ds, h => h.elim
  | n + 1, .lst ds, h => by
    obtain ⟨ps, q1, q2, q3⟩ := pds_py (pd_py n) ds h
    exact ⟨.list ps, by simp [toPy, q1], by simp [PyData.canLay0, q2], by simp only [PyData.depth]; omega⟩
  | 0, .tup ds, h => h.elim
  | n + 1, .tup ds, h => by
    obtain ⟨ps, q1, q2, q3⟩ := pds_py (pd_py n) ds h
    exact ⟨.tuple ps, by simp [toPy, q1], by simp [PyData.canLay0, q2], by simp only [PyData.depth]; omega⟩
  | n, .none, h => by cases n <;> exact h.elim
  | n, .bool _, h => by cases n <;> exact h.elim
  | n, .fl _, h => by cases n <;> exact h.elim
  | n, .ft _, h => by cases n <;> exact h.elim
  | n, .exc _ _ _ _, h => by cases n <;> exact h.elim
  | n, .dict _, h => by cases n <;> exact h.elim
  | n, .inst _ _, h => by cases n <;> exact h.elim
theorem pds_eqv {n : Nat} (ih : ∀ (m : Nat) (d d' : D) (p q : PyData), Pd n d → Pd m d' → toPy d = some p → toPy d' = some q → (PyData.eqv p q = true ↔ d = d')) {m : Nat} : ∀ (ds es : List D) (ps qs : List PyData), (∀ d ∈ ds, Pd n d) → (∀ d ∈ es, Pd m d) → toPys ds = some ps → toPys es = some qs → (PyData.eqvAll ps qs = true ↔ ds = es)
  | [], [], ps, qs, _, _, h1, h2 => by simp [toPys] at h1 h2; subst h1 h2; simp [PyData.eqvAll]
  | [], e :: es, ps, qs, _, hm, h1, h2 => by
    simp only [toPys] at h1 h2
    obtain ⟨x, _, h2⟩ := Option.bind_eq_some_iff.mp h2
    obtain ⟨y, _, rfl⟩ := Option.map_eq_some_iff.mp h2
    cases h1
    simp [PyData.eqvAll]
  | d :: ds, [], ps, qs, _, hm, h1, h2 => by
    simp only [toPys] at h1 h2
    obtain ⟨x, _, h1⟩ := Option.bind_eq_some_iff.mp h1
    obtain ⟨y, _, rfl⟩ := Option.map_eq_some_iff.mp h1
    cases h2
    simp [PyData.eqvAll]
  | d :: ds, e :: es, ps, qs, hn, hm, h1, h2 => by
    simp only [toPys] at h1 h2
    obtain ⟨x, a1, h1⟩ := Option.bind_eq_some_iff.mp h1
    obtain ⟨xs, a2, rfl⟩ := Option.map_eq_some_iff.mp h1
    obtain ⟨y, b1, h2⟩ := Option.bind_eq_some_iff.mp h2
    obtain ⟨ys, b2, rfl⟩ := Option.map_eq_some_iff.mp h2
    have i1 := ih m d e x y (hn d (by simp)) (hm e (by simp)) a1 b1
    have i2 := pds_eqv ih ds es xs ys (fun d hd => hn d (by simp [hd])) (fun d hd => hm d (by simp [hd])) a2 b2
    simp only [PyData.eqvAll, Bool.and_eq_true, i1, i2, List.cons.injEq]
theorem pd_eqv : ∀ (n m : Nat) (d d' : D) (p q : PyData), Pd n d → Pd m d' → toPy d = some p → toPy d' = some q → (PyData.eqv p q = true ↔ d = d') := by
  intro n
  induction n with
  | zero =>
    intro m d d' p q h h' e e'
    cases d <;> first | exact h.elim | skip
    all_goals (cases m <;> cases d' <;> first | exact h'.elim | skip)
    all_goals simp only [toPy] at e e'
    all_goals first
      | (cases e; cases e'; simp [PyData.eqv])
      | (cases e; obtain ⟨x, _, rfl⟩ := Option.map_eq_some_iff.mp e'; simp [PyData.eqv])
  | succ n ih =>
    intro m d d' p q h h' e e'
    cases d <;> first | exact h.elim | skip
    all_goals (cases m <;> cases d' <;> first | exact h'.elim | skip)
    all_goals simp only [toPy] at e e'
    all_goals first
      | (cases e; cases e'; simp [PyData.eqv]; done)
      | (cases e; obtain ⟨x, _, rfl⟩ := Option.map_eq_some_iff.mp e'; simp [PyData.eqv]; done)
      | (cases e'; obtain ⟨x, _, rfl⟩ := Option.map_eq_some_iff.mp e; simp [PyData.eqv]; done)
      | (obtain ⟨x, h1, rfl⟩ := Option.map_eq_some_iff.mp e; obtain ⟨y, h2, rfl⟩ := Option.map_eq_some_iff.mp e'; simp [PyData.eqv]; done)
      | (obtain ⟨x, h1, rfl⟩ := Option.map_eq_some_iff.mp e
         obtain ⟨y, h2, rfl⟩ := Option.map_eq_some_iff.mp e'
         have := pds_eqv (fun m => ih m) _ _ x y h h' h1 h2
         simpa [PyData.eqv] using this)
open Classical in
theorem eqB_pd {n m : Nat} {d d' : D} (h : Pd n d) (h' : Pd m d') (hn : n ≤ 60) (hm : m ≤ 60) : eqB d d' = some (decide (d = d')) := by
  obtain ⟨p, h1, h2, h3⟩ := pd_py n d h
  obtain ⟨q, q1, q2, q3⟩ := pd_py m d' h'
  have hd : eqDeep d d' = some (decide (d = d')) := by
    unfold eqDeep
    rw [h1, q1]
    have e1 : SeqAt.shaped p = true := by unfold SeqAt.shaped; simp [h2]; omega
    have e2 : SeqAt.shaped q = true := by unfold SeqAt.shaped; simp [q2]; omega
    simp only [Option.bind_some, e1, e2, Bool.and_self, if_true]
    congr 1
    rw [Bool.eq_iff_iff, pd_eqv n m d d' p q h h' h1 q1]
    simp
  cases d <;> cases d' <;> first | exact hd | skip
  all_goals first
    | (show some _ = some _; congr 1; rw [Bool.eq_iff_iff]; simp)
    | exact hd
open Classical in
theorem eq_pd {n m : Nat} {d d' : D} (h : Pd n d) (h' : Pd m d') (hn : n ≤ 60) (hm : m ≤ 60) : dEq d d' = some (.bool (decide (d = d'))) := by
  unfold dEq; rw [eqB_pd h h' hn hm]; rfl
open Classical in
theorem ne_pd {n m : Nat} {d d' : D} (h : Pd n d) (h' : Pd m d') (hn : n ≤ 60) (hm : m ≤ 60) : dNe d d' = some (.bool !decide (d = d')) := by
  unfold dNe; rw [eqB_pd h h' hn hm]; rfl
/-! ### calls with keywords, evaluated -/
section
variable {f : List D → List D → Option D} {ma mk : M (List Arg)} {as : List Arg} {ds es : List D} {e : Env}
def dkK4 (f : List D → List D → Option D) (ds : List D) : Option (List D) → Env → Option (D × Env)
  | some es, e => retK (f ds es) e
  | none, _ => none
def dkK3 (f : List D → List D → Option D) (ds : List D) : Option (List Arg × Env) → Option (D × Env)
  | some y => dkK4 f ds (allD y.1) y.2
  | none => none
def dkK2 (f : List D → List D → Option D) (mk : M (List Arg)) : Option (List D) → Env → Option (D × Env)
  | some ds, e => dkK3 f ds (mk e)
  | none, _ => none
def dkK1 (f : List D → List D → Option D) (mk : M (List Arg)) : Option (List Arg × Env) → Option (D × Env)
  | some x => dkK2 f mk (allD x.1) x.2
  | none => none
@[simp] theorem ev_dispK : mDispK f ma mk e = dkK1 f mk (ma e) := by
  unfold mDispK dkK1; cases h : ma e with
  | none => rfl
  | some x =>
    simp only [Option.bind_some]
    cases h2 : allD x.1 with
    | none => rfl
    | some ds =>
      simp only [Option.bind_some, dkK2]
      cases h3 : mk x.2 with
      | none => rfl
      | some y =>
        simp only [Option.bind_some, dkK3]
        cases h4 : allD y.1 with
        | none => rfl
        | some es => simp only [Option.bind_some, dkK4, retK]; cases f ds es <;> rfl
@[simp] theorem dkK1_s : dkK1 f mk (some (as, e)) = dkK2 f mk (allD as) e := rfl
@[simp] theorem dkK2_s : dkK2 f mk (some ds) e = dkK3 f ds (mk e) := rfl
@[simp] theorem dkK3_s : dkK3 f ds (some (as, e)) = dkK4 f ds (allD as) e := rfl
@[simp] theorem dkK4_s : dkK4 f ds (some es) e = retK (f ds es) e := rfl
end
@[simp] theorem fTuple_l {ds : List D} : fTuple [.lst ds] = some (.tup ds) := rfl
@[simp] theorem fTuple_t {ds : List D} : fTuple [.tup ds] = some (.tup ds) := rfl
end MV

namespace MV
open PySem L2
theorem forRun_any {tg : Tg} {b : S} {P : Nat → Env → Prop} (ds : List D) (hs : ∀ j d e, d ∈ ds → j < ds.length → P j e → ∃ e2, forStep tg b d e = some (.nx e2) ∧ P (j + 1) e2) (e : Env) (h : P 0 e) : ∃ e', forRun tg b ds e = some (.nx e') ∧ P ds.length e' := by
  obtain ⟨e', h1, h2⟩ := forRun_st (tg := tg) (b := b) (g := id) (fun pre e => P pre.length e) ds (fun pre x post e hx hp => by
    obtain ⟨e2, h1, h2⟩ := hs pre.length x e (by rw [hx]; simp) (by rw [hx]; simp) hp
    exact ⟨e2, .inl h1, by simpa using h2⟩) e h
  rw [List.map_id] at h1
  exact ⟨e', h1, h2⟩
end MV

/-! ### t[::-1] -/
namespace HT
open PySem PySem.Spec PyProof.Rows
section
variable {prog : Program} {w : World} {A : Around} {E : Value → Shared → Prop} {s : Shared}
theorem adjust_rev (n : Nat) : Builtin.Slice.sliceAdjust none none (-1) (n : Int) = ((n : Int) - 1, -1) := by
  unfold Builtin.Slice.sliceAdjust
  have h1 : (-1 : Int) < 0 := by omega
  simp only [h1, if_true]
theorem places_rev (n : Nat) : Builtin.Slice.slicePlaces ((n : Int) - 1) (-1) (-1) = n := by
  unfold Builtin.Slice.slicePlaces
  have h1 : ¬ (-1 : Int) > 0 := by omega
  simp only [h1, if_false]
  have e : (-(-1) : Int) = 1 := by decide
  rw [e, Int.ediv_one]
  split <;> omega
theorem sliceApplied_rev {sl : Addr} {vl vu vs : Value} {n : Nat} {Q : Int × Int × Nat → Shared → Prop} (hs : s.heap.IsSliceOf sl vl vu vs) (pl : IsPart vl none) (pu : IsPart vu none) (ps : IsPart vs (some (-1)))
    (h : Q ((n : Int) - 1, -1, n) s) : wpAny (model prog w) A (Builtin.Slice.sliceApplied (.ref sl) (pure (n : Int))) Q E s := by
  obtain ⟨os, hos, hcs, hds⟩ := id hs
  unfold Builtin.Slice.sliceApplied Builtin.Slice.sliceFields
  refine wpAny_bind (wpAny_bind (wpAny_field hos hds (x := vl) rfl (wpAny_bind (wpAny_field hos hds (x := vu) rfl (wpAny_bind (wpAny_field hos hds (x := vs) rfl (wpAny_pure ?_)))))))
  refine wpAny_bind (slicePart_ ps ?_)
  show wpAny _ _ (if ((-1 : Int) == 0) = true then _ else _) _ _ s
  rw [if_neg (by decide)]
  refine wpAny_bind (slicePart_ pl (wpAny_bind (slicePart_ pu (wpAny_bind (wpAny_pure ?_)))))
  show wpAny _ _ (match Builtin.Slice.sliceAdjust none none (-1) (n : Int) with | (lo, hi) => pure (lo, (-1 : Int), Builtin.Slice.slicePlaces lo hi (-1))) _ _ s
  rw [adjust_rev n]
  show wpAny _ _ (pure ((n : Int) - 1, (-1 : Int), Builtin.Slice.slicePlaces ((n : Int) - 1) (-1) (-1))) _ _ s
  rw [places_rev]
  exact wpAny_pure h
theorem fm_congr {α β : Type} {f g : α → Option β} : ∀ {l : List α}, (∀ x ∈ l, f x = g x) → l.filterMap f = l.filterMap g
  | [], _ => rfl
  | x :: l, h => by rw [List.filterMap_cons, List.filterMap_cons, h x (by simp), fm_congr fun y hy => h y (by simp [hy])]
theorem pick_rev (xs : Array Value) : ((List.range xs.size).filterMap fun (m : Nat) => xs[((xs.size : Int) - 1 + (m : Int) * (-1)).toNat]?).toArray = xs.toList.reverse.toArray := by
  have h := PySem.W.krv_pick xs
  rw [← h]
  unfold slicePick
  rw [PySem.W.krv_bounds]
  show _ = ((sliceRange ((xs.size : Int) - 1) (-1) (-1)).filterMap (xs[·]?)).toArray
  rw [PySem.W.krv_sliceRange, List.filterMap_map]
  congr 1
  refine fm_congr fun m hm => ?_
  have := List.mem_range.mp hm
  show _ = xs[xs.size - 1 - m]?
  congr 1
  omega
theorem getItem_tuple_rev {t sl : Addr} {items : Array Value} {vl vu vs : Value} {Q : Value → Shared → Prop} (ht : IsTup s.heap t items) (hs : s.heap.IsSliceOf sl vl vu vs) (pl : IsPart vl none) (pu : IsPart vu none) (ps : IsPart vs (some (-1)))
    (h : Q (.ref s.heap.objs.size) { s with heap := s.heap.push { cls := .type "tuple", data := .seq items.toList.reverse.toArray } })
    (hsz : items.size ≤ sizeLine) : wpAny (model prog w) A (getItem (.ref t) (.ref sl)) Q E s := by
  have htake : sizeOk (.seq items.toList.reverse.toArray) := by
    show items.toList.reverse.toArray.size ≤ sizeLine
    rw [List.size_toArray, List.length_reverse, Array.length_toList]
    omega
  obtain ⟨os, hos, hcs, hds⟩ := id hs
  have hTs : s.TypeIs (.ref sl) "slice" := ⟨os, hos, hcs⟩
  unfold getItem
  try with_reducible refine wpAny_holding ?_
  first | refine wpAny_bind (wpAny_pure ?_) | skip
  refine wpAny_bind (wpAny_sequenceKey ht.typeIs (by decide) ?_)
  refine wpAny_bind (wpAny_callSpecial?_slot (name := Str.ofString "__getitem__") ht.typeIs PyProof.Rows.slot_tuple_getitem
    (wpAny_call_entry PyProof.Rows.slot_tuple_getitem ht.typeIs entry_tuple_getitem ?_ (args_tuple_getitem _ _)))
  show wpAny _ _ (Builtin.Tuple.tupleItemsOf (.ref t) >>= _) _ _ s
  refine wpAny_bind (tupleItemsOf_ ht ?_)
  refine wpAny_bind (wpAny_typeOf hTs ?_)
  rw [if_pos (by decide)]
  refine wpAny_bind (sliceApplied_rev hs pl pu ps ?_)
  have hno : ¬ ((((items.size : Int) - 1) == 0 && (-1 : Int) == 1 && items.size == items.size) = true) := by
    intro q
    rw [Bool.and_eq_true, Bool.and_eq_true] at q
    exact absurd q.1.2 (by decide)
  show wpAny _ _ (if (((items.size : Int) - 1) == 0 && (-1 : Int) == 1 && items.size == items.size) = true then _ else _) _ _ s
  rw [if_neg hno, pick_rev]
  first
    | exact wpAny_bind (m := Builtin.Tuple.tupleExact _) (wpAny_newObj_type (wpAny_pure ⟨_, rfl, wpAny_pure h⟩) htake)
    | exact wpAny_bind (m := Builtin.Tuple.tupleExact _) (wpAny_newObj_type (wpAny_bind (wpAny_pure (wpAny_pure ⟨_, rfl, wpAny_pure h⟩))) htake)
    | exact wpAny_bind (wpAny_bind (m := Builtin.Tuple.tupleExact _) (wpAny_newObj_type (wpAny_pure (wpAny_pure ⟨_, rfl, wpAny_pure h⟩)) htake))
    | exact wpAny_bind (wpAny_bind (m := Builtin.Tuple.tupleExact _) (wpAny_newObj_type (wpAny_pure ⟨_, rfl, wpAny_pure h⟩) htake))
end
end HT
namespace L2
open PySem PySem.Spec PyProof.Rows
section
variable {X : Cx}
def tRev (K : PySem.W.Frag) (te : TE) : TE := fun σ H Q => te σ H fun x H1 => (∃ a xs, x = .ref a ∧ SqL K H1 a xs ∧ ∀ p, H1 p = none → Q (.ref p) (upd H1 p (.lst xs.reverse))) ∨ (∃ a xs, x = .ref a ∧ SqT K H1 a xs ∧ ∀ p, H1 p = none → Q (.ref p) (upd H1 p (.tup xs.reverse)))
theorem pe_rev {e : Expr} {te : TE} {k : Nat} {p1 p2 p3 pos : Pos} (he : PE X e te) : PE X (.Subscript e (.Slice none none (some (.UnaryOp .USub (.Constant (.int 1) k p1) p2)) p3) pos) (tRev X.K te) := by
  refine ⟨fun pins s σ H Q I h => ?_⟩
  refine Subscript_ (thn (he.run pins s σ H _ I h) fun v s1 ⟨x, H1, I1, r1, q1⟩ => ?_)
  have hst : PO X (some (.UnaryOp .USub (.Constant (.int 1) k p1) p2)) (tPart (tUn (rU fun i => .int (-i)) (tC (.int 1)))) := po_some (pe_un un_neg pe_int)
  refine wpAny_Slice (thn (po_none.run pins s1 σ H1 (fun o H2 => o = none ∧ H2 = H1) I1 ⟨rfl, rfl⟩) fun vl s2 ⟨l, H2, I2, pl, el, e2⟩ => ?_)
  subst el e2
  refine thn (po_none.run pins s2 σ H2 (fun o H3 => o = none ∧ H3 = H2) I2 ⟨rfl, rfl⟩) fun vu s3 ⟨u, H3, I3, pu, eu, e3⟩ => ?_
  subst eu e3
  refine thn (hst.run pins s3 σ H3 (fun o H4 => o = some (-1) ∧ H4 = H3) I3 ⟨1, rfl, -1, rfl, rfl, rfl⟩) fun vs s4 ⟨o, H4, I4, ps, eo, e4⟩ => ?_
  subst eo e4
  have I5 : Inv X pins σ H4 { s4 with heap := s4.heap.push { cls := .type "slice", data := .fields #[vl, vu, vs] } } := I4.kept (t' := s4.toks) fun b ob q => Heap.get?_push_of_some _ q
  rcases q1 with ⟨a, xs, ex, hx, q⟩ | ⟨a, xs, ex, hx, q⟩
  · subst ex
    cases r1
    obtain ⟨its, r, ht, hz⟩ := I5.list hx
    have hlen := r.length
    show wpAny (model X.prog X.w) X.A (subscriptTail e (.Slice none none (some (.UnaryOp .USub (.Constant (.int 1) k p1) p2)) p3) (.ref a) (.ref s4.heap.objs.size)) (EP X pins σ Q) X.xe { s4 with heap := s4.heap.push { cls := .type "slice", data := .fields #[vl, vu, vs] } }
    refine tail_any (ops := [.ref a, .ref s4.heap.objs.size]) ht.isList.typeIs (PySem.slot_list_getitem.lookup) ?_ (by with_unfolding_all rfl)
    refine wpAny_getItem_list_slice ht.isList (Heap.IsSliceOf.new _ vl vu vs) pl pu ps (by decide) ?_ (by rw [List.size_toArray]; omega)
    rw [PySem.W.krv_pick]
    refine ⟨.ref _, _, I5.laid (t' := s4.toks) (o := .lst xs.reverse) (fun b ob q => Heap.get?_push_of_some _ q) (Nat.le_refl _) ?_, rfl, q _ (I5.hok.fresh (Nat.le_refl _))⟩
    exact ⟨by rw [List.length_reverse]; exact hz, _, 0, r.reverse, Heap.get?_push_size _ rfl⟩
  · subst ex
    cases r1
    obtain ⟨its, r, ht, hz⟩ := I5.tuple hx
    have hlen := r.length
    show wpAny (model X.prog X.w) X.A (subscriptTail e (.Slice none none (some (.UnaryOp .USub (.Constant (.int 1) k p1) p2)) p3) (.ref a) (.ref s4.heap.objs.size)) (EP X pins σ Q) X.xe { s4 with heap := s4.heap.push { cls := .type "slice", data := .fields #[vl, vu, vs] } }
    refine tail_any (ops := [.ref a, .ref s4.heap.objs.size]) ht.typeIs (PyProof.Rows.slot_tuple_getitem.lookup) ?_ (by with_unfolding_all rfl)
    refine HT.getItem_tuple_rev ht (Heap.IsSliceOf.new _ vl vu vs) pl pu ps ?_ (by rw [List.size_toArray]; omega)
    refine ⟨.ref _, _, I5.laid (t' := s4.toks) (o := .tup xs.reverse) (fun b ob q => Heap.get?_push_of_some _ q) (Nat.le_refl _) ?_, rfl, q _ (I5.hok.fresh (Nat.le_refl _))⟩
    exact ⟨by rw [List.length_reverse]; exact hz, _, r.reverse, IsTup.new _ _⟩
end
end L2
namespace MV
open PySem L2
variable [TB]
def dRev : D → Option D
  | .lst ds => some (.lst ds.reverse)
  | .tup ds => some (.tup ds.reverse)
  | _ => none
section
variable {X : Cx} {a : Expr} {m : M D} {k : Nat} {p1 p2 p3 pos : Pos}
theorem se_rev (ha : SE X a m) : SE X (.Subscript a (.Slice none none (some (.UnaryOp .USub (.Constant (.int 1) k p1) p2)) p3) pos) (mUn dRev m) := PE.imp (pe_rev ha) fun σ H Q ⟨I, e, Fs, R, d, e', hm, k⟩ => by
  obtain ⟨⟨x, e1⟩, h1, hm⟩ := Option.bind_eq_some_iff.mp hm
  obtain ⟨z, h2, hm⟩ := Option.map_eq_some_iff.mp hm
  cases hm
  refine ⟨I, e, Fs, R, x, e1, h1, fun v I1 F1 H1 R1 x1 r1 => ?_⟩
  cases x with
  | lst ds =>
    cases h2
    simp only [Rp] at r1
    obtain ⟨p, xs, rfl, hp, hr⟩ := r1
    refine .inl ⟨p, xs, rfl, .of (R1.sub _ _ hp), fun q hq => ?_⟩
    obtain ⟨R2, x2⟩ := (Gr.new q (.lst xs.reverse) hq : Gr I1 H1 _ _).rel R1
    exact k _ _ F1 _ R2 (x1.trans x2) (rp_lst R1.sub hq hr.reverse)
  | tup ds =>
    cases h2
    simp only [Rp] at r1
    obtain ⟨p, xs, rfl, hp, hr⟩ := r1
    refine .inr ⟨p, xs, rfl, ex_t R1.sub hp, fun q hq => ?_⟩
    obtain ⟨R2, x2⟩ := (Gr.new q (.tup xs.reverse) hq : Gr I1 H1 _ _).rel R1
    exact k _ _ F1 _ R2 (x1.trans x2) (rp_tup R1.sub hq hr.reverse)
  | _ => cases h2
end
@[simp] theorem dRev_l {ds : List D} : dRev (.lst ds) = some (.lst ds.reverse) := rfl
@[simp] theorem dRev_t {ds : List D} : dRev (.tup ds) = some (.tup ds.reverse) := rfl
end MV

/-! ### t * n, a small n -/
namespace L2
open PySem PySem.Spec PyProof.Rows
theorem tuple_mul1 (l : Addr) (items : Array Value) (n : Nat) (dd : Option Addr) (sl : Array (Option Value)) (u : Tok) :
    Meets (Builtin.«tuple.__mul__» ⟨[.ref l, .int 1 u], []⟩) (fun _ R s => s.heap.get? l = some { cls := .type "tuple", dict := dd, data := .seq items n, slots := sl } ∧
      R (.ok (.ret (Value.ref l))) s) :=
  .of_wp fun prog w A R s h => by
    obtain ⟨hp, g, d, tk, os⟩ := s
    obtain ⟨hl, h⟩ := h
    have f1 := AutoSeq1.idx_int
    wp_walk using wpAny_loadPart' hl
    repeat (first
      | (refine wpAny_ite_false (decide_eq_false (by decide)) ?_; wp_walk using wpAny_loadPart' hl)
      | (refine wpAny_ite_true (decide_eq_true (by simp)) ?_; wp_walk using wpAny_loadPart' hl))
    exact ⟨_, rfl, h⟩
theorem tuple_mul0 (l : Addr) (items : Array Value) (n : Nat) (dd : Option Addr) (sl : Array (Option Value)) (u : Tok) (c1 : items.isEmpty = false) :
    Meets (Builtin.«tuple.__mul__» ⟨[.ref l, .int 0 u], []⟩) (fun _ R s => s.heap.get? l = some { cls := .type "tuple", dict := dd, data := .seq items n, slots := sl } ∧
      R (.ok (.ret (Value.ref s.heap.objs.size))) { s with heap := s.heap.push { cls := Value.type "tuple", data := Data.seq #[] }, toks := s.toks }) :=
  .of_wp fun prog w A R s h => by
    obtain ⟨hp, g, d, tk, os⟩ := s
    obtain ⟨hl, h⟩ := h
    have f1 := AutoSeq1.idx_int
    wp_walk using wpAny_loadPart' hl
    repeat (first
      | (refine wpAny_ite_false (decide_eq_false (by rw [c1]; decide)) ?_; wp_walk using wpAny_loadPart' hl)
      | (refine wpAny_ite_false (decide_eq_false (by decide)) ?_; wp_walk using wpAny_loadPart' hl)
      | (refine wpAny_ite_true (decide_eq_true (by simp)) ?_; wp_walk using wpAny_loadPart' hl))
    exact ⟨_, rfl, h⟩
def rRepT01 (K : PySem.W.Frag) : R2 := fun x y H Q => ∃ l k xs, x = .ref l ∧ y = .int k ∧ SqT K H l xs ∧ xs ≠ [] ∧ ((k = 1 ∧ Q (.ref l) H) ∨ (k = 0 ∧ ∀ p, H p = none → Q (.ref p) (upd H p (.tup []))))
theorem op_repT01 {X : Cx} : OpR X (binaryOp .Mult) (rRepT01 X.K) := by
  intro pins s σ H x y v u Q I rx ry h
  obtain ⟨l, k, xs, rfl, rfl, hT, hne, hk⟩ := h
  cases rx
  obtain ⟨t, rfl⟩ := ry
  obtain ⟨its, r, ⟨⟨cls, dd, data, sl⟩, ho, hc, n, hd⟩, hs⟩ := I.tuple hT
  simp only at hc hd
  subst hc hd
  have hle : its.length = xs.length := r.length.symm
  have hn : its ≠ [] := fun e => hne (by
    rw [e] at hle
    exact List.eq_nil_of_length_eq_zero hle.symm)
  have hi : its.toArray.isEmpty = false := by
    cases its with
    | nil => exact absurd rfl hn
    | cons a b => rfl
  rcases hk with ⟨rfl, q⟩ | ⟨rfl, q⟩
  · refine wpAny_binaryOp_repeat_ref (T := "tuple") (U := "int") (by decide) ⟨_, ho, rfl⟩ (fun s' => typeIs_int s' 1 t) noFill_tuple_mul F.fills_int_mul F.slot_int_rmul repeat_tuple F.slot_int_index.lookup
      (call_meets F.slot_int_rmul (typeIs_int s 1 t) F.entry_int_rmul (F.args_int_rmul_2 _ _) (int_rmul_tuple 1 t l its.toArray n dd sl)
        ⟨ho, rfl, ⟨_, ho, rfl⟩, call_meets F.slot_tuple_mul ⟨_, ho, rfl⟩ F.entry_tuple_mul (F.args_tuple_mul_2 _ _) (tuple_mul1 l its.toArray n dd sl t) ⟨ho, ?_⟩⟩)
    exact ⟨.ref l, H, I, rfl, q⟩
  · refine wpAny_binaryOp_repeat_ref (T := "tuple") (U := "int") (by decide) ⟨_, ho, rfl⟩ (fun s' => typeIs_int s' 0 t) noFill_tuple_mul F.fills_int_mul F.slot_int_rmul repeat_tuple F.slot_int_index.lookup
      (call_meets F.slot_int_rmul (typeIs_int s 0 t) F.entry_int_rmul (F.args_int_rmul_2 _ _) (int_rmul_tuple 0 t l its.toArray n dd sl)
        ⟨ho, rfl, ⟨_, ho, rfl⟩, call_meets F.slot_tuple_mul ⟨_, ho, rfl⟩ F.entry_tuple_mul (F.args_tuple_mul_2 _ _) (tuple_mul0 l its.toArray n dd sl t hi) ⟨ho, ?_⟩⟩)
    refine ⟨.ref s.heap.objs.size, _, I.laid (t' := s.toks) (o := .tup []) (fun b ob q => Heap.get?_push_of_some _ q) (Nat.le_refl _) ?_, rfl, q _ (I.hok.fresh (Nat.le_refl _))⟩
    exact ⟨by rw [sizeLine_eq]; decide, _, .nil, IsTup.new _ _⟩
end L2
namespace MV
open PySem L2
variable [TB]
/-- t * n -/
def dMulT : D → D → Option D
  | .tup ds, .int j => if ds ≠ [] ∧ 0 ≤ j ∧ j ≤ 1000 ∧ ds.length ≤ 1000 then some (.tup (List.replicate j.toNat ds).flatten) else none
  | _, _ => none
def rMulT (K : PySem.W.Frag) : R2 := fun x y H Q => rRepT K x y H Q ∨ rRepT01 K x y H Q
theorem op_mulT {X : Cx} : OpR X (binaryOp .Mult) (rMulT X.K) := op_repT.or op_repT01
theorem od_mulT {K : PySem.W.Frag} {mg : Str → Option Value} : OpD K mg (rMulT K) dMulT := by
  intro I H x y z v u Q s rx ry e k
  unfold dMulT at e
  split at e
  · rename_i ds j
    split at e
    · rename_i hc
      cases e
      obtain ⟨hne, h0, h1, h2⟩ := hc
      have rx0 := rx
      simp only [Rp] at rx ry
      obtain ⟨a, xs, rfl, ha, hr⟩ := rx
      subst ry
      have hx : xs ≠ [] := fun q => hne (by
        have := hr.length
        rw [q] at this
        exact List.eq_nil_of_length_eq_zero this)
      by_cases z : 2 ≤ j
      · refine .inl ⟨a, j, xs, rfl, rfl, ex_t s ha, hx, z, h1, by rw [← hr.length]; exact h2, fun p hp => ?_⟩
        exact k _ _ _ (.new p _ hp) (rp_tup s hp (RpL.rep hr j.toNat))
      · refine .inr ⟨a, j, xs, rfl, rfl, ex_t s ha, hx, ?_⟩
        by_cases z1 : j = 1
        · subst z1
          refine .inl ⟨rfl, k _ I H .same ?_⟩
          simpa using rx0
        · have z0 : j = 0 := by omega
          subst z0
          refine .inr ⟨rfl, fun p hp => ?_⟩
          exact k _ _ _ (.new p _ hp) (rp_tup s hp (by simpa using (RpL.nil : RpL K mg I [] [])))
    · cases e
  · cases e
@[simp] theorem dMulT_t {ds : List D} {j : Int} : dMulT (.tup ds) (.int j) = if ds ≠ [] ∧ 0 ≤ j ∧ j ≤ 1000 ∧ ds.length ≤ 1000 then some (.tup (List.replicate j.toNat ds).flatten) else none := rfl
section
variable {c : Bool} {x : D} {e : Env}
@[simp] theorem cond_o2 : cond c (some ((none : Option D), e)) (some (some x, e)) = some (cond c none (some x), e) := by cases c <;> simp
@[simp] theorem cond_not {α : Type} {a b : α} : cond (!c) a b = cond c b a := by cases c <;> rfl
end
end MV

/-! ### sorted(set(xs)), xs a list of ints -/
namespace L2
open PySem PySem.Spec PyProof.Rows
section
variable {P : Program} {w : World} {A : Around} {E : Value → Shared → Prop} {s : Shared}
/-- the new set's object -/
abbrev oSet (w : World) : Obj := { cls := .type "set", dict := none, data := .set #[] 0 (.fresh 0 0 (!w.params.followText "set-order")) }
abbrev hSet (w : World) (s : Shared) : Heap := s.heap.push (oSet w)
/-- what set.__init__ leaves -/
def SetMade (w : World) (s : Shared) (ns : List Int) (h' : Heap) : Prop := ∃ c, SetR w h' s.heap.objs.size (fun j => decide (j ∈ ns)) c ∧ c ≤ ns.length ∧ ∀ b o, s.heap.get? b = some o → h'.get? b = some o
set_option maxRecDepth 100000 in
theorem set_init_list {l : Addr} {items : Array Value} (ns : List Int) {R : Value → Shared → Prop} (hh : A.handled = none) (hl : s.heap.IsList l items) (hit : IntsAre items.toList ns) (hb : ns.length + 1 < scanBound)
    (hR : ∀ h' tk, SetMade w s ns h' → R .none { s with heap := h', toks := tk }) :
    codeAny (model P w) A (.call (.builtin "set.__init__") ⟨[.ref s.heap.objs.size, .ref l], []⟩) (wants R E) { s with heap := hSet w s } := by
  have hS : (hSet w s).get? s.heap.objs.size = some (oSet w) := Heap.get?_push_size _ rfl
  have hT : Shared.TypeIs { s with heap := hSet w s } (.ref s.heap.objs.size) "set" := ⟨_, hS, rfl⟩
  have hisz : items.size = ns.length := by have q := IntsAre.length hit; rwa [Array.length_toList] at q
  refine codeAny_call_builtin (R := wants R E) F.called_set.init.plain F.entry_set_init (check_set_init_1 hT ?_)
  obtain ⟨⟨ocls, odict, odata, oslots⟩, hol, hcl, nl, hdl⟩ := hl
  simp only at hcl hdl
  subst hcl hdl
  have hol' : (hSet w s).get? l = some { cls := .type "list", dict := odict, data := .seq items nl, slots := oslots } := Heap.get?_push_of_some _ hol
  have k1 := F.sub_list_set
  have k2 := F.sub_list_frozenset
  have k3 : (Value.type "list" == Value.type "dict") = false := by decide
  have hl1 : (hSet w s).IsList l items := ⟨_, hol', rfl, nl, rfl⟩
  unfold Builtin.«set.__init__» noKeywords Builtin.Frozenset.updateFrom
  generalize hPI : pyIter = PI
  wp_walk
  subst hPI
  refine wpAny_pyIter_list hl1 (wpAny_bind (wpAny_runValue ?_))
  have ll : l < s.heap.objs.size := Heap.lt_size hol
  have hne : l ≠ (hSet w s).objs.size := by rw [Heap.size_push]; exact Nat.ne_of_lt (Nat.lt_succ_of_lt ll)
  have hnot : s.heap.objs.size ∉ [(hSet w s).objs.size, l] := fun q => by
    rw [Heap.size_push] at q
    rcases List.mem_cons.mp q with z | z
    · exact Nat.ne_of_lt (Nat.lt_succ_self _) z
    · exact Nat.ne_of_gt ll (List.mem_singleton.mp z)
  have hval : ∀ (i : Nat) (v : Value), items[i]? = some v → ∃ k t, ns[i]? = some k ∧ v = .int k t := fun i v hv => by
    have hi : i < ns.length := by rw [← hisz]; exact (Array.getElem?_eq_some_iff.mp hv).1
    obtain ⟨t, e⟩ := PyProof.Rows.IntsAre.int_at hit i v (by rw [Array.getElem?_toList]; exact hv)
    exact ⟨ns[i], t, List.getElem?_eq_getElem hi, by rw [e, List.getD_eq_getElem?_getD, List.getElem?_eq_getElem hi]; rfl⟩
  refine set_update_ints ((Walks.list (by simp [hh]) _ l hne items).toS) s.heap.objs.size hnot ns hisz hb hval (items.size - 0) 0 _ (by omega) (Nat.zero_le _)
    ⟨⟨_, Heap.get?_push_size _ rfl, rfl, rfl⟩, hl1.push _⟩ ⟨0, Nat.le_refl 0, setR_new_at (Heap.get?_push_of_some _ hS)⟩ fun s' c' hm hc' hS' => ?_
  obtain ⟨h', g2, d', tk', os'⟩ := s'
  have eg : g2 = s.gens := hm.gens
  have ed : d' = s.drawn := hm.drawn
  have eo : os' = s.os := hm.os
  subst eg ed eo
  show wpAny _ _ _ _ _ _
  refine wpAny_pure ?_
  show wpAny _ _ (ret Value.none) _ _ _
  refine wpAny_pure (hR h' tk' ⟨c', hS', by rw [← hisz]; exact hc', fun b o e => ?_⟩)
  have lb : b < s.heap.objs.size := Heap.lt_size e
  refine hm.heap b o (fun q => ?_) (Heap.get?_push_of_some _ (Heap.get?_push_of_some _ e))
  rcases List.mem_cons.mp q with z | q
  · exact Nat.ne_of_lt lb z
  · have z := List.mem_singleton.mp q
    rw [Heap.size_push] at z
    exact Nat.ne_of_lt (Nat.lt_succ_of_lt lb) z
set_option maxRecDepth 100000 in
theorem call_set_lst {l : Addr} {items : Array Value} (ns : List Int) {Q : Value → Shared → Prop} (hh : A.handled = none) (hl : s.heap.IsList l items) (hit : IntsAre items.toList ns) (hb : ns.length + 1 < scanBound)
    (h : ∀ h' tk, SetMade w s ns h' → Q (.ref s.heap.objs.size) { s with heap := h', toks := tk }) :
    wpAny (model P w) A (call (.type "set") [.ref l]) Q E s := by
  obtain ⟨c, tl, hmro⟩ := F.called_set.mro
  have hmade := F.called_set.made
  have hsub := F.called_set.sub
  refine wpAny_call (codeAny_of_tree ?_)
  show wpAny _ _ (callAny (.type "set") _) _ _ _
  refine wpAny_pure ⟨Code.quiet_builtin _ (by decide +kernel), codeAny_builtin F.entry_type_call ?_⟩
  rw [Around.under_plain (weight_type_call_type "set" [.ref l] []) rfl]
  have h1 := F.called_set.notType
  have h2 := F.called_set.canCreate
  have hct := F.typeCall_set_1 (.ref l)
  repeat (any_goals (first | assumption | wp_step))
  refine codeAny_mono (code_set_led1 (.ref l) (E := E) (Q₁ := fun obj s₁ => obj = .ref s.heap.objs.size ∧ s₁ = { s with heap := hSet w s }) ⟨rfl, rfl⟩) fun r s₁ hr => ?_
  cases r with
  | error e => exact hr
  | ok fl =>
    cases fl with
    | ret obj =>
      obtain ⟨rfl, rfl⟩ := hr
      have hS : (hSet w s).get? s.heap.objs.size = some (oSet w) := Heap.get?_push_size _ rfl
      have hT : Shared.TypeIs { s with heap := hSet w s } (.ref s.heap.objs.size) "set" := ⟨_, hS, rfl⟩
      have hli := F.called_set.init.lookup
      have hbi := F.called_set.init.bind (.ref s.heap.objs.size)
      repeat (any_goals (first | assumption | wp_step))
      refine codeAny_mono (set_init_list ns (E := E) (R := fun r s₂ => r = .none ∧ ∃ h' tk, s₂ = { s with heap := h', toks := tk } ∧ SetMade w s ns h') (by simpa using hh) hl hit hb fun h' tk k => ⟨rfl, h', tk, rfl, k⟩) fun r₂ s₂ hr₂ => ?_
      cases r₂ with
      | error e => exact hr₂
      | ok fl₂ =>
        cases fl₂ with
        | ret r =>
          obtain ⟨rfl, h', tk, rfl, k⟩ := hr₂
          repeat (any_goals (first | assumption | wp_step))
          exact h _ _ k
        | _ => exact hr₂.elim
    | _ => exact hr.elim
end
def rSetOfI (K : PySem.W.Frag) (w : World) : List V → Hp → VK → Prop := fun xs H Q => ∃ (l : Addr) (ns : List Int), xs = [V.ref l] ∧ SqL K H l (ns.map V.int) ∧ ns.length ≤ 1000 ∧ ∀ p c, c ≤ ns.length → H p = none → Q (.ref p) (upd H p (SetO w p (fun j => decide (j ∈ ns)) c))
section
variable {X : Cx}
theorem cr_setOfI (hc : X.calm = true) : CallR X (.type "set") (rSetOfI X.K X.w) := by
  intro pins s σ H xs us Q I r h
  obtain ⟨l, ns, rfl, hl, hf, q⟩ := h
  rw [Vals.ref1 r]
  obtain ⟨its, rv, pl, hz⟩ := I.list hl
  have hi : IntsAre its.toArray.toList ns := ints_of_vals rv
  refine call_set_lst ns (I.ok.hd hc) pl.isList hi (by unfold scanBound; omega) fun h' tk ⟨c, R, hcn, k⟩ => ?_
  exact ⟨.ref _, upd H s.heap.objs.size (SetO X.w s.heap.objs.size (fun j => decide (j ∈ ns)) c), I.laid (t' := tk) k (Nat.le_refl _) (setO_new R), rfl, q _ c hcn (I.hok.fresh (Nat.le_refl _))⟩
end
end L2

namespace MV
open PySem L2
variable [TB]
/-! ### sorted(set(xs)) -/
def insU (i : Int) : List Int → List Int
  | [] => [i]
  | j :: r => if i < j then i :: j :: r else if i = j then j :: r else j :: insU i r
def usort : List Int → List Int
  | [] => []
  | i :: r => insU i (usort r)
theorem insU_mem {i k : Int} : ∀ {r : List Int}, k ∈ insU i r ↔ k = i ∨ k ∈ r
  | [] => by simp [insU]
  | j :: r => by
    unfold insU
    split
    · simp
    · split
      · rename_i h; subst h; simp
      · rw [List.mem_cons, insU_mem (r := r), List.mem_cons]
        constructor
        · rintro (h | h | h)
          · exact .inr (.inl h)
          · exact .inl h
          · exact .inr (.inr h)
        · rintro (h | h | h)
          · exact .inr (.inl h)
          · exact .inl h
          · exact .inr (.inr h)
theorem usort_mem {k : Int} : ∀ {r : List Int}, k ∈ usort r ↔ k ∈ r
  | [] => Iff.rfl
  | i :: r => by rw [usort, insU_mem, usort_mem, List.mem_cons]
theorem insU_asc {i : Int} : ∀ {r : List Int}, r.Pairwise (· < ·) → (insU i r).Pairwise (· < ·)
  | [], _ => by simp [insU]
  | j :: r, h => by
    unfold insU
    rw [List.pairwise_cons] at h
    split
    · rename_i hij
      rw [List.pairwise_cons]
      refine ⟨fun k hk => ?_, List.pairwise_cons.mpr h⟩
      rcases List.mem_cons.mp hk with rfl | hk
      · exact hij
      · exact Int.lt_trans hij (h.1 k hk)
    · split
      · exact List.pairwise_cons.mpr h
      · rename_i h1 h2
        rw [List.pairwise_cons]
        refine ⟨fun k hk => ?_, insU_asc h.2⟩
        rcases insU_mem.mp hk with rfl | hk
        · omega
        · exact h.1 k hk
theorem usort_asc : ∀ r : List Int, (usort r).Pairwise (· < ·)
  | [] => List.Pairwise.nil
  | i :: r => insU_asc (usort_asc r)
theorem asc_uniq {a b : List Int} (ha : a.Pairwise (· < ·)) (hb : b.Pairwise (· < ·)) (h : ∀ k, k ∈ a ↔ k ∈ b) : a = b :=
  sorted_uniq ((List.perm_ext_iff_of_nodup (ha.imp fun h => by omega) (hb.imp fun h => by omega)).mpr h) (ha.imp fun h => by omega) (hb.imp fun h => by omega)
def dSortSet : D → Option D
  | .lst ds => (intsD ds).bind fun ns => if ns.length < 64 then some (.lst ((usort ns).map .int)) else none
  | _ => none
section
variable {X : Cx} {a : Expr} {m : M D} {p p2 pos pos2 : Pos}
theorem se_sortSet (hc : X.calm = true) (hg : Gl X "sorted") (hm : X.mg "sorted" = none) (hg2 : Gl X "set") (hm2 : X.mg "set" = none) (ha : SE X a m)
    (h1 : starEach [a] X.env = (false, eval a X.env) :: starEach [] X.env := by rfl) (h2 : starEach [.Call (.Name "set" p2) [a] [] pos2] X.env = (false, eval (.Call (.Name "set" p2) [a] [] pos2) X.env) :: starEach [] X.env := by rfl) :
    SE X (.Call (.Name "sorted" p) [.Call (.Name "set" p2) [a] [] pos2] [] pos) (mUn dSortSet m) :=
  PE.imp (pe_callB (cr_sortedSet hc) hg hm (by rfl) (pa_one (pe_callTy (cr_setOfI hc) hg2 hm2 (by rfl) (pa_one ha h1) (by decide) (by decide) h1) h2) (by decide) (by decide) h2) fun σ H Q ⟨I, e, Fs, R, d, e', hm, k⟩ => by
    obtain ⟨⟨x, e1⟩, hx, hm⟩ := Option.bind_eq_some_iff.mp hm
    obtain ⟨z, h3, hm⟩ := Option.map_eq_some_iff.mp hm
    cases hm
    cases x with
    | lst ds =>
      obtain ⟨ns, h4, hm⟩ := Option.bind_eq_some_iff.mp (show ((intsD ds).bind fun ns => if ns.length < 64 then some (D.lst ((usort ns).map .int)) else none) = some _ from h3)
      split at hm
      · rename_i hl
        cases hm
        refine ⟨I, e, Fs, R, .lst ds, _, hx, fun v I1 F1 H1 R1 x1 r1 => ?_⟩
        simp only [Rp] at r1
        obtain ⟨b, xs, rfl, hb, hr⟩ := r1
        have := ints_v h4 hr
        subst this
        refine ⟨b, ns, rfl, .of (R1.sub _ _ hb), by omega, fun q c hcl hq => ⟨q, _, c, rfl, upd_same, by omega, fun zs z hz hmz hlz hzn => ?_⟩⟩
        have ez : zs = usort ns := asc_uniq hz (usort_asc ns) fun k => by rw [hmz, usort_mem]; simp
        subst ez
        obtain ⟨R2, x2⟩ := (Gr.new q (SetO X.w q (fun j => decide (j ∈ ns)) c) hq : Gr I1 H1 _ _).rel R1
        obtain ⟨R3, x3⟩ := (Gr.new z (.lst ((usort ns).map V.int)) hzn : Gr _ _ _ _).rel R2
        exact k _ _ F1 _ R3 ((x1.trans x2).trans x3) (rp_lst R2.sub hzn (rpl_ints _))
      · cases hm
    | _ => cases h3
end
theorem dSortSet_l {ns : List Int} (h : ns.length < 64) (hi : intsD (ns.map .int) = some ns) : dSortSet (.lst (ns.map .int)) = some (.lst ((usort ns).map .int)) := by
  show ((intsD (ns.map .int)).bind fun ns => if ns.length < 64 then some (D.lst ((usort ns).map .int)) else none) = _
  rw [hi]
  simp [h]
/-! ### xs.index(x) -/
def dIdx : D → D → Option D
  | .lst ds, x => if (flatD x && ds.all flatD) = true then (ds.findIdx? fun y => eqF y x).map fun (j : Nat) => D.int (j : Int) else none
  | _, _ => none
section
variable {X : Cx} {o a : Expr} {mo ma : M D} {apos cpos : Pos}
theorem se_idx (ho : SE X o mo) (ha : SE X a ma)
    (hbase : attributeBase o "index" X.env (eval o X.env) = eval o X.env := by rfl)
    (hfew : ((backTo cpos (starEach [a] X.env)).all (fun x => !x.1) && (backToKw cpos (keywordEach [] X.env)).all (fun x => x.1.isSome)
      && decide ([a].length + ([] : List Keyword).length + (if ([] : List Keyword).isEmpty then 0 else 1) < 30)) = true := by rfl)
    (hline : (apos.endLine == cpos.line) = true := by rfl) (hs : starEach [a] X.env = (false, eval a X.env) :: starEach [] X.env := by rfl) (hplain : (backTo cpos (starEach [] X.env)).any (·.1) = false := by rfl) :
    SE X (.Call (.Attribute o "index" apos) [a] [] cpos) (mOp dIdx mo ma) := PE.imp (pe_bm PySem.F.plainAttrs_list PySem.F.slot_list_index PySem.F.type_list_index mt_index ho (pa_one ha hs) hbase hfew hline hs hplain) fun σ H Q ⟨I, e, Fs, R, d, e', hm, k⟩ => by
  obtain ⟨⟨x, e1⟩, h1, hm⟩ := Option.bind_eq_some_iff.mp hm
  obtain ⟨⟨y, e2⟩, h2, hm⟩ := Option.bind_eq_some_iff.mp hm
  obtain ⟨z, h3, hm⟩ := Option.map_eq_some_iff.mp hm
  cases hm
  refine ⟨I, e, Fs, R, x, e1, h1, fun v I1 F1 H1 R1 x1 r1 => ?_⟩
  cases x with
  | lst ds =>
    simp only [dIdx] at h3
    · split at h3
      · rename_i hf
        rw [Bool.and_eq_true] at hf
        obtain ⟨j, hj, rfl⟩ := Option.map_eq_some_iff.mp h3
        simp only [Rp] at r1
        obtain ⟨b, xs, rfl, hb, hr⟩ := r1
        refine ⟨.inl ⟨rfl, xs, .of (R1.sub _ _ hb)⟩, I1, e1, F1, R1, y, e2, h2, fun u I2 F2 H2 R2 x2 r2 => ?_⟩
        have hr2 := RpL.mono x2.g.ex ds xs hr
        obtain ⟨hl, hj1, hj2⟩ := List.findIdx?_eq_some_iff_getElem.mp hj
        obtain ⟨z, hz, rz⟩ := hr2.get (List.getElem?_eq_getElem hl)
        have fl := fun (i : Nat) (h : i < ds.length) => List.all_eq_true.mp hf.2 ds[i] (List.getElem_mem h)
        refine ⟨b, xs, u, j, z, rfl, rfl, .of (R2.sub _ _ (x2.g.ex _ _ hb)), flat_v r2 hf.1, flats_v hr2 hf.2, hz, ?_, fun m z' hm hz' => ?_, ?_⟩
        · rw [eqF_v rz r2 (fl j hl) hf.1]; exact hj1
        · have hml : m < ds.length := by omega
          obtain ⟨z2, hz2, rz2⟩ := hr2.get (List.getElem?_eq_getElem hml)
          rw [hz'] at hz2
          cases hz2
          rw [eqF_v rz2 r2 (fl m hml) hf.1]
          simpa using hj2 m hm
        · exact k _ I2 F2 H2 R2 (x1.trans x2) rp_int
      · cases h3
  | _ => cases h3
end
end MV

namespace MV
open PySem L2
variable [TB]
/-! ### a dict written out, its keys texts -/
def dpE : List (Str × M D) → M (List (Key × D))
  | [] => fun e => some ([], e)
  | (k, m) :: r => fun e => (m e).bind fun x => (dpE r x.2).map fun y => ((.inr k, x.1) :: y.1, y.2)
def tDp (K : PySem.W.Frag) (mg : Str → Option Value) (m : M (List (Key × D))) : L2.St → Hp → (List (V × V) → Hp → Prop) → Prop := fun σ H Q => ∃ I e Fs, Rel K mg I e Fs σ H ∧ ∃ ds e', m e = some (ds, e') ∧
  ∀ kvs I' Fs' H', Rel K mg I' e' Fs' σ H' → Ext Fs I H Fs' I' H' → RpK K mg I' ds kvs → Q (kvs.map fun kv => (kV kv.1, kv.2)) H'
def SDs (X : Cx) (pos : Pos) (keys : List (Option Expr)) (values : List Expr) (m : M (List (Key × D))) : Prop := ∃ trs, PPs X pos keys values trs ∧ ∀ σ H Q, tDp X.K X.mg m σ H Q → tPairs trs σ H Q
section
variable {X : Cx} {pos : Pos}
theorem sd_nil : SDs X pos [] [] (dpE []) := ⟨[], pps_nil, fun σ H Q ⟨I, e, Fs, R, ds, e', hm, k⟩ => by
  cases hm
  exact k [] I Fs H R Ext.refl (by simp only [RpK])⟩
theorem sd_cons {x : Str} {j : Nat} {p : Pos} {v : Expr} {ks : List (Option Expr)} {vs : List Expr} {m : M D} {r : List (Str × M D)} (hv : SE X v m) (hr : SDs X pos ks vs (dpE r)) : SDs X pos (some (.Constant (.str x) j p) :: ks) (v :: vs) (dpE ((x, m) :: r)) := by
  obtain ⟨trs, h1, h2⟩ := hr
  refine ⟨_, pps_cons pe_str hv h1, fun σ H Q ⟨I, e, Fs, R, ds, e', hm, k⟩ => ?_⟩
  obtain ⟨⟨d, e1⟩, h3, hm⟩ := Option.bind_eq_some_iff.mp hm
  obtain ⟨⟨es, e2⟩, h4, hm⟩ := Option.map_eq_some_iff.mp hm
  cases hm
  refine ⟨I, e, Fs, R, d, e1, h3, fun v I1 F1 H1 R1 x1 r1 => h2 _ _ _ ⟨I1, e1, F1, R1, es, e2, h4, fun kvs I2 F2 H2 R2 x2 r2 => ?_⟩⟩
  exact k ((.inr x, v) :: kvs) I2 F2 H2 R2 (x1.trans x2) (by simp only [RpK]; exact ⟨v, kvs, rfl, r1.mono x2.g.ex _ _, r2⟩)
end
theorem rpK_keys {K : PySem.W.Frag} {mg : Str → Option Value} {I : Hp} : ∀ {ds : List (Key × D)} {kvs : List (Key × V)}, RpK K mg I ds kvs → kvs.map (·.1) = ds.map (·.1)
  | [], kvs, h => by simp only [RpK] at h; subst h; rfl
  | (k, d) :: ds, kvs, h => by
    simp only [RpK] at h
    obtain ⟨x, r, rfl, _, h2⟩ := h
    simp [rpK_keys h2]
theorem putK_new : ∀ {c : List (Key × V)} {k : Key} {v : V}, k ∉ c.map (·.1) → putK c k v = c ++ [(k, v)] := fun {c k v} h => by
  unfold putK
  have : (c.any fun kv => decide (kv.1 = k)) = false := by
    rw [List.any_eq_false]
    intro q hq
    have : q.1 ≠ k := fun z => h (z ▸ List.mem_map.mpr ⟨q, hq, rfl⟩)
    simpa using this
  rw [this]
  simp
theorem mergeK_new : ∀ (kvs c : List (Key × V)), ((c ++ kvs).map (·.1)).Nodup → mergeK c kvs = c ++ kvs
  | [], c, _ => by simp [mergeK]
  | (k, v) :: r, c, h => by
    have h1 : k ∉ c.map (·.1) := by
      rw [List.map_append, List.nodup_append] at h
      intro z
      exact h.2.2 k z k (by simp) rfl
    show mergeK (putK c k v) r = _
    rw [putK_new h1, mergeK_new r (c ++ [(k, v)]) (by simpa using h)]
    simp
theorem roK_p {K : PySem.W.Frag} {mg : Str → Option Value} {I H : Hp} : ∀ {ds : List (Key × D)} {kvs : List (Key × V)}, RpK K mg I ds kvs → RoK K mg I H (ds.map fun q => (q.1, W.p q.2)) kvs []
  | [], kvs, h => by simp only [RpK] at h; subst h; simp [RoK]
  | (k, d) :: ds, kvs, h => by
    simp only [RpK] at h
    obtain ⟨x, r, rfl, h1, h2⟩ := h
    simp only [List.map_cons, RoK]
    exact ⟨x, r, [], [], rfl, rfl, by simp only [Ro]; exact ⟨h1, trivial⟩, roK_p h2⟩
def mDictS (kms : List (Str × M D)) : M W := fun e => (dpE kms e).bind fun x => if (x.1.map (·.1)).Nodup ∧ x.1.length ≤ 15 then some (.od (x.1.map fun q => (q.1, .p q.2)), x.2) else none
theorem so_dictS {X : Cx} {Wx : WX} {pos : Pos} {keys : List (Option Expr)} {values : List Expr} {kms : List (Str × M D)} (h : SDs X pos keys values (dpE kms)) (hall : keys.all (·.isSome) = true) (hl : keys.length = values.length) (h0 : keys ≠ [])
    (h15 : keys.length ≤ 15) : SO X Wx (.Dict keys values pos) (mDictS kms) := by
  obtain ⟨trs, h1, h2⟩ := h
  refine PE.imp (pe_disp h1 hall hl h0 h15) fun σ H Q ⟨I, e, Fs, R, w, e', hm, k, _⟩ => ?_
  obtain ⟨⟨ds, e1⟩, h3, hm⟩ := Option.bind_eq_some_iff.mp hm
  have hm : (if (ds.map (·.1)).Nodup ∧ ds.length ≤ 15 then some (W.od (ds.map fun q => (q.1, .p q.2)), e1) else none) = some (w, e') := hm
  split at hm
  · rename_i hd
    cases hm
    intro q hq
    refine h2 _ _ _ ⟨I, e, Fs, R.loose hq, ds, _, h3, fun kvs I1 F1 H1 R1 x1 r1 => ?_⟩
    have hI : I q = none := sub_none R.sub hq
    have hF : ¬ MF Fs q := fun ⟨i, hi⟩ => R.live i q hi hq
    have h1q : H1 q = some (.dK []) := x1.g.fr q _ upd_same hF (fun _ z => by cases z)
    have hk := rpK_keys r1
    have hmer : mergeK [] kvs = kvs := by
      have := mergeK_new kvs [] (by rw [List.nil_append, hk]; exact hd.1)
      simpa using this
    have hlen : kvs.length = ds.length := by have := congrArg List.length hk; simpa using this
    refine ⟨h1q, kvs, rfl, by omega, ?_⟩
    rw [hmer]
    have hI1 : I1 q = none := by
      cases z : I1 q with
      | none => rfl
      | some u =>
        rcases x1.g.new q (by rw [z]; exact fun y => by cases y) with y | y | y
        · exact absurd hI y
        · rw [upd_same] at y; cases y
        · exact absurd y hF
    have hF1 : ¬ MF F1 q := fun m => by
      rcases x1.fp q m with y | y
      · exact hF y
      · rw [upd_same] at y; cases y
    have R2 : Rel X.K X.mg I1 e' F1 σ (upd H1 q (.dK kvs)) := R1.loose2 hI1 hF1 (.dk h1q)
    refine k (.ref q) I1 F1 _ [q] R2 ⟨⟨x1.g.ex, fun a u hu m nt => ?_, fun a ha => ?_, fun t => tbR_upd (x1.g.tb (t.ext (Ex.new hq))) (.dk h1q), fun a ps hu m => ?_⟩, fun a m => ?_⟩ ⟨?_, by simp, fun a ha => by rw [List.mem_singleton.mp ha]; exact hI1, fun a ha m => by rw [List.mem_singleton.mp ha] at m; exact hF1 m⟩ fun a ha => by rw [List.mem_singleton.mp ha]; exact .inr hq
    · have z : a ≠ q := fun z => by subst z; rw [hq] at hu; cases hu
      rw [upd_ne z]
      exact x1.g.fr a u (by rw [upd_ne z]; exact hu) m nt
    · rcases x1.g.new a ha with y | y | y
      · exact .inl y
      · by_cases z : a = q
        · subst z; rw [upd_same] at y; cases y
        · rw [upd_ne z] at y; exact .inr (.inl y)
      · exact .inr (.inr y)
    · have z : a ≠ q := fun z => by subst z; rw [hq] at hu; cases hu
      rw [upd_ne z]
      exact x1.g.tl a ps (by rw [upd_ne z]; exact hu) m
    · rcases x1.fp a m with y | y
      · exact .inl y
      · by_cases z : a = q
        · subst z; exact absurd m hF1
        · rw [upd_ne z] at y; exact .inr y
    · simp only [Ro]
      exact ⟨q, kvs, [], rfl, upd_same, rfl, roK_p r1⟩
  · cases hm
/-! ### d[k], d an owned dict with a name -/
def mDgO (i : Nat) (m : M D) : M D := fun e => match e[i]? with
  | some (some (.od _)) => (m e).bind fun x => match x.2[i]? with
    | some (some (.od es)) => (keyD x.1).bind fun k => (valW es k).bind fun w => match w with
      | .p d => some (d, x.2)
      | _ => none
    | _ => none
  | _ => none
theorem se_dgO {X : Cx} {o b : Expr} {i : Nat} {m : M D} {pos : Pos} (hu : X.A.units + 1 < cLine) (ho : PE X o (tVar i)) (hb : SE X b m) (hs : NoSl b) : SE X (.Subscript o b pos) (mDgO i m) := PE.imp (pe_dget hu ho hb hs) fun σ H Q ⟨I, e, Fs, R, d, e', hm, k⟩ => by
  unfold mDgO at hm
  split at hm
  · rename_i es0 he0
    obtain ⟨⟨x, e1⟩, h1, hm⟩ := Option.bind_eq_some_iff.mp hm
    split at hm
    · rename_i es hes
      obtain ⟨ky, h2, hm⟩ := Option.bind_eq_some_iff.mp hm
      obtain ⟨w, h3, hm⟩ := Option.bind_eq_some_iff.mp hm
      cases w with
      | p d0 =>
        cases hm
        obtain ⟨v0, hv0, _⟩ := R.at_ i _ he0
        refine ⟨v0, hv0, I, e, Fs, R, x, _, h1, fun y I1 F1 H1 R1 x1 r1 => ?_⟩
        obtain ⟨v1, hv1, hro⟩ := R1.at_ i _ hes
        rw [hv0] at hv1
        cases hv1
        simp only [Ro] at hro
        obtain ⟨a, kvs, G1, rfl, ha, _, hF⟩ := hro
        obtain ⟨z, A, G2, B, hx, _, hro, _⟩ := hF.lens h3
        simp only [Ro] at hro
        refine ⟨a, z, rfl, ?_, k z I1 F1 H1 R1 x1 hro.1⟩
        rw [keyD_v h2 r1, ← hx]
        exact DGet.k ha
      | _ => cases hm
    · cases hm
  · cases hm
/-! evaluation -/
section
variable {e : Env}
def dpK (k : Str) (r : List (Str × M D)) : Option (D × Env) → Option (List (Key × D) × Env)
  | some x => (dpE r x.2).map fun y => ((.inr k, x.1) :: y.1, y.2)
  | none => none
@[simp] theorem ev_dpE_nil : dpE [] e = some ([], e) := rfl
@[simp] theorem ev_dpE {k : Str} {m : M D} {r : List (Str × M D)} : dpE ((k, m) :: r) e = dpK k r (m e) := by
  show ((m e).bind fun x => (dpE r x.2).map fun y => ((Sum.inr k, x.1) :: y.1, y.2)) = _
  unfold dpK
  cases m e <;> rfl
@[simp] theorem dpK_s {k : Str} {r : List (Str × M D)} {d : D} : dpK k r (some (d, e)) = (dpE r e).map fun y => ((.inr k, d) :: y.1, y.2) := rfl
def dsK : Option (List (Key × D) × Env) → Option (W × Env)
  | some x => if (x.1.map (·.1)).Nodup ∧ x.1.length ≤ 15 then some (.od (x.1.map fun q => (q.1, .p q.2)), x.2) else none
  | none => none
@[simp] theorem ev_dictS {kms : List (Str × M D)} : mDictS kms e = dsK (dpE kms e) := by unfold mDictS dsK; cases dpE kms e <;> rfl
theorem dsK_s {ds : List (Key × D)} (h : (ds.map (·.1)).Nodup) (hl : ds.length ≤ 15) : dsK (some (ds, e)) = some (.od (ds.map fun q => (q.1, .p q.2)), e) := if_pos ⟨h, hl⟩
def dgK4 (e : Env) : Option W → Option (D × Env)
  | some (.p d) => some (d, e)
  | _ => none
def dgK3 (d : D) (e : Env) : Option (Option W) → Option (D × Env)
  | some (some (.od es)) => dgK4 e ((keyD d).bind fun k => valW es k)
  | _ => none
def dgK2 (i : Nat) : Option (D × Env) → Option (D × Env)
  | some x => dgK3 x.1 x.2 x.2[i]?
  | none => none
def dgK1 (i : Nat) (m : M D) (e : Env) : Option (Option W) → Option (D × Env)
  | some (some (.od _)) => dgK2 i (m e)
  | _ => none
theorem dgK3_eq {d : D} {o : Option (Option W)} : (match o with
    | some (some (.od es)) => (keyD d).bind fun k => (valW es k).bind fun w => match w with
      | .p d => some (d, e)
      | _ => none
    | _ => none) = dgK3 d e o := by
  unfold dgK3
  split
  · unfold dgK4
    cases keyD d with
    | none => rfl
    | some k =>
      simp only [Option.bind_some]
      rename_i es
      cases valW es k with
      | none => rfl
      | some w => cases w <;> rfl
  · rfl
@[simp] theorem ev_dgO {i : Nat} {m : M D} : mDgO i m e = dgK1 i m e e[i]? := by
  unfold mDgO dgK1
  split
  · unfold dgK2
    cases m e with
    | none => rfl
    | some x => exact dgK3_eq
  · rfl
@[simp] theorem dgK1_s {i : Nat} {m : M D} {es : List (Key × W)} : dgK1 i m e (some (some (.od es))) = dgK2 i (m e) := rfl
@[simp] theorem dgK2_s {i : Nat} {d : D} : dgK2 i (some (d, e)) = dgK3 d e e[i]? := rfl
@[simp] theorem dgK3_s {d : D} {es : List (Key × W)} : dgK3 d e (some (some (.od es))) = dgK4 e ((keyD d).bind fun k => valW es k) := rfl
@[simp] theorem dgK4_s {d : D} : dgK4 e (some (.p d)) = some (d, e) := rfl
end
end MV

namespace MV
open PySem L2
section
variable {tg : Tg} {b : S} {e : Env}
/-- the first that something is said of, and how the slots are then -/
theorem forRun_find2 {α : Type} {g : α → D} (Z : Env → Prop) (p : α → Option W) : ∀ {xs : List α}, (∀ x ∈ xs, (p x = none → forStep tg b (g x) e = some (.nx e)) ∧ (∀ w, p x = some w → ∃ z, Z z ∧ forStep tg b (g x) e = some (.rt w z))) →
    (xs.findSome? p = none ∧ forRun tg b (xs.map g) e = some (.nx e)) ∨ (∃ w, xs.findSome? p = some w ∧ ∃ z, Z z ∧ forRun tg b (xs.map g) e = some (.rt w z))
  | [], _ => .inl ⟨rfl, rfl⟩
  | x :: xs, k => by
    have ih := forRun_find2 Z p (xs := xs) fun y hy => k y (by simp [hy])
    cases hp : p x with
    | none =>
      have h := (k x (by simp)).1 hp
      rw [List.map_cons, forRun_c, h, Option.bind_some, List.findSome?_cons, hp]
      exact ih
    | some w =>
      obtain ⟨z, hz, h⟩ := (k x (by simp)).2 w hp
      right
      exact ⟨w, by rw [List.findSome?_cons, hp], z, hz, by rw [List.map_cons, forRun_c, h, Option.bind_some]⟩
end
/-! ### two fors -/
section
variable {own vs1 : List Nat} {mi mi1 : M (List D)} {t t1 : Tg} {c c1 : M Bool} {m : M D} {e : Env}
def lc2K (own : List Nat) (t : Tg) (c : M Bool) (mi1 : M (List D)) (vs1 : List Nat) (t1 : Tg) (c1 : M Bool) (m : M D) : Option (List D × Env) → Option (D × Env)
  | some x => if x.1.length ≤ 1000 then (lc2Run own t c mi1 vs1 t1 c1 m x.1 (wipeE x.2 own)).map fun r => (.lst r.1, r.2) else none
  | none => none
@[simp] theorem ev_lc2 : mLc2 own mi t c mi1 vs1 t1 c1 m e = lc2K own t c mi1 vs1 t1 c1 m (mi e) := by unfold mLc2 lc2K; cases mi e <;> rfl
@[simp] theorem lc2K_s {ds : List D} : lc2K own t c mi1 vs1 t1 c1 m (some (ds, e)) = if ds.length ≤ 1000 then (lc2Run own t c mi1 vs1 t1 c1 m ds (wipeE e own)).map fun r => (.lst r.1, r.2) else none := rfl
/-- each turn gives a list of its own -/
theorem lc2Run_flat {α : Type} {g : α → D} (f : α → List D) : ∀ {xs : List α}, (∀ x ∈ xs, ∃ e1 e2 ys e3 e4, t (g x) e = some e1 ∧ c e1 = some (true, e2) ∧ mi1 e2 = some (ys, e3) ∧ ys.length ≤ 1000 ∧ lcRun vs1 t1 c1 m ys (wipeE e3 vs1) = some (f x, e4) ∧ wipeE e4 own = e) →
    lc2Run own t c mi1 vs1 t1 c1 m (xs.map g) e = some ((xs.map f).flatten, e)
  | [], _ => rfl
  | x :: xs, k => by
    obtain ⟨e1, e2, ys, e3, e4, h1, h2, h3, h4, h5, h6⟩ := k x (by simp)
    have ih := lc2Run_flat (g := g) f (xs := xs) fun y hy => k y (by simp [hy])
    simp [lc2Run, h1, h2, h3, h4, h5, h6, ih]
end
end MV

namespace MV
open PySem L2
variable [TB]
/-! ### owned lists seen as frozen ones -/
mutual
def frz0 : W → Option D
  | .p d => some d
  | .ol ws => (frz0L ws).map .lst
  | .ot ws => (frz0L ws).map .tup
  | .oi c fs => (frz0F fs).map (.inst c)
  | .od _ => none
  | .ex _ => none
def frz0L : List W → Option (List D)
  | [] => some []
  | w :: ws => (frz0 w).bind fun d => (frz0L ws).map (d :: ·)
def frz0F : List (Str × W) → Option (List (Str × D))
  | [] => some []
  | (k, w) :: ws => (frz0 w).bind fun d => (frz0F ws).map ((k, d) :: ·)
end
section
variable {K : PySem.W.Frag} {mg : Str → Option Value} {I J H : Hp}
mutual
theorem frz0_rp : ∀ (w : W) (d : D) (v : V) (F : List Addr), frz0 w = some d → Ro K mg I H w v F → Ex I J → (∀ a ∈ F, ∀ o, H a = some o → J a = some o) → Rp K mg J d v
  | .p d0, d, v, F, e, h, x, k => by
    simp only [frz0] at e
    cases e
    simp only [Ro] at h
    exact h.1.mono x _ _
  | .ol ws, d, v, F, e, h, x, k => by
    obtain ⟨ds, e1, rfl⟩ := Option.map_eq_some_iff.mp (show (frz0L ws).map D.lst = some d by simpa only [frz0] using e)
    simp only [Ro] at h
    obtain ⟨a, xs, G, rfl, ha, rfl, hL⟩ := h
    simp only [Rp]
    exact ⟨a, xs, rfl, k a (by simp) _ ha, frz0L_rp ws ds xs G e1 hL x fun b hb => k b (by simp [hb])⟩
  | .ot ws, d, v, F, e, h, x, k => by
    obtain ⟨ds, e1, rfl⟩ := Option.map_eq_some_iff.mp (show (frz0L ws).map D.tup = some d by simpa only [frz0] using e)
    simp only [Ro] at h
    obtain ⟨a, xs, G, rfl, ha, rfl, hL⟩ := h
    simp only [Rp]
    exact ⟨a, xs, rfl, SqT.of (k a (by simp) _ ha), frz0L_rp ws ds xs G e1 hL x fun b hb => k b (by simp [hb])⟩
  | .oi c fs, d, v, F, e, h, x, k => by
    obtain ⟨ds, e1, rfl⟩ := Option.map_eq_some_iff.mp (show (frz0F fs).map (D.inst c) = some d by simpa only [frz0] using e)
    simp only [Ro] at h
    obtain ⟨a, C, dx, xs, G, rfl, hc, ha, rfl, hL⟩ := h
    simp only [Rp]
    exact ⟨a, C, dx, xs, rfl, hc, k a (by simp) _ ha, frz0F_rp fs ds xs G e1 hL x fun b hb => k b (by simp [hb])⟩
  | .od _, d, v, F, e, h, x, k => by simp [frz0] at e
  | .ex _, d, v, F, e, h, x, k => by simp [frz0] at e
theorem frz0L_rp : ∀ (ws : List W) (ds : List D) (xs : List V) (F : List Addr), frz0L ws = some ds → RoL K mg I H ws xs F → Ex I J → (∀ a ∈ F, ∀ o, H a = some o → J a = some o) → RpL K mg J ds xs
  | [], ds, xs, F, e, h, x, k => by
    simp only [frz0L] at e
    cases e
    simp only [RoL] at h
    rw [h.1]
    exact RpL.nil
  | w :: ws, ds, xs, F, e, h, x, k => by
    obtain ⟨d, e1, e2⟩ := Option.bind_eq_some_iff.mp (show ((frz0 w).bind fun d => (frz0L ws).map (d :: ·)) = some ds by simpa only [frz0L] using e)
    obtain ⟨ds', e3, rfl⟩ := Option.map_eq_some_iff.mp e2
    simp only [RoL] at h
    obtain ⟨y, r, F1, F2, rfl, rfl, h1, h2⟩ := h
    exact RpL.cons (frz0_rp w d y F1 e1 h1 x fun b hb => k b (by simp [hb])) (frz0L_rp ws ds' r F2 e3 h2 x fun b hb => k b (by simp [hb]))
theorem frz0F_rp : ∀ (ws : List (Str × W)) (ds : List (Str × D)) (xs : List (Str × V)) (F : List Addr), frz0F ws = some ds → RoF K mg I H ws xs F → Ex I J → (∀ a ∈ F, ∀ o, H a = some o → J a = some o) → RpF K mg J ds xs
  | [], ds, xs, F, e, h, x, k => by
    simp only [frz0F] at e
    cases e
    simp only [RoF] at h
    rw [h.1]
    simp only [RpF]
  | (q, w) :: ws, ds, xs, F, e, h, x, k => by
    obtain ⟨d, e1, e2⟩ := Option.bind_eq_some_iff.mp (show ((frz0 w).bind fun d => (frz0F ws).map ((q, d) :: ·)) = some ds by simpa only [frz0F] using e)
    obtain ⟨ds', e3, rfl⟩ := Option.map_eq_some_iff.mp e2
    simp only [RoF] at h
    obtain ⟨y, r, F1, F2, rfl, rfl, h1, h2⟩ := h
    simp only [RpF]
    exact ⟨y, r, rfl, frz0_rp w d y F1 e1 h1 x fun b hb => k b (by simp [hb]), frz0F_rp ws ds' r F2 e3 h2 x fun b hb => k b (by simp [hb])⟩
end
end
/-- I, and what H has at these places -/
noncomputable def joinJ (P : Addr → Prop) (I H : Hp) : Hp := fun a => open Classical in if P a then H a else I a
theorem joinJ_in {P : Addr → Prop} {I H : Hp} {a : Addr} (h : P a) : joinJ P I H a = H a := by unfold joinJ; rw [if_pos h]
theorem joinJ_out {P : Addr → Prop} {I H : Hp} {a : Addr} (h : ¬ P a) : joinJ P I H a = I a := by unfold joinJ; rw [if_neg h]
theorem joinJ_ex {P : Addr → Prop} {I H : Hp} (s : Ex I H) : Ex I (joinJ P I H) := fun a o h => by
  by_cases z : P a
  · rw [joinJ_in z]; exact s a o h
  · rw [joinJ_out z]; exact h
theorem joinJ_sub {P : Addr → Prop} {I H : Hp} (s : Ex I H) : Ex (joinJ P I H) H := fun a o h => by
  by_cases z : P a
  · rw [joinJ_in z] at h; exact h
  · rw [joinJ_out z] at h; exact s a o h
theorem TbR.join {P : Addr → Prop} {I H : Hp} (t : TbR I H) (n : ∀ a, P a → NX H a) : TbR (joinJ P I H) H := t.keep fun a _ h => joinJ_out fun z => h (n a z)
/-- an owned result is frozen -/
def mFrzR (mw : M W) : M D := fun e => (mw e).bind fun x => (frz0 x.1).map fun d => (d, x.2)
theorem se_frzR {X : Cx} {Wx : WX} {a : Expr} {m : M W} (h : SO X Wx a m) : SE X a (mFrzR m) := by
  refine PE.imp h fun σ H Q ⟨I, e, Fs, R, d, e', hm, k⟩ => ?_
  obtain ⟨⟨w, e1⟩, h1, hm⟩ := Option.bind_eq_some_iff.mp hm
  obtain ⟨d', h2, hm⟩ := Option.map_eq_some_iff.mp hm
  cases hm
  refine ⟨I, e, Fs, R, w, e1, h1, fun v I' Fs' H' F R' x o hF => ?_, fun y z => by subst z; simp [frz0] at h2⟩
  have jx := joinJ_ex (P := fun a => a ∈ F) R'.sub
  have R2 : Rel X.K X.mg (joinJ (fun a => a ∈ F) I' H') e1 Fs' σ H' := by
    refine R'.frame (M := fun a => a ∈ F) ⟨jx, fun a u hu _ _ => hu, fun a ha => ?_, fun t => t.join (o.ro.nx _ _ _), fun a ps hu _ => ⟨ps, hu⟩⟩ (joinJ_sub R'.sub) fun a m ha => o.dj a ha m
    by_cases z : a ∈ F
    · exact .inr (.inr z)
    · rw [joinJ_out z] at ha; exact .inl ha
  refine k v _ Fs' H' R2 ⟨⟨x.g.ex.trans jx, x.g.fr, fun a ha => ?_, fun t => (x.g.tb t).join (o.ro.nx _ _ _), x.g.tl⟩, x.fp⟩ (frz0_rp w d v F h2 o.ro jx fun a ha u hu => by rw [joinJ_in ha]; exact hu)
  by_cases z : a ∈ F
  · rcases hF a z with y | y
    · exact .inr (.inr y)
    · exact .inr (.inl y)
  · rw [joinJ_out z] at ha; exact x.g.new a ha
/-- for the time of m, the named slots' owned things are seen as frozen, the other owned ones not at all; m's result is no object -/
def scal : D → Bool
  | .none => true
  | .bool _ => true
  | .int _ => true
  | .str _ => true
  | _ => false
def brE (is : List Nat) : Nat → Env → Option Env
  | _, [] => some []
  | i, none :: e => (brE is (i + 1) e).map (none :: ·)
  | i, some (.p d) :: e => (brE is (i + 1) e).map (some (.p d) :: ·)
  | i, some w :: e => if i ∈ is then (frz0 w).bind fun d => (brE is (i + 1) e).map (some (.p d) :: ·) else (brE is (i + 1) e).map (none :: ·)
/-- the footprints of what stands in the slots -/
def LF (e : Env) (Fs : Fp) (a : Addr) : Prop := ∃ i w, e[i]? = some (some w) ∧ a ∈ Fs i
theorem Rel.lf {K : PySem.W.Frag} {mg : Str → Option Value} {I H : Hp} {e : Env} {Fs : Fp} {σ : L2.St} (R : Rel K mg I e Fs σ H) (a : Addr) (h : LF e Fs a) : NX H a := by
  obtain ⟨i, w, h1, h2⟩ := h
  exact R.nx h1 h2
def mBor (is : List Nat) (m : M D) : M D := fun e => (brE is 0 e).bind fun e0 => (m e0).bind fun x => if scal x.1 = true then some (x.1, e) else none
theorem brE_len {is : List Nat} : ∀ {i : Nat} {e e0 : Env}, brE is i e = some e0 → e0.length = e.length
  | i, [], e0, h => by simp only [brE] at h; cases h; rfl
  | i, none :: e, e0, h => by
    obtain ⟨e1, h1, rfl⟩ := Option.map_eq_some_iff.mp (show (brE is (i + 1) e).map (none :: ·) = some e0 by simpa only [brE] using h)
    simp [brE_len h1]
  | i, some (.p d) :: e, e0, h => by
    obtain ⟨e1, h1, rfl⟩ := Option.map_eq_some_iff.mp (show (brE is (i + 1) e).map (some (.p d) :: ·) = some e0 by simpa only [brE] using h)
    simp [brE_len h1]
  | i, some (.ol w) :: e, e0, h => by
    simp only [brE] at h
    split at h
    · obtain ⟨d, _, h⟩ := Option.bind_eq_some_iff.mp h
      obtain ⟨e1, h1, rfl⟩ := Option.map_eq_some_iff.mp h
      simp [brE_len h1]
    · obtain ⟨e1, h1, rfl⟩ := Option.map_eq_some_iff.mp h
      simp [brE_len h1]
  | i, some (.ot w) :: e, e0, h => by
    simp only [brE] at h
    split at h
    · obtain ⟨d, _, h⟩ := Option.bind_eq_some_iff.mp h
      obtain ⟨e1, h1, rfl⟩ := Option.map_eq_some_iff.mp h
      simp [brE_len h1]
    · obtain ⟨e1, h1, rfl⟩ := Option.map_eq_some_iff.mp h
      simp [brE_len h1]
  | i, some (.od w) :: e, e0, h => by
    simp only [brE] at h
    split at h
    · obtain ⟨d, _, h⟩ := Option.bind_eq_some_iff.mp h
      obtain ⟨e1, h1, rfl⟩ := Option.map_eq_some_iff.mp h
      simp [brE_len h1]
    · obtain ⟨e1, h1, rfl⟩ := Option.map_eq_some_iff.mp h
      simp [brE_len h1]
  | i, some (.oi c w) :: e, e0, h => by
    simp only [brE] at h
    split at h
    · obtain ⟨d, _, h⟩ := Option.bind_eq_some_iff.mp h
      obtain ⟨e1, h1, rfl⟩ := Option.map_eq_some_iff.mp h
      simp [brE_len h1]
    · obtain ⟨e1, h1, rfl⟩ := Option.map_eq_some_iff.mp h
      simp [brE_len h1]
  | i, some (.ex w) :: e, e0, h => by
    simp only [brE] at h
    split at h
    · obtain ⟨d, _, h⟩ := Option.bind_eq_some_iff.mp h
      obtain ⟨e1, h1, rfl⟩ := Option.map_eq_some_iff.mp h
      simp [brE_len h1]
    · obtain ⟨e1, h1, rfl⟩ := Option.map_eq_some_iff.mp h
      simp [brE_len h1]
/-- what is in a slot then -/
theorem brE_at {is : List Nat} : ∀ {i : Nat} {e e0 : Env} {j : Nat} {w : W}, brE is i e = some e0 → e0[j]? = some (some w) → ∃ d w0, w = .p d ∧ e[j]? = some (some w0) ∧ frz0 w0 = some d
  | i, [], e0, j, w, h, hj => by simp only [brE] at h; cases h; simp at hj
  | i, o :: e, e0, j, w, h, hj => by
    have key : ∃ (o' : Option W) (e1 : Env), e0 = o' :: e1 ∧ brE is (i + 1) e = some e1 ∧ ∀ w, o' = some w → ∃ d w0, w = .p d ∧ o = some w0 ∧ frz0 w0 = some d := by
      cases o with
      | none =>
        obtain ⟨e1, h1, rfl⟩ := Option.map_eq_some_iff.mp (show (brE is (i + 1) e).map (none :: ·) = some e0 by simpa only [brE] using h)
        exact ⟨none, e1, rfl, h1, fun w z => by cases z⟩
      | some u =>
        cases u with
        | p d =>
          obtain ⟨e1, h1, rfl⟩ := Option.map_eq_some_iff.mp (show (brE is (i + 1) e).map (some (.p d) :: ·) = some e0 by simpa only [brE] using h)
          exact ⟨some (.p d), e1, rfl, h1, fun w z => by cases z; exact ⟨d, .p d, rfl, rfl, by simp [frz0]⟩⟩
        | _ =>
          simp only [brE] at h
          split at h
          · obtain ⟨d, hd, h⟩ := Option.bind_eq_some_iff.mp h
            obtain ⟨e1, h1, rfl⟩ := Option.map_eq_some_iff.mp h
            exact ⟨some (.p d), e1, rfl, h1, fun w z => by cases z; exact ⟨d, _, rfl, rfl, hd⟩⟩
          · obtain ⟨e1, h1, rfl⟩ := Option.map_eq_some_iff.mp h
            exact ⟨none, e1, rfl, h1, fun w z => by cases z⟩
    obtain ⟨o', e1, rfl, h1, k⟩ := key
    cases j with
    | zero =>
      simp at hj
      obtain ⟨d, w0, rfl, rfl, hd⟩ := k w hj
      exact ⟨d, w0, rfl, rfl, hd⟩
    | succ j =>
      obtain ⟨d, w0, rfl, h2, h3⟩ := brE_at h1 (by simpa using hj)
      exact ⟨d, w0, rfl, by simpa using h2, h3⟩
theorem scal_rp {K : PySem.W.Frag} {mg : Str → Option Value} {I J : Hp} {d : D} {v : V} (h : scal d = true) (r : Rp K mg I d v) : Rp K mg J d v := by
  cases d <;> first | (simp only [Rp] at r ⊢; exact r) | cases h
theorem se_bor {X : Cx} {a : Expr} {m : M D} (is : List Nat) (h : SE X a m) : SE X a (mBor is m) := by
  refine PE.imp h fun σ H Q ⟨I, e, Fs, R, d, e', hm, k⟩ => ?_
  obtain ⟨e0, h1, hm⟩ := Option.bind_eq_some_iff.mp hm
  obtain ⟨⟨x, e2⟩, h2, hm⟩ := Option.bind_eq_some_iff.mp hm
  have hm : (if scal x = true then some (x, e) else none) = some (d, e') := hm
  split at hm
  · rename_i hs
    cases hm
    have hsub : Ex (joinJ (LF e Fs) I H) H := joinJ_sub R.sub
    have R0 : Rel X.K X.mg (joinJ (LF e Fs) I H) e0 (fun _ => []) σ H := by
      refine ⟨hsub, by rw [brE_len h1]; exact R.len, fun j w hj => ?_, fun _ => List.nodup_nil, fun _ _ _ z => (by cases z), fun _ _ z => (by cases z), fun _ _ z => (by cases z), R.tb.join R.lf⟩
      obtain ⟨d0, w0, rfl, h3, h4⟩ := brE_at h1 hj
      obtain ⟨v, hv, ro⟩ := R.at_ j w0 h3
      refine ⟨v, hv, ?_⟩
      simp only [Ro]
      exact ⟨frz0_rp w0 d0 v (Fs j) h4 ro (joinJ_ex R.sub) fun a ha u hu => by rw [joinJ_in ⟨j, w0, h3, ha⟩]; exact hu, trivial⟩
    refine ⟨_, e0, _, R0, d, e2, h2, fun v I' Fs' H' R' x r => ?_⟩
    have nm : ∀ a, ¬ MF (fun _ => []) a := fun a ⟨i, z⟩ => by cases z
    have g : ∀ M : Addr → Prop, Gx M I H I H' := fun M => ⟨Ex.refl _, fun a u hu _ nt => x.g.fr a u hu (nm a) nt, fun a ha => .inl ha, fun t => ⟨(x.g.tb (t.join R.lf)).1, t.2⟩, fun a ps hu _ => x.g.tl a ps hu (nm a)⟩
    have R1 : Rel X.K X.mg I _ Fs σ H' := R.frame (g fun _ => False) ((joinJ_ex R.sub).trans (x.g.ex.trans R'.sub)) fun _ _ z => z
    exact k v I Fs H' R1 ⟨g _, fun a ha => .inl ha⟩ (scal_rp hs r)
  · cases hm
def mBorT (is : List Nat) (m : M Bool) : M Bool := fun e => (brE is 0 e).bind fun e0 => (m e0).map fun x => (x.1, e)
theorem st_bor {X : Cx} {a : Expr} {m : M Bool} (is : List Nat) (h : ST X a m) : ST X a (mBorT is m) := by
  refine PT.imp h fun σ H Q ⟨I, e, Fs, R, b, e', hm, k⟩ => ?_
  obtain ⟨e0, h1, hm⟩ := Option.bind_eq_some_iff.mp hm
  obtain ⟨⟨x, e2⟩, h2, hm⟩ := Option.map_eq_some_iff.mp hm
  cases hm
  have hsub : Ex (joinJ (LF e Fs) I H) H := joinJ_sub R.sub
  have R0 : Rel X.K X.mg (joinJ (LF e Fs) I H) e0 (fun _ => []) σ H := by
    refine ⟨hsub, by rw [brE_len h1]; exact R.len, fun j w hj => ?_, fun _ => List.nodup_nil, fun _ _ _ z => (by cases z), fun _ _ z => (by cases z), fun _ _ z => (by cases z), R.tb.join R.lf⟩
    obtain ⟨d0, w0, rfl, h3, h4⟩ := brE_at h1 hj
    obtain ⟨v, hv, ro⟩ := R.at_ j w0 h3
    refine ⟨v, hv, ?_⟩
    simp only [Ro]
    exact ⟨frz0_rp w0 d0 v (Fs j) h4 ro (joinJ_ex R.sub) fun a ha u hu => by rw [joinJ_in ⟨j, w0, h3, ha⟩]; exact hu, trivial⟩
  refine ⟨_, e0, _, R0, x, e2, h2, fun I' Fs' H' R' y => ?_⟩
  have nm : ∀ a, ¬ MF (fun _ => []) a := fun a ⟨i, z⟩ => by cases z
  have g : ∀ M : Addr → Prop, Gx M I H I H' := fun M => ⟨Ex.refl _, fun a u hu _ nt => y.g.fr a u hu (nm a) nt, fun a ha => .inl ha, fun t => ⟨(y.g.tb (t.join R.lf)).1, t.2⟩, fun a ps hu _ => y.g.tl a ps hu (nm a)⟩
  have R1 : Rel X.K X.mg I _ Fs σ H' := R.frame (g fun _ => False) ((joinJ_ex R.sub).trans (y.g.ex.trans R'.sub)) fun _ _ z => z
  exact k I Fs H' R1 ⟨g _, fun a ha => .inl ha⟩
/-! evaluation -/
section
variable {e : Env}
def btK (e : Env) : Option (Bool × Env) → Option (Bool × Env)
  | some x => some (x.1, e)
  | none => none
def btK1 (e : Env) (m : M Bool) : Option Env → Option (Bool × Env)
  | some e0 => btK e (m e0)
  | none => none
@[simp] theorem ev_borT {is : List Nat} {m : M Bool} : mBorT is m e = btK1 e m (brE is 0 e) := by
  unfold mBorT btK1
  cases brE is 0 e with
  | none => rfl
  | some e0 => simp only [Option.bind_some]; unfold btK; cases m e0 <;> rfl
@[simp] theorem btK1_s {m : M Bool} {e0 : Env} : btK1 e m (some e0) = btK e (m e0) := rfl
@[simp] theorem btK_b {b : Bool} {e2 : Env} : btK e (some (b, e2)) = some (b, e) := rfl
def frK : Option (W × Env) → Option (D × Env)
  | some x => (frz0 x.1).map fun d => (d, x.2)
  | none => none
@[simp] theorem ev_frzR {mw : M W} : mFrzR mw e = frK (mw e) := by unfold mFrzR frK; cases mw e <;> rfl
@[simp] theorem frK_s {w : W} : frK (some (w, e)) = (frz0 w).map fun d => (d, e) := rfl
@[simp] theorem frz0_p {d : D} : frz0 (.p d) = some d := by simp [frz0]
theorem frz0L_map {α : Type} {f : α → D} : ∀ {xs : List α}, frz0L (xs.map fun x => .p (f x)) = some (xs.map f)
  | [] => by simp [frz0L]
  | x :: xs => by simp [frz0L, frz0L_map (xs := xs)]
@[simp] theorem frz0_map {α : Type} {f : α → D} {xs : List α} : frz0 (.ol (xs.map fun x => .p (f x))) = some (.lst (xs.map f)) := by simp [frz0, frz0L_map]
@[simp] theorem frz0_p' {xs : List D} : frz0 (.ol (xs.map .p)) = some (.lst xs) := by
  have := frz0_map (f := id) (xs := xs)
  simpa using this
@[simp] theorem frz0_nil : frz0 (.ol []) = some (.lst []) := by simp [frz0, frz0L]
def boK (e : Env) : Option (D × Env) → Option (D × Env)
  | some x => if scal x.1 = true then some (x.1, e) else none
  | none => none
def boK1 (e : Env) (m : M D) : Option Env → Option (D × Env)
  | some e0 => boK e (m e0)
  | none => none
@[simp] theorem ev_bor {is : List Nat} {m : M D} : mBor is m e = boK1 e m (brE is 0 e) := by
  unfold mBor boK1
  cases brE is 0 e with
  | none => rfl
  | some e0 => simp only [Option.bind_some]; unfold boK; cases m e0 <;> rfl
@[simp] theorem boK1_s {m : M D} {e0 : Env} : boK1 e m (some e0) = boK e (m e0) := rfl
@[simp] theorem boK_b {b : Bool} {e2 : Env} : boK e (some (.bool b, e2)) = some (.bool b, e) := rfl
def lwK (own : List Nat) (tg : Tg) (c : M Bool) (m : M D) : Option (List D × Env) → Option (W × Env)
  | some x => if x.1.length ≤ 1000000 then (lcRun own tg c m x.1 (wipeE x.2 own)).map fun r => (.ol (r.1.map .p), r.2) else none
  | none => none
@[simp] theorem ev_lcW {own : List Nat} {mi : M (List D)} {tg : Tg} {c : M Bool} {m : M D} : mLcW own mi tg c m e = lwK own tg c m (mi e) := by unfold mLcW lwK; cases mi e <;> rfl
@[simp] theorem lwK_s {own : List Nat} {tg : Tg} {c : M Bool} {m : M D} {ds : List D} : lwK own tg c m (some (ds, e)) = if ds.length ≤ 1000000 then (lcRun own tg c m ds (wipeE e own)).map fun r => (.ol (r.1.map .p), r.2) else none := rfl
end
end MV

namespace MV
open PySem L2
variable [TB]
/-! ### x in xs, plain data -/
theorem flat_eqF {n m : Nat} {x y : D} (hx : Pd n x) (hy : Pd m y) (fx : flatD x = true) (fy : flatD y = true) : eqF y x = true ↔ y = x := by
  cases x <;> cases y <;> simp [flatD] at fx fy <;> first
    | (simp [eqF]; done)
    | (cases n <;> exact hx.elim)
    | (cases m <;> exact hy.elim)
open Classical in
theorem in_pd {n : Nat} {x : D} {ds : List D} (hx : Pd n x) (hd : ∀ y ∈ ds, Pd n y) (hn : n ≤ 50) : inB x (.lst ds) = some (decide (x ∈ ds)) := by
  have key : inB x (.lst ds) = if (flatD x && ds.all flatD) = true then some (ds.any fun y => eqF y x) else (toPy x).bind fun p => (toPys ds).bind fun qs => if (SeqAt.shaped p && SeqAt.shaped (.list qs)) = true then some (qs.any fun z => PyData.eqv z p) else none := by
    cases x <;> rfl
  rw [key]
  split
  · rename_i hf
    rw [Bool.and_eq_true, List.all_eq_true] at hf
    congr 1
    rw [Bool.eq_iff_iff, List.any_eq_true, decide_eq_true_eq]
    constructor
    · rintro ⟨y, hy, e⟩
      rw [← (flat_eqF hx (hd y hy) hf.1 (hf.2 y hy)).mp e]
      exact hy
    · exact fun h => ⟨x, h, (flat_eqF hx hx hf.1 hf.1).mpr rfl⟩
  · obtain ⟨p, h1, h2, h3⟩ := pd_py n x hx
    obtain ⟨qs, q1, q2, q3⟩ := pds_py (pd_py n) ds hd
    have s1 : SeqAt.shaped p = true := by unfold SeqAt.shaped; rw [h2, Bool.true_and]; exact decide_eq_true (by omega)
    have s2 : SeqAt.shaped (.list qs) = true := by
      unfold SeqAt.shaped
      simp only [PyData.canLay0, q2, Bool.true_and, PyData.depth]
      exact decide_eq_true (by omega)
    rw [h1, q1]
    simp only [Option.bind_some, s1, s2, Bool.and_self, if_true]
    congr 1
    rw [Bool.eq_iff_iff, List.any_eq_true, decide_eq_true_eq]
    have pw : ∀ (ds : List D) (qs : List PyData), (∀ y ∈ ds, Pd n y) → toPys ds = some qs → ((∃ z ∈ qs, PyData.eqv z p = true) ↔ x ∈ ds) := by
      intro ds
      induction ds with
      | nil => intro qs _ h; simp [toPys] at h; subst h; simp
      | cons d ds ih =>
        intro qs hd h
        simp only [toPys] at h
        obtain ⟨u, a1, h⟩ := Option.bind_eq_some_iff.mp h
        obtain ⟨us, a2, rfl⟩ := Option.map_eq_some_iff.mp h
        have i1 := pd_eqv n n d x u p (hd d (by simp)) hx a1 h1
        have i2 := ih us (fun y hy => hd y (by simp [hy])) a2
        constructor
        · rintro ⟨z, hz, e⟩
          rcases List.mem_cons.mp hz with rfl | hz
          · rw [i1.mp e]; simp
          · exact List.mem_cons_of_mem _ (i2.mp ⟨z, hz, e⟩)
        · intro h
          rcases List.mem_cons.mp h with rfl | h
          · exact ⟨u, by simp, i1.mpr rfl⟩
          · obtain ⟨z, hz, e⟩ := i2.mpr h
            exact ⟨z, by simp [hz], e⟩
    exact pw ds qs hd q1
theorem in_g {α : Type} [DecidableEq α] {g : α → D} {n : Nat} {a : α} {l : List α} (inj : ∀ b, g a = g b → a = b) (ha : Pd n (g a)) (hl : ∀ b ∈ l, Pd n (g b)) (hn : n ≤ 50) : dIn (g a) (.lst (l.map g)) = some (.bool (decide (a ∈ l))) := by
  have h := in_pd ha (ds := l.map g) (fun y hy => by obtain ⟨b, hb, rfl⟩ := List.mem_map.mp hy; exact hl b hb) hn
  unfold dIn
  rw [h]
  have e : (g a ∈ l.map g) ↔ a ∈ l := by
    rw [List.mem_map]
    constructor
    · rintro ⟨b, hb, e⟩; rw [inj b e.symm]; exact hb
    · exact fun h => ⟨a, h, rfl⟩
  simp only [Option.map_some, e]
theorem nin_g {α : Type} [DecidableEq α] {g : α → D} {n : Nat} {a : α} {l : List α} (inj : ∀ b, g a = g b → a = b) (ha : Pd n (g a)) (hl : ∀ b ∈ l, Pd n (g b)) (hn : n ≤ 50) : dNotIn (g a) (.lst (l.map g)) = some (.bool !decide (a ∈ l)) := by
  have h := in_g inj ha hl hn
  unfold dIn at h
  unfold dNotIn
  obtain ⟨b, hb, e⟩ := Option.map_eq_some_iff.mp h
  rw [hb]
  cases e
  rfl
end MV

namespace MV
open PySem L2
variable [TB]
/-! ### frozen dicts -/
def valD (es : List (Key × D)) (k : Key) : Option D := (es.find? fun q => decide (q.1 = k)).map (·.2)
def keyT : Key → D
  | .inl i => .int i
  | .inr x => .str x
section
variable {K : PySem.W.Frag} {mg : Str → Option Value} {I H : Hp}
theorem rpK_val : ∀ {es : List (Key × D)} {kvs : List (Key × V)} {k : Key}, RpK K mg I es kvs → (valD es k).isSome = (valV kvs k).isSome ∧ ∀ d, valD es k = some d → ∃ v, valV kvs k = some v ∧ Rp K mg I d v
  | [], kvs, k, h => by
    simp only [RpK] at h
    subst h
    exact ⟨rfl, fun d e => by cases e⟩
  | (k', d') :: es, kvs, k, h => by
    simp only [RpK] at h
    obtain ⟨x, r, rfl, h1, h2⟩ := h
    have ih := rpK_val (k := k) h2
    by_cases z : k' = k
    · have e1 : valD ((k', d') :: es) k = some d' := by unfold valD; simp [z]
      have e2 : valV ((k', x) :: r) k = some x := by unfold valV; simp [z]
      rw [e1, e2]
      exact ⟨rfl, fun d e => by cases e; exact ⟨x, rfl, h1⟩⟩
    · have e1 : valD ((k', d') :: es) k = valD es k := by unfold valD; simp [z]
      have e2 : valV ((k', x) :: r) k = valV r k := by unfold valV; simp [z]
      rw [e1, e2]
      exact ih
def dDg (x k : D) : Option D := match x with
  | .dict es => (keyD k).bind (valD es)
  | _ => none
def dInF (x d : D) : Option D := match d with
  | .dict es => (keyD x).map fun k => .bool (valD es k).isSome
  | _ => none
def dNinF (x d : D) : Option D := match d with
  | .dict es => (keyD x).map fun k => .bool !(valD es k).isSome
  | _ => none
theorem dg_f {a : Addr} {o : Obj} {kvs : List (Key × V)} {k : Key} (s : Ex I H) (h : I a = some (.frz o (.dK kvs))) : DGet H a (kV k) (valV kvs k) := .inl ⟨kvs, k, .inr ⟨o, s _ _ h⟩, rfl, rfl⟩
end
section
variable {X : Cx} {a b : Expr} {ma mb : M D} {pos : Pos}
theorem se_dgD (hu : X.A.units + 1 < cLine) (ha : SE X a ma) (hb : SE X b mb) (hs : NoSl b) : SE X (.Subscript a b pos) (mOp dDg ma mb) := by
  refine PE.imp (pe_dget hu ha hb hs) fun σ H Q ⟨I, e, Fs, R, d', e', hm, k⟩ => ?_
  obtain ⟨⟨x, e1⟩, h1, hm⟩ := Option.bind_eq_some_iff.mp hm
  obtain ⟨⟨y, e2⟩, h2, hm⟩ := Option.bind_eq_some_iff.mp hm
  obtain ⟨z, h3, hm⟩ := Option.map_eq_some_iff.mp hm
  cases hm
  refine ⟨I, e, Fs, R, x, e1, h1, fun v I1 F1 H1 R1 x1 r1 => ⟨I1, e1, F1, R1, y, e2, h2, fun u I2 F2 H2 R2 x2 r2 => ?_⟩⟩
  cases x with
  | dict es =>
    obtain ⟨ky, h4, h5⟩ := Option.bind_eq_some_iff.mp (show (keyD y).bind (valD es) = some d' from h3)
    have r1 := r1.mono x2.g.ex _ _
    simp only [Rp] at r1
    obtain ⟨p, o, kvs, rfl, hp, hk⟩ := r1
    obtain ⟨w, hw, rw'⟩ := (rpK_val hk).2 _ h5
    refine ⟨p, w, rfl, ?_, k w I2 F2 H2 R2 (x1.trans x2) rw'⟩
    rw [keyD_v h4 r2, ← hw]
    exact dg_f R2.sub hp
  | _ => cases h3
theorem st_inF (hu : X.A.units + 1 < cLine) (hb : SE X b mb) (ha : SE X a ma) (hm : behindInMarks .In a = false := by first | rfl | with_unfolding_all rfl) : ST X (.Compare b [.In] [a] pos) (mBool (mOp dInF mb ma)) := by
  refine PT.imp (pt_cmp (pc_din hu hb ha) hm) fun σ H Q ⟨I, e, Fs, R, c, e', hm, k⟩ => ?_
  obtain ⟨⟨d, e3⟩, h0, hm⟩ := Option.bind_eq_some_iff.mp hm
  obtain ⟨⟨x, e1⟩, h1, h0⟩ := Option.bind_eq_some_iff.mp h0
  obtain ⟨⟨y, e2⟩, h2, h0⟩ := Option.bind_eq_some_iff.mp h0
  obtain ⟨z, h3, h0⟩ := Option.map_eq_some_iff.mp h0
  cases h0
  refine ⟨I, e, Fs, R, x, e1, h1, fun v I1 F1 H1 R1 x1 r1 => ⟨I1, e1, F1, R1, y, e2, h2, fun u I2 F2 H2 R2 x2 r2 => ?_⟩⟩
  cases y with
  | dict es =>
    obtain ⟨ky, h4, h5⟩ := Option.map_eq_some_iff.mp (show (keyD x).map (fun k => D.bool (valD es k).isSome) = some d from h3)
    subst h5
    cases hm
    simp only [Rp] at r2
    obtain ⟨p, o, kvs, rfl, hp, hk⟩ := r2
    refine ⟨p, _, rfl, by rw [keyD_v h4 (r1.mono x2.g.ex _ _)]; exact dg_f R2.sub hp, _, rfl, ?_⟩
    rw [← (rpK_val hk).1]
    exact k I2 F2 H2 R2 (x1.trans x2)
  | _ => cases h3
theorem st_ninF (hu : X.A.units + 1 < cLine) (hb : SE X b mb) (ha : SE X a ma) (hm : behindInMarks .NotIn a = false := by first | rfl | with_unfolding_all rfl) : ST X (.Compare b [.NotIn] [a] pos) (mBool (mOp dNinF mb ma)) := by
  refine PT.imp (pt_cmp (pc_dnotin hu hb ha) hm) fun σ H Q ⟨I, e, Fs, R, c, e', hm, k⟩ => ?_
  obtain ⟨⟨d, e3⟩, h0, hm⟩ := Option.bind_eq_some_iff.mp hm
  obtain ⟨⟨x, e1⟩, h1, h0⟩ := Option.bind_eq_some_iff.mp h0
  obtain ⟨⟨y, e2⟩, h2, h0⟩ := Option.bind_eq_some_iff.mp h0
  obtain ⟨z, h3, h0⟩ := Option.map_eq_some_iff.mp h0
  cases h0
  refine ⟨I, e, Fs, R, x, e1, h1, fun v I1 F1 H1 R1 x1 r1 => ⟨I1, e1, F1, R1, y, e2, h2, fun u I2 F2 H2 R2 x2 r2 => ?_⟩⟩
  cases y with
  | dict es =>
    obtain ⟨ky, h4, h5⟩ := Option.map_eq_some_iff.mp (show (keyD x).map (fun k => D.bool !(valD es k).isSome) = some d from h3)
    subst h5
    cases hm
    simp only [Rp] at r2
    obtain ⟨p, o, kvs, rfl, hp, hk⟩ := r2
    refine ⟨p, _, rfl, by rw [keyD_v h4 (r1.mono x2.g.ex _ _)]; exact dg_f R2.sub hp, _, rfl, ?_⟩
    rw [← (rpK_val hk).1]
    exact k I2 F2 H2 R2 (x1.trans x2)
  | _ => cases h3
end
/-! ### the keys, walked -/
def iKy (m : M D) : M (List D) := fun e => (m e).bind fun x => match x.1 with
  | .dict es => some (es.map fun q => keyT q.1, x.2)
  | _ => none
theorem rp_key {K : PySem.W.Frag} {mg : Str → Option Value} {I : Hp} {k : Key} : Rp K mg I (keyT k) (kV k) := by
  cases k <;> (unfold keyT kV; simp only [Rp])
theorem rpK_at {K : PySem.W.Frag} {mg : Str → Option Value} {I : Hp} {es : List (Key × D)} {kvs : List (Key × V)} (h : RpK K mg I es kvs) {i : Nat} {k : Key} (e : (es.map (·.1))[i]? = some k) : ∃ v, kvs[i]? = some (k, v) := by
  rw [← rpK_keys h, List.getElem?_map] at e
  obtain ⟨q, h1, h2⟩ := Option.map_eq_some_iff.mp e
  exact ⟨q.2, by rw [h1, ← h2]⟩
theorem itk_r {K : PySem.W.Frag} {mg : Str → Option Value} {I : Hp} {a : Addr} {o : Obj} {es : List (Key × D)} {kvs : List (Key × V)} (h : I a = some (.frz o (.dK kvs))) (r : RpK K mg I es kvs) : ItR K mg I (Itk a o kvs) (es.map fun q => keyT q.1) := fun i I1 H1 e1 e2 => by
  have h1 := e2 _ _ (e1 _ _ h)
  have hl : es.length = kvs.length := by have := congrArg List.length (rpK_keys r); simpa using this.symm
  refine ⟨fun d hd => ?_, fun hl' => ⟨h1, by rw [List.length_map] at hl'; omega⟩⟩
  rw [List.getElem?_map] at hd
  obtain ⟨q, hq, rfl⟩ := Option.map_eq_some_iff.mp hd
  obtain ⟨v, hv⟩ := rpK_at r (i := i) (k := q.1) (by rw [List.getElem?_map, hq]; rfl)
  refine ⟨⟨h1, (List.getElem?_eq_some_iff.mp hv).1⟩, fun y H2 hy => ?_⟩
  obtain ⟨rfl, k', v', hk, rfl⟩ := hy
  rw [hv] at hk
  cases hk
  exact ⟨I1, .same, rp_key⟩
theorem si_keys {X : Cx} {tg a : Expr} {m : M D} (h : SE X a m) : SI X tg a (iKy m) := PI.imp (pi_keys h) fun σ H Q ⟨I, e, Fs, R, ds, e', hm, k⟩ => by
  obtain ⟨⟨d, e1⟩, h1, hm⟩ := Option.bind_eq_some_iff.mp hm
  refine ⟨I, e, Fs, R, d, e1, h1, fun v I' Fs' H' R' x r => ?_⟩
  cases d with
  | dict es =>
    cases hm
    simp only [Rp] at r
    obtain ⟨l, o, kvs, rfl, h2, h3⟩ := r
    exact ⟨l, o, rfl, .inl ⟨kvs, R'.sub _ _ h2, k _ I' Fs' H' R' x (itk_r h2 h3)⟩⟩
  | _ => cases hm
/-! ### list(d) -/
def rListF : List V → Hp → VK → Prop := fun xs H Q => ∃ p o kvs, xs = [.ref p] ∧ H p = some (.frz o (.dK kvs)) ∧ ∀ q, H q = none → Q (.ref q) (upd H q (.lst (kvs.map fun kv => kV kv.1)))
theorem call_list_dF {X : Cx} (hc : X.calm = true) : CallR X (.type "list") rListF := by
  intro pins s σ H xs us Q I r h
  obtain ⟨p, o, kvs, e, hk, q⟩ := h
  subst e
  obtain ⟨u, eu, rx⟩ := vals1 r
  subst eu
  obtain rfl : u = Value.ref p := rx
  obtain ⟨lo, hgd, hx, es, ep, vs, hdt, hsz, rk, hm⟩ := I.frzK hk
  obtain ⟨_, z, _⟩ := (show ObjOk X.prog X.w H s.heap p (.frz o (.dK kvs)) from I.hok p _ hk)
  have hl : kvs.length = vs.length := Paired.length rk
  refine PySem.W.kdl_call (PySem.W.kdl_dict (knd := mixKind X.prog X.w) (kvs := vs) (ep := ep) lo) (I.ok.hd hc) hm (by rw [← hl]; exact z) fun h' tk acc' c' hkeep hS hacc => ?_
  refine ⟨.ref s.heap.objs.size, upd H s.heap.objs.size (.lst (kvs.map fun kv => kV kv.1)), I.laid hkeep (Nat.le_refl _) (show ObjOk X.prog X.w _ _ _ (.lst (kvs.map fun kv => kV kv.1)) from ⟨?_, acc'.toList, c', ?_, ?_⟩), rfl, q _ (I.hok.fresh (Nat.le_refl _))⟩
  · rw [List.length_map]; exact z
  · have el : acc'.toList.length = acc'.size := by simp
    refine vals_of_at (by rw [List.length_map, el, hacc.1, hl]) fun j x w h1 h2 => ?_
    obtain ⟨k, y, hky, hi⟩ := hacc.2 j w (by rw [← Array.getElem?_toList]; exact h2)
    have e1 : (kvs.map (·.1))[j]? = some k := by
      rw [KV.keys rk, List.getElem?_map, hky] <;> rfl
    have e2 : (kvs.map fun kv => kV kv.1)[j]? = some (kV k) := by
      have e3 : (kvs.map fun kv => kV kv.1) = (kvs.map (·.1)).map kV := by rw [List.map_map] <;> rfl
      rw [e3, List.getElem?_map, e1] <;> rfl
    rw [e2] at h1
    cases h1
    exact keyIs_rel hi
  · rw [Array.toArray_toList]; exact hS
def fListK : List D → Option D
  | [.dict es] => some (.lst (es.map fun q => keyT q.1))
  | _ => none
theorem rpL_keys {K : PySem.W.Frag} {mg : Str → Option Value} {I : Hp} : ∀ {es : List (Key × D)} {kvs : List (Key × V)}, RpK K mg I es kvs → RpL K mg I (es.map fun q => keyT q.1) (kvs.map fun kv => kV kv.1)
  | [], kvs, h => by simp only [RpK] at h; subst h; exact RpL.nil
  | (k, d) :: es, kvs, h => by
    simp only [RpK] at h
    obtain ⟨x, r, rfl, h1, h2⟩ := h
    exact RpL.cons rp_key (rpL_keys h2)
theorem cd_listK {K : PySem.W.Frag} {mg : Str → Option Value} : CallD K mg rListF fListK := by
  intro I H ds z vs Q s r e k
  unfold fListK at e
  split at e
  · obtain ⟨v, rfl, h⟩ := r.one
    cases e
    simp only [Rp] at h
    obtain ⟨a, o, kvs, rfl, h1, h2⟩ := h
    exact ⟨_, _, _, rfl, s _ _ h1, fun p hp => k _ _ _ (.new p _ hp) (rp_lst s hp (rpL_keys h2))⟩
  · cases e
/-! ### divmod -/
def fDivmod : List D → Option D
  | [.int i, .int j] => if 0 < j ∧ j ≤ 1000000 ∧ 0 ≤ i ∧ i ≤ 1000000 then some (.tup [.int (i / j), .int (i % j)]) else none
  | _ => none
theorem cd_divmod {K : PySem.W.Frag} {mg : Str → Option Value} : CallD K mg (fun xs H Q => ∃ i j, xs = [.int i, .int j] ∧ CDivP i j ∧ ∀ p, H p = none → Q (.ref p) (upd H p (.tup [.int (i / j), .int (i % j)]))) fDivmod := by
  intro I H ds z vs Q s r e k
  unfold fDivmod at e
  split at e
  · rename_i i j
    split at e
    · rename_i hc
      cases e
      obtain ⟨v, u, rfl, h1, h2⟩ := r.two
      simp only [Rp] at h1 h2
      subst h1 h2
      refine ⟨i, j, rfl, divp_ok hc.1 ?_, fun p hp => k _ _ _ (.new p _ hp) (rp_tup s hp (RpL.cons rp_int (RpL.cons rp_int RpL.nil)))⟩
      exact Nat.le_trans (intBits_le_64 (by omega) (by omega)) (by omega)
    · cases e
  · cases e
/-! ### reversed(xs) -/
def fRevI : List D → Option (List D)
  | [.lst ds] => some ds.reverse
  | _ => none
theorem itv_r {K : PySem.W.Frag} {mg : Str → Option Value} {I : Hp} {a : Addr} {xs : List V} {ds : List D} (h : SqL K I a xs) (r : RpL K mg I ds xs) : ItR K mg I (Itv K a xs.length) ds.reverse := fun i I1 H1 e1 e2 => by
  have h1 := ex_l (e1.trans e2) h
  have hl := r.length
  refine ⟨fun d hd => ?_, fun hl' => by rw [List.length_reverse] at hl'; show xs.length ≤ i; omega⟩
  have hi : i < ds.length := by have := (List.getElem?_eq_some_iff.mp hd).1; simpa using this
  rw [List.getElem?_reverse hi] at hd
  obtain ⟨x, hx, rx⟩ := r.get hd
  rw [hl] at hx
  refine ⟨⟨by omega, xs, x, h1, hx⟩, fun y H2 hy => ?_⟩
  obtain ⟨rfl, q⟩ := hy
  have := q xs h1
  rw [hx] at this
  cases this
  exact ⟨I1, .same, rx.mono e1 _ _⟩
theorem si_reversed {X : Cx} {tg a : Expr} {ma : M (List Arg)} {p pos : Pos} (hg : Gl X "reversed") (hm : X.mg "reversed" = none) (ha : SA X [a] ma) (hs : starEach [a] X.env = [(false, eval a X.env)] := by rfl) : SI X tg (.Call (.Name "reversed" p) [a] [] pos) (iArgs fRevI ma) :=
  PI.imp (pi_reversed hg hm ha hs) fun σ H Q h => by
    refine iargs_run (P := fun vs H1 => ∃ a xs, vs = [.ref a] ∧ SqL X.K H1 a xs ∧ Q (Itv X.K a xs.length) H1) (fun I' H' ds rs vs s hf r k => ?_) h
    unfold fRevI at hf
    split at hf
    · cases hf
      obtain ⟨v, rfl, h1⟩ := r.one
      simp only [Rp] at h1
      obtain ⟨l, xs, rfl, h2, h3⟩ := h1
      exact ⟨l, xs, rfl, .of (s _ _ h2), k _ (itv_r (.of h2) h3)⟩
    · cases hf
/-! ### an owned result frozen, its dicts locked -/
theorem pe_lk {X : Cx} {a : Expr} {t : TE} (h : PE X a t) : PE X a (fun σ H Q => t σ H fun v H1 => Lk (fun H2 => Q v H2) H1) := ⟨fun pins s σ H Q I hw => thn (h.run pins s σ H _ I hw) fun u s1 ⟨x, H1, I1, rx, q⟩ => by
  revert I1
  induction q with
  | done q => exact fun I1 => ⟨x, _, I1, rx, q⟩
  | lock d kvs hd _ ih =>
    intro I1
    obtain ⟨od, I2⟩ := I1.lock hd True.intro
    exact ih od I2⟩
def mFrzD (mw : M W) : M D := fun e => (mw e).bind fun x => (frz x.1).map fun d => (d, x.2)
theorem se_frzD {X : Cx} {Wx : WX} {a : Expr} {m : M W} (h : SO X Wx a m) : SE X a (mFrzD m) := by
  refine PE.imp (pe_lk h) fun σ H Q ⟨I, e, Fs, R, d, e', hm, k⟩ => ?_
  obtain ⟨⟨w, e1⟩, h1, hm⟩ := Option.bind_eq_some_iff.mp hm
  obtain ⟨d', h2, hm⟩ := Option.map_eq_some_iff.mp hm
  cases hm
  refine ⟨I, e, Fs, R, w, e1, h1, fun v I' Fs' H' F R' x o hF => ?_, fun y z => by subst z; simp [frz] at h2⟩
  refine frz_ok w d v F I' H' h2 o.ro o.nd o.out R'.sub fun I2 H2 ex s' off lv r => .done ?_
  have R2 : Rel X.K X.mg I2 e1 Fs' σ H2 := by
    refine R'.frame (M := fun a => a ∈ F) ⟨ex, fun a u hu m _ => ?_, fun a ha => ?_, fun t => t.off off (o.ro.nx _ _ _), fun a ps hu m => ⟨ps, (off a m).2.trans hu⟩⟩ s' fun a m ha => o.dj a ha m
    · rw [(off a m).2]; exact hu
    · by_cases z : a ∈ F
      · exact .inr (.inr z)
      · rw [(off a z).1] at ha; exact .inl ha
  refine k v I2 Fs' H2 R2 ⟨⟨x.g.ex.trans ex, fun a u hu m nt => ?_, fun a ha => ?_, fun t => (x.g.tb t).off off (o.ro.nx _ _ _), fun a ps hu m => ?_⟩, fun a m => ?_⟩ r
  · have h3 := x.g.fr a u hu m nt
    have z : a ∉ F := fun z => by
      rcases hF a z with y | y
      · exact m y
      · rw [hu] at y; cases y
    rw [(off a z).2]
    exact h3
  · by_cases z : a ∈ F
    · rcases hF a z with y | y
      · exact .inr (.inr y)
      · exact .inr (.inl y)
    · rw [(off a z).1] at ha; exact x.g.new a ha
  · obtain ⟨ps', h3⟩ := x.g.tl a ps hu m
    have z : a ∉ F := fun z => by
      rcases hF a z with y | y
      · exact m y
      · rw [hu] at y; cases y
    exact ⟨ps', (off a z).2.trans h3⟩
  · exact x.fp a m
/-! ### x *= e -/
def dMulI : D → D → Option D
  | .int i, .int j => if -1000000 ≤ i ∧ i ≤ 1000000 then some (.int (i * j)) else none
  | _, _ => none
theorem ip_mulM {X : Cx} : PIp X .Mult (rI CMul fun i j => .int (i * j)) := fun pins s σ H x y v u Q I r1 r2 h => iop_mul pins s σ H x y v u Q I r1 r2 h
theorem ss_augM {X : Cx} {A : Nat → Bool} {Wx : WX} {i : Nat} {x : Str} {a : Expr} {m : M D} {pos pos' : Pos} (hA : A i = true) (hN : X.N.Nodup) (hi : X.N[i]? = some x) (hx : Loc X.env.scope x) (ha : SE X a m) (hf : X.fn x = true ∨ X.env.scope.names.lookup x = some .local := by first | exact .inl rfl | exact .inr rfl | assumption) :
    SS X A Wx (.AugAssign (.Name x pos') .Mult a pos) (sAug i dMulI m) := PS.imp (ps_aug hN hi hx ha ip_mulM hf) fun Dd σ H ⟨I, e, Fs, R, r, hm, k⟩ => by
  unfold sAug at hm
  split at hm
  · rename_i d hd
    obtain ⟨⟨y, e1⟩, h1, hm⟩ := Option.bind_eq_some_iff.mp hm
    obtain ⟨z, h2, hm⟩ := Option.map_eq_some_iff.mp hm
    cases hm
    obtain ⟨v, hv, ro⟩ := R.at_ i _ hd
    simp only [Ro] at ro
    refine ⟨v, hv, I, e, Fs, R, y, e1, h1, fun u I1 F1 H1 R1 x1 r1 => ?_⟩
    cases d with
    | int p =>
      cases y with
      | int q =>
        have h2 : (if -1000000 ≤ p ∧ p ≤ 1000000 then some (D.int (p * q)) else none) = some z := h2
        split at h2
        · cases h2
          simp only [Rp] at ro r1
          refine ⟨p, q, ro.1, r1, .inl ⟨by omega, by omega⟩, k _ I1 _ H1 (R1.put (F := []) (.pure (d := .int (p * q)) rp_int)) (x1.put fun b hb => ?_) (Agr.refl.set hA)⟩
          cases hb
        · cases h2
      | _ => cases h2
    | _ => cases h2
  · cases hm
theorem ss_setLcW {X : Cx} {A : Nat → Bool} {Wx : WX} {i : Nat} {y : Str} {py : Pos} {elt tg iter : Expr} {ifs : List Expr} {scope : Scope} {own : List (Str × Nat)} {pos spos : Pos} {mi : M (List D)} {t : Tg} {c : M Bool} {m : M D} (hA : A i = true) (hc : X.calm = true) (hN : X.N.Nodup) (hy : X.N[i]? = some y) (hyl : X.env.scope.names.lookup y = some .local)
    (hsw : swapsWith (.ListComp elt [⟨tg, iter, ifs, 0⟩] scope pos) (some (.Name y py)) spos.line X.env = pure true) (ok : BlkOk X.N X.env.scope scope own) (hi : SI X tg iter mi)
    (hg : ∀ (s : Shared) (H : Hp) (C : Addr) (cl : List (Str × Addr)) (fp : List Addr), SG (X.blk s H scope (compEnvC scope cl C X.env) fp) (ownA (own.map (·.2))) tg t) (ht : ∀ (s : Shared) (H : Hp) (C : Addr) (cl : List (Str × Addr)) (fp : List Addr), STs (X.blk s H scope (compEnvC scope cl C X.env) fp) ifs c)
    (he : ∀ (s : Shared) (H : Hp) (C : Addr) (cl : List (Str × Addr)) (fp : List Addr), SE (X.blk s H scope (compEnvC scope cl C X.env) fp) elt m) (hs : ∀ x, foldedSetIterable iter X.env x = pure x := by intro _; rfl) :
    SS X A Wx (.Assign [.Name y py] (.ListComp elt [⟨tg, iter, ifs, 0⟩] scope pos) spos) (sSet i (mLcW (own.map (·.2)) mi t c m)) :=
  PS.imp (ps_setLc (g := tG X.K X.mg (ownA (List.map (fun (x : Str × Nat) => x.2) own)) t) (tt := tT X.K X.mg c) (te := tE X.K X.mg m) hc hN hy hyl hsw hi ok hg ht he hs) fun D σ H h => by
    have q : tO X.K X.mg Wx (mLcW (own.map (·.2)) mi t c m) σ H fun x H1 => gName i x σ H1 D.nx := set_run hA h
    exact lcW_run q
/-! ### a, b, .. = a list -/
def gTL (n : Nat) (r : Tgs) : Tg := fun d e => match d with
  | .lst ds => if ds.length = n then r ds e else none
  | _ => none
theorem sg_unl {X : Cx} {A : Nat → Bool} {pos : Pos} {es : List Expr} {k : Nat} {t : Tgs} {n : Nat} (hc : X.calm = true) (h : SGs X A es t)
    (hn : (assignEach es X.env).length = n := by rfl) (hst : (assignEach es X.env).findIdx? (·.1) = none := by rfl) : SG X A (.Tuple es k pos) (gTL n t) := PG.imp (pg_unl hc h hn hst) fun v σ H Q ⟨I, e, Fs, d, R, r, e', hm, kk⟩ => by
  cases d with
  | lst ds =>
    have hm : (if ds.length = n then t ds e else none) = some e' := hm
    split at hm
    · rename_i hl
      simp only [Rp] at r
      obtain ⟨a, xs, rfl, h1, h2⟩ := r
      exact ⟨a, xs, rfl, .of (R.sub _ _ h1), by rw [← h2.length]; exact hl, I, e, Fs, ds, R, h2, e', hm, kk⟩
    · cases hm
  | _ => cases hm
@[simp] theorem ev_gTL {n : Nat} {r : Tgs} {ds : List D} {e : Env} : gTL n r (.lst ds) e = if ds.length = n then r ds e else none := rfl
/-! ### evaluation -/
section
variable {e : Env} {es : List (Key × D)} {x : Str} {m : M D} {mw : M W} {ma : M (List Arg)}
@[simp] theorem dDg_s : dDg (.dict es) (.str x) = valD es (.inr x) := rfl
@[simp] theorem dInF_s : dInF (.str x) (.dict es) = some (.bool (valD es (.inr x)).isSome) := rfl
@[simp] theorem dNinF_s : dNinF (.str x) (.dict es) = some (.bool !(valD es (.inr x)).isSome) := rfl
def kyK : Option (D × Env) → Option (List D × Env)
  | some (.dict es, e) => some (es.map fun q => keyT q.1, e)
  | _ => none
@[simp] theorem ev_iKy : iKy m e = kyK (m e) := by
  unfold iKy kyK
  rcases m e with _ | ⟨d, e1⟩
  · rfl
  · cases d <;> rfl
@[simp] theorem kyK_s : kyK (some (.dict es, e)) = some (es.map fun q => keyT q.1, e) := rfl
@[simp] theorem keyT_s : keyT (.inr x) = .str x := rfl
@[simp] theorem fListK_s : fListK [.dict es] = some (.lst (es.map fun q => keyT q.1)) := rfl
@[simp] theorem fRevI_s {ds : List D} : fRevI [.lst ds] = some ds.reverse := rfl
theorem fDivmod_s {i j : Int} (h : 0 < j ∧ j ≤ 1000000 ∧ 0 ≤ i ∧ i ≤ 1000000) : fDivmod [.int i, .int j] = some (.tup [.int (i / j), .int (i % j)]) := if_pos h
theorem dMulI_s {i j : Int} (h : -1000000 ≤ i ∧ i ≤ 1000000) : dMulI (.int i) (.int j) = some (.int (i * j)) := if_pos h
def frdK : Option (W × Env) → Option (D × Env)
  | some x => (frz x.1).map fun d => (d, x.2)
  | none => none
@[simp] theorem ev_frzD : mFrzD mw e = frdK (mw e) := by unfold mFrzD frdK; cases mw e <;> rfl
@[simp] theorem frdK_s {w : W} : frdK (some (w, e)) = (frz w).map fun d => (d, e) := rfl
end
end MV

namespace MV
open PySem L2
variable [TB]
/-! ### enumerate over a locked dict: what its iterator draws -/
section
variable {prog : Program} {w : World} {A : Around} {E : Value → Shared → Prop} {s : Shared}
theorem nextOf_key_item {it d : Addr} {i n ep : Nat} {od : Obj} {es : Array DictEntry} {en : DictEntry} {Q : Value → Shared → Prop} (hit : s.heap.IsKeyIter it d i n ep) (hod : s.heap.get? d = some od) (hdd : od.data = .dict es ep)
    (hsz : es.size = n) (hx : es[i]? = some en) (hQ : ∀ h', h'.IsKeyIter it d (i + 1) n ep → Heap.SameBut it s.heap h' → Q en.key { s with heap := h' }) : wpAny (model prog w) A (Builtin.SmallTypes.nextOf (.ref it)) Q E s := by
  obtain ⟨o, ho, hc, hd⟩ := id hit
  unfold Builtin.SmallTypes.nextOf
  refine wpAny_bind (wpAny_callSpecial?_slot (name := Str.ofString "__next__") hit.typeIs F.slot_dict_keyiterator_next
    (wpAny_call_entry F.slot_dict_keyiterator_next hit.typeIs F.entry_dict_keyiterator_next ?_ (F.args_dict_keyiterator_next_1 _)))
  refine wpAny_bind (wpAny_pure ?_)
  refine wpAny_bind ?_
  refine wpAny_bind ?_
  first | refine wpAny_bind (wpAny_typeNameOfWhole_keyiter hit.typeIs (wpAny_pure ?_)) | refine wpAny_bind (wpAny_typeNameOf_keyiter hit.typeIs (wpAny_pure ?_))
  refine wpAny_bind (wpAny_fieldsOf ho hd ?_)
  have hown : Builtin.Dict_items.ownsTuple "dict_keyiterator" = false := by decide
  simp only [hown, Bool.false_eq_true, if_false]
  show wpAny _ _ (if (Value.ref d == Value.none) = true then _ else _) _ _ s
  rw [if_neg (show ¬ ((Value.ref d == Value.none) = true) from Bool.false_ne_true)]
  refine wpAny_bind (wpAny_pure ?_)
  refine wpAny_bind (wpAny_dictEntries hod hdd ?_)
  rw [if_neg (by rw [hsz]; simp)]
  refine wpAny_bind (wpAny_pure ?_)
  refine wpAny_bind (wpAny_dictEpoch hod hdd ?_)
  rw [if_neg (by simp)]
  refine wpAny_pure ?_
  obtain ⟨hlt', hen⟩ := Array.getElem?_eq_some_iff.mp hx
  simp only [show ¬ ((i : Int) < 0) from by omega, if_false, Int.toNat_natCast, Array.getElem?_eq_getElem hlt']
  refine wpAny_bind ?_
  first | refine wpAny_bind (wpAny_typeNameOfWhole_keyiter hit.typeIs (wpAny_pure ?_)) | refine wpAny_bind (wpAny_typeNameOf_keyiter hit.typeIs (wpAny_pure ?_))
  refine wpAny_bind (wpAny_isOneOf_keyiter hit.typeIs ?_)
  show wpAny _ _ (setField (.ref it) 1 (rawInt ((i : Int) + 1)) >>= _) _ _ s
  refine wpAny_bind (wpAny_setField ho hd (by simp) ?_)
  have hit' : (s.heap.update it (Obj.mapFields (·.setIfInBounds 1 (rawInt ((i : Int) + 1))))).IsKeyIter it d (i + 1) n ep :=
    ⟨_, Heap.get?_update_self _ ho (Obj.isFreed_of_fields (Obj.data_mapFields hd _)), (Obj.cls_mapFields ..).trans hc, by rw [Obj.data_mapFields hd]; simp [rawInt]⟩
  refine wpAny_bind (wpAny_holding ?_)
  refine wpAny_bind (wpAny_isOneOf_keyiter (s := { s with heap := s.heap.update it (Obj.mapFields (·.setIfInBounds 1 (rawInt ((i : Int) + 1)))) }) hit'.typeIs ?_)
  show wpAny _ _ (pure es[i].key) _ _ _
  rw [hen]
  exact wpAny_pure (wpAny_pure ⟨_, rfl, wpAny_pure (hQ _ hit' (Heap.SameBut.update ..))⟩)
theorem nextOf_key_end {it d : Addr} {i n ep : Nat} {od : Obj} {es : Array DictEntry} {Q : Value → Shared → Prop} (hh : A.handled = none) (hit : s.heap.IsKeyIter it d i n ep) (hod : s.heap.get? d = some od) (hdd : od.data = .dict es ep)
    (hsz : es.size = n) (hge : n ≤ i) (hE : ∀ h' e, Heap.ExtBut it s.heap h' → (∃ o, h'.get? e = some o ∧ o.cls = .type "StopIteration") → E (.ref e) { s with heap := h' }) : wpAny (model prog w) A (Builtin.SmallTypes.nextOf (.ref it)) Q E s := by
  obtain ⟨o, ho, hc, hd⟩ := id hit
  unfold Builtin.SmallTypes.nextOf
  refine wpAny_bind (wpAny_callSpecial?_slot (name := Str.ofString "__next__") hit.typeIs F.slot_dict_keyiterator_next
    (wpAny_call_entry F.slot_dict_keyiterator_next hit.typeIs F.entry_dict_keyiterator_next ?_ (F.args_dict_keyiterator_next_1 _)))
  refine wpAny_bind (wpAny_pure ?_)
  refine wpAny_bind ?_
  refine wpAny_bind ?_
  first | refine wpAny_bind (wpAny_typeNameOfWhole_keyiter hit.typeIs (wpAny_pure ?_)) | refine wpAny_bind (wpAny_typeNameOf_keyiter hit.typeIs (wpAny_pure ?_))
  refine wpAny_bind (wpAny_fieldsOf ho hd ?_)
  have hown : Builtin.Dict_items.ownsTuple "dict_keyiterator" = false := by decide
  simp only [hown, Bool.false_eq_true, if_false]
  show wpAny _ _ (if (Value.ref d == Value.none) = true then _ else _) _ _ s
  rw [if_neg (show ¬ ((Value.ref d == Value.none) = true) from Bool.false_ne_true)]
  refine wpAny_bind (wpAny_pure ?_)
  refine wpAny_bind (wpAny_dictEntries hod hdd ?_)
  rw [if_neg (by rw [hsz]; simp)]
  refine wpAny_bind (wpAny_pure ?_)
  refine wpAny_bind (wpAny_dictEpoch hod hdd ?_)
  rw [if_neg (by simp)]
  refine wpAny_pure ?_
  have hge' : es.size ≤ i := by rw [hsz]; exact hge
  simp only [show ¬ ((i : Int) < 0) from by omega, if_false, Int.toNat_natCast, Array.getElem?_eq_none hge']
  refine wpAny_bind ?_
  first | refine wpAny_bind (wpAny_typeNameOfWhole_keyiter hit.typeIs (wpAny_pure ?_)) | refine wpAny_bind (wpAny_typeNameOf_keyiter hit.typeIs (wpAny_pure ?_))
  show wpAny _ _ (setField (.ref it) 0 .none >>= _) _ _ s
  refine wpAny_bind (wpAny_setField ho hd (by simp) ?_)
  show wpAny _ _ (newExc (.type "StopIteration") [] >>= _) _ _ _
  refine wpAny_bind ?_
  simp only [newExc, newTuple]
  refine wpAny_bind (wpAny_newObj_type ?_ (by size_fits))
  refine wpAny_bind (m := firstArgMember _ _) (wpAny_of_eq (a := Value.none) (by first | rfl | (simp only [firstArgMember]; rfl)) ?_)
  refine wpAny_newObj_type ?_ (by size_fits)
  simp only [raiseNew]
  refine wpAny_bind (wpAny_handled ?_)
  first | rw [show A.in1.handled = none from hh] | rw [hh]
  refine wpAny_bind (wpAny_pure (wpAny_throw ?_))
  exact hE _ _ (((Heap.SameBut.update ..).extBut.push _).push _) ⟨_, Heap.get?_push_size _ rfl, rfl⟩
end
theorem draws_keys {prog : Program} {w : World} {A : Around} (hh : A.handled = none) {it d : Addr} {ep : Nat} {od : Obj} {es : Array DictEntry} (hne : d ≠ it) (hdd : od.data = .dict es ep) :
    Draws prog w A it [it, d] es.size (fun i v => ∃ en : DictEntry, es[i]? = some en ∧ v = en.key) (fun i h => h.IsKeyIter it d i es.size ep ∧ h.get? d = some od) where
  live := fun i h st => by obtain ⟨⟨o, ho, _⟩, _⟩ := st; exact ⟨o, ho⟩
  frame := fun i h h' st hk => ⟨st.1.at fun o e => hk it (by simp) o e, hk d (by simp) od st.2⟩
  item := fun i s Q E hi st hQ => nextOf_key_item st.1 st.2 hdd rfl (Array.getElem?_eq_getElem hi) fun h' st' sb => hQ _ h' s.toks ⟨_, Array.getElem?_eq_getElem hi, rfl⟩ ⟨st', (sb.2 d hne).trans st.2⟩ sb
  done := fun s Q E st hE => nextOf_key_end hh st.1 st.2 hdd rfl (Nat.le_refl _) hE
theorem begins_dict {d : Addr} {od : Obj} {es : Array DictEntry} {ep : Nat} (hs : (d == sysModules) = false) (hx : od.ExactDict) (hdd : od.data = .dict es ep) : Begins (.ref d) { cls := .type "dict_keyiterator", data := .fields #[.ref d, .int 0 0, .int es.size 0, .int ep 0] } fun h => h.get? d = some od where
  iter := fun prog w A E s Q h hq => iter_keys hs h hx hdd hq
  keeps := fun h h' e hk => hk d od e
  free := rfl
set_option maxHeartbeats 1000000 in
theorem meets_enum1 {v : Value} {o : Obj} {H : Heap → Prop} (B : Begins v o H) :
    Meets (Builtin.«enumerate.__new__» ⟨[.type "enumerate", v], []⟩) (fun _ R s => H s.heap ∧
      R (.ok (.ret (.ref (s.heap.push o).objs.size))) { s with heap := (s.heap.push o).push { cls := .type "enumerate", data := .fields #[.none, .bool false, .ref s.heap.objs.size, rawInt 0, .none, .none] } }) :=
  .of_wp fun prog w A R s h => by
    obtain ⟨hp, g, d, tk, os⟩ := s; obtain ⟨h1, h⟩ := h
    have hsub := sub_enumerate
    have q1 : ∀ {A' : Around} {E : Value → Shared → Prop} {Q : Value → Shared → Prop}, Q (.ref hp.objs.size) ⟨hp.push o, g, d, tk, os⟩ → wpAny (model prog w) A' (pyIter v) Q E ⟨hp, g, d, tk, os⟩ :=
      fun q => B.iter prog w _ _ ⟨hp, g, d, tk, os⟩ _ h1 q
    wp_walk using q1
    refine wpAny_stack_any fun st => wpAny_pure ?_
    split
    · rename_i c _ _ _ _ _
      cases (c == Value.type "enumerate")
      · wp_walk using q1
        exact ⟨_, rfl, h⟩
      · wp_walk using q1
        exact ⟨_, rfl, h⟩
    · wp_walk using q1
      exact ⟨_, rfl, h⟩
theorem enum_begins1 {prog : Program} {w : World} {A : Around} {E : Value → Shared → Prop} {s : Shared} {v : Value} {o : Obj} {H : Heap → Prop} {Q : Value → Shared → Prop} (B : Begins v o H) (h1 : H s.heap)
    (h : ∀ h', IsEnum h' (s.heap.objs.size + 1) s.heap.objs.size 0 .none → h'.get? s.heap.objs.size = some o → h'.objs.size = s.heap.objs.size + 2 →
      (∀ b o, s.heap.get? b = some o → h'.get? b = some o) → Q (.ref (s.heap.objs.size + 1)) { s with heap := h' }) :
    wpAny (model prog w) A (call (.type "enumerate") [v]) Q E s := by
  refine callType_new F.called_enumerate (by decide) (F.typeCall_enumerate_1 _) (F.newCall_enumerate_1 _) (fun obj => F.args_object_init_2 obj _) F.entry_enumerate_new
    (meets_enum1 B) ⟨h1, ?_⟩
  have hz : (s.heap.push o).objs.size = s.heap.objs.size + 1 := Heap.size_push ..
  show _ ∧ _
  rw [hz]
  have he : IsEnum ((s.heap.push o).push { cls := .type "enumerate", data := .fields #[.none, .bool false, .ref s.heap.objs.size, rawInt 0, .none, .none] }) (s.heap.objs.size + 1) s.heap.objs.size 0 .none := by
    have := Heap.get?_push_size (s.heap.push o) (o := { cls := .type "enumerate", data := .fields #[.none, .bool false, .ref s.heap.objs.size, rawInt 0, .none, .none] }) rfl
    rw [hz] at this; exact this
  refine ⟨⟨_, he, rfl⟩, h _ he (Heap.get?_push_of_some _ (Heap.get?_push_size _ B.free)) (by rw [Heap.size_push, hz]) fun b o x => Heap.get?_push_of_some _ (Heap.get?_push_of_some _ x)⟩
/-- (number, key) of the locked dict at d, each in a new pair -/
def IteK (d : Addr) (o : Obj) (kvs : List (Key × V)) : It :=
  ⟨fun i H => H d = some (.frz o (.dK kvs)) ∧ i < kvs.length, fun i H v H' => ∃ T k x, kvs[i]? = some (k, x) ∧ v = .ref T ∧ H T = none ∧ H' = upd H T (.tup [.int (i : Nat), kV k]), fun i H => H d = some (.frz o (.dK kvs)) ∧ kvs.length ≤ i⟩
theorem turn_enumK {P : Program} {w : World} {K : PySem.W.Frag} {elts : List Expr} {kk : Nat} {tpos : Pos} {d : Addr} {o : Obj} {es : Array DictEntry} {ep : Nat} {kvs : List (Key × V)} (e it : Addr) (hod : o.data = .dict es ep) (hei : e ≠ it) (hed : e ≠ d) (hdi : d ≠ it) :
    Turn P w K (.Tuple elts kk tpos) (IteK d o kvs) [e, it] e (fun i h => i ≤ kvs.length ∧ (∃ old, IsEnum h e it ((i : Nat) : Int) old) ∧ h.IsKeyIter it d i kvs.length ep) where
  mem := by simp
  obj := fun i h st b hb => by
    obtain ⟨_, ⟨old, he⟩, ⟨o, ho, hc, hd⟩⟩ := st
    have e' : b = e ∨ b = it := by simpa using hb
    rcases e' with z | z
    · rw [z]; exact ⟨_, he, fun v q => nomatch q⟩
    · rw [z]; exact ⟨o, ho, fun v q => by rw [hd] at q; cases q⟩
  keep := fun i h h' st k => let ⟨hle, ⟨old, he⟩, hi⟩ := st; ⟨hle, ⟨old, k e (by simp) _ he⟩, hi.at fun o q => k it (by simp) o q⟩
  item := by
    intro X hP hw hK hc i pins s σ H E I hf st hg
    subst hP hw hK
    obtain ⟨hle, ⟨old, he⟩, hit⟩ := st
    obtain ⟨hd, hi⟩ := hg
    obtain ⟨hs, hgd, hx, es', ep', vs, hdt, hsz, kv, hm⟩ := I.frzK hd
    obtain ⟨rfl, rfl⟩ := dict_ep hod hdt
    obtain ⟨⟨k, v⟩, hkv⟩ : ∃ p, kvs[i]? = some p := ⟨kvs[i], List.getElem?_eq_getElem hi⟩
    obtain ⟨u, hu, ru⟩ := kv_get kv hkv
    obtain ⟨od2, es2, hod2, _, hdd2, _, hp, _⟩ := id hm
    rw [hgd] at hod2
    cases hod2
    obtain ⟨rfl, _⟩ := dict_ep hod hdd2
    have hil : i < es2.size := by omega
    have hkey := (hp.get? (e := es2[i]) (by simp [hil]) hu).1
    have hel : e < s.heap.objs.size := Heap.lt_size he
    have hil' : it < s.heap.objs.size := by obtain ⟨_, q, _⟩ := hit; exact Heap.lt_size q
    rw [← hsz] at hit
    refine wpAny_pyNext_enum_itemD (draws_keys (prog := X.prog) (w := X.w) (A := X.A.in1) (I.ok.hd hc) hdi hod) he ⟨hit, hgd⟩ hil hei (by simp [hei, hed]) fun x h' tk hx' ho hst' hT hsz' hk => ?_
    obtain ⟨en, hen, rfl⟩ := hx'
    rw [Array.getElem?_eq_getElem hil] at hen
    cases hen
    refine ⟨_, rfl, wpAny_letOwnedTupleGo_enum (s := { s with heap := h', toks := tk + 1 }) ho fun h'' he' sb => ?_⟩
    have hT2 : h''.get? s.heap.objs.size = some { cls := .type "tuple", data := .seq #[.int i tk, es2[i].key] } := (sb.2 _ (Nat.ne_of_gt hel)).trans hT
    have new : ObjOk X.prog X.w (upd H s.heap.objs.size (.tup [.int (i : Nat), kV k])) h'' s.heap.objs.size (.tup [.int (i : Nat), kV k]) :=
      ⟨by show 2 ≤ sizeLine; decide, [.int i tk, es2[i].key], .cons ⟨_, rfl⟩ (.cons (relV_key hkey) .nil), ⟨_, hT2, rfl, _, rfl⟩⟩
    have I1 : Inv X pins σ (upd H s.heap.objs.size (.tup [.int (i : Nat), kV k])) { s with heap := h'', toks := tk + 1 } :=
      I.turnedNew (ch := [e, it]) (fun b ob hb q => (sb.2 b (fun z => hb (by simp [z]))).trans (hk b ob (fun z => hb (by simp [z])) (fun z => hb (by simp [z])) q)) hf (Nat.le_refl _) new
    refine ⟨.ref s.heap.objs.size, _, I1, rfl, ⟨_, k, v, hkv, rfl, I.hok.fresh (Nat.le_refl _), rfl⟩, ⟨by omega, ⟨es2[i].key, ?_⟩, ?_⟩, fun b hb => ?_⟩
    · have e1 : ((i + 1 : Nat) : Int) = (i : Int) + 1 := by omega
      rw [e1]; exact he'
    · rw [← hsz]; exact hst'.1.at fun o q => (sb.2 it (Ne.symm hei)).trans q
    · have hb' : b < s.heap.objs.size := by
        have e' : b = e ∨ b = it := by simpa using hb
        rcases e' with z | z
        · rw [z]; exact hel
        · rw [z]; exact hil'
      rw [upd_ne (Nat.ne_of_lt hb')]
      exact (hf b hb).1
  done := by
    intro X hP hw hK hc i pins s σ H E I hf st hg
    subst hP hw hK
    obtain ⟨hle, ⟨old, he⟩, hit⟩ := st
    obtain ⟨hd, hi⟩ := hg
    obtain ⟨hs, hgd, hx, es', ep', vs, hdt, hsz, kv, hm⟩ := I.frzK hd
    obtain ⟨rfl, rfl⟩ := dict_ep hod hdt
    obtain ⟨f0, f1, f2, f3, f4, f5⟩ := hf it (by simp)
    obtain rfl : i = kvs.length := by omega
    rw [← hsz] at hit
    exact wpAny_pyNext_enum_endD (draws_keys (prog := X.prog) (w := X.w) (A := X.A.in1) (I.ok.hd hc) hdi hod) he ⟨hit, hgd⟩ fun h' eb => ⟨rfl, I.turned (t' := s.toks) (fun b o hb q => eb b o hb q) f0 f1 f3 f4 f5⟩
  self := fun A i s Q E st h => let ⟨_, ⟨_, he⟩, _⟩ := st; wpAny_pyIter_enum he h
def iEnK (td : TA) : TI := fun σ H R => td σ H fun vs H1 => ∃ d o kvs, vs = [.ref d] ∧ H1 d = some (.frz o (.dK kvs)) ∧ R (IteK d o kvs) H1
open PySem.Spec PyProof.Rows in
theorem pi_enumK {X : Cx} {e : Expr} {ta : TA} {p pos tpos : Pos} {elts : List Expr} {kk : Nat} (hg : Gl X "enumerate") (hm : X.mg "enumerate" = none) (ha : PA X [e] ta) (hs : starEach [e] X.env = [(false, eval e X.env)] := by rfl) :
    PI X (.Tuple elts kk tpos) (.Call (.Name "enumerate" p) [e] [] pos) (iEnK ta) := by
  refine ⟨fun pins s σ H R I h => ?_⟩
  refine Call_ (ld_blt I hg hm boot_enumerate (PyProof.Rows.callWith_type1 (thn (ha.run pos pins s σ H _ I h) fun us s1 ⟨vs, H1, I1, r1, q1⟩ => ?_) hs rfl))
  obtain ⟨d, o, kvs, ex, hd, q⟩ := q1
  subst ex
  cases r1 with
  | cons r rr =>
    cases rr
    cases r
    obtain ⟨hs', hgd, hx, es, ep, vs, hdt, hsz, kv, hm'⟩ := I1.frzK hd
    have hdl : d < s1.heap.objs.size := Heap.lt_size hgd
    refine enum_begins1 (begins_dict hs' hx hdt) hgd fun h' he hit hsz' hk => wpAny_pyIter_enum he ?_
    have I2 : Inv X pins σ H1 { s1 with heap := h' } := I1.kept (t' := s1.toks) hk
    refine ⟨s1.heap.objs.size + 1, [s1.heap.objs.size + 1, s1.heap.objs.size], _, _, H1, rfl, I2, turn_enumK (s1.heap.objs.size + 1) s1.heap.objs.size hdt (Nat.succ_ne_self _) (Nat.ne_of_gt (Nat.lt_succ_of_lt hdl)) (Nat.ne_of_lt hdl), ⟨Nat.zero_le _, ⟨.none, he⟩, ⟨_, hit, rfl, by rw [hsz] <;> rfl⟩⟩, fun b hb => ?_, q⟩
    have e' : b = s1.heap.objs.size + 1 ∨ b = s1.heap.objs.size := by simpa using hb
    have hle : s1.heap.objs.size ≤ b := by
      rcases e' with z | z
      · rw [z]; exact Nat.le_add_right _ _
      · rw [z]; exact Nat.le_refl _
    exact I1.fpOk hle (I1.hok.fresh hle)
theorem iteK_r {K : PySem.W.Frag} {mg : Str → Option Value} {I : Hp} {a : Addr} {o : Obj} {es : List (Key × D)} {kvs : List (Key × V)} (h : I a = some (.frz o (.dK kvs))) (r : RpK K mg I es kvs) : ItR K mg I (IteK a o kvs) (enD (es.map fun q => keyT q.1)) := fun i I1 H1 e1 e2 => by
  have h1 := e2 _ _ (e1 _ _ h)
  have hl : es.length = kvs.length := by have := congrArg List.length (rpK_keys r); simpa using this.symm
  refine ⟨fun d hd => ?_, fun hl' => ⟨h1, by unfold enD at hl'; simp at hl'; omega⟩⟩
  unfold enD at hd
  rw [List.getElem?_mapIdx, List.getElem?_map] at hd
  obtain ⟨y, hy, rfl⟩ := Option.map_eq_some_iff.mp hd
  obtain ⟨q, hq, rfl⟩ := Option.map_eq_some_iff.mp hy
  obtain ⟨v, hv⟩ := rpK_at r (i := i) (k := q.1) (by rw [List.getElem?_map, hq]; rfl)
  refine ⟨⟨h1, (List.getElem?_eq_some_iff.mp hv).1⟩, fun y H2 hy => ?_⟩
  obtain ⟨T, k', v', hk, rfl, hT, rfl⟩ := hy
  rw [hv] at hk
  cases hk
  exact ⟨_, .new T _ hT, rp_tup e2 hT (RpL.cons rp_int (RpL.cons rp_key RpL.nil))⟩
def iEnKy (m : M D) : M (List D) := fun e => (m e).bind fun x => match x.1 with
  | .dict es => some (enD (es.map fun q => keyT q.1), x.2)
  | _ => none
def fEnumK : List D → Option (List D)
  | [.dict es] => some (enD (es.map fun q => keyT q.1))
  | _ => none
theorem si_enumK {X : Cx} {a : Expr} {ma : M (List Arg)} {p pos tpos : Pos} {elts : List Expr} {kk : Nat} (hg : Gl X "enumerate") (hm : X.mg "enumerate" = none) (ha : SA X [a] ma) (hs : starEach [a] X.env = [(false, eval a X.env)] := by rfl) : SI X (.Tuple elts kk tpos) (.Call (.Name "enumerate" p) [a] [] pos) (iArgs fEnumK ma) :=
  PI.imp (pi_enumK hg hm ha hs) fun σ H Q h => by
    refine iargs_run (P := fun vs H1 => ∃ d o kvs, vs = [.ref d] ∧ H1 d = some (.frz o (.dK kvs)) ∧ Q (IteK d o kvs) H1) (fun I' H' ds rs vs s hf r k => ?_) h
    unfold fEnumK at hf
    split at hf
    · cases hf
      obtain ⟨v, rfl, h1⟩ := r.one
      simp only [Rp] at h1
      obtain ⟨l, o, kvs, rfl, h2, h3⟩ := h1
      exact ⟨l, o, kvs, rfl, s _ _ h2, k _ (iteK_r h2 h3)⟩
    · cases hf
@[simp] theorem fEnumK_s {es : List (Key × D)} : fEnumK [.dict es] = some (enD (es.map fun q => keyT q.1)) := rfl
end MV

namespace L2
open PySem PySem.Spec PyProof.Rows
/-! ### tuples known by their object -/
section
variable {X : Cx}
def FrzT (H : Hp) (p : Addr) (ys : List V) : Prop := ∃ o : Obj, H p = some (.frz o (.tup ys)) ∧ o.cls = .type "tuple" ∧ o.dict = none
theorem call_tuple_ofF : CallR X (.type "tuple") (fun xs H Q => ∃ p ys, xs = [.ref p] ∧ ((SqL X.K H p ys ∧ ∀ l o, H l = none → o.cls = .type "tuple" → o.dict = none → Q (.ref l) (upd H l (.frz o (.tup ys)))) ∨ (SqT X.K H p ys ∧ Q (.ref p) H))) := by
  intro pins s σ H xs us Q I r h
  obtain ⟨p, ys, rfl, h⟩ := h
  obtain ⟨u, rfl, rx⟩ := vals1 r
  cases rx
  rcases h with ⟨hq, q⟩ | ⟨hq, q⟩
  · obtain ⟨its, r', pl, hz⟩ := I.list hq
    have hlen := r'.length
    refine call_tuple_list pl.isList (fun h' kp => ?_) (by simp only [List.size_toArray] <;> omega)
    have I1 : Inv X pins σ H { s with heap := h' } := I.kept (t' := s.toks) kp
    have hg : (h'.push { cls := .type "tuple", data := .seq its.toArray }).get? h'.objs.size = some { cls := .type "tuple", data := .seq its.toArray } := Heap.get?_push_size _ rfl
    have I2 : Inv X pins σ (upd H h'.objs.size (.frz { cls := .type "tuple", data := .seq its.toArray } (.tup ys))) { s with heap := h'.push { cls := .type "tuple", data := .seq its.toArray } } :=
      I1.laid (t' := s.toks) (fun b o e => Heap.get?_push_of_some _ e) (Nat.le_refl _) (show ObjOk X.prog X.w _ _ _ (.frz _ (.tup ys)) from ⟨hg, hz, its, r', IsTup.new _ _⟩)
    exact ⟨.ref h'.objs.size, _, I2, rfl, q _ _ (I1.hok.fresh (Nat.le_refl _)) rfl rfl⟩
  · obtain ⟨its, r', pl, hz⟩ := I.tuple hq
    exact call_tuple_same pl ⟨.ref p, H, I, rfl, q⟩
/-- a method of such a tuple -/
def tBMF (r : V → List V → Hp → VK → Prop) (to : TE) (t : TA) : TE := fun σ H Q => to σ H fun x H1 => (∃ p ys, x = .ref p ∧ FrzT H1 p ys) ∧ t σ H1 fun xs H2 => r x xs H2 Q
theorem pe_bmF {o e : Expr} {es : List Expr} {to : TE} {t : TA} {name : Str} {apos cpos : Pos} {id : String} {r : V → List V → Hp → VK → Prop} (pa : PlainAttrs "tuple") (slot : Slot "tuple" name id) (hty : typeOf (.builtin id) = pure (.type "method_descriptor")) (hm : MtR X id r) (ho : PE X o to) (ha : PA X (e :: es) t)
    (hbase : attributeBase o name X.env (eval o X.env) = eval o X.env := by rfl)
    (hfew : ((backTo cpos (starEach (e :: es) X.env)).all (fun x => !x.1) && (backToKw cpos (keywordEach [] X.env)).all (fun x => x.1.isSome)
      && decide ((e :: es).length + ([] : List Keyword).length + (if ([] : List Keyword).isEmpty then 0 else 1) < 30)) = true := by rfl)
    (hline : (apos.endLine == cpos.line) = true := by rfl) (hs : starEach (e :: es) X.env = (false, eval e X.env) :: starEach es X.env := by rfl) (hplain : (backTo cpos (starEach es X.env)).any (·.1) = false := by rfl) :
    PE X (.Call (.Attribute o name apos) (e :: es) [] cpos) (tBMF r to t) := by
  refine ⟨fun pins s σ H Q I h => ?_⟩
  refine wpAny_Call_method_late hbase hfew hline rfl (thn (ho.run pins s σ H _ I h) fun v s1 ⟨x, H1, I1, r1, ⟨p, ys, ex, ob, hp, hc, hd⟩, q1⟩ => ?_)
  subst ex
  cases r1
  have hg : s1.heap.get? p = some ob := (I1.hok p _ hp).1
  refine ⟨"tuple", id, pa, slot, hty, ⟨ob, hg, hc⟩, fun a e => ⟨ob, by cases e; exact hg, hd⟩, ?_⟩
  have hA := ha.run cpos pins s1 σ H1 _ I1 q1
  rw [hs] at hA ⊢
  refine Calls.callWith_builtin (by show (false || (backTo cpos (starEach es X.env)).any (·.1)) = false; rw [hplain] <;> rfl) (Calls.evalArgs_plain ?_)
  exact thn hA fun us s2 ⟨vs, H2, I2, r2, q2⟩ => hm pins s2 σ H2 (.ref p) vs (.ref p) us Q I2 rfl r2 q2
end
end L2
namespace MV
open PySem L2
variable [TB]
section
variable {K : PySem.W.Frag} {mg : Str → Option Value} {I H : Hp}
theorem ft_tup {ds : List D} {v : V} (h : Rp K mg I (.ft ds) v) : Rp K mg I (.tup ds) v := by
  simp only [Rp] at h ⊢
  obtain ⟨a, o, xs, rfl, h1, _, _, h2⟩ := h
  exact ⟨a, xs, rfl, .inl (.inr ⟨o, h1⟩), h2⟩
/-- tuple(x), the tuple known by its object -/
def fTupleF : List D → Option D
  | [.lst ds] => some (.ft ds)
  | [.fl ds] => some (.ft ds)
  | [.ft ds] => some (.ft ds)
  | _ => none
theorem cd_tupleF : CallD K mg (fun xs H Q => ∃ p ys, xs = [.ref p] ∧ ((SqL K H p ys ∧ ∀ l o, H l = none → o.cls = .type "tuple" → o.dict = none → Q (.ref l) (upd H l (.frz o (.tup ys)))) ∨ (SqT K H p ys ∧ Q (.ref p) H))) fTupleF := by
  intro I H ds z vs Q s r e k
  have mk : ∀ {xs : List V} {es : List D} {l : Addr} {o : Obj}, RpL K mg I es xs → H l = none → o.cls = .type "tuple" → o.dict = none → Rp K mg (upd I l (.frz o (.tup xs))) (.ft es) (.ref l) := fun h hl hc hd => by
    simp only [Rp]
    exact ⟨_, _, _, rfl, upd_same, hc, hd, h.new s hl⟩
  unfold fTupleF at e
  split at e
  · cases e
    obtain ⟨v, rfl, h⟩ := r.one
    simp only [Rp] at h
    obtain ⟨a, xs, rfl, h1, h2⟩ := h
    exact ⟨a, xs, rfl, .inl ⟨.of (s _ _ h1), fun l o hl hc hd => k _ _ _ (.new l _ hl) (mk h2 hl hc hd)⟩⟩
  · cases e
    obtain ⟨v, rfl, h⟩ := r.one
    simp only [Rp] at h
    obtain ⟨a, xs, rfl, h1, h2⟩ := h
    exact ⟨a, xs, rfl, .inl ⟨ex_l s h1, fun l o hl hc hd => k _ _ _ (.new l _ hl) (mk h2 hl hc hd)⟩⟩
  · cases e
    obtain ⟨v, rfl, h⟩ := r.one
    have h' := h
    simp only [Rp] at h
    obtain ⟨a, o, xs, rfl, h1, _, _, h2⟩ := h
    exact ⟨a, xs, rfl, .inr ⟨.inl (.inr ⟨o, s _ _ h1⟩), k _ _ _ .same h'⟩⟩
  · cases e
end
def dUnft : D → Option D
  | .ft ds => some (.tup ds)
  | d => some d
@[simp] theorem unft_ft {ds : List D} : dUnft (.ft ds) = some (.tup ds) := rfl
@[simp] theorem tupleF_l {ds : List D} : fTupleF [.lst ds] = some (.ft ds) := rfl
@[simp] theorem tupleF_f {ds : List D} : fTupleF [.ft ds] = some (.ft ds) := rfl
theorem se_unft {X : Cx} {a : Expr} {m : M D} (h : SE X a m) : SE X a (mUn dUnft m) := by
  refine PE.imp h fun σ H Q ⟨I, e, Fs, R, d, e', hm, k⟩ => ?_
  obtain ⟨⟨x, e1⟩, h1, hm⟩ := Option.bind_eq_some_iff.mp hm
  obtain ⟨z, h3, hm⟩ := Option.map_eq_some_iff.mp hm
  cases hm
  refine ⟨I, e, Fs, R, x, e1, h1, fun v I' Fs' H' R' x' r => k v I' Fs' H' R' x' ?_⟩
  cases x with
  | ft ds => cases h3; exact ft_tup r
  | _ => cases h3; exact r
theorem sv_unft {X : Cx} {a : Expr} {m : P D} (h : SV X a m) : SV X a (vUn dUnft m) := by
  refine PE.imp h fun σ H Q ⟨I, e, Fs, R, d, hm, k⟩ => ?_
  obtain ⟨x, h1, hm⟩ := Option.bind_eq_some_iff.mp hm
  refine ⟨I, e, Fs, R, x, h1, fun v I' H' g r => k v I' H' g ?_⟩
  cases x with
  | ft ds => cases hm; exact ft_tup r
  | _ => cases hm; exact r
/-! ### t.index(x), a tuple of texts -/
def dIdxT : D → D → Option D
  | .ft ds, .str z => (strsD ds).bind fun ys => (ys.findIdx? fun y => decide (y = z)).map fun (j : Nat) => D.int (j : Int)
  | _, _ => none
section
variable {X : Cx} {o a : Expr} {mo ma : M D} {apos cpos : Pos}
theorem se_idxT (ho : SE X o mo) (ha : SE X a ma)
    (hbase : attributeBase o "index" X.env (eval o X.env) = eval o X.env := by rfl)
    (hfew : ((backTo cpos (starEach [a] X.env)).all (fun x => !x.1) && (backToKw cpos (keywordEach [] X.env)).all (fun x => x.1.isSome)
      && decide ([a].length + ([] : List Keyword).length + (if ([] : List Keyword).isEmpty then 0 else 1) < 30)) = true := by rfl)
    (hline : (apos.endLine == cpos.line) = true := by rfl) (hs : starEach [a] X.env = (false, eval a X.env) :: starEach [] X.env := by rfl) (hplain : (backTo cpos (starEach [] X.env)).any (·.1) = false := by rfl) :
    SE X (.Call (.Attribute o "index" apos) [a] [] cpos) (mOp dIdxT mo ma) := PE.imp (pe_bmF PySem.F.plainAttrs_tuple PySem.F.slot_tuple_index PySem.F.type_tuple_index mt_tup_index ho (pa_one ha hs) hbase hfew hline hs hplain) fun σ H Q ⟨I, e, Fs, R, d, e', hm, k⟩ => by
  obtain ⟨⟨x, e1⟩, h1, hm⟩ := Option.bind_eq_some_iff.mp hm
  obtain ⟨⟨y, e2⟩, h2, hm⟩ := Option.bind_eq_some_iff.mp hm
  obtain ⟨z, h3, hm⟩ := Option.map_eq_some_iff.mp hm
  cases hm
  refine ⟨I, e, Fs, R, x, e1, h1, fun v I1 F1 H1 R1 x1 r1 => ?_⟩
  cases x with
  | ft ds =>
    cases y with
    | str z0 =>
      obtain ⟨ys, h4, h3⟩ := Option.bind_eq_some_iff.mp (show ((strsD ds).bind fun ys => (ys.findIdx? fun y => decide (y = z0)).map fun (j : Nat) => D.int (j : Int)) = some _ from h3)
      obtain ⟨j, hj, rfl⟩ := Option.map_eq_some_iff.mp h3
      simp only [Rp] at r1
      obtain ⟨b, ob, xs, rfl, hb, hc, hd, hr⟩ := r1
      refine ⟨⟨b, xs, rfl, ob, R1.sub _ _ hb, hc, hd⟩, I1, e1, F1, R1, _, e2, h2, fun u I2 F2 H2 R2 x2 r2 => ?_⟩
      simp only [Rp] at r2
      obtain ⟨hl, hj1, hj2⟩ := List.findIdx?_eq_some_iff_getElem.mp hj
      have hxs := strs_v h4 hr
      subst hxs
      have hz : ys[j] = z0 := by simpa using hj1
      refine ⟨b, ys, z0, j, rfl, by rw [r2], .inl (.inr ⟨ob, R2.sub _ _ (x2.g.ex _ _ hb)⟩), by rw [List.getElem?_eq_getElem hl, hz], fun m hm hz' => ?_, k _ I2 F2 H2 R2 (x1.trans x2) rp_int⟩
      obtain ⟨hml, e3⟩ := List.getElem?_eq_some_iff.mp hz'
      have := hj2 m hm
      simp [e3] at this
    | _ => cases h3
  | _ => cases h3
end
end MV

namespace L2
open PySem PySem.Spec PyProof.Rows
/-! ### len of a locked dict -/
theorem call_lenF {X : Cx} : CallR X (.builtin "len") (fun xs H Q => ∃ a kvs, xs = [V.ref a] ∧ Rd H a (.dK kvs) ∧ Q (.int kvs.length) H) := by
  intro pins s σ H xs us Q I r ⟨a, kvs, e, ha, q⟩
  subst e
  obtain ⟨u, eu, ru⟩ := vals1 r
  subst eu
  obtain rfl : u = Value.ref a := ru
  exact d_len I ha fun t s' J => ⟨.int kvs.length, H, J, ⟨t, rfl⟩, q⟩
end L2
namespace MV
open PySem L2
variable [TB]
def fLenK : List D → Option D
  | [.dict es] => some (.int es.length)
  | _ => none
theorem rpK_len {K : PySem.W.Frag} {mg : Str → Option Value} {I : Hp} : ∀ {es : List (Key × D)} {kvs : List (Key × V)}, RpK K mg I es kvs → kvs.length = es.length
  | [], kvs, h => by simp only [RpK] at h; subst h; rfl
  | (k, d) :: es, kvs, h => by
    simp only [RpK] at h
    obtain ⟨x, r, rfl, h1, h2⟩ := h
    simp [rpK_len h2]
theorem cd_lenK {K : PySem.W.Frag} {mg : Str → Option Value} : CallD K mg (fun xs H Q => ∃ a kvs, xs = [V.ref a] ∧ Rd H a (.dK kvs) ∧ Q (.int kvs.length) H) fLenK := by
  intro I H ds z vs Q s r e k
  unfold fLenK at e
  split at e
  · obtain ⟨v, rfl, h⟩ := r.one
    cases e
    simp only [Rp] at h
    obtain ⟨a, o, kvs, rfl, h1, h2⟩ := h
    refine ⟨_, kvs, rfl, .inr ⟨o, s _ _ h1⟩, ?_⟩
    rw [rpK_len h2]
    exact k _ _ _ .same rp_int
  · cases e
@[simp] theorem fLenK_s {es : List (Key × D)} : fLenK [.dict es] = some (.int es.length) := rfl
end MV

namespace LamK
open PySem PySem.Spec PyProof.Rows L2 LamX
/-! ### a lambda of one parameter, called by a built-in -/
/-- one parameter y; else captured names and globals -/
structure LamP (sc scope : Scope) (y : Str) : Prop where
  kind : scope.kind = .function
  co : scope.isCoroutine = false
  gen : scope.isGenerator = false
  par : scope.names.lookup y = some .local
  own : ∀ z ∈ scope.names, z.2 ≠ .cell ∧ (z.2 = .local → z.1 = y)
  free : ∀ z ∈ scope.names, z.2 = .free → sc.names.lookup z.1 = some .cell ∨ sc.names.lookup z.1 = some .free
def lamPB (sc scope : Scope) (y : Str) : Bool :=
  decide (scope.kind = .function) && !scope.isCoroutine && !scope.isGenerator && decide (scope.names.lookup y = some .local) &&
    scope.names.all fun z => !decide (z.2 = .cell) && (!decide (z.2 = .local) || decide (z.1 = y)) && (!decide (z.2 = .free) || (decide (sc.names.lookup z.1 = some .cell) || decide (sc.names.lookup z.1 = some .free)))
theorem lamP_by {sc scope : Scope} {y : Str} (h : lamPB sc scope y = true) : LamP sc scope y := by
  unfold lamPB at h
  simp only [Bool.and_eq_true, Bool.or_eq_true, Bool.not_eq_true', decide_eq_true_eq, decide_eq_false_iff_not, List.all_eq_true] at h
  obtain ⟨⟨⟨⟨h1, h2⟩, h3⟩, h4⟩, h5⟩ := h
  refine ⟨h1, h2, h3, h4, fun z hz => ⟨(h5 z hz).1.1, fun e => ?_⟩, fun z hz e => ?_⟩
  · rcases (h5 z hz).1.2 with q | q
    · exact absurd e q
    · exact q
  · rcases (h5 z hz).2 with q | q
    · exact absurd e q
    · exact q
theorem LamP.has {X : Cx} {scope : Scope} {y : Str} (L : LamP X.env.scope scope y) (ok : X.Ok) : ∀ z ∈ scope.names, z.2 = .free → ∃ c, X.env.cells.lookup z.1 = some c := fun z hz e => by
  rcases L.free z hz e with k | k
  · exact ok.has _ (.inl k)
  · exact ok.has _ (.inr k)
section
variable {X : Cx} {pins : List (Addr × Obj)} {σ : L2.St} {H : Hp} {s : Shared}
theorem lamP_start {A : Around} {E : XK} {scope : Scope} {f c' : Addr} {h₁ : Heap} {tk j : Nat} {y : Str} {v : V} {u : Value} (I : Inv X pins σ H s) (L : LamP X.env.scope scope y) (e0 : Env0 X.prog X.w X.K X.mg X.base A X.stack s H) (hd : A.handled = none)
    (hns : h₁.Ns s.heap.objs.size fun z => ([(y, u)] : List (Str × Value)).reverse.lookup z) (kp : ∀ b o, s.heap.get? b = some o → h₁.get? b = some o) (hj : X.N[j]? = some y) (nd : X.N.Nodup) (r : RelV v u) :
    Inv (lamCx X A X.stack s H E scope f c') [] (σ.set j (some v)) H { s with heap := h₁, toks := tk } := by
  have hfree := L.has I.ok
  have cm : ∀ {y c}, (cloFrom X.env.cells scope.names []).lookup y = some c → X.env.cells.lookup y = some c := fun {y c} e => by
    rcases cloFrom_mem (PySem.mem_of_lookup e) with hm | ⟨h1, h2⟩
    · cases hm
    · obtain ⟨c1, hc⟩ := hfree _ h1 rfl
      have hc : X.env.cells.lookup y = some c1 := hc
      have e2 : c = c1 := by
        rw [h2, hc] <;> rfl
      rw [e2]; exact hc
  have look : ∀ {z}, scope.names.lookup z = some .free → ∃ c, (cloFrom X.env.cells scope.names []).lookup z = some c := fun {z} hl =>
    mem_lookup (cloFrom_has (cells := X.env.cells) (acc := []) (show (z, NameKind.free) ∈ scope.names from PySem.mem_of_lookup hl))
  have cellK : ∀ {c : Addr} {v : Option Value}, s.heap.IsCell c v → h₁.IsCell c v := fun {c v} ⟨o, ho, hd⟩ => ⟨o, kp _ _ ho, hd⟩
  have noA : ∀ b : Addr, b ∉ (lamCx X A X.stack s H E scope f c').ex := fun b z => absurd (show b ∈ ([] : List Addr) from z) (by simp)
  have nocell : ∀ z, scope.names.lookup z ≠ some .cell := fun z k => absurd rfl (L.own _ (PySem.mem_of_lookup k)).1
  refine ⟨⟨e0.mod, L.kind, rfl, rfl, Nat.le_refl _, fun y z c e1 e2 => I.ok.inj y z c (cm e1) (cm e2), fun z hz => ?_, fun z c q _ => ?_, fun _ => hd, Around.frames_deeper e0.frames, .inr ⟨rfl, rfl⟩, fun b z => absurd z (noA b), e0.bs, e0.bsz, fun b _ _ => noA b,
      fun b z => absurd z (noA b), e0.funs, e0.frf⟩,
    rfl, e0.bare, Un.kept kp, ⟨_, hns, fun i z w e1 e2 e3 => ?_⟩, fun z c e => ?_, e0.hok.fresh (Nat.le_refl _), fun z c e => I.freeC z c (cm e), fun q hq => absurd (show q ∈ ([] : List (Addr × Obj)) ++ [] from hq) (by simp), e0.hok.kept kp, by rw [List.length_set]; exact I.len⟩
  · have hz : scope.names.lookup z = some .cell ∨ scope.names.lookup z = some .free := hz
    rcases hz with hz | hz
    · exact absurd hz (nocell z)
    · exact look hz
  · have q : false = true := q
    cases q
  · have e3 : Vis scope z := e3
    have e1 : X.N[i]? = some z := e1
    have hji : z = y → i = j := fun q => by
      have a1 := (List.getElem?_eq_some_iff.mp e1).1
      exact (List.getElem?_inj a1 nd).mp (by rw [e1, hj, q])
    by_cases hij : i = j
    · subst hij
      rw [hj] at e1
      cases e1
      have hl : i < σ.length := by
        have := (List.getElem?_eq_some_iff.mp e2).1
        simpa using this
      rw [List.getElem?_set_self hl] at e2
      cases e2
      exact ⟨u, r, .inl ⟨L.par, by simp⟩⟩
    · rw [List.getElem?_set_ne (Ne.symm hij)] at e2
      rcases e3 with k | k | k
      · exact absurd (hji ((L.own _ (PySem.mem_of_lookup k)).2 rfl)) hij
      · exact absurd k (nocell z)
      · obtain ⟨m, hn, hl⟩ := I.loc
        have fz := L.free _ (PySem.mem_of_lookup k) rfl
        obtain ⟨w', r', q⟩ := hl i z w e1 e2 (fz.elim (fun k => .inr (.inl k)) (fun k => .inr (.inr k)))
        obtain ⟨c2, h2⟩ := look k
        refine ⟨w', r', .inr ⟨.inr k, c2, h2, ?_⟩⟩
        have c1 := cm h2
        rcases q with ⟨k', _⟩ | ⟨_, c3, e', q3⟩
        · have k' : X.env.scope.names.lookup z = some .local := k'
          rcases fz with k2 | k2 <;> rw [show X.env.scope.names.lookup z = _ from k2] at k' <;> cases k'
        · rw [c1] at e'
          cases e'
          exact cellK q3
  · obtain ⟨w', q⟩ := I.cell z c (cm e)
    exact ⟨w', cellK q⟩
/-- the lambda at f is called with u -/
theorem lamP_call {A : Around} {scope : Scope} {params : Arguments} {body : Expr} {f c' : Addr} {pm ctv : Value} {k j : Nat} {y : Str} {v : V} {u : Value} {tb : TE} {Q : VK} (I : Inv X pins σ H s) (L : LamP X.env.scope scope y) (hA : A.frames = X.A.frames) (hr : Room (k + 1) A)
    (hf : s.heap.get? f = some (PySem.W.kla_obj "<lambda>" (X.env.qual ++ "<lambda>") params body scope (cloFrom X.env.cells scope.names []) pm c' ctv)) (hc : H c' = some (CodeO c' (X.env.qual ++ "<lambda>")))
    (hbind : bindArgs (PySem.W.kla_fn "<lambda>" (X.env.qual ++ "<lambda>") params body scope (cloFrom X.env.cells scope.names []) pm (.ref c') ctv) ⟨[u], []⟩ = pure [(y, u)])
    (hj : X.N[j]? = some y) (nd : X.N.Nodup) (r : RelV v u) (hb : PE (lamCx X A X.stack s H (fun _ _ _ => False) scope f c') body tb) (hq : tb (σ.set j (some v)) H Q) :
    wpAny (model X.prog X.w) A (call (.ref f) [u]) (EP X pins σ Q) (fun _ _ => False) s := by
  have e0 : Env0 X.prog X.w X.K X.mg X.base A X.stack s H := by
    have e := I.env0
    exact ⟨hA.trans e.frames, e.mod, e.bs, e.bsz, e.funs, e.frf, e.hok, e.bare⟩
  obtain ⟨⟨oc, vs, t, hoc, hdc, hvc⟩, _, _⟩ := I.hok c' _ hc
  have rc : codeAny (model X.prog X.w) A (.call (.ref f) ⟨[u], []⟩) (CR (L2.CX X.prog X.w) X.stack X.prog X.w H s Q (fun _ _ _ => False)) s := by
    refine PySem.W.kla_callFunE hr.depth hf rfl L.co L.gen rfl ⟨c', oc, vs, t, rfl, hoc, hdc, hvc⟩ ?_
    rw [hbind]
    refine wpAny_pure (wpAny_newFunctionEnv (fun z hz => (L.own z hz).1) (fun z hz => ?_) (fun h₁ hns hsb => ⟨I.nolimit.fresh _ hsb, ?_⟩) L.kind)
    · rw [List.mem_singleton.mp hz]; exact L.par
    show codeAny _ _ (.expr body (lamEnv X scope s.heap.objs.size f c')) _ _
    have kp : ∀ b o, s.heap.get? b = some o → h₁.get? b = some o := fun b o e => hsb.extBut b o (Nat.ne_of_lt (Heap.lt_size e)) (Heap.get?_push_of_some _ e)
    have J : Inv (lamCx X A X.stack s H (fun _ _ _ => False) scope f c') [] (σ.set j (some v)) H { s with heap := h₁, toks := s.toks + ([(y, u)] : List (Str × Value)).length } := lamP_start I L e0 hr.hd hns kp hj nd r
    refine PySem.W.kla_codeExpr (wpAny_mono (hb.run [] _ _ H Q J hq) (fun v s' hq => ?_) fun e s' hq => hq)
    obtain ⟨w', H', J', rv, q⟩ := hq
    exact ⟨w', H', J'.os, J'.bare, J'.base, J'.hok, rv, q⟩
  refine wpAny_call (codeAny_mono rc fun r s' hq => ?_)
  cases r with
  | error e =>
    have hq : L2.CX X.prog X.w X.stack H s (fun _ _ _ => False) e s' := hq
    obtain ⟨_, _, _, _, _, _, _, _, _, _, _, _, _, _, _, _, z⟩ := hq
  | ok fl =>
    cases fl with
    | ret u => exact I.after hq
    | next => exact False.elim hq
    | brk => exact False.elim hq
    | cont => exact False.elim hq
end
end LamK

namespace LamK
open PySem PySem.Spec PyProof.Rows L2 LamX
/-! ### min(t, key=f), t a tuple of numbers, f a lambda -/
/-- the first of the least -/
def First (ks : Nat → Int) (n i : Nat) : Prop := ∀ m, m < n → ks i ≤ ks m ∧ (m < i → ks i < ks m)
section
variable {X : Cx} {pins : List (Addr × Obj)} {σ : L2.St} {J : Hp → Prop} {xs : List V} {ks : Nat → Int} {a f S it : Addr} {fo : Obj} {R : Result → Shared → Prop}
/-- one call of the key -/
def KeyTurn (X : Cx) (σ : L2.St) (J : Hp → Prop) (xs : List V) (ks : Nat → Int) (f : Addr) (fo : Obj) : Prop :=
  ∀ (i : Nat) (x : V) (u : Value), xs[i]? = some x → RelV x u → ∀ (pl : List (Addr × Obj)) (s : Shared) (H : Hp), J H → (f, fo) ∈ pl → Inv X pl σ H s →
    wpAny (model X.prog X.w) X.A.in1 (call (.ref f) [u]) (fun z s' => ∃ t H', z = .int (ks i) t ∧ J H' ∧ Inv X pl σ H' s') (fun _ _ => False) s
theorem pinsSI {H : Hp} {s : Shared} {oS oI : Obj} (I : Inv X pins σ H s) (fS : FpOk X pins H S) (fI : FpOk X pins H it) (gS : s.heap.get? S = some oS) (gI : s.heap.get? it = some oI) (dS : ∀ v, oS.data ≠ .cell v) (dI : ∀ v, oI.data ≠ .cell v) :
    Inv X (pins ++ [(S, oS), (it, oI)]) σ H s := I.pins_of fun p hp => by
  rcases List.mem_append.mp hp with hp | hp
  · exact I.pin p (List.mem_append_right _ hp)
  · simp only [List.mem_cons, List.not_mem_nil, or_false] at hp
    rcases hp with rfl | rfl
    · exact ⟨gS, fS.1, fS.2.1, fS.2.2.1, dS⟩
    · exact ⟨gI, fI.1, fI.2.1, fI.2.2.1, dI⟩
theorem keyLoop (hc : X.calm = true) (hJ : ∀ H, J H → SqT X.K H a xs) (hf : (f, fo) ∈ pins) (turn : KeyTurn X σ J xs ks f fo) (hS : ∀ H', H' S = none → FpOk X pins H' S) (hI : ∀ H', H' it = none → FpOk X pins H' it) (hSI : S ≠ it)
    (hR : ∀ i x v H' s', xs[i]? = some x → RelV x v → First ks xs.length i → J H' → Inv X pins σ H' s' → R (.ok (.ret v)) s') :
    ∀ (r j i : Nat) (s : Shared) (H : Hp) (vb : Value) (x : V) (tb : Tok) (c : Nat), xs.length - (j + 1) = r → j + 1 ≤ xs.length → Inv X pins σ H s → J H → H S = none → H it = none →
      s.heap.get? S = some (seqObj "list" #[vb, .int (ks i) tb] c) → s.heap.IsTupleIter it a (j + 1) → xs[i]? = some x → RelV x vb → First ks (j + 1) i → i ≤ j →
      codeAny (model X.prog X.w) X.A (.builtin "min.loop" ⟨[.ref it, .ref f, .ref S], []⟩) R s := by
  have hh : X.calm = true := hc
  have nm : (toString "min" ++ toString ".loop" : String) = "min.loop" := by decide
  intro r
  induction r with
  | zero =>
    intro j i s H vb x tb c hr hj I g nS nI gS gI hx rx hb hij
    have hl : j + 1 = xs.length := by omega
    obtain ⟨its, rv, p, hz⟩ := I.tuple (hJ H g)
    have ln := rv.length
    have f1 := hI H nI
    have f2 := hS H nS
    refine codeAny_builtin PySem.F.entry_min_loop ?_
    rw [Around.under_plainId PySem.F.plain_min_loop _]
    show wpAny _ X.A.in1 (seqItems? (.ref S) >>= _) _ _ _
    refine wpAny_bind (wpAny_seqItems gS rfl ?_)
    show wpAny _ X.A.in1 (tryCatch (pyNext (.ref it)) _ >>= _) _ _ _
    refine wpAny_bind (wpAny_tryCatch (wpAny_pyNext_tuple_end (show X.A.in1.handled = none from I.ok.hd hc) gI (show s.heap.IsTuple a its.toArray from p) (by simp; omega) fun h' eb => ?_))
    have I1 : Inv X pins σ H { s with heap := h' } := I.turned (t' := s.toks) (fun b o hb e => eb b o hb e) f1.1 f1.2.1 f1.2.2.2.1 f1.2.2.2.2.1 f1.2.2.2.2.2
    have g1 := eb S _ hSI gS
    show wpAny _ X.A.in1 (updateSeq S (fun _ => #[]) >>= _) _ _ _
    refine wpAny_bind (wpAny_updateSeq g1 rfl (wpAny_bind (wpAny_letGo (wpAny_pure ?_))))
    refine hR i x vb H _ hx rx (hl ▸ hb) g ?_
    exact I1.turned (t' := s.toks) (fun b o hb e => (Heap.get?_update_ne _ _ _ _ hb).trans e) f2.1 f2.2.1 f2.2.2.2.1 f2.2.2.2.2.1 f2.2.2.2.2.2
  | succ r ih =>
    intro j i s H vb x tb c hr hj I g nS nI gS gI hx rx hb hij
    have hl : j + 1 < xs.length := by omega
    obtain ⟨its, rv, p, hz⟩ := I.tuple (hJ H g)
    obtain ⟨y, hy⟩ : ∃ y, xs[j + 1]? = some y := ⟨_, List.getElem?_eq_getElem hl⟩
    obtain ⟨u, hu, ru⟩ := rv.get hy
    have f1 := hI H nI
    refine codeAny_builtin PySem.F.entry_min_loop ?_
    rw [Around.under_plainId PySem.F.plain_min_loop _]
    show wpAny _ X.A.in1 (seqItems? (.ref S) >>= _) _ _ _
    refine wpAny_bind (wpAny_seqItems gS rfl ?_)
    show wpAny _ X.A.in1 (tryCatch (pyNext (.ref it)) _ >>= _) _ _ _
    refine wpAny_bind (wpAny_tryCatch (wpAny_pyNext_tuple_item gI (show s.heap.IsTuple a its.toArray from p) (x := u) (by simpa using hu) fun h' gI1 sb => ?_))
    have I1 : Inv X pins σ H { s with heap := h' } := I.turned (t' := s.toks) (fun b o hb e => (sb.2 b hb).trans e) f1.1 f1.2.1 f1.2.2.2.1 f1.2.2.2.2.1 f1.2.2.2.2.2
    have g1 : h'.get? S = some (seqObj "list" #[vb, .int (ks i) tb] c) := (sb.2 S hSI).trans gS
    obtain ⟨oI, e1, e2, e3⟩ := id gI1
    have I2 := pinsSI I1 (hS H nS) f1 g1 e1 (fun v z => by cases z) (fun v z => by rw [e3] at z; cases z)
    show wpAny _ X.A.in1 (tryCatch (holding [u] (call (.ref f) [u])) _ >>= _) _ _ _
    refine wpAny_bind (wpAny_tryCatch (wpAny_holding (wpAny_mono (turn (j + 1) y u hy ru _ _ H g (List.mem_append_left _ hf) I2) (fun z s2 he => ?_) fun _ _ q => q.elim)))
    obtain ⟨t2, H2, rfl, j2, I3⟩ := he
    have q1 := I3.pin (S, _) (List.mem_append_right _ (List.mem_append_right _ (.head _)))
    have q2 := I3.pin (it, _) (List.mem_append_right _ (List.mem_append_right _ (.tail _ (.head _))))
    have I4 : Inv X pins σ H2 s2 := I3.unpinned
    have gI2 : s2.heap.IsTupleIter it a (j + 1 + 1) := ⟨oI, q2.1, e2, e3⟩
    have gS2 : s2.heap.get? S = some (seqObj "list" #[vb, .int (ks i) tb] c) := q1.1
    show wpAny _ X.A.in1 (tryCatch (holding [u, .int (ks (j + 1)) t2] (richCompare .Lt (.int (ks (j + 1)) t2) (.int (ks i) tb) >>= _)) _ >>= _) _ _ _
    refine wpAny_bind (wpAny_tryCatch (wpAny_holding (wpAny_bind (CmpOf.ints_lt (prog := X.prog) (w := X.w) (A := X.A.in1) (P := fun i v => ∃ t, v = .int (ks i) t) ks (fun i v h => h) (j + 1) i _ _ _ _ _ ⟨t2, rfl⟩ ⟨tb, rfl⟩ ?_))))
    refine wpAny_bind (wpAny_holding (wpAny_truthy_bool ?_))
    refine wpAny_bind (wpAny_letGo (wpAny_pure ?_))
    by_cases lt : ks (j + 1) < ks i
    · obtain ⟨c2, hc2⟩ : ∃ c2, (s2.heap.update S (Obj.mapSeq fun _ => #[u, .int (ks (j + 1)) t2])).get? S = some (seqObj "list" #[u, .int (ks (j + 1)) t2] c2) := ⟨_, get?_update_seq gS2 fun _ => #[u, .int (ks (j + 1)) t2]⟩
      have f2 := hS H2 q1.2.1
      simp only [lt, decide_true, if_true]
      refine wpAny_bind ?_
      refine wpAny_updateSeq gS2 rfl (wpAny_bind (wpAny_letGo ?_))
      rw [nm]
      refine wpAny_pure ⟨plainId_quiet PySem.F.plain_min_loop _, ih (j + 1) (j + 1) _ H2 u y t2 c2 (by omega) hl ?_ j2 q1.2.1 q2.2.1 hc2 ?_ hy ru (fun m hm => ?_) (Nat.le_refl _)⟩
      · exact I4.turned (t' := s2.toks) (fun b o hb e => (Heap.get?_update_ne _ _ _ _ hb).trans e) f2.1 f2.2.1 f2.2.2.2.1 f2.2.2.2.2.1 f2.2.2.2.2.2
      · exact ⟨oI, (Heap.get?_update_ne _ _ _ _ hSI.symm).trans q2.1, e2, e3⟩
      · by_cases e : m = j + 1
        · subst e
          exact ⟨by omega, fun _ => by omega⟩
        · have := (hb m (by omega)).1
          exact ⟨by omega, fun _ => by omega⟩
    · simp only [lt, decide_false, Bool.false_eq_true, if_false]
      refine wpAny_bind (wpAny_letGo ?_)
      rw [nm]
      refine wpAny_pure ⟨plainId_quiet PySem.F.plain_min_loop _, ih (j + 1) i _ H2 vb x tb c (by omega) hl I4 j2 q1.2.1 q2.2.1 gS2 gI2 hx rx (fun m hm => ?_) (by omega)⟩
      by_cases e : m = j + 1
      · subst e
        exact ⟨by omega, fun q => by omega⟩
      · exact hb m (by omega)
/-- min(t, key=f): the built-in entered -/
theorem min_key (hc : X.calm = true) (hJ : ∀ H, J H → SqT X.K H a xs) (turn : KeyTurn X σ J xs ks f fo) (hne : 0 < xs.length) (hf : (f, fo) ∈ pins) {s : Shared} {H : Hp} (I : Inv X pins σ H s) (g : J H) {Q : Value → Shared → Prop} {E : Value → Shared → Prop}
    (hQ : ∀ i x v H' s', xs[i]? = some x → RelV x v → First ks xs.length i → J H' → Inv X pins σ H' s' → Q v s') :
    wpAny (model X.prog X.w) X.A (call (.builtin "min") [.ref a] [(Str.ofString "key", .ref f)]) Q E s := by
  have nm : (toString "min" ++ toString ".loop" : String) = "min.loop" := by decide
  obtain ⟨its, rv, p, hz⟩ := I.tuple (hJ H g)
  obtain ⟨y, hy⟩ : ∃ y, xs[0]? = some y := ⟨_, List.getElem?_eq_getElem hne⟩
  obtain ⟨u, hu, ru⟩ := rv.get hy
  refine kmk_tree PySem.F.kind_min PySem.F.plain_min PySem.F.entry_min (kmk_min_key _ _) ?_
  show wpAny _ X.A.in1 (Builtin.Builtins.bindParams "min" ["key", "default"] 0 ⟨[], [(Str.ofString "key", .ref f)]⟩ >>= _) _ _ s
  refine wpAny_bind (wpAny_of_eq (show Builtin.Builtins.bindParams "min" ["key", "default"] 0 ⟨[], [(Str.ofString "key", .ref f)]⟩ = pure [some (.ref f), none] from rfl) ?_)
  refine wpAny_bind (wpAny_pure ?_)
  refine wpAny_bind (wpAny_pyIter_tuple (show s.heap.IsTuple a its.toArray from p) ?_)
  refine wpAny_bind (wpAny_newList ?_ (Nat.zero_le _))
  rw [nm]
  refine wpAny_pure ⟨plainId_quiet PySem.F.plain_min_loop _, ?_⟩
  have hs1 : (s.heap.push { cls := .type "tuple_iterator", data := .fields #[.ref a, .int 0 0] }).objs.size = s.heap.objs.size + 1 := size_push' ..
  have hSI : (s.heap.push { cls := .type "tuple_iterator", data := .fields #[.ref a, .int 0 0] }).objs.size ≠ s.heap.objs.size := by rw [hs1]; exact Nat.ne_of_gt (Nat.lt_succ_self _)
  have I0 : Inv X pins σ H { s with heap := (s.heap.push { cls := .type "tuple_iterator", data := .fields #[.ref a, .int 0 0] }).push (seqObj "list" #[] 0) } := I.kept (t' := s.toks) fun b o e => Heap.get?_push_of_some _ (Heap.get?_push_of_some _ e)
  have oI : ∀ H', H' s.heap.objs.size = none → FpOk X pins H' s.heap.objs.size := fun H' n => I.fpOk (Nat.le_refl _) n
  have oS : ∀ H', H' (s.heap.push { cls := .type "tuple_iterator", data := .fields #[.ref a, .int 0 0] }).objs.size = none → FpOk X pins H' (s.heap.push { cls := .type "tuple_iterator", data := .fields #[.ref a, .int 0 0] }).objs.size := fun H' n => I.fpOk (by rw [hs1]; exact Nat.le_succ _) n
  have nI : H s.heap.objs.size = none := I.hok.fresh (Nat.le_refl _)
  have nS : H (s.heap.push { cls := .type "tuple_iterator", data := .fields #[.ref a, .int 0 0] }).objs.size = none := I.hok.fresh (by rw [hs1]; exact Nat.le_succ _)
  have g0 : ((s.heap.push { cls := .type "tuple_iterator", data := .fields #[.ref a, .int 0 0] }).push (seqObj "list" #[] 0)).IsTupleIter s.heap.objs.size a 0 := ⟨_, Heap.get?_push_of_some _ (Heap.get?_push_size _ rfl), rfl, rfl⟩
  have gS : ((s.heap.push { cls := .type "tuple_iterator", data := .fields #[.ref a, .int 0 0] }).push (seqObj "list" #[] 0)).get? (s.heap.push { cls := .type "tuple_iterator", data := .fields #[.ref a, .int 0 0] }).objs.size = some (seqObj "list" #[] 0) := Heap.get?_push_size _ rfl
  have f1 := oI H nI
  obtain ⟨its2, rv2, p2, _⟩ := I0.tuple (hJ H g)
  obtain ⟨u2, hu2, ru2⟩ := rv2.get hy
  refine codeAny_builtin PySem.F.entry_min_loop ?_
  rw [Around.under_plainId PySem.F.plain_min_loop _]
  show wpAny _ X.A.in1 (seqItems? (.ref _) >>= _) _ _ _
  refine wpAny_bind (wpAny_seqItems gS rfl ?_)
  show wpAny _ X.A.in1 (tryCatch (pyNext (.ref s.heap.objs.size)) _ >>= _) _ _ _
  refine wpAny_bind (wpAny_tryCatch (wpAny_pyNext_tuple_item g0 p2 (x := u2) (by simpa using hu2) fun h' gI1 sb => ?_))
  have I1 : Inv X pins σ H { s with heap := h' } := I0.turned (t' := s.toks) (fun b o hb e => (sb.2 b hb).trans e) f1.1 f1.2.1 f1.2.2.2.1 f1.2.2.2.2.1 f1.2.2.2.2.2
  have g1 := (sb.2 _ hSI).trans gS
  obtain ⟨ob, e1, e2, e3⟩ := id gI1
  have I2 := pinsSI I1 (oS H nS) f1 g1 e1 (fun v z => by cases z) (fun v z => by rw [e3] at z; cases z)
  show wpAny _ X.A.in1 (tryCatch (holding [u2] (call (.ref f) [u2])) _ >>= _) _ _ _
  refine wpAny_bind (wpAny_tryCatch (wpAny_holding (wpAny_mono (turn 0 y u2 hy ru2 _ _ H g (List.mem_append_left _ hf) I2) (fun z s2 he => ?_) fun _ _ q => q.elim)))
  obtain ⟨t2, H2, rfl, j2, I3⟩ := he
  have q1 := I3.pin (_, _) (List.mem_append_right _ (List.mem_append_right _ (.head _)))
  have q2 := I3.pin (s.heap.objs.size, _) (List.mem_append_right _ (List.mem_append_right _ (.tail _ (.head _))))
  have I4 : Inv X pins σ H2 s2 := I3.unpinned
  obtain ⟨c2, hc2⟩ : ∃ c2, (s2.heap.update (s.heap.push { cls := .type "tuple_iterator", data := .fields #[.ref a, .int 0 0] }).objs.size (Obj.mapSeq fun _ => #[u2, .int (ks 0) t2])).get? (s.heap.push { cls := .type "tuple_iterator", data := .fields #[.ref a, .int 0 0] }).objs.size = some (seqObj "list" #[u2, .int (ks 0) t2] c2) := ⟨_, get?_update_seq q1.1 fun _ => #[u2, .int (ks 0) t2]⟩
  have f2 := oS H2 q1.2.1
  refine wpAny_bind ?_
  refine wpAny_updateSeq q1.1 rfl ?_
  rw [nm]
  refine wpAny_pure ⟨plainId_quiet PySem.F.plain_min_loop _, keyLoop hc hJ hf turn oS oI hSI (fun i x v H' s' a1 a2 a3 a4 a5 => hQ i x v H' s' a1 a2 a3 a4 a5) _ 0 0 _ H2 u2 y t2 c2 rfl hne ?_ j2 q1.2.1 q2.2.1 hc2 ⟨ob, (Heap.get?_update_ne _ _ _ _ hSI.symm).trans q2.1, e2, e3⟩ hy ru2 (fun m hm => ?_) (Nat.le_refl _)⟩
  · exact I4.turned (t' := s2.toks) (fun b o hb e => (Heap.get?_update_ne _ _ _ _ hb).trans e) f2.1 f2.2.1 f2.2.2.2.1 f2.2.2.2.2.1 f2.2.2.2.2.2
  · obtain rfl : m = 0 := by omega
    exact ⟨Int.le_refl _, fun q => absurd q (Nat.lt_irrefl _)⟩
end
end LamK

namespace LamK
open PySem PySem.Spec PyProof.Rows L2 LamX
/-! ### a lambda is made: what becomes of the tables -/
/-- the table at P got one more entry, or nothing changed -/
def Made (P : Addr) (q : Str) (c : Addr) (H H1 : Hp) : Prop :=
  H1 c = some (CodeO c q) ∧ (H1 = H ∨ ∃ ps more : Array Value, H P = some (.tbl ps) ∧ H c = none ∧ H1 = upd (upd H P (.tbl (ps ++ more))) c (CodeO c q))
theorem Made.extN {P c : Addr} {q : Str} {H H1 : Hp} (m : Made P q c H H1) : ExtN H H1 := by
  rcases m.2 with rfl | ⟨ps, more, hP, nc, rfl⟩
  · exact .refl _
  · intro b o e nt
    have e1 : b ≠ P := fun z => by
      subst z; rw [hP] at e
      exact nt ps (Option.some.inj e).symm
    rw [upd_ne (ne_of_none e nc), upd_ne e1]
    exact e
theorem Made.tl {P c : Addr} {q : Str} {H H1 : Hp} (m : Made P q c H H1) (a : Addr) (rs : Array Value) (h : H a = some (.tbl rs)) : ∃ us, H1 a = some (.tbl us) := by
  rcases m.2 with rfl | ⟨ps, more, hP, nc, rfl⟩
  · exact ⟨rs, h⟩
  · rw [upd_ne (ne_of_none h nc)]
    by_cases z : a = P
    · subst z; rw [upd_same]; exact ⟨_, rfl⟩
    · rw [upd_ne z]; exact ⟨rs, h⟩
theorem codeO_nt {c : Addr} {q : Str} : ∀ ps : Array Value, CodeO c q ≠ .tbl ps := codeO_ne
section
variable {X : Cx} {pins : List (Addr × Obj)} {σ : L2.St} {H : Hp} {s : Shared}
theorem lam_done {T : List (Addr × Str)} {cd P : Addr} {prs : Arguments} {bd : Expr} {sc : Scope} {at_ : Pos} {E Q : Value → Shared → Prop} (J : Inv X pins σ H s) (TB : TabB X.base X.mg cd P) (hcd : X.env.code = .ref cd)
    (inT : (P, X.env.qual ++ "<lambda>") ∈ T) (only : ∀ p ∈ T, p.1 = P → p.2 = X.env.qual ++ "<lambda>") (tabs : Tabs T H) (nodef : defaultsOf prs X.env = ([], [])) (caps : ∀ y ∈ sc.names, y.2 = .free → ∃ c, X.env.cells.lookup y.1 = some c)
    (k : ∀ (f c : Addr) (pm ctv : Value) (H1 : Hp) (s1 : Shared), Inv X pins σ H1 s1 → Made P (X.env.qual ++ "<lambda>") c H H1 → Tabs T H1 → s.heap.objs.size ≤ f → s1.heap.get? f = some (PySem.W.kla_obj "<lambda>" (X.env.qual ++ "<lambda>") prs bd sc (cloFrom X.env.cells sc.names []) pm c ctv) → H1 f = none → f ∉ frs X.stack → Q (.ref f) s1) :
    wpAny (model X.prog X.w) X.A (eval (.Lambda prs bd sc at_) X.env) Q E s := by
  obtain ⟨tb, hP, tok, ent⟩ := tabs _ inT
  have bltP : s.heap.BuiltinsAt X.mg P := TB.bm.keeps J.bk
  have objP : s.heap.get? P = some { cls := .none, data := .fields tb } := J.hok P _ hP
  have young : ∀ f, s.heap.objs.size ≤ f → f ∉ frs X.stack := fun f le z => (List.mem_cons.mp (J.stkSub _ z)).elim (fun e => by have := J.lt; rw [← e] at this; exact absurd this (Nat.not_lt.mpr le)) (J.nofs le)
  refine PySem.W.kla_eval nodef ?_
  cases hit : codeAmong at_ tb.toList with
  | some cv =>
    obtain ⟨c, rfl, isc⟩ := ent at_ cv hit
    refine PySem.W.kla_makeFunctionHit (mg := X.mg) (c := cd) (P := P) (ps := tb) (closure_ok caps) J.ok.glob (J.mod.glob.keeps J.bk) hcd (TB.code.keeps J.bk) objP tok hit bltP fun ctv g tk grow le => ?_
    exact k g.objs.size c ((X.mg "__name__").getD .none) ctv H _ (J.kept fun b o e => Heap.get?_push_of_some _ (grow b o e)) ⟨isc, .inl rfl⟩ tabs le (Heap.get?_push_size _ rfl) (J.hok.fresh le) (young _ le)
  | none =>
    refine PySem.W.kla_makeFunction (mg := X.mg) (c := cd) (P := P) (ps := tb) (closure_ok caps) J.ok.glob (J.mod.glob.keeps J.bk) hcd (TB.code.keeps J.bk) objP tok hit TB.gP bltP fun c ctv g tk grow ge lt rec tbl => ?_
    obtain ⟨c2, oc, vs, t, e2, hoc, hd, hv⟩ := rec
    cases e2
    have le : s.heap.objs.size ≤ g.objs.size := Nat.le_trans ge (Nat.le_of_lt lt)
    have nc : H c = none := J.hok.fresh ge
    have nPc : P ≠ c := ne_of_none hP nc
    have J1 := inv_table (t' := tk) (more := #[rawInt at_.line, rawInt at_.col, .ref c]) (h' := g.push (PySem.W.kla_obj "<lambda>" (X.env.qual ++ "<lambda>") prs bd sc (cloFrom X.env.cells sc.names []) ((X.mg "__name__").getD .none) c ctv)) J hP
      (fun b o hb e => Heap.get?_push_of_some _ (grow b o hb e)) (Heap.get?_push_of_some _ tbl) ge ⟨oc, vs, t, Heap.get?_push_of_some _ hoc, hd, hv⟩
    have M : Made P (X.env.qual ++ "<lambda>") c H (upd (upd H P (.tbl (tb ++ #[rawInt at_.line, rawInt at_.col, .ref c]))) c (CodeO c (X.env.qual ++ "<lambda>"))) := ⟨upd_same, .inr ⟨tb, _, hP, nc, rfl⟩⟩
    have eL : (tb ++ #[rawInt at_.line, rawInt at_.col, .ref c]).toList = tb.toList ++ [rawInt at_.line, rawInt at_.col, .ref c] := by simp
    refine k g.objs.size c ((X.mg "__name__").getD .none) ctv _ _ J1 M (fun p hp => ?_) le (Heap.get?_push_size _ rfl) ?_ (young _ le)
    · by_cases hb : p.1 = P
      · rw [only p hp hb, hb]
        refine ⟨_, by rw [upd_ne nPc, upd_same], by rw [eL]; exact PySem.TriplesOk_snoc _ _ _ _ tok, fun p' cv hcv => ?_⟩
        rw [eL] at hcv
        rcases among_app _ tok hcv with z | z
        · obtain ⟨c0, e1, e2⟩ := ent p' cv z
          exact ⟨c0, e1, M.extN _ _ e2 codeO_nt⟩
        · exact ⟨c, z, upd_same⟩
      · obtain ⟨ps', a1, a2, a3⟩ := tabs p hp
        refine ⟨ps', by rw [upd_ne (ne_of_none a1 nc), upd_ne hb]; exact a1, a2, fun p' cv hcv => ?_⟩
        obtain ⟨c0, e1, e2⟩ := a3 p' cv hcv
        exact ⟨c0, e1, M.extN _ _ e2 codeO_nt⟩
    · have n1 : g.objs.size ≠ c := Nat.ne_of_gt lt
      have n2 : g.objs.size ≠ P := Nat.ne_of_gt (Nat.lt_of_lt_of_le (Heap.lt_size objP) le)
      rw [upd_ne n1, upd_ne n2]
      exact J.hok.fresh le
end
end LamK
namespace MV
open PySem L2 LamX
variable [TB]
variable {K : PySem.W.Frag} {mg : Str → Option Value} {I H H1 : Hp} {e : Env} {Fs : Fp} {σ : L2.St}
/-- the making of a lambda leaves the state as it is -/
theorem Rel.lam {P c : Addr} {q : Str} (R : Rel K mg I e Fs σ H) (m : LamK.Made P q c H H1) (t : Tabs TB.T H1) (hP : ∃ q', (P, q') ∈ TB.T) : Rel K mg I e Fs σ H1 ∧ Ext Fs I H Fs I H1 := by
  have ex : ∀ M : Addr → Prop, Gx M I H I H1 := fun M => ⟨Ex.refl _, fun a o h _ nt => m.extN a o h nt, fun a h => .inl h, fun tb => ⟨t, tb.2⟩, fun a ps h _ => m.tl a ps h⟩
  have sub : Ex I H1 := fun a o h => by
    have h1 := R.sub a o h
    rcases m.2 with z | ⟨ps, more, hp, nc, z⟩
    · rw [z]; exact h1
    · subst z
      obtain ⟨q', hq⟩ := hP
      have e1 : a ≠ P := fun z => by
        subst z
        rw [R.tb.2 _ hq] at h
        cases h
      rw [upd_ne (ne_of_none h1 nc), upd_ne e1]
      exact h1
  exact ⟨R.frame (ex fun _ => False) sub fun _ _ z => z, ⟨ex _, fun a h => .inl h⟩⟩
end MV

namespace MV
open PySem PySem.Spec PyProof.Rows L2 LamX LamK
variable [TB]
/-! ### min(t, key=lambda y: ..) -/
/-- a def whose text makes lambdas: its code object and its table -/
structure LamF (K : PySem.W.Frag) (mg : Str → Option Value) (base : Heap) (p : He.Defn) (q : Str) : Prop where
  tb : TabB base mg (He.codeOf K p) (He.tabOf K (He.codeOf K p))
  mem : (He.tabOf K (He.codeOf K p), q) ∈ TB.T
  only : ∀ r ∈ TB.T, r.1 = He.tabOf K (He.codeOf K p) → r.2 = q
def kInt : D → Option Int
  | .int n => some n
  | _ => none
def keyL (j : Nat) (fb : P D) (e : Env) : List D → Option (List Int)
  | [] => some []
  | d :: r => ((fb (e.set j (some (.p d)))).bind kInt).bind fun k => (keyL j fb e r).map (k :: ·)
def bk : Int → D → List Int → List D → D
  | k, d, k' :: ks, d' :: ds => if k' < k then bk k' d' ks ds else bk k d ks ds
  | _, d, _, _ => d
def bestK : List Int → List D → Option D
  | k :: ks, d :: ds => some (bk k d ks ds)
  | _, _ => none
def minT (j : Nat) (fb : P D) (e : Env) : D → Option D
  | .tup ds => (keyL j fb e ds).bind fun ks => bestK ks ds
  | _ => none
def mMinKey (j : Nat) (fb : P D) (mt : M D) : M D := fun e => (mt e).bind fun x => (minT j fb x.2 x.1).map fun d => (d, x.2)
theorem keyL_get {j : Nat} {fb : P D} {e : Env} : ∀ {ds : List D} {ks : List Int}, keyL j fb e ds = some ks → ks.length = ds.length ∧ ∀ (i : Nat) (d : D), ds[i]? = some d → ∃ k, ks[i]? = some k ∧ fb (e.set j (some (.p d))) = some (.int k)
  | [], ks, h => by
    cases h
    exact ⟨rfl, fun i d q => by simp at q⟩
  | d :: r, ks, h => by
    obtain ⟨k, h1, h⟩ := Option.bind_eq_some_iff.mp h
    obtain ⟨l, h2, h⟩ := Option.map_eq_some_iff.mp h
    subst h
    obtain ⟨z, h3, h4⟩ := Option.bind_eq_some_iff.mp h1
    have hz : z = .int k := by
      cases z with
      | int n => cases h4; rfl
      | _ => cases h4
    subst hz
    obtain ⟨a, b⟩ := keyL_get h2
    refine ⟨by simp [a], fun i y q => ?_⟩
    cases i with
    | zero => cases q; exact ⟨k, rfl, h3⟩
    | succ i => exact b i y q
theorem bk_first : ∀ (ks : List Int) (ds : List D) (k : Int) (d : D) (i : Nat), ks.length = ds.length → i < ks.length + 1 → First (fun m => ((k :: ks)[m]?).getD 0) (ks.length + 1) i → (d :: ds)[i]? = some (bk k d ks ds)
  | [], [], k, d, i, hl, hi, h => by
    obtain rfl : i = 0 := by simp at hi; exact hi
    rfl
  | [], _ :: _, k, d, i, hl, hi, h => by simp at hl
  | _ :: _, [], k, d, i, hl, hi, h => by simp at hl
  | k' :: ks, d' :: ds, k, d, i, hl, hi, h => by
    have hl' : ks.length = ds.length := by simpa using hl
    simp only [bk]
    have at0 := h 0 (by simp)
    have at1 := h 1 (by simp)
    simp only [List.getElem?_cons_zero, List.getElem?_cons_succ, Option.getD_some] at at0 at1
    have rest : ∀ m, m < ks.length → (((k :: k' :: ks)[i]?).getD 0) ≤ (ks[m]?).getD 0 ∧ (m + 2 < i → (((k :: k' :: ks)[i]?).getD 0) < (ks[m]?).getD 0) := fun m hm => by
      have := h (m + 2) (by simp; omega)
      simpa using this
    rcases i with _ | _ | i
    · have nl : ¬ k' < k := by
        have := at1.1
        simp at this
        omega
      rw [if_neg nl]
      have := bk_first ks ds k d 0 hl' (by omega) fun m hm => by
        cases m with
        | zero => exact ⟨Int.le_refl _, fun q => absurd q (Nat.lt_irrefl _)⟩
        | succ m =>
          have := (rest m (by omega)).1
          exact ⟨by simpa using this, fun q => absurd q (by omega)⟩
      simpa using this
    · have hlt : k' < k := by
        have := at0.2 (by omega)
        simpa using this
      rw [if_pos hlt]
      have := bk_first ks ds k' d' 0 hl' (by omega) fun m hm => by
        cases m with
        | zero => exact ⟨Int.le_refl _, fun q => absurd q (Nat.lt_irrefl _)⟩
        | succ m =>
          have := (rest m (by omega)).1
          exact ⟨by simpa using this, fun q => absurd q (by omega)⟩
      simpa using this
    · have a0 := at0.2 (by omega)
      have a1 := at1.2 (by omega)
      simp only [List.getElem?_cons_succ] at a0 a1 rest
      have go : ∀ (b : Int) (x : D), ((ks[i]?).getD 0) < b → (x :: ds)[i + 1]? = some (bk b x ks ds) := fun b x hb => by
        refine bk_first ks ds b x (i + 1) hl' (by simp at hi; omega) fun m hm => ?_
        cases m with
        | zero => exact ⟨by simp; omega, fun _ => by simp; omega⟩
        | succ m =>
          have := rest m (by omega)
          exact ⟨by simpa using this.1, fun q => by simpa using this.2 (by omega)⟩
      by_cases q : k' < k
      · rw [if_pos q]
        have := go k' d' a1
        simpa using this
      · rw [if_neg q]
        have := go k d a0
        simpa using this
end MV

namespace MV
open PySem PySem.Spec PyProof.Rows L2 LamX LamK
variable [TB]
theorem RpL.back_ {K : PySem.W.Frag} {mg : Str → Option Value} {I : Hp} : ∀ {ds : List D} {xs : List V} {i : Nat} {x : V}, RpL K mg I ds xs → xs[i]? = some x → ∃ d, ds[i]? = some d ∧ Rp K mg I d x
  | [], xs, i, x, h, e => by
    simp only [RpL] at h
    subst h
    simp at e
  | d :: ds, xs, i, x, h, e => by
    simp only [RpL] at h
    obtain ⟨y, r, rfl, h1, h2⟩ := h
    cases i with
    | zero => cases e; exact ⟨d, rfl, h1⟩
    | succ i => exact RpL.back_ (ds := ds) (xs := r) (i := i) h2 e
theorem se_minKey {X : Cx} {ex body : Expr} {params : Arguments} {scope : Scope} {nm : Str} {p lp kp pos : Pos} {j : Nat} {y q : Str} {fb : P D} {mt : M D} {c : Addr} {df : He.Defn}
    (hc : X.calm = true) (nd : X.N.Nodup) (hj : X.N[j]? = some y) (hg : Gl X nm) (hm : X.mg nm = none) (hv : bootBuiltins nm = some (.builtin "min")) (he : SE X ex mt) (hcode : X.env.code = .ref c) (hcc : c = He.codeOf X.K df) (hq : X.env.qual ++ "<lambda>" = q) (LF : LamF X.K X.mg X.base df q)
    (L : LamP X.env.scope scope y) (hdef : defaultsOf params X.env = ([], [])) (hr : Room 2 X.A)
    (hbind : ∀ (q : Str) (cl : List (Str × Addr)) (pm cv ctv u : Value), bindArgs (PySem.W.kla_fn "<lambda>" q params body scope cl pm cv ctv) ⟨[u], []⟩ = pure [(y, u)])
    (hb : ∀ (A : Around) (s : Shared) (H : Hp) (E : XK) (f c' : Addr), Room 0 (A.deeper (lamEnv X scope s.heap.objs.size f c')) → SV (lamCx X A X.stack s H E scope f c') body fb)
    (hn : nm ≠ "__name__" := by decide) (hdb : (nm == ("__debug__" : Str)) = false := by decide)
    (hs : starEach [ex] X.env = (false, eval ex X.env) :: starEach [] X.env := by rfl)
    (h1 : backTo pos (starEach [ex] X.env) = (false, eval ex X.env) :: backTo pos (starEach [] X.env) := by rfl) (h2 : (backTo pos (starEach [ex] X.env)).any (·.1) = false := by rfl)
    (h3 : (backToKw pos (keywordEach [⟨some "key", .Lambda params body scope lp, kp⟩] X.env)).all (·.1.isSome) = true := by rfl) (h4 : (backToKw pos (keywordEach [⟨some "key", .Lambda params body scope lp, kp⟩] X.env)).any (·.1.isNone) = false := by rfl)
    (h5 : (backToKw pos (keywordEach [⟨some "key", .Lambda params body scope lp, kp⟩] X.env)).filterMap (·.1) = [Str.ofString "key"] := by rfl) :
    SE X (.Call (.Name nm p) [ex] [⟨some "key", .Lambda params body scope lp, kp⟩] pos) (mMinKey j fb mt) := by
  refine ⟨fun pins s σ H Q I h => ?_⟩
  obtain ⟨I0, e, Fs, R, d, e', hmm, k⟩ := h
  obtain ⟨⟨dt, e1⟩, hmt, hmm⟩ := Option.bind_eq_some_iff.mp hmm
  obtain ⟨db, hmin, hmm⟩ := Option.map_eq_some_iff.mp hmm
  cases hmm
  cases dt with
  | tup ds => _
  | _ => cases hmin
  obtain ⟨ks, hks, hbest⟩ := Option.bind_eq_some_iff.mp hmin
  obtain ⟨lk, getk⟩ := keyL_get hks
  refine wpAny_Call_Name_kw (ld_blt I hg hm hv ?_ hn hdb)
  refine PyProof.Rows.callWith_kw (thn ((pa_one he hs).run pos pins s σ H (fun vs H1 => ∃ v I1 F1, vs = [v] ∧ Rel X.K X.mg I1 e1 F1 σ H1 ∧ Ext Fs I0 H F1 I1 H1 ∧ Rp X.K X.mg I1 (.tup ds) v) I ⟨I0, e, Fs, R, _, e1, hmt, fun v I1 F1 H1 R1 x1 r1 => ⟨v, I1, F1, rfl, R1, x1, r1⟩⟩) fun us s1 ⟨vs, H1, I1, r1, v, J1, F1, hvs, R1, x1, rt⟩ => ?_) h1 h2 h3 h4
  subst hvs
  simp only [Rp] at rt
  obtain ⟨a, xs, rfl, hT, rl⟩ := rt
  rw [Vals.ref1 r1]
  refine kws_cons (lam_done I1 LF.tb (hcode.trans (by rw [hcc])) (by rw [hq]; exact LF.mem) (by rw [hq]; exact LF.only) R1.tb.1 hdef (L.has I1.ok) fun f c' pm ctv H2 s2 I2 M T2 le hf hfn hfr => ?_)
  refine kws_nil ?_
  rw [h5]
  have nfs : f ∉ X.fs := I1.nofs le
  have nL : f ≠ X.env.locals := fun z => by have := I1.lt; rw [← z] at this; exact absurd this (Nat.not_lt.mpr le)
  obtain ⟨R2, x2⟩ := R1.lam M T2 ⟨q, LF.mem⟩
  have I3 : Inv X (pins ++ [(f, PySem.W.kla_obj "<lambda>" (X.env.qual ++ "<lambda>") params body scope (cloFrom X.env.cells scope.names []) pm c' ctv)]) σ H2 s2 := I2.pins_of fun w hw => by
    rcases List.mem_append.mp hw with hw | hw
    · exact I2.pin w (List.mem_append_right _ hw)
    · rw [List.mem_singleton.mp hw]
      exact ⟨hf, hfn, nL, nfs, fun v z => by cases z⟩
  have ln : xs.length = ds.length := rl.length.symm
  have hne : 0 < xs.length := by
    rw [ln]
    cases ds with
    | nil => cases ks <;> cases hbest
    | cons d ds => simp
  refine min_key (J := fun H' => ∃ I', Rel X.K X.mg I' e1 F1 σ H' ∧ Ext F1 J1 H1 F1 I' H' ∧ H' c' = some (CodeO c' (X.env.qual ++ "<lambda>"))) (xs := xs) (ks := fun i => (ks[i]?).getD 0) hc (fun H' ⟨I', R', x', _⟩ => ex_t R'.sub (ex_t x'.g.ex hT)) (fun i x u hx rx pl s' H' ⟨I', R', x', hc'⟩ hpl Ip => ?_) hne (List.mem_append_right _ (.head _)) I3 ⟨J1, R2, x2, M.1⟩ fun i x v H' s' hx rx hF ⟨I', R', x', _⟩ I9 => ?_
  · obtain ⟨di, hdi, rdi⟩ := RpL.back_ rl hx
    obtain ⟨ki, hki, hfb⟩ := getk i di hdi
    have rr : Room 1 X.A.in1 := Room.in1 (k := 1) hr
    refine wpAny_mono (lamP_call Ip L rfl rr (Ip.pin _ (List.mem_append_right _ hpl)).1 hc' (hbind _ _ _ _ _ _) hj nd rx (hb _ _ _ _ _ _ (Room.deeper (k := 0) rr _)) (Q := fun z H'' => z = .int ki ∧ ∃ I'', Rel X.K X.mg I'' e1 F1 σ H'' ∧ Ext F1 J1 H1 F1 I'' H'' ∧ H'' c' = some (CodeO c' (X.env.qual ++ "<lambda>")))
      ⟨I', _, _, R'.putD (Rp.mono x'.g.ex _ _ rdi), .int ki, hfb, fun z I'' H'' g r => ?_⟩) (fun z s'' hz => ?_) fun _ _ q => q
    · simp only [Rp] at r
      obtain ⟨R'', x''⟩ := g.rel R'
      exact ⟨r, I'', R'', x'.trans x'', g.heap _ _ hc'⟩
    · obtain ⟨w, H'', J'', rw', rfl, hJ⟩ := hz
      obtain ⟨t, rfl⟩ := rw'
      exact ⟨t, H'', by show Value.int ki t = Value.int ((ks[i]?).getD 0) t; rw [hki]; rfl, hJ, J''⟩
  · obtain ⟨di, hdi, rdi⟩ := RpL.back_ rl hx
    have hd : ds[i]? = some d := by
      cases ks with
      | nil => cases ds <;> cases hbest
      | cons k0 kr =>
        cases ds with
        | nil => cases hbest
        | cons d0 dr =>
          cases hbest
          have l2 : kr.length = dr.length := by simpa using lk
          have hi : i < kr.length + 1 := by
            have := (List.getElem?_eq_some_iff.mp hdi).1
            simp at this
            omega
          exact bk_first kr dr k0 d0 i l2 hi (by rw [ln] at hF; simpa [l2] using hF)
    rw [hd] at hdi
    cases hdi
    exact ⟨x, H', I9.unpinned, rx, k x _ F1 H' R' (x1.trans x') (Rp.mono x'.g.ex _ _ rdi)⟩
end MV

namespace MV
open PySem L2 LamX
variable [TB]
variable {P : Program} {w : World} {K : PySem.W.Frag} {mg : Str → Option Value} {base : Heap}
/-- a def whose text makes lambdas: its code object is told -/
theorem fn_semL {x qual : Str} {params : Arguments} {body : List Stmt} {scope : Scope} {dvs : List V} {kws : List (Str × V)} {fd : FuncData} {N ps : List Str} {k : Nat} {io : List Bool} {m : S} (df : He.Defn)
    (F : FunD K x qual params body scope dvs kws (He.fAd K df) fd) (Sc : FnScope N ps scope) (hio : io.length = ps.length)
    (hb : ∀ (cdv : Value) (hcd : cdv = .ref (He.codeOf K df)) (A : Around) (outer : List PySem.Env) (s : Shared) (H : Hp) (E : XK), Room k (A.deeper (PyProof.Rows.envOfC qual scope s.heap.objs.size (He.fAd K df) cdv)) →
      Ctz (cxOf (L2N.CX P w) P w K mg base N qual scope (He.fAd K df) cdv A outer s H E) (WB E) → SB (cxOf (L2N.CX P w) P w K mg base N qual scope (He.fAd K df) cdv A outer s H E) (ioA io) (WB E) body m) :
    FnOk P w K mg base (L2N.CX P w) (k + 1) (He.fAd K df) fd ps (spF K mg ps.length (fsem N.length io m)) := by
  have hpl : ps.length ≤ N.length := by have := congrArg List.length Sc.pre; rw [List.length_take] at this; omega
  obtain ⟨oc, od, dV, kV, doc, pm, an, cdv, ct, osl, rfl, lk, hcd, _, _⟩ := F.ex
  obtain ⟨c, hc⟩ := He.codeIn_ref hcd
  have e : cdv = .ref (He.codeOf K df) := by rw [hc, He.codeOf_eq lk (c := c) hc]
  refine fn_of lk hcd Sc (fun vs H Q E h => spF_len h) fun A outer s H vs Q E hr h => ?_
  exact ⟨tS K mg (ioA io) (WB E) m, hb cdv e A outer s H E hr Ctz.body, fsem_run hio hpl h⟩
theorem tabs_new {cs : List (Addr × Str)} {H : Hp} (h : ∀ p ∈ cs, H p.1 = some (.tbl #[])) : LamX.Tabs cs H := fun p hp => .nil (h p hp)
/-- the facts of a def that makes lambdas, at the law's end -/
theorem lamF_of {df : He.Defn} {q : Str} (h : ∀ p ∈ [He.cT K df], TabB base mg p.1 p.2) (hm : (He.tabOf K (He.codeOf K df), q) ∈ TB.T) (ho : ∀ r ∈ TB.T, r.1 = He.tabOf K (He.codeOf K df) → r.2 = q) : LamF K mg base df q :=
  ⟨h _ (.head _), hm, ho⟩
end MV

namespace SrtT
open PySem PySem.Spec PyProof.Rows L2 Srt SrtO
section
variable {prog : Program} {w : World} {A : Around} {E : Value → Shared → Prop} {s : Shared}
/-- what collect leaves behind -/
abbrev gath (h : Heap) (vs : List Value) : Heap := (h.push (seqObj "list" #[] 0)).update h.objs.size (Obj.mapSeq (· ++ vs.toArray))
theorem gath_size (h : Heap) (vs : List Value) : (gath h vs).objs.size = h.objs.size + 1 := by rw [Heap.size_update, size_push']
theorem gath_old {h : Heap} {vs : List Value} {b : Addr} {o : Obj} (e : h.get? b = some o) : (gath h vs).get? b = some o := by
  have lt := Heap.lt_size e
  exact (Heap.get?_update_ne _ _ _ _ (Nat.ne_of_lt lt)).trans (Heap.get?_push_of_some _ e)
/-- the items of a tuple are gathered into a new list -/
theorem gather_tup {t : Addr} {vs : List Value} {Q : List Value → Shared → Prop} (ht : s.heap.IsTuple t vs.toArray) (hz : vs.length ≤ sizeLine) (h : Q vs { s with heap := gath s.heap vs }) : wpAny (model prog w) A (collect (.ref t)) Q E s := by
  obtain ⟨o, g, cl, n, dt⟩ := id ht
  have g1 : (s.heap.push (seqObj "list" #[] 0)).get? t = some o := Heap.get?_push_of_some _ g
  have room : (#[] ++ vs.toArray : Array Value).size ≤ sizeLine + 1 := by
    simp only [Array.size_append, List.size_toArray, List.length_nil]
    omega
  have isT : (Value.type "tuple" == Value.type "tuple") = true := by rfl
  unfold collect
  refine wpAny_bind (wpAny_runValue (codeAny_builtin entry_proto_collect' ?_))
  show wpAny _ _ (do again (.builtin "list.__iadd__" ⟨[← newList [], .ref t], []⟩)) _ _ s
  refine wpAny_bind (wpAny_newList (wpAny_pure ⟨Code.quiet_builtin _ (by decide +kernel), codeAny_builtin entry_list_iadd' ?_⟩))
  show wpAny _ _ (Builtin.List.listExtendWith (.ref s.heap.objs.size) (.ref t) (.ref s.heap.objs.size)) _ _ { s with heap := s.heap.push (seqObj "list" #[] 0) }
  unfold Builtin.List.listExtendWith
  refine wpAny_bind (wpAny_typeOf (T := "tuple") ⟨o, g1, cl⟩ ?_)
  rw [if_pos (by rw [isT]; simp)]
  refine wpAny_bind (listItems_at g1 dt (wpAny_bind (listItems_at (xs := #[]) (n := 0) (Heap.get?_push_size _ rfl) rfl ?_)))
  rw [if_neg (by simp)]
  refine wpAny_bind (listUpdate_at (xs := #[]) (n := 0) (Heap.get?_push_size _ rfl) rfl ?_ (Nat.zero_le _) room)
  refine wpAny_pure ?_
  refine wpAny_bind (wpAny_load (get?_update_seq (Heap.get?_push_size _ rfl) _) ?_)
  have e : ((#[] : Array Value) ++ vs.toArray).toList = vs := by simp
  show wpAny _ _ (pure ((#[] : Array Value) ++ vs.toArray).toList) Q E _
  rw [e]
  exact wpAny_pure h
theorem sorted_tup {t : Addr} {vs : List Value} {ltv : Value → Value → Bool} {Q : Value → Shared → Prop} (O : Swo ltv) (ht : s.heap.IsTuple t vs.toArray) (hz : vs.length ≤ sizeLine)
    (can : 2 ≤ vs.length → ∀ (h₁ : Heap) (a : Addr), SortableO prog w A.in1.in1 { s with heap := h₁ } a vs ltv)
    (h : ∀ out : List Value, Srtd ltv out → Stb ltv out vs → Q (.ref (s.heap.objs.size + 1)) { s with heap := sortedAll s.heap vs out.toArray }) :
    wpAny (model prog w) A (call (.builtin "sorted") [.ref t]) Q E s := by
  have at_ : ((gath s.heap vs).push (seqObj "list" vs.toArray 0)).get? (s.heap.objs.size + 1) = some (seqObj "list" vs.toArray 0) := by
    rw [← gath_size s.heap vs]; exact Heap.get?_push_size _ rfl
  refine Calls.call_function_entry kind_sorted plain_sorted entry_sorted (args_sorted1 _) ?_
  unfold Builtin.«sorted»
  refine wpAny_bind (m := checkCount "sorted" 1 1 _) (wpAny_pure (wpAny_bind (gather_tup ht hz (wpAny_bind (wpAny_newList ?_ hz)))))
  show wpAny _ _ _ _ _ { s with heap := (gath s.heap vs).push (seqObj "list" vs.toArray 0) }
  rw [gath_size]
  exact wpAny_bind (wpAny_holding (wpAny_call_entry slot_list_sort ⟨_, at_, rfl⟩ entry_list_sort (list_sort_ord O at_ hz (fun h2 => can h2 _ _) fun out a b => ⟨_, rfl, wpAny_pure ⟨_, rfl, h out a b⟩⟩) (args_list_sort _)))
end
/-- sorted(t), a tuple of ints -/
def rSortTp (K : PySem.W.Frag) : List V → Hp → VK → Prop := fun vs H Q => ∃ (a : Addr) (ns : List Int), vs = [V.ref a] ∧ SqT K H a (ns.map V.int) ∧
  ∀ (ns' : List Int) (p : Addr), ns'.Perm ns → ns'.Pairwise (· ≤ ·) → H p = none → Q (.ref p) (upd H p (.lst (ns'.map V.int)))
theorem cr_sortTp {X : Cx} : CallR X (.builtin "sorted") (rSortTp X.K) := by
  intro pins s σ H vs us Q I r h
  obtain ⟨a, ns, rfl, hs, q⟩ := h
  obtain ⟨its, rv, ht, hz⟩ := I.tuple hs
  rw [Vals.ref1 r]
  have hi := rv.ints
  refine sorted_tup swo_int ht (by rw [← rv.length]; exact hz) (fun h2 h₁ a' => ints_sortable hi h2) fun out h1 h2 => ?_
  obtain ⟨k1, k2, k3⟩ := ints_out hi h1 h2
  obtain ⟨ep, he⟩ := sortedAll_at s.heap its out.toArray
  have len : ((out.map iv).map V.int).length ≤ sizeLine := by
    rw [List.length_map] at hz
    rw [List.length_map, k2.length_eq]; exact hz
  exact ⟨.ref _, upd H (s.heap.objs.size + 1) (.lst ((out.map iv).map V.int)), I.laid (t' := s.toks) (fun _ _ => sortedAll_old) (Nat.le_succ _) ⟨len, out, ep, vals_of_ints k1, he⟩, rfl, q _ _ k2 k3 (I.hok.fresh (Nat.le_succ _))⟩
end SrtT
namespace MV
open PySem L2
variable [TB]
/-- sorted of a list or a tuple of ints, any number of them -/
def fSortA : List D → Option D
  | [.lst ds] => (intsD ds).bind fun ns => some (.lst ((isort ns).map .int))
  | [.tup ds] => (intsD ds).bind fun ns => some (.lst ((isort ns).map .int))
  | _ => none
def rSortA (K : PySem.W.Frag) : List V → Hp → VK → Prop := fun vs H Q => rSortedI K vs H Q ∨ SrtT.rSortTp K vs H Q
theorem cr_sortA {X : Cx} : CallR X (.builtin "sorted") (rSortA X.K) := by
  intro pins s σ H vs us Q I r h
  rcases h with h | h
  · exact cr_sortedI pins s σ H vs us Q I r h
  · exact SrtT.cr_sortTp pins s σ H vs us Q I r h
theorem cd_sortA {K : PySem.W.Frag} {mg : Str → Option Value} : CallD K mg (rSortA K) fSortA := by
  intro I H ds z vs Q s r e k
  unfold fSortA at e
  split at e
  · obtain ⟨ns, e1, e⟩ := Option.bind_eq_some_iff.mp e
    cases e
    obtain ⟨v, rfl, h⟩ := r.one
    simp only [Rp] at h
    obtain ⟨a, xs, rfl, h1, h2⟩ := h
    have := ints_v e1 h2
    subst this
    refine .inl ⟨a, ns, rfl, .of (s _ _ h1), fun ys p hp hs hn => ?_⟩
    rw [sorted_is hp hs]
    exact k _ _ _ (.new p _ hn) (rp_lst s hn (rpl_ints _))
  · obtain ⟨ns, e1, e⟩ := Option.bind_eq_some_iff.mp e
    cases e
    obtain ⟨v, rfl, h⟩ := r.one
    simp only [Rp] at h
    obtain ⟨a, xs, rfl, h1, h2⟩ := h
    have := ints_v e1 h2
    subst this
    refine .inr ⟨a, ns, rfl, ex_t s h1, fun ys p hp hs hn => ?_⟩
    rw [sorted_is hp hs]
    exact k _ _ _ (.new p _ hn) (rp_lst s hn (rpl_ints _))
  · cases e
end MV

namespace MV
open PySem L2
variable [TB]
/-! ### enumerate over a tuple -/
/-- (number, item) of the tuple at a, each in a new pair -/
def IteT (K : PySem.W.Frag) (a : Addr) : It :=
  ⟨fun i H => ∃ (xs : List V) (x : V), SqT K H a xs ∧ xs[i]? = some x, fun i H v H' => ∃ T x, v = .ref T ∧ H T = none ∧ H' = upd H T (.tup [.int (i : Nat), x]) ∧ ∀ xs, SqT K H a xs → xs[i]? = some x, fun i H => ∃ xs : List V, SqT K H a xs ∧ xs.length ≤ i⟩
/-- nothing is left to draw -/
theorem draws_end {prog : Program} {w : World} {A : Around} (hh : A.handled = none) (it t : Addr) (items : Array Value) (n : Nat) (hn : items[n]? = none) :
    Draws prog w A it [it, t] n (fun _ _ => True) (fun j h => j = n ∧ h.IsTupleIter it t n ∧ h.IsTuple t items) where
  live := fun _ _ st => let ⟨o, ho, _⟩ := st.2.1; ⟨o, ho⟩
  frame := fun _ _ _ st hk => ⟨st.1, st.2.1.at fun o e => hk it (by simp) o e, st.2.2.at fun o e => hk t (by simp) o e⟩
  item := fun i s Q E hi st _ => absurd st.1 (Nat.ne_of_lt hi)
  done := fun s Q E st hE => wpAny_nextOf_tuple_end hh st.2.1 st.2.2 hn hE
theorem turn_enumT {P : Program} {w : World} {K : PySem.W.Frag} {elts : List Expr} {kk : Nat} {tpos : Pos} {a : Addr} (e it : Addr) (hei : e ≠ it) (hea : e ≠ a) (hai : a ≠ it) :
    Turn P w K (.Tuple elts kk tpos) (IteT K a) [e, it] e (fun i h => (∃ old, IsEnum h e it ((i : Nat) : Int) old) ∧ h.IsTupleIter it a i) where
  mem := by simp
  obj := fun i h st b hb => by
    obtain ⟨⟨old, he⟩, ⟨o, ho, hc, hd⟩⟩ := st
    have e' : b = e ∨ b = it := by simpa using hb
    rcases e' with z | z
    · rw [z]; exact ⟨_, he, fun v q => nomatch q⟩
    · rw [z]; exact ⟨o, ho, fun v q => by rw [hd] at q; cases q⟩
  keep := fun i h h' st k => ⟨let ⟨old, he⟩ := st.1; ⟨old, k e (by simp) _ he⟩, st.2.at fun o q => k it (by simp) o q⟩
  item := by
    intro X hP hw hK hc i pins s σ H E I hf st hg
    subst hP hw hK
    obtain ⟨⟨old, he⟩, hit⟩ := st
    obtain ⟨xs, x, hq, hx⟩ := hg
    obtain ⟨its, rv, p, hz⟩ := I.tuple hq
    obtain ⟨u, hu, ru⟩ := rv.get hx
    have hel : e < s.heap.objs.size := Heap.lt_size he
    have hil' : it < s.heap.objs.size := by obtain ⟨_, q, _⟩ := hit; exact Heap.lt_size q
    have hil : i < its.toArray.size := by
      have := (List.getElem?_eq_some_iff.mp hu).1
      simpa using this
    refine wpAny_pyNext_enum_itemD (Draws.tuple (prog := X.prog) (w := X.w) (A := X.A.in1) (I.ok.hd hc) it a hai its.toArray) he ⟨hit, p⟩ hil hei (by simp [hei, hea]) fun y h' tk hy ho hst' hT hsz' hk => ?_
    have hyu : y = u := by
      have h1 : its.toArray[i]? = some y := hy
      have h2 : its.toArray[i]? = some u := by simpa using hu
      rw [h1] at h2
      exact Option.some.inj h2
    subst hyu
    refine ⟨_, rfl, wpAny_letOwnedTupleGo_enum (s := { s with heap := h', toks := tk + 1 }) ho fun h'' he' sb => ?_⟩
    have hT2 : h''.get? s.heap.objs.size = some { cls := .type "tuple", data := .seq #[.int i tk, y] } := (sb.2 _ (Nat.ne_of_gt hel)).trans hT
    have new : ObjOk X.prog X.w (upd H s.heap.objs.size (.tup [.int (i : Nat), x])) h'' s.heap.objs.size (.tup [.int (i : Nat), x]) :=
      ⟨by show 2 ≤ sizeLine; decide, [.int i tk, y], .cons ⟨_, rfl⟩ (.cons ru .nil), ⟨_, hT2, rfl, _, rfl⟩⟩
    have I1 : Inv X pins σ (upd H s.heap.objs.size (.tup [.int (i : Nat), x])) { s with heap := h'', toks := tk + 1 } :=
      I.turnedNew (ch := [e, it]) (fun b ob hb q => (sb.2 b (fun z => hb (by simp [z]))).trans (hk b ob (fun z => hb (by simp [z])) (fun z => hb (by simp [z])) q)) hf (Nat.le_refl _) new
    refine ⟨.ref s.heap.objs.size, _, I1, rfl, ⟨_, x, rfl, I.hok.fresh (Nat.le_refl _), rfl, fun ys hy => by rw [I.tuple_inj hy hq]; exact hx⟩, ⟨⟨y, ?_⟩, hst'.1.at fun o q => (sb.2 it (Ne.symm hei)).trans q⟩, fun b hb => ?_⟩
    · have e1 : ((i + 1 : Nat) : Int) = (i : Int) + 1 := by omega
      rw [e1]; exact he'
    · have hb' : b < s.heap.objs.size := by
        have e' : b = e ∨ b = it := by simpa using hb
        rcases e' with z | z
        · rw [z]; exact hel
        · rw [z]; exact hil'
      rw [upd_ne (Nat.ne_of_lt hb')]
      exact (hf b hb).1
  done := by
    intro X hP hw hK hc i pins s σ H E I hf st hg
    subst hP hw hK
    obtain ⟨⟨old, he⟩, hit⟩ := st
    obtain ⟨xs, hq, hx⟩ := hg
    obtain ⟨its, rv, p, hz⟩ := I.tuple hq
    obtain ⟨f0, f1, f2, f3, f4, f5⟩ := hf it (by simp)
    have hl := rv.length
    exact wpAny_pyNext_enum_endD (draws_end (prog := X.prog) (w := X.w) (A := X.A.in1) (I.ok.hd hc) it a its.toArray i (by simp; omega)) he ⟨rfl, hit, p⟩ fun h' eb => ⟨rfl, I.turned (t' := s.toks) (fun b o hb q => eb b o hb q) f0 f1 f3 f4 f5⟩
  self := fun A i s Q E st h => let ⟨⟨_, he⟩, _⟩ := st; wpAny_pyIter_enum he h
def iEnT (K : PySem.W.Frag) (td : TA) : TI := fun σ H R => td σ H fun vs H1 => ∃ a xs, vs = [.ref a] ∧ SqT K H1 a xs ∧ R (IteT K a) H1
open PySem.Spec PyProof.Rows in
theorem pi_enumT {X : Cx} {e : Expr} {ta : TA} {p pos tpos : Pos} {elts : List Expr} {kk : Nat} (hg : Gl X "enumerate") (hm : X.mg "enumerate" = none) (ha : PA X [e] ta) (hs : starEach [e] X.env = [(false, eval e X.env)] := by rfl) :
    PI X (.Tuple elts kk tpos) (.Call (.Name "enumerate" p) [e] [] pos) (iEnT X.K ta) := by
  refine ⟨fun pins s σ H R I h => ?_⟩
  refine Call_ (ld_blt I hg hm boot_enumerate (PyProof.Rows.callWith_type1 (thn (ha.run pos pins s σ H _ I h) fun us s1 ⟨vs, H1, I1, r1, q1⟩ => ?_) hs rfl))
  obtain ⟨a, xs, ex, hq, q⟩ := q1
  subst ex
  cases r1 with
  | cons r rr =>
    cases rr
    cases r
    obtain ⟨its, rv, p', hz⟩ := I1.tuple hq
    have hal : a < s1.heap.objs.size := by obtain ⟨_, g, _⟩ := id p'; exact Heap.lt_size g
    refine enum_begins1 (begins_tuple a its.toArray) p' fun h' he hit hsz' hk => wpAny_pyIter_enum he ?_
    have I2 : Inv X pins σ H1 { s1 with heap := h' } := I1.kept (t' := s1.toks) hk
    refine ⟨s1.heap.objs.size + 1, [s1.heap.objs.size + 1, s1.heap.objs.size], _, _, H1, rfl, I2, turn_enumT (s1.heap.objs.size + 1) s1.heap.objs.size (Nat.succ_ne_self _) (Nat.ne_of_gt (Nat.lt_succ_of_lt hal)) (Nat.ne_of_lt hal), ⟨⟨.none, he⟩, ⟨_, hit, rfl, rfl⟩⟩, fun b hb => ?_, q⟩
    have e' : b = s1.heap.objs.size + 1 ∨ b = s1.heap.objs.size := by simpa using hb
    have hle : s1.heap.objs.size ≤ b := by
      rcases e' with z | z
      · rw [z]; exact Nat.le_add_right _ _
      · rw [z]; exact Nat.le_refl _
    exact I1.fpOk hle (I1.hok.fresh hle)
theorem iteT_r {K : PySem.W.Frag} {mg : Str → Option Value} {I : Hp} {a : Addr} {ds : List D} {xs : List V} (h : SqT K I a xs) (r : RpL K mg I ds xs) : ItR K mg I (IteT K a) (enD ds) := fun i I1 H1 e1 e2 => by
  have h1 := ex_t e2 (ex_t e1 h)
  refine ⟨fun d hd => ?_, fun hl' => ⟨xs, h1, by unfold enD at hl'; simp at hl'; rw [← r.length]; omega⟩⟩
  unfold enD at hd
  rw [List.getElem?_mapIdx] at hd
  obtain ⟨y, hy, rfl⟩ := Option.map_eq_some_iff.mp hd
  obtain ⟨x, hx, rx⟩ := r.get hy
  refine ⟨⟨xs, x, h1, hx⟩, fun v H2 hv => ?_⟩
  obtain ⟨T, x', rfl, hT, rfl, hx'⟩ := hv
  have := hx' xs h1
  rw [hx] at this
  cases this
  exact ⟨_, .new T _ hT, rp_tup e2 hT (RpL.cons rp_int (RpL.cons (rx.mono e1 _ _) RpL.nil))⟩
def fEnumT : List D → Option (List D)
  | [.tup ds] => some (enD ds)
  | _ => none
theorem si_enumT {X : Cx} {a : Expr} {ma : M (List Arg)} {p pos tpos : Pos} {elts : List Expr} {kk : Nat} (hg : Gl X "enumerate") (hm : X.mg "enumerate" = none) (ha : SA X [a] ma) (hs : starEach [a] X.env = [(false, eval a X.env)] := by rfl) : SI X (.Tuple elts kk tpos) (.Call (.Name "enumerate" p) [a] [] pos) (iArgs fEnumT ma) :=
  PI.imp (pi_enumT hg hm ha hs) fun σ H Q h => by
    refine iargs_run (P := fun vs H1 => ∃ a xs, vs = [.ref a] ∧ SqT X.K H1 a xs ∧ Q (IteT X.K a) H1) (fun I' H' ds rs vs s hf r k => ?_) h
    unfold fEnumT at hf
    split at hf
    · cases hf
      obtain ⟨v, rfl, h1⟩ := r.one
      simp only [Rp] at h1
      obtain ⟨l, xs, rfl, h2, h3⟩ := h1
      exact ⟨l, xs, rfl, ex_t s h2, k _ (iteT_r h2 h3)⟩
    · cases hf
/-- one of two readings of an iterable -/
theorem si_alt {X : Cx} {tg l : Expr} {m1 m2 m : M (List D)} (h1 : SI X tg l m1) (h2 : SI X tg l m2) (ho : ∀ e r, m e = some r → m1 e = some r ∨ m2 e = some r) : SI X tg l m := ⟨fun pins s σ H R I h => by
  obtain ⟨I0, e, Fs, R0, ds, e', hm, k⟩ := h
  rcases ho e _ hm with q | q
  · exact h1.run pins s σ H R I ⟨I0, e, Fs, R0, ds, e', q, k⟩
  · exact h2.run pins s σ H R I ⟨I0, e, Fs, R0, ds, e', q, k⟩⟩
def fEnumA : List D → Option (List D)
  | [.lst ds] => some (enD ds)
  | [.tup ds] => some (enD ds)
  | _ => none
theorem si_enumA {X : Cx} {a : Expr} {ma : M (List Arg)} {p pos tpos : Pos} {elts : List Expr} {kk : Nat} (hg : Gl X "enumerate") (hm : X.mg "enumerate" = none) (ha : SA X [a] ma) (hs : starEach [a] X.env = [(false, eval a X.env)] := by rfl) : SI X (.Tuple elts kk tpos) (.Call (.Name "enumerate" p) [a] [] pos) (iArgs fEnumA ma) :=
  si_alt (si_enum hg hm ha hs) (si_enumT hg hm ha hs) fun e r h => by
    unfold iArgs at h ⊢
    obtain ⟨x, h1, h⟩ := Option.bind_eq_some_iff.mp h
    obtain ⟨ds, h2, h⟩ := Option.bind_eq_some_iff.mp h
    obtain ⟨rs, h3, h⟩ := Option.map_eq_some_iff.mp h
    have : fEnum ds = some rs ∨ fEnumT ds = some rs := by
      unfold fEnumA at h3
      split at h3
      · exact .inl h3
      · exact .inr h3
      · cases h3
    rcases this with q | q
    · left
      rw [h1]
      simp only [Option.bind_some, h2, q, Option.map_some, h]
    · right
      rw [h1]
      simp only [Option.bind_some, h2, q, Option.map_some, h]
@[simp] theorem fEnumA_l {ds : List D} : fEnumA [.lst ds] = some (enD ds) := rfl
@[simp] theorem fEnumA_t {ds : List D} : fEnumA [.tup ds] = some (enD ds) := rfl
end MV

/-! own exception classes over ValueError or LookupError, their fields set by their own __init__ -/
namespace XO
open PySem PySem.Spec PyProof.Rows L2
/-- a built-in base: how its exceptions are made, how they take attributes -/
structure XB (B newId initId : String) (bmB : List Value) : Prop where
  ex : ExcBaseFacts B newId initId bmB
  st : StoreFacts B bmB "object.__setattr__" "object"
theorem xb_value : XB "ValueError" "ValueError.__new__" "ValueError.__init__" [.type "ValueError", .type "Exception", .type "BaseException", .type "object"] := ⟨PySem.F.excBase_ValueError, PySem.F.store_ValueError⟩
theorem xb_lookup : XB "LookupError" "LookupError.__new__" "LookupError.__init__" [.type "LookupError", .type "Exception", .type "BaseException", .type "object"] := ⟨PySem.F.excBase_LookupError, PySem.F.store_LookupError⟩
/-- what the written part says of such a class -/
structure XC (K : PySem.W.Frag) (C : Addr) (newId : String) (bmB : List Value) : Prop where
  ini : PySem.W.excInitIn K C bmB newId = true
  has : PySem.W.hasDictIn K C = true
  over : PySem.W.excOver K C bmB = true
  sets : PySem.W.findIn K (.ref C) "__setattr__" = some (some (.builtin "object.__setattr__"))
  base : PySem.W.subIn K (.ref C) (.type "BaseException") = some true
  mty : PySem.W.typeIn K (.ref C) = some (.type "type")
  kept : PySem.W.keepIn K (.ref C) = true
section
open Builtin Builtin.ObjectAttr
variable {prog : Program} {w : World} {A : Around} {R : Result → Shared → Prop} {hp : Heap} {g : Array GenState} {d : Drawn} {t : Nat} {os : OsState}
variable {K : PySem.W.Frag} {name : Str} {tk : Tok} {v : Value} {x C : Addr} {fv : Array Value} {cd : ClassData} {B : String} {bmB : List Value}
theorem taker_none (h : PySem.W.findIn K (.ref C) name = some none) : PySem.W.takerIn K C name = some none := by
  unfold PySem.W.takerIn
  rw [h]
  rfl
theorem xset_new (S : StoreFacts B bmB "object.__setattr__" "object") (X : K.In hp) (hx : hp.get? x = some { cls := .ref C, data := .fields fv }) (ov : PySem.W.excOver K C bmB = true) (hcd : PySem.W.clsIn K C = some cd) (hh : cd.hasDict = true)
    (ha : PySem.W.findIn K (.ref C) name = some none)
    (k : ∀ h' tk' dx, (∀ b o, b ≠ x → hp.get? b = some o → h'.get? b = some o) → hp.objs.size ≤ dx → dx ≠ x → h'.get? x = some { cls := .ref C, dict := some dx, data := .fields fv } →
      h'.Ns1 dx (fun y => if y = name then some v else none) → R (.ok (.ret .none)) ⟨h', g, d, tk', os⟩) :
    codeAny (model prog w) A (.call (.builtin "object.__setattr__") ⟨[.ref x, .str name tk, v], []⟩) R ⟨hp, g, d, t, os⟩ := by
  have hxs : x ≠ hp.objs.size := Nat.ne_of_lt (Heap.lt_size hx)
  refine PySem.W.osa_openX (s := ⟨hp, g, d, t, os⟩) (od := none) S X ⟨hx, rfl, rfl, trivial⟩ ov (taker_none ha) fun b => ?_
  show wpAny _ _ (storeInOwnDict (.ref x) (.ref C) (.str name tk) name v b) _ _ _
  have lc : PySem.W.Looks (model prog w) hp (classData C) cd := PySem.W.looks_clsIn X hcd
  obtain ⟨nm, bs, mro, ns, qn, hd, sn, sb, ab, col, dl⟩ := cd
  dsimp only at hh
  subst hh
  unfold storeInOwnDict ownDictForStores
  repeat (first
    | with_reducible refine PySem.HandSPX.store_in_new ?_ ?_
    | with_reducible refine wpAny_loadPart_at hx ?_
    | with_reducible refine lc.at ?_
    | wp_step)
  · exact ⟨_, #[], _, (Heap.get?_update_ne _ _ _ _ hxs.symm).trans (Heap.get?_push_at rfl rfl), rfl, fun e he => absurd he (by simp), fun _ => rfl⟩
  · intro h' tk' hn' hs
    have h1 : (hp.push { cls := .type "dict", data := .dict #[] }).get? x = some { cls := .ref C, data := .fields fv } := Heap.get?_push_of_some _ hx
    refine k h' tk' hp.objs.size (fun b o hb ho => ?_) (Nat.le_refl _) hxs.symm ?_ hn'
    · exact (hs.2 b (Nat.ne_of_lt (Heap.lt_size ho))).trans ((Heap.get?_update_ne _ _ _ _ hb).trans (Heap.get?_push_of_some _ ho))
    · exact (hs.2 x hxs).trans (Heap.get?_update_self _ h1 rfl)
theorem xset_old {dx : Addr} {m0 : Str → Option Value} {nl : List Str} (S : StoreFacts B bmB "object.__setattr__" "object") (X : K.In hp) (hx : hp.get? x = some { cls := .ref C, dict := some dx, data := .fields fv }) (hns : hp.Ns1 dx m0)
    (hw : Within m0 nl) (hz : nl.length ≤ 1000) (ov : PySem.W.excOver K C bmB = true) (hcd : PySem.W.clsIn K C = some cd) (hh : cd.hasDict = true) (ha : PySem.W.findIn K (.ref C) name = some none)
    (k : ∀ h' tk', (∀ b o, b ≠ dx → hp.get? b = some o → h'.get? b = some o) → h'.Ns1 dx (fun y => if y = name then some v else m0 y) → R (.ok (.ret .none)) ⟨h', g, d, tk', os⟩) :
    codeAny (model prog w) A (.call (.builtin "object.__setattr__") ⟨[.ref x, .str name tk, v], []⟩) R ⟨hp, g, d, t, os⟩ := by
  obtain ⟨oD, esD, epD, hoD, hdD, _⟩ := hns.count hw
  refine PySem.W.osa_openX (s := ⟨hp, g, d, t, os⟩) (od := some oD) S X ⟨hx, rfl, rfl, hoD⟩ ov (taker_none ha) fun b => ?_
  show wpAny _ _ (storeInOwnDict (.ref x) (.ref C) (.str name tk) name v b) _ _ _
  have lc : PySem.W.Looks (model prog w) hp (classData C) cd := PySem.W.looks_clsIn X hcd
  obtain ⟨nm, bs, mro, ns, qn, hd, sn, sb, ab, col, dl⟩ := cd
  dsimp only at hh
  subst hh
  unfold storeInOwnDict ownDictForStores
  repeat (first
    | with_reducible refine PySem.OEX.store_in_old hns hw hz ?_
    | with_reducible refine wpAny_loadPart_at hx ?_
    | with_reducible refine lc.at ?_
    | wp_step)
  intro h' tk' hn' hs
  exact k h' tk' (fun b o hb ho => (hs.2 b hb).trans ho) hn'
end
end XO

namespace XO
open PySem PySem.Spec PyProof.Rows L2
section
variable {K : PySem.W.Frag} {C : Addr} {newId : String} {bmB : List Value}
/-- the class's record -/
theorem XC.info (T : XC K C newId bmB) : ∃ cd, PySem.W.clsIn K C = some cd ∧ cd.hasDict = true ∧ PySem.W.excOver K C bmB = true := by
  have h : (PySem.W.clsIn K C).any (·.hasDict) = true := T.has
  cases e : PySem.W.clsIn K C with
  | none => rw [e] at h; cases h
  | some cd => rw [e] at h; exact ⟨cd, rfl, h, T.over⟩
end
section
variable {X : Cx} {pins : List (Addr × Obj)} {σ : L2.St} {H : Hp} {s : Shared} {a C dx : Addr} {f : Str} {y : V} {u : Value} {fs : List (Str × V)} {A : Around} {Q : Unit → Shared → Prop} {E : Value → Shared → Prop}
variable {B newId initId : String} {bmB : List Value}
/-- the first field: the dict is new -/
theorem put_first (T : XC X.K C newId bmB) (S : StoreFacts B bmB "object.__setattr__" "object") (I : Inv X pins σ H s) (e : H a = some (exo a C none)) (hno : PySem.W.findIn X.K (.ref C) f = some none) (ry : RelV y u)
    (h : ∀ dx s', H dx = none → dx ≠ a → Inv X pins σ (upd (upd H dx (exd dx [(f, y)])) a (exo a C (some dx))) s' → Q () s') : wpAny (model X.prog X.w) A (setAttr (.ref a) f u) Q E s := by
  obtain ⟨cd, hcd, hdd, hov⟩ := T.info
  obtain ⟨t1, ho⟩ := exo_at I.hok e
  obtain ⟨hp, g, d, t, os⟩ := s
  refine PySem.W.set_plain I.kIn (od := none) ⟨ho, rfl, rfl, trivial⟩ T.sets ?_
  refine xset_new S I.kIn ho hov hcd hdd hno fun h' tk' dx k dn dne hx hn => ?_
  have hnd : H dx = none := I.hok.fresh dn
  have old : ∀ {b : Addr} {o : Obj}, hp.get? b = some o → b ≠ dx := fun {b o} q =>
    Nat.ne_of_lt (Nat.lt_of_lt_of_le (Heap.lt_size q) dn)
  have off : ∀ {b : Addr}, H b = none → b ≠ a := fun {b} n z => by rw [z, e] at n; cases n
  have G : ∀ {b : Addr}, b ≠ a → b ≠ dx → upd (upd H dx (exd dx [(f, y)])) a (exo a C (some dx)) b = H b := fun {b} h1 h2 => by rw [upd_ne h1, upd_ne h2]
  have U : Un X.fs [] H (upd (upd H dx (exd dx [(f, y)])) a (exo a C (some dx))) hp h' := by
    refine ⟨fun b o q n _ _ => k b o (off n) q, fun b o q n _ _ => ⟨o.slots, k b o (off n) q⟩, fun b o q n _ => ?_, fun b o q _ => ?_, fun b xs q => ?_, fun b o v q => ?_, fun b ps q => ?_⟩
    · rw [G (off n) (old q)]; exact n
    · by_cases hb : b = a
      · exact ⟨_, by rw [hb]; exact hx⟩
      · exact ⟨o, k b o hb q⟩
    · rw [G (at_ne e q exo_tup) (ne_of_none q hnd)]; exact q
    · rw [G (at_ne e q exo_frz) (ne_of_none q hnd)]; exact q
    · exact ⟨#[], by rw [G (at_ne e q exo_tbl) (ne_of_none q hnd), q]; simp⟩
  refine h dx _ hnd dne (I.un (t' := tk') U fun b o q => ?_)
  by_cases hb : b = a
  · subst hb
    rw [upd_same] at q
    cases q
    exact exo_ok hx
  by_cases hd : b = dx
  · subst hd
    rw [upd_ne hb, upd_same] at q
    cases q
    exact exd_ok hn (relO_put (fs := []) ry fun _ => True.intro)
  rw [G hb hd] at q
  have nown : ∀ {c : Addr}, H c = some (.own b) → c ≠ a := fun {c} hc => at_ne e hc exo_own
  refine (I.hok b o q).stay (fun c v hc z => k c v ?_ z) (fun c hc => ?_) fun c xs hc => ?_
  · rcases hc with rfl | hc
    · exact hb
    · exact nown hc
  · rw [G (nown hc) (ne_of_none hc hnd)]; exact hc
  · rw [G (at_ne e hc exo_tup) (ne_of_none hc hnd)]; exact hc
/-- a further field -/
theorem put_more (T : XC X.K C newId bmB) (S : StoreFacts B bmB "object.__setattr__" "object") (I : Inv X pins σ H s) (e : H a = some (exo a C (some dx))) (ed : H dx = some (exd dx fs)) (hl : fs.length ≤ 900) (hno : PySem.W.findIn X.K (.ref C) f = some none) (ry : RelV y u)
    (h : ∀ s', Inv X pins σ (upd H dx (exd dx ((f, y) :: fs))) s' → Q () s') : wpAny (model X.prog X.w) A (setAttr (.ref a) f u) Q E s := by
  obtain ⟨cd, hcd, hdd, hov⟩ := T.info
  obtain ⟨t1, ho⟩ := exo_at I.hok e
  obtain ⟨mA, hns, rel⟩ := exd_at I.hok ed
  have hw := within_of rel
  obtain ⟨hp, g, d, t, os⟩ := s
  obtain ⟨oD, _, _, hoD, _, _⟩ := hns.count hw
  refine PySem.W.set_plain I.kIn (od := some oD) ⟨ho, rfl, rfl, hoD⟩ T.sets ?_
  refine xset_old S I.kIn ho hns hw (by rw [List.length_map]; omega) hov hcd hdd hno fun h' tk' k hn => ?_
  have hd : ∃ o, h'.get? dx = some o := let ⟨o, _, _, e', _⟩ := hn; ⟨o, e'⟩
  exact h _ (I.write (t' := tk') (x := dx) (e := dx) (by rw [ed]; exact True.intro) (.inl rfl) k hd (exd_ok hn (relO_put ry rel)))
end
/-- self.f = e in such an __init__ -/
def tXs (K : PySem.W.Frag) (f : Str) (newId : String) (bmB : List Value) (to te : TE) : TS := fun D σ H => te σ H fun y H1 => to σ H1 fun x H2 => ∃ a C : Addr, x = .ref a ∧ XC K C newId bmB ∧ PySem.W.findIn K (.ref C) f = some none ∧
  ((H2 a = some (exo a C none) ∧ ∀ dx, H2 dx = none → dx ≠ a → D.nx σ (upd (upd H2 dx (exd dx [(f, y)])) a (exo a C (some dx)))) ∨
    ∃ (dx : Addr) (fs : List (Str × V)), H2 a = some (exo a C (some dx)) ∧ H2 dx = some (exd dx fs) ∧ fs.length ≤ 900 ∧ D.nx σ (upd H2 dx (exd dx ((f, y) :: fs))))
theorem ps_xs {X : Cx} {B newId initId : String} {bmB : List Value} {o e : Expr} {to te : TE} {f : Str} {p' pos : Pos} (S : StoreFacts B bmB "object.__setattr__" "object") (ho : PE X o to) (he : PE X e te) (hs : swapsWith e (some (.Attribute o f p')) pos.line X.env = pure false := by rfl) :
    PS X (.Assign [.Attribute o f p'] e pos) (tXs X.K f newId bmB to te) := by
  refine ⟨fun pins s σ H D I h => ?_⟩
  refine plainObj_wpAny_Assign_Attribute (thn (he.run pins s σ H _ I h) fun v s1 ⟨y, H1, I1, r1, q1⟩ => thn (ho.run pins s1 σ H1 _ I1 q1) fun u s2 ⟨x, H2, I2, r2, a, C, ex, T, hno, q⟩ => ?_) hs
  subst ex
  obtain rfl : u = Value.ref a := r2
  rcases q with ⟨ea, q⟩ | ⟨dx, fs, ea, ed, hl, q⟩
  · exact put_first T S I2 ea hno r1 fun dx s' n ne J => ⟨σ, _, J, q dx n ne⟩
  · exact put_more T S I2 ea ed hl hno r1 fun s' J => ⟨σ, _, J, q⟩
/-- what C(e, ..) makes -/
def tMx (C : Addr) (sp : Sp) (ta : TA) : L2.St → Hp → XK → Prop := fun σ H Q => ta σ H fun vs H1 => vs.length ≤ 1000 ∧ ∀ a, H1 a = none → sp (.ref a :: vs) (upd H1 a (exo a C none))
  (fun v H2 => v = .non ∧ ∃ (d : Addr) (fs : List (Str × V)), H2 a = some (exo a C (some d)) ∧ H2 d = some (exd d fs) ∧ H1 d = none ∧ Q (.ref C) (some d) (upd (del H2 a) d (.xd fs))) (fun _ _ _ => False)
section
variable {X : Cx} {CX : CXT} {x : Str} {C fI : Addr} {k : Nat} {fd : FuncData} {ps : List Str} {sp : Sp} {B newId initId : String} {bmB : List Value} {e : Expr} {es : List Expr} {ta : TA} {p pos : Pos}
/-- the class called, the arguments laid -/
theorem made {pins : List (Addr × Obj)} {σ : L2.St} {H1 : Hp} {s1 : Shared} {us : List Value} {vs : List V} {Q : XK} (F : ExcBaseFacts B newId initId bmB) (T : XC X.K C newId bmB) (iC : PySem.W.findIn X.K (.ref C) "__init__" = some (some (.ref fI))) (tI : PySem.W.typeIn X.K (.ref fI) = some (.type "function"))
    (F1 : FnOk X.prog X.w X.K X.mg X.base CX k fI fd ps sp) (hr : Room (k + 1) X.A) (hb : Binds X.K fd ps []) (hx : Passes CX X (fun _ _ _ => False)) (I1 : Inv X pins σ H1 s1) (r1 : Vals vs us) (hz : vs.length ≤ 1000)
    (q1 : ∀ a, H1 a = none → sp (.ref a :: vs) (upd H1 a (exo a C none)) (fun v H2 => v = .non ∧ ∃ (d : Addr) (fs : List (Str × V)), H2 a = some (exo a C (some d)) ∧ H2 d = some (exd d fs) ∧ H1 d = none ∧ Q (.ref C) (some d) (upd (del H2 a) d (.xd fs))) (fun _ _ _ => False)) :
    wpAny (model X.prog X.w) X.A (call (.ref C) us) (L2N.MkP X pins σ Q) X.xe s1 := by
  obtain ⟨hp, g, dr, tk, os⟩ := s1
  obtain ⟨nm, N, q, bs, bm, hdct, sn, sub, ab, col, dd, k0, k1, k2, k3, k5, hC, hbm⟩ := PySem.W.excInit_of I1.kIn T.ini
  have up : hp.objs.size ≤ hp.objs.size + 1 := Nat.le_succ _
  have hn : H1 (hp.objs.size + 1) = none := I1.hok.fresh up
  have hq := q1 _ hn
  have kk : ∀ b o, hp.get? b = some o → ((hp.push (PySem.W.kdv_tup us)).push (PySem.HandSPX.excO C hp.objs.size)).get? b = some o := fun b o z => Heap.get?_push_of_some _ (Heap.get?_push_of_some _ z)
  have hget : ((hp.push (PySem.W.kdv_tup us)).push (PySem.HandSPX.excO C hp.objs.size)).get? (hp.objs.size + 1) = some (PySem.HandSPX.excO C hp.objs.size) := by heap_get
  have I2 : Inv X pins σ (upd H1 (hp.objs.size + 1) (exo (hp.objs.size + 1) C none)) ⟨(hp.push (PySem.W.kdv_tup us)).push (PySem.HandSPX.excO C hp.objs.size), g, dr, tk, os⟩ := I1.laid (t' := tk) kk up (exo_ok hget)
  have r2 : Vals (V.ref (hp.objs.size + 1) :: vs) (Value.ref (hp.objs.size + 1) :: us) := .cons rfl r1
  have hl : (Value.ref (hp.objs.size + 1) :: us ++ []).length = ps.length := by
    rw [List.append_nil, ← r2.length, F1.len _ _ _ _ hq]
  have hus : us.length ≤ sizeLine := by rw [← Paired.length r1, sizeLine_eq]; omega
  have bnd := hb ⟨(hp.push (PySem.W.kdv_tup us)).push (PySem.HandSPX.excO C hp.objs.size), g, dr, tk, os⟩ (Value.ref (hp.objs.size + 1) :: us) I2.kIn hl
  rw [List.append_nil] at bnd
  refine wpAny_call (PySem.HandSPX.call_own F hbm hC (PySem.W.looks_findIn I1.kIn iC) (fun self => PySem.W.bind_fn I1.kIn self tI) hus
    (codeAny_mono (F1.run _ X.stack _ _ ⟨Value.ref (hp.objs.size + 1) :: us, []⟩ _ _ _ (fun _ _ _ => False) (hr.make C us []) (I2.env0.make C us []) bnd r2 hq) fun r s' hq' => ?_))
  cases r with
  | error er => exact hx pins σ _ _ er s' I2 hq'
  | ok fl =>
    cases fl with
    | ret u =>
      obtain ⟨v, H2, os2, bare2, un2, hok2, rv, ev, d, fs, ea, ed, hd1, q2⟩ := hq'
      subst ev
      obtain ⟨h2, g2, d2, t2, os'⟩ := s'
      refine ⟨rv, ?_⟩
      obtain ⟨t0, G, J, kG, ge, hoe, na⟩ := mk_end0 (d2 := d2) (t2 := t2) I1 up kk un2 hok2 os2 bare2 ea ed hd1
      refine ⟨_, _, _, ⟨G, g2, d2, t2, os'⟩, _, .ref C, some d, rfl, J, kG, ge, hoe, ⟨rfl, rfl, fun vs e => ?_⟩, rfl, rfl, na, rfl, bare2, raises_own T.base T.mty, q2⟩
      cases e
      rfl
    | next => exact False.elim hq'
    | brk => exact False.elim hq'
    | cont => exact False.elim hq'
theorem pmk_x (F : ExcBaseFacts B newId initId bmB) (T : XC X.K C newId bmB) (iC : PySem.W.findIn X.K (.ref C) "__init__" = some (some (.ref fI))) (tI : PySem.W.typeIn X.K (.ref fI) = some (.type "function"))
    (F1 : FnOk X.prog X.w X.K X.mg X.base CX k fI fd ps sp) (hr : Room (k + 1) X.A) (hb : Binds X.K fd ps []) (hx : Passes CX X (fun _ _ _ => False)) (hg : Gl X x) (hm : X.mg x = some (.ref C)) (ha : PA X (e :: es) ta)
    (hdb : (x == ("__debug__" : Str)) = false := by decide) (he : starEach (e :: es) X.env = (false, eval e X.env) :: starEach es X.env := by rfl) (hpl : (backTo pos (starEach es X.env)).any (·.1) = false := by rfl) :
    L2N.PMk X (.Call (.Name x p) (e :: es) [] pos) (tMx C sp ta) := by
  intro pins s σ H Q I h
  refine wpAny_Call_Name_kw (ld_glob I hg hm ?_ hdb)
  refine PySem.W.callWith_K (h₀ := X.base) I.ok.mod.kin T.kept (thn (ha.run pos pins s σ H _ I h) fun us s1 ⟨vs, H1, I1, r1, hz, q1⟩ => ⟨I1.kIn, ?_⟩) he hpl
  exact made F T iC tI F1 hr hb hx I1 r1 hz q1
end
end XO

namespace XO
open PySem PySem.Spec PyProof.Rows L2
/-! ### an __init__ that stores texts and its parameters -/
abbrev Src := Str ⊕ Nat
def srcT : Src → TE
  | .inl s => tC (.str s)
  | .inr i => tVar i
def srcV (vs : List V) : Src → V
  | .inl s => .str s
  | .inr i => vs.getD i .non
def tXb (K : PySem.W.Frag) (newId : String) (bmB : List Value) : List (Str × Src) → TS
  | [] => tNext
  | p :: r => tSeq (tXs K p.1 newId bmB (tVar 0) (srcT p.2)) (tXb K newId bmB r)
/-- what the dict holds then, the last one first -/
def xput (vs : List V) (l : List (Str × Src)) (fs : List (Str × V)) : List (Str × V) := (l.map fun p => (p.1, srcV vs p.2)).reverse ++ fs
def SrcOk (vs : List V) (σ : L2.St) (l : List (Str × Src)) : Prop := ∀ p ∈ l, ∀ i, p.2 = .inr i → σ[i]? = some (some (vs.getD i .non))
theorem src_run {vs : List V} {σ : L2.St} {p : Str × Src} {H : Hp} {Q : VK} (h : ∀ i, p.2 = .inr i → σ[i]? = some (some (vs.getD i .non))) (q : Q (srcV vs p.2) H) : srcT p.2 σ H Q := by
  obtain ⟨f, s⟩ := p
  cases s with
  | inl s => exact q
  | inr i => exact ⟨_, h i rfl, q⟩
theorem xb_more {K : PySem.W.Frag} {newId : String} {bmB : List Value} {C a dx : Addr} {vs : List V} {σ : L2.St} {D : Ends} (T : XC K C newId bmB) (h0 : σ[0]? = some (some (.ref a))) (hne : dx ≠ a) : ∀ (l : List (Str × Src)) (fs : List (Str × V)) (H : Hp), SrcOk vs σ l → (∀ p ∈ l, PySem.W.findIn K (.ref C) p.1 = some none) →
    H a = some (exo a C (some dx)) → H dx = some (exd dx fs) → fs.length + l.length ≤ 900 → (∀ H', H' a = some (exo a C (some dx)) → H' dx = some (exd dx (xput vs l fs)) → (∀ b, b ≠ dx → H' b = H b) → D.nx σ H') → tXb K newId bmB l D σ H
  | [], fs, H, _, _, ha, hd, _, k => k H ha hd fun _ _ => rfl
  | p :: r, fs, H, hs, hno, ha, hd, hl, k => by
    refine src_run (vs := vs) (hs p (by simp)) ⟨_, h0, a, C, rfl, T, hno p (by simp), .inr ⟨dx, fs, ha, hd, by simp at hl; omega, ?_⟩⟩
    refine xb_more T h0 hne r ((p.1, srcV vs p.2) :: fs) _ (fun q hq => hs q (by simp [hq])) (fun q hq => hno q (by simp [hq])) (by rw [upd_ne (Ne.symm hne)]; exact ha) upd_same (by simp at hl ⊢; omega) fun H' h1 h2 h3 => k H' h1 ?_ fun b hb => ?_
    · rw [h2]; unfold xput; simp
    · rw [h3 b hb, upd_ne hb]
theorem xb_run {K : PySem.W.Frag} {newId : String} {bmB : List Value} {C a : Addr} {vs : List V} {σ : L2.St} {D : Ends} {p : Str × Src} {r : List (Str × Src)} {H : Hp} (T : XC K C newId bmB) (h0 : σ[0]? = some (some (.ref a))) (hs : SrcOk vs σ (p :: r)) (hno : ∀ q ∈ p :: r, PySem.W.findIn K (.ref C) q.1 = some none)
    (ha : H a = some (exo a C none)) (hl : (p :: r).length ≤ 800) (k : ∀ dx H', H dx = none → dx ≠ a → H' a = some (exo a C (some dx)) → H' dx = some (exd dx (xput vs (p :: r) [])) → (∀ b, b ≠ a → b ≠ dx → H' b = H b) → D.nx σ H') : tXb K newId bmB (p :: r) D σ H := by
  refine src_run (vs := vs) (hs p (by simp)) ⟨_, h0, a, C, rfl, T, hno p (by simp), .inl ⟨ha, fun dx hdx hne => ?_⟩⟩
  refine xb_more T h0 hne r [(p.1, srcV vs p.2)] _ (fun q hq => hs q (by simp [hq])) (fun q hq => hno q (by simp [hq])) upd_same (by rw [upd_ne hne]; exact upd_same) (by simp at hl ⊢; omega) fun H' h1 h2 h3 => k dx H' hdx hne h1 ?_ fun b hb hb2 => ?_
  · rw [h2]; unfold xput; simp
  · rw [h3 b hb2, upd_ne hb, upd_ne hb2]
/-- such an __init__'s promise -/
def spX (K : PySem.W.Frag) (C : Addr) (newId : String) (bmB : List Value) (n : Nat) (l : List (Str × Src)) : Sp := fun vs H Q _ => vs.length = n ∧ ∃ a, vs[0]? = some (.ref a) ∧ H a = some (exo a C none) ∧
  ∀ dx H', H dx = none → dx ≠ a → H' a = some (exo a C (some dx)) → H' dx = some (exd dx (xput vs l [])) → (∀ b, b ≠ a → b ≠ dx → H' b = H b) → Q .non H'
theorem fn_x {P : Program} {w : World} {K : PySem.W.Frag} {mg : Str → Option Value} {base : Heap} {x qual : Str} {params : Arguments} {body : List Stmt} {scope : Scope} {dvs : List V} {kws : List (Str × V)} {f C : Addr} {fd : FuncData} {N ps : List Str} {newId : String} {bmB : List Value} {p : Str × Src} {r : List (Str × Src)}
    (F : FunD K x qual params body scope dvs kws f fd) (Sc : FnScope N ps scope) (T : XC K C newId bmB) (hno : ∀ q ∈ p :: r, PySem.W.findIn K (.ref C) q.1 = some none) (hl : (p :: r).length ≤ 800) (hi : ∀ q ∈ p :: r, ∀ i, q.2 = .inr i → i < ps.length)
    (hb : ∀ (cdv : Value) (A : Around) (outer : List PySem.Env) (s : Shared) (H : Hp) (E : XK), PSs (cxOf (L2N.CX P w) P w K mg base N qual scope f cdv A outer s H E) body (tXb K newId bmB (p :: r))) : FnOk P w K mg base (L2N.CX P w) 1 f fd ps (spX K C newId bmB ps.length (p :: r)) := by
  refine F.ok Sc (fun vs H Q E h => h.1) fun cdv A outer s H vs Q E hr ⟨hlen, a, h0, ha, k⟩ => ⟨_, hb cdv A outer s H E, ?_⟩
  have at_ : ∀ i, i < vs.length → (L2.start N vs)[i]? = some (some (vs.getD i .non)) := fun i hi => by
    unfold L2.start
    rw [List.getElem?_append_left (by simpa using hi), List.getElem?_map, List.getElem?_eq_getElem hi]
    simp [List.getD_eq_getElem?_getD, List.getElem?_eq_getElem hi]
  have hl0 : 0 < vs.length := (List.getElem?_eq_some_iff.mp h0).1
  refine xb_run (vs := vs) T ?_ (fun q hq i e => at_ i (by rw [hlen]; exact hi q hq i e)) hno ha hl fun dx H' h1 h2 h3 h4 h5 => k dx H' h1 h2 h3 h4 h5
  rw [at_ 0 hl0, List.getD_eq_getElem?_getD, h0]
  rfl
/-- a class, ready to be raised: n parameters beside self, the stores l -/
structure Cl (P : Program) (w : World) (K : PySem.W.Frag) (mg : Str → Option Value) (base : Heap) (c : Str) (n : Nat) (l : List (Str × Src)) (C : Addr) : Prop where
  glo : mg c = some (.ref C)
  ex : ∃ (B newId initId : String) (bmB : List Value) (fI : Addr) (fd : FuncData) (ps : List Str), XB B newId initId bmB ∧ XC K C newId bmB ∧ PySem.W.findIn K (.ref C) "__init__" = some (some (.ref fI)) ∧ PySem.W.typeIn K (.ref fI) = some (.type "function") ∧
    (∀ p ∈ l, ∀ i, p.2 = .inr i → 1 ≤ i ∧ i ≤ n) ∧ ps.length = n + 1 ∧ FnOk P w K mg base (L2N.CX P w) 1 fI fd ps (spX K C newId bmB (n + 1) l) ∧ Binds K fd ps []
def tMy (C : Addr) (n : Nat) (l : List (Str × Src)) (ta : TA) : L2.St → Hp → XK → Prop := fun σ H Q => ta σ H fun vs H1 => vs.length = n ∧ n ≤ 900 ∧ ∀ a d, H1 a = none → H1 d = none → d ≠ a → Q (.ref C) (some d) (upd H1 d (.xd (xput (.ref a :: vs) l [])))
theorem end_my {K : PySem.W.Frag} {C : Addr} {newId : String} {bmB : List Value} {n : Nat} {l : List (Str × Src)} {H1 : Hp} {vs : List V} {Q : XK} (h : vs.length = n ∧ n ≤ 900 ∧ ∀ a d, H1 a = none → H1 d = none → d ≠ a → Q (.ref C) (some d) (upd H1 d (.xd (xput (.ref a :: vs) l [])))) :
    vs.length ≤ 1000 ∧ ∀ a, H1 a = none → spX K C newId bmB (n + 1) l (.ref a :: vs) (upd H1 a (exo a C none)) (fun v H2 => v = .non ∧ ∃ (d : Addr) (fs : List (Str × V)), H2 a = some (exo a C (some d)) ∧ H2 d = some (exd d fs) ∧ H1 d = none ∧ Q (.ref C) (some d) (upd (del H2 a) d (.xd fs))) (fun _ _ _ => False) := by
  refine ⟨by omega, fun a ha => ⟨by simp [h.1], a, rfl, upd_same, fun dx H' h1 h2 h3 h4 h5 => ⟨rfl, dx, _, h3, h4, ?_, ?_⟩⟩⟩
  · rw [upd_ne h2] at h1; exact h1
  · rw [upd_ne h2] at h1
    have e : upd (del H' a) dx (.xd (xput (.ref a :: vs) l [])) = upd H1 dx (.xd (xput (.ref a :: vs) l [])) := by
      funext b
      by_cases hd : b = dx
      · rw [hd, upd_same, upd_same]
      by_cases hb : b = a
      · rw [upd_ne hd, upd_ne hd, hb, del_same, ha]
      · rw [upd_ne hd, upd_ne hd, del_ne hb, h5 b hb hd, upd_ne hb]
    rw [e]
    exact h.2.2 a dx ha h1 h2
theorem pmk_x0 {X : Cx} {CX : CXT} {x : Str} {C fI : Addr} {k : Nat} {fd : FuncData} {ps : List Str} {sp : Sp} {B newId initId : String} {bmB : List Value} {p pos : Pos} (F : ExcBaseFacts B newId initId bmB) (T : XC X.K C newId bmB) (iC : PySem.W.findIn X.K (.ref C) "__init__" = some (some (.ref fI)))
    (tI : PySem.W.typeIn X.K (.ref fI) = some (.type "function")) (F1 : FnOk X.prog X.w X.K X.mg X.base CX k fI fd ps sp) (hr : Room (k + 1) X.A) (hb : Binds X.K fd ps []) (hx : Passes CX X (fun _ _ _ => False)) (hg : Gl X x) (hm : X.mg x = some (.ref C))
    (hdb : (x == ("__debug__" : Str)) = false := by decide) : L2N.PMk X (.Call (.Name x p) [] [] pos) (tMx C sp tNil) := by
  intro pins s σ H Q I h
  refine wpAny_Call_Name_kw (ld_glob I hg hm ?_ hdb)
  exact PySem.W.callWith_K0 I.kIn T.kept (made F T iC tI F1 hr hb hx I .nil h.1 h.2)
end XO

namespace MV
open PySem L2 XO
variable [TB]
/-! ### raise -/
def srcD (ds : List D) : Src → D
  | .inl s => .str s
  | .inr i => ds.getD (i - 1) .none
/-- the fields of what is raised -/
def xD (l : List (Str × Src)) (ds : List D) : List (Str × D) := (l.map fun p => (p.1, srcD ds p.2)).reverse
def sRaise (c : Str) (n : Nat) (l : List (Str × Src)) (ma : M (List Arg)) : S := fun e => (ma e).bind fun x => (allD x.1).bind fun ds => if ds.length = n then some (.ex (.inst c (xD l ds)) x.2) else none
section
variable {K : PySem.W.Frag} {mg : Str → Option Value} {I : Hp}
theorem RpF.append : ∀ {ds es : List (Str × D)} {xs ys : List (Str × V)}, RpF K mg I ds xs → RpF K mg I es ys → RpF K mg I (ds ++ es) (xs ++ ys)
  | [], es, xs, ys, h, t => by simp only [RpF] at h; subst h; exact t
  | (k, d) :: ds, es, xs, ys, h, t => by
    simp only [RpF] at h
    obtain ⟨x, r, rfl, h1, h2⟩ := h
    show RpF K mg I ((k, d) :: (ds ++ es)) ((k, x) :: (r ++ ys))
    simp only [RpF]
    exact ⟨x, _, rfl, h1, h2.append t⟩
theorem src_rp {ds : List D} {vs : List V} {u : V} (h : RpL K mg I ds vs) {s : Src} (hs : ∀ i, s = .inr i → 1 ≤ i ∧ i ≤ ds.length) : Rp K mg I (srcD ds s) (srcV (u :: vs) s) := by
  cases s with
  | inl s => exact rp_str
  | inr i =>
    obtain ⟨h1, h2⟩ := hs i rfl
    obtain ⟨j, rfl⟩ : ∃ j, i = j + 1 := ⟨i - 1, by omega⟩
    have hj : j < ds.length := by omega
    obtain ⟨v, hv, r⟩ := h.get (List.getElem?_eq_getElem hj)
    show Rp K mg I (ds.getD j .none) ((u :: vs).getD (j + 1) .non)
    rw [List.getD_cons_succ, List.getD_eq_getElem?_getD, List.getD_eq_getElem?_getD, hv, List.getElem?_eq_getElem hj]
    exact r
theorem xD_rp {ds : List D} {vs : List V} {u : V} (h : RpL K mg I ds vs) : ∀ {l : List (Str × Src)}, (∀ p ∈ l, ∀ i, p.2 = .inr i → 1 ≤ i ∧ i ≤ ds.length) → RpF K mg I (xD l ds) (xput (u :: vs) l [])
  | [], _ => by simp [xD, xput, RpF]
  | p :: r, hs => by
    have ih := xD_rp (u := u) h (l := r) fun q hq => hs q (by simp [hq])
    have e : xD (p :: r) ds = xD r ds ++ [(p.1, srcD ds p.2)] := by simp [xD]
    have e' : xput (u :: vs) (p :: r) [] = xput (u :: vs) r [] ++ [(p.1, srcV (u :: vs) p.2)] := by simp [xput]
    rw [e, e']
    refine ih.append ?_
    simp only [RpF]
    exact ⟨_, [], rfl, src_rp h (hs p (by simp)), rfl⟩
end
theorem raise_run {X : Cx} {A : Nat → Bool} {Wx : WX} {c : Str} {C : Addr} {n : Nat} {l : List (Str × Src)} {newId : String} {bmB : List Value} {ma : M (List Arg)} {Dd : Ends} {σ : L2.St} {H : Hp} (gl : X.mg c = some (.ref C)) (hn : n ≤ 900) (hs : ∀ p ∈ l, ∀ i, p.2 = .inr i → 1 ≤ i ∧ i ≤ n) (h : tS X.K X.mg A Wx (sRaise c n l ma) Dd σ H) :
    tMx C (spX X.K C newId bmB (n + 1) l) (tAr X.K X.mg ma) σ H fun cls d H' => Wx cls d σ H' := by
  obtain ⟨I, e, Fs, R, r, hm, k⟩ := h
  obtain ⟨⟨as, e1⟩, h1, hm⟩ := Option.bind_eq_some_iff.mp hm
  obtain ⟨ds, h2, hm⟩ := Option.bind_eq_some_iff.mp hm
  have hm : (if ds.length = n then some (SR.ex (.inst c (xD l ds)) e1) else none) = some r := hm
  split at hm
  · rename_i hl
    cases hm
    refine ⟨I, e, Fs, R, as, e1, h1, fun vs I1 F1 H1 R1 x1 ha => ?_⟩
    have rp := allD_rp h2 ha
    refine end_my (K := X.K) (C := C) (newId := newId) (bmB := bmB) (l := l) (H1 := H1) (Q := fun cls d H' => Wx cls d σ H') ⟨by rw [← rp.length]; exact hl, hn, fun a d ha hd hne => ?_⟩
    obtain ⟨R2, x2⟩ := R1.laid (o := .xd (xput (.ref a :: vs) l [])) hd
    refine k _ _ σ _ F1 _ R2 (x1.trans x2) Agr.refl ⟨C, d, _, rfl, gl, rfl, upd_same, ?_⟩
    exact RpF.mono (Ex.new (sub_none R1.sub hd)) _ _ (xD_rp rp (by rw [hl]; exact hs))
  · cases hm
theorem ss_raise {X : Cx} {A : Nat → Bool} {Wx : WX} {c : Str} {C : Addr} {n : Nat} {l : List (Str × Src)} {a : Expr} {es : List Expr} {ma : M (List Arg)} {p pos pos' : Pos} (hc : X.calm = true) (tk : L2N.Takes X Wx) (F : Cl X.prog X.w X.K X.mg X.base c n l C) (hn : n ≤ 900) (hr : Room 2 X.A) (hg : Gl X c) (ha : SA X (a :: es) ma)
    (hdb : (c == ("__debug__" : Str)) = false := by decide) (he : starEach (a :: es) X.env = (false, eval a X.env) :: starEach es X.env := by rfl) (hpl : (backTo pos (starEach es X.env)).any (·.1) = false := by rfl) :
    SS X A Wx (.Raise (some (.Call (.Name c p) (a :: es) [] pos)) none pos') (sRaise c n l ma) := by
  obtain ⟨B, newId, initId, bmB, fI, fd, ps, xb, T, iC, tI, hs, hps, F1, hb⟩ := F.ex
  exact PS.imp (L2N.ps_raise hc tk (pmk_x xb.ex T iC tI F1 hr hb (L2N.passes_call tk fun _ _ _ _ z => z.elim) hg F.glo ha hdb he hpl)) fun Dd σ H h => raise_run F.glo hn hs h
theorem ss_raise0 {X : Cx} {A : Nat → Bool} {Wx : WX} {c : Str} {C : Addr} {l : List (Str × Src)} {p pos pos' : Pos} (hc : X.calm = true) (tk : L2N.Takes X Wx) (F : Cl X.prog X.w X.K X.mg X.base c 0 l C) (hr : Room 2 X.A) (hg : Gl X c)
    (hdb : (c == ("__debug__" : Str)) = false := by decide) : SS X A Wx (.Raise (some (.Call (.Name c p) [] [] pos)) none pos') (sRaise c 0 l aNil) := by
  obtain ⟨B, newId, initId, bmB, fI, fd, ps, xb, T, iC, tI, hs, hps, F1, hb⟩ := F.ex
  refine PS.imp (L2N.ps_raise hc tk (pmk_x0 xb.ex T iC tI F1 hr hb (L2N.passes_call tk fun _ _ _ _ z => z.elim) hg F.glo hdb)) fun Dd σ H h => ?_
  obtain ⟨I, e, Fs, R, as, e1, h1, k⟩ := raise_run (newId := newId) (bmB := bmB) F.glo (by omega) hs h
  cases h1
  exact k [] I Fs H R Ext.refl rfl
end MV

/-! several clauses 'except x as n', one name -/
namespace XO
open PySem PySem.Spec PyProof.Rows L2
abbrev Suite := Addr → Value → Option Addr → TS
/-- what follows the suite: the name is gone -/
def goneD (i : Nat) (D : Ends) : Ends := { nx := fun σ H => D.nx (σ.set i none) H, rt := D.rt, bk := fun σ H => D.bk (σ.set i none) H, ct := fun σ H => D.ct (σ.set i none) H }
def wAll (K : PySem.W.Frag) (i : Nat) (Wout : WX) (D : Ends) : List (Value × Suite) → WX
  | [] => Wout
  | q :: r => fun cls d σ H => ∃ b, PySem.W.exmOne K cls q.1 = some b ∧ (b = true → ∀ a, H a = none → q.2 a cls d (goneD i D) (σ.set i (some (.ref a))) H) ∧ (b = false → wAll K i Wout D r cls d σ H)
inductive Hands (X : Cx) (n : Str) : List ExceptHandler → List (Value × Suite) → Prop
  | nil : Hands X n [] []
  | cons {x : Str} {c : Value} {ts : Suite} {b₀ : Stmt} {st : List Stmt} {np pos' : Pos} {hs : List ExceptHandler} {l : List (Value × Suite)} (hc : Names X x c)
      (hsu : ∀ (a : Addr) (oe : Obj) (cls : Value) (d : Option Addr) (pn : List (Addr × Obj)), L2N.Zn cls d oe → (∃ vs, oe.data = .fields vs) → PSs (X.suite a ((a, oe) :: pn)) (b₀ :: st) (ts a cls d))
      (r : Hands X n hs l) : Hands X n (.ExceptHandler (some (.Name x np)) (some n) (b₀ :: st) pos' :: hs) ((c, ts) :: l)
section
variable {X : Cx} {body : List Stmt} {h₀ : ExceptHandler} {hds : List ExceptHandler} {l : List (Value × Suite)} {pos : Pos} {tb : WX → TS} {Wout : WX} {i : Nat} {n : Str}
/-- the clauses, tried in turn, from where the exception has come down -/
theorem clauses {pins : List (Addr × Obj)} {σ : L2.St} {H : Hp} {s' sI : Shared} {h3 : Heap} {B : Heap} {a : Addr} {D : Ends} {cls : Value} {d : Option Addr} (hs : X.stack = X.env :: X.outer) (hf : X.env.frame = some X.env.locals) (hN : X.N.Nodup) (hi : X.N[i]? = some n) (hln : X.env.kindOf n = some .local) (tk : L2N.Takes X Wout)
    (J : Inv X pins σ H sI) (nb : ∀ b o, sI.heap.get? b = some o → b ∉ frs X.stack → B.get? b = some o) (fl : HandSPX.FlyingZ B (X.env :: X.outer) a (L2N.Zn cls d) h3) (up : sI.heap.UpToSlots h3) (na : H a = none) (os : s'.os = sI.os) (ag : AllBare s'.gens) :
    ∀ {hds : List ExceptHandler} {l : List (Value × Suite)}, Hands X n hds l → wAll X.K i Wout D l cls d σ H → wpAny (model X.prog X.w) X.A (handleBy (.ref a) X.env hds) (SP X pins D) X.xe { s' with heap := h3 } := by
  have ok := J.ok
  have J3 : Inv X pins σ H { s' with heap := h3 } := J.landed nb fl.1 up os ag
  obtain ⟨oe3, vs3, he3, hz3, hd3⟩ := fl.there
  have nfr : a ∉ frs (X.env :: X.outer) := fun hm => by
    obtain ⟨_, o', e', hnf⟩ := fl.2.2.1.mem hm
    rw [he3] at e'
    cases e'
    exact hnf _ hd3
  have nL : a ≠ X.env.locals := fun z => nfr (List.mem_filterMap.mpr ⟨X.env, List.mem_cons_self, by rw [hf, z]⟩)
  have nF : a ∉ X.fs := fun hm => by
    obtain ⟨e, he, q⟩ := List.mem_filterMap.mp hm
    exact nfr (List.mem_filterMap.mpr ⟨e, List.mem_cons_of_mem _ he, q⟩)
  have S3 := J3.suite he3 hd3 na nL nF
  intro hds l hk
  induction hk with
  | nil =>
    intro w
    refine wpAny_handleBy_nil ?_
    obtain ⟨_, _, _, oe, vs, T, _, _, he, _, hd, h1, _⟩ := id fl
    unfold PySem.passOn
    refine wpAny_bind (wpAny_field he hd h1 ?_)
    rw [if_neg (show ¬ ((Value.ref T == Value.none) = true) from by simp)]
    have fin : wpAny (model X.prog X.w) X.A (setFlight (.ref a) X.env.frame) (fun _ s4 => wpAny (model X.prog X.w) X.A (throw (.ref a) : Sem Flow) (SP X pins D) X.xe s4) X.xe { s' with heap := h3 } := by
      rw [hf]
      refine HandSPX.setFlight_upZ fl fun h4 hh4 up4 => wpAny_throw (tk _ _ ?_)
      exact ⟨a, B, sI, pins, σ, H, cls, d, rfl, J, nb, up.trans up4, .inr (.inr (by rw [hs]; exact hh4)), na, os, ag, w⟩
    first
      | exact wpAny_bind (wpAny_pure (wpAny_bind fin))
      | exact wpAny_bind fin
  | @cons x c ts b₀ st np pos' hs2 l2 hc hsu r ih =>
    intro ⟨b, hb1, hyes, hno⟩
    refine wpAny_handleBy_cons (codeAny_handlers_test ?_) (by intro q; cases q)
    have LT : PySem.W.Looks (model X.prog X.w) h3 (typeOf (.ref a)) cls := fun A Q E s k q => wpAny_typeOf_ref (k _ _ he3) (by rw [hz3.1]; exact q)
    have LM := PySem.W.exm_one (M := model X.prog X.w) (J3.kIn) LT hb1
    have test : ∀ {Q : Value → Shared → Prop} {E : Value → Shared → Prop}, Q c { s' with heap := h3 } → wpAny (model X.prog X.w) (X.A.mark (some (.ref a))) (eval (.Name x np) X.env) Q E { s' with heap := h3 } := fun {Q E} q => by
      obtain ⟨hg, hdbg, hm | ⟨hm, hv, hnn⟩⟩ := hc
      · exact ld_glob (X := X.suite a ((a, oe3) :: (X.pn ++ pins))) S3 hg hm q hdbg
      · exact ld_blt (X := X.suite a ((a, oe3) :: (X.pn ++ pins))) S3 hg hm hv q hnn hdbg
    refine test (LM.here ?_)
    cases b with
    | false => exact ih (hno rfl)
    | true =>
      refine codeAny_handlers_suite_as ?_
      refine HandSPX.lands_againZ fl fun h4 fl4 up4 => ?_
      have J4 : Inv X pins σ H { s' with heap := h4 } := J.landed nb fl4.1 (up.trans up4) os ag
      obtain ⟨oe4, vs4, he4, hz4, hd4⟩ := fl4.there
      have S4 := J4.suite he4 hd4 na nL nF
      refine store_ok (X := X.suite a ((a, oe4) :: (X.pn ++ pins))) (v := .ref a) S4 hN hi (.inl hln) rfl (fun s5 S5 => ?_) (.inr hln)
      refine wpAny_mono ((hsu a oe4 cls d (X.pn ++ pins) hz4 ⟨_, hd4⟩).run [] s5 _ H _ S5 (hyes rfl a na)) (fun f s6 hsp => ?_) (fun _ _ z => False.elim z)
      have gone : ∀ {σ6 : L2.St} {H6 : Hp} {Q : Shared → Prop}, Inv (X.suite a ((a, oe4) :: (X.pn ++ pins))) [] σ6 H6 s6 → (∀ s7, Inv X pins (σ6.set i none) H6 s7 → Q s7) →
          wpAny (model X.prog X.w) X.A (do bindName X.env n .none; unbindBehindTheSuite X.env n pos') (fun _ s7 => Q s7) X.xe s6 := fun {σ6 H6 Q} S6 hq => gone_ok (S6.unsuite ok) hN hi hln hq
      cases f with
      | next => obtain ⟨σ6, H6, S6, q6⟩ := hsp; exact gone S6 fun s7 J7 => ⟨_, _, J7, q6⟩
      | brk => obtain ⟨σ6, H6, S6, q6⟩ := hsp; exact gone S6 fun s7 J7 => ⟨_, _, J7, q6⟩
      | cont => obtain ⟨σ6, H6, S6, q6⟩ := hsp; exact gone S6 fun s7 J7 => ⟨_, _, J7, q6⟩
      | ret u => obtain ⟨v6, σ6, H6, S6, r6, q6⟩ := hsp; exact gone S6 fun s7 J7 => ⟨_, _, _, J7, r6, q6⟩
theorem ps_try_all (hs : X.stack = X.env :: X.outer) (hf : X.env.frame = some X.env.locals) (hN : X.N.Nodup) (hi : X.N[i]? = some n) (hln : X.env.kindOf n = some .local) (tk : L2N.Takes X Wout)
    (hb : ∀ (W : WX) (pn : List (Addr × Obj)) (xe : Value → Shared → Prop), L2N.Takes (X.tr pn xe) W → PassesOwn (model X.prog X.w) X.A X.env xe → PSs (X.tr pn xe) body (tb W))
    (hh : Hands X n (h₀ :: hds) l) : PS X (.Try body (h₀ :: hds) [] [] pos) (fun D σ H => tb (wAll X.K i Wout D l) D σ H) := by
  refine ⟨fun pins s σ H D I h => ?_⟩
  have ok := I.ok
  have hfr : X.A.frames = some (X.env :: X.outer) := by rw [ok.frames, hs]
  refine wpAny_Try_except ?_
  have catch_ : ∀ u s', L2N.XE (X.tr (X.pn ++ pins) (fun e s₁ => wpAny (model X.prog X.w) X.A (noteFrame e X.env) (fun _ s₂ => wpAny (model X.prog X.w) X.A (setFlight e none) (fun _ s₃ =>
      wpAny (model X.prog X.w) X.A (handleBy e X.env (h₀ :: hds)) (SP X pins D) X.xe s₃) X.xe s₂) X.xe s₁)) (wAll X.K i Wout D l) u s' →
      wpAny (model X.prog X.w) X.A (noteFrame u X.env) (fun _ s₂ => wpAny (model X.prog X.w) X.A (setFlight u none) (fun _ s₃ => wpAny (model X.prog X.w) X.A (handleBy u X.env (h₀ :: hds)) (SP X pins D) X.xe s₃) X.xe s₂) X.xe s' := by
    rintro u s' ⟨a, B, sI, pins', σ', H', cls, d, rfl, J', nb, up, sky, na, os, ag, w⟩
    have J : Inv X pins σ' H' sI := J'.ofTry ok
    have sky' : Sky B (X.env :: X.outer) a (L2N.Zn cls d) X.env.locals s'.heap := by rw [← hs]; exact sky
    refine L2N.Sky.land L2N.Zn.steady hfr hf sky' fun h3 fl3 up3 => ?_
    exact clauses hs hf hN hi hln tk J nb fl3 (up.trans up3) na os ag hh w
  refine wpAny_mono ((hb _ (X.pn ++ pins) _ catch_ PassesOwn.looking).run [] s σ H D (I.toTry _) h) (fun f s1 hsp => ?_) (fun e s1 he => he)
  cases f with
  | next => obtain ⟨σ', H', J', q⟩ := hsp; exact wpAny_execs_nil ⟨σ', H', J'.ofTry ok, q⟩
  | brk => obtain ⟨σ', H', J', q⟩ := hsp; exact ⟨σ', H', J'.ofTry ok, q⟩
  | cont => obtain ⟨σ', H', J', q⟩ := hsp; exact ⟨σ', H', J'.ofTry ok, q⟩
  | ret u => obtain ⟨v, σ', H', J', r, q⟩ := hsp; exact ⟨v, σ', H', J'.ofTry ok, r, q⟩
end
end XO

/-! a caught exception's fields, here and in a def called from the suite -/
namespace XO
open PySem PySem.Spec PyProof.Rows L2 L2H
/-- p is the exception that is handled: its class, its dict -/
def Pn (p : Addr × Obj) (C dx : Addr) : Prop := L2N.Zn (.ref C) (some dx) p.2 ∧ ∃ vs, p.2.data = .fields vs
def tXp (a C dx : Addr) (f : Str) (te : TE) : TE := fun σ H Q => te σ H fun x H1 => x = .ref a ∧ ∃ (fs : List (Str × V)) (v : V), H1 dx = some (.xd fs) ∧ fs.lookup f = some v ∧ Q v H1
theorem pe_xp {X : Cx} {p : Addr × Obj} {C dx : Addr} {e : Expr} {te : TE} {pos : Pos} {f : Str} (T : XfC X.K C) (hno : PySem.W.findIn X.K (.ref C) f = some none) (hp : p ∈ X.pn) (hz : Pn p C dx) (he : PE X e te) (hb : attributeBase e f X.env (eval e X.env) = eval e X.env := by rfl) :
    PE X (.Attribute e f pos) (tXp p.1 C dx f te) := by
  refine ⟨fun pins s σ H Q I h => ?_⟩
  refine attr_of hb (thn (he.run pins s σ H _ I h) fun u s1 ⟨x, H1, I1, rx, ex, fs, v, ea, l, q⟩ => ?_)
  subst ex
  obtain rfl : u = Value.ref p.1 := rx
  obtain ⟨z, vs, hd⟩ := hz
  have ha := (I1.pin p (List.mem_append_left _ hp)).1
  obtain ⟨mA, hns, hr⟩ := (show ObjOk X.prog X.w H1 s1.heap dx (.xd fs) from I1.hok dx _ ea)
  obtain ⟨od, ho, hl⟩ := lookIn_ns hns
  obtain ⟨u, hu, ru⟩ := RelO.some_of (v := v) (o := mA f) (by rw [← l]; exact hr f)
  have J : PySem.W.InstAt s1.heap p.1 p.2 C (some od) := ⟨ha, z.1, by unfold PySem.W.notCls; rw [hd] <;> rfl, by rw [z.2.1]; exact ho⟩
  exact HandSPX.exc_get I1.kIn J T.ga T.gg T.exC (PySem.W.findObj_own T.hdC hno rfl (by rw [hl, hu])) (handed_of ru) ⟨v, H1, I1.tok _, ru, q⟩
/-- a def called while p is handled: its promise may tell p -/
structure FnP (P : Program) (w : World) (K : PySem.W.Frag) (mg : Str → Option Value) (base : Heap) (CX : CXT) (k : Nat) (f : Addr) (fd : FuncData) (ps : List Str) (sp : Addr × Obj → Sp) : Prop where
  len : ∀ p vs H Q E, sp p vs H Q E → vs.length = ps.length
  run : ∀ (A : Around) (outer : List Env) (s : Shared) (H : Hp) (args : Args) (us : List Value) (vs : List V) (Q : VK) (E : XK) (p : Addr × Obj), RoomH k A → PinOk outer H s p → Env0 P w K mg base A outer s H → BindsTo s fd args (ps.zip us) → Vals vs us → sp p vs H Q E →
    codeAny (model P w) A (.call (.ref f) args) (CR CX outer P w H s Q E) s
theorem fn_p {CX : CXT} {P : Program} {w : World} {K : PySem.W.Frag} {mg : Str → Option Value} {base : Heap} {k : Nat} {x qual : Str} {params : Arguments} {body : List Stmt} {scope : Scope} {dvs : List V} {kws : List (Str × V)} {f : Addr} {fd : FuncData} {N ps : List Str} {sp : Addr × Obj → Sp}
    (F : FunD K x qual params body scope dvs kws f fd) (S : FnScope N ps scope) (len : ∀ p vs H Q E, sp p vs H Q E → vs.length = ps.length)
    (hb : ∀ (cdv : Value) (A : Around) (outer : List Env) (s : Shared) (H : Hp) (vs : List V) (Q : VK) (E : XK) (p : Addr × Obj), RoomH k (A.deeper (envOfC qual scope s.heap.objs.size f cdv)) → sp p vs H Q E →
      ∃ t, PSs (cxH CX P w K mg base N qual scope f cdv A outer s H E p) body t ∧ t { nx := fun _ H' => Q .non H', rt := Q } (L2.start N vs) H) : FnP P w K mg base CX (k + 1) f fd ps sp := by
  obtain ⟨oc, od, dV, kV, doc, pm, an, cdv, ct, osl, rfl, lk, hcd, _, _⟩ := F.ex
  refine ⟨len, fun A outer s H args us vs Q E p hr hpin e0 hbn r hsp => ?_⟩
  have hl := len _ _ _ _ _ hsp
  have KX : K.In s.heap := e0.mod.kin.keeps fun b o e => (e0.bs b o e).1
  have lim : s.heap.NoLimit := e0.mod.nolimit.keeps fun b o e => (e0.bs b o e).1
  have kinds : ∀ y ∈ ps.zip us, scope.names.lookup y.1 = some .local ∨ (scope.names.lookup y.1 = some .cell ∧ ((cellsFrom (s.heap.objs.size + 1) scope.names []).lookup y.1).isSome = true) := fun ⟨n, v⟩ hy =>
    (S.par n (List.of_mem_zip hy).1).imp id fun q => ⟨q, PySem.W.cellsFrom_some _ _ _ (.inl q)⟩
  refine codeAny_call_function hr.depth (KX _ _ lk) rfl S.co S.gen rfl (PySem.W.codeRec_of KX hcd) (hbn _ _ _ _ ?_)
  refine wpAny_newFunctionEnv_cells S.kind kinds fun env he s1 y => ?_
  subst he
  refine ⟨lim.keeps y.toInCall.keep, codeAny_func ?_⟩
  obtain ⟨t, ht, hq⟩ := hb cdv A outer s H vs Q E p (hr.deeper _) hsp
  have I : Inv (cxH CX P w K mg base N qual scope f cdv A outer s H E p) [] (L2.start N vs) H s1 := inv_startH S hpin e0 hl r y
  refine wpAny_mono (ht.run [] s1 _ H _ I hq) (fun fl s' hs => ?_) fun e s' hs => hs
  cases fl with
  | ret u => obtain ⟨v, σ', H', J, rv, q⟩ := hs; exact ⟨v, H', J.os, J.bare, J.base, J.hok, rv, q⟩
  | next => obtain ⟨σ', H', J, q⟩ := hs; exact ⟨V.non, H', J.os, J.bare, J.base, J.hok, rfl, q⟩
  | brk => obtain ⟨_, _, _, q⟩ := hs; exact False.elim q
  | cont => obtain ⟨_, _, _, q⟩ := hs; exact False.elim q
def tCallP (sp : Sp) (E : L2.St → XK) (t : TA) : TE := fun σ H Q => t σ H fun vs H1 => sp vs H1 Q (E σ)
theorem pe_callP {X : Cx} {CX : CXT} {k : Nat} {f : Addr} {fd : FuncData} {ps : List Str} {sp : Addr × Obj → Sp} {E : L2.St → XK} {x : Str} {q pos : Pos} {e : Expr} {es : List Expr} {t : TA} {p : Addr × Obj} (F : FnP X.prog X.w X.K X.mg X.base CX k f fd ps sp) (hr : RoomH k X.A) (hp : p ∈ X.pn)
    (hg : Gl X x) (hm : X.mg x = some (.ref f)) (hk : PySem.W.keepIn X.K (.ref f) = true) (hb : Binds X.K fd ps []) (hx : ∀ σ, PassesAt CX X σ (E σ)) (ha : PA X (e :: es) t)
    (hdb : (x == ("__debug__" : Str)) = false := by decide) (he : starEach (e :: es) X.env = (false, eval e X.env) :: starEach es X.env := by rfl) (hpl : (backTo pos (starEach es X.env)).any (·.1) = false := by rfl) :
    PE X (.Call (.Name x q) (e :: es) [] pos) (tCallP (sp p) E t) := by
  refine ⟨fun pins s σ H Q I h => ?_⟩
  refine wpAny_Call_Name_kw (ld_glob I hg hm ?_ hdb)
  refine PySem.W.callWith_K (h₀ := X.base) I.ok.mod.kin hk (thn (ha.run pos pins s σ H _ I h) fun us s1 ⟨vs, H1, I1, r, hs⟩ => ⟨I1.kIn, ?_⟩) he hpl
  have hl : us.length = ps.length := by rw [← r.length]; exact F.len _ _ _ _ _ hs
  have b := hb s1 us I1.kIn (by rw [List.append_nil]; exact hl)
  rw [List.append_nil] at b
  have P1 := I1.pin p (List.mem_append_left _ hp)
  have hpin : PinOk X.stack H1 s1 p := ⟨P1.1, P1.2.1, fun hm => (List.mem_cons.mp (I1.stkSub p.1 hm)).elim P1.2.2.1 P1.2.2.2.1, P1.2.2.2.2⟩
  refine wpAny_call (codeAny_mono (F.run X.A X.stack s1 H1 ⟨us, []⟩ us vs Q (E σ) p hr hpin I1.env0 b r hs) fun rr s' hq => ?_)
  cases rr with
  | error er => exact hx σ pins H1 s1 er s' I1 hq
  | ok fl =>
    cases fl with
    | ret u => exact I1.after hq
    | next => exact False.elim hq
    | brk => exact False.elim hq
    | cont => exact False.elim hq
end XO

namespace XO
open PySem L2
/-- an exception class whose instances' fields fl are read -/
def XRd (K : PySem.W.Frag) (fl : List Str) (C : Addr) : Prop := XfC K C ∧ ∀ f ∈ fl, PySem.W.findIn K (.ref C) f = some none
def xrdB (K : PySem.W.Frag) (fl : List Str) (C : Addr) : Bool := xfB K C && fl.all fun f => decide (PySem.W.findIn K (.ref C) f = some none)
theorem xrdB_ok {K : PySem.W.Frag} {fl : List Str} {C : Addr} (h : xrdB K fl C = true) : XRd K fl C := by
  obtain ⟨h1, h2⟩ := Bool.and_eq_true_iff.mp h
  exact ⟨xfB_ok h1, fun f hf => of_decide_eq_true (List.all_eq_true.mp h2 f hf)⟩
end XO
namespace L2H
open PySem L2
theorem RoomH.u64 {k : Nat} {A : Around} (r : RoomH k A) : A.units + 64 < cLine := by have := r.un; omega
theorem RoomH.u65 {k : Nat} {A : Around} (r : RoomH k A) : A.units + 65 < cLine := by have := r.un; omega
theorem RoomH.u1 {k : Nat} {A : Around} (r : RoomH k A) : A.units + 1 < cLine := by have := r.un; omega
end L2H
namespace MV
open PySem L2 L2H XO
variable [TB]
/-! ### e.f, e the exception that is handled -/
def dXf (a dx : Addr) (f : Str) : D → Option D
  | .exc a' dx' _ gs => if a' = a ∧ dx' = dx then gs.lookup f else none
  | _ => none
@[simp] theorem dXf_s {a dx : Addr} {f c : Str} {gs : List (Str × D)} : dXf a dx f (.exc a dx c gs) = gs.lookup f := by unfold dXf; simp
theorem se_xp {X : Cx} {p : Addr × Obj} {C dx : Addr} {o : Expr} {m : M D} {pos : Pos} {f : Str} {fl : List Str} (T : XRd X.K fl C) (hp : p ∈ X.pn) (hz : Pn p C dx) (ho : SE X o m) (hf : f ∈ fl := by decide) (hb : attributeBase o f X.env (eval o X.env) = eval o X.env := by rfl) :
    SE X (.Attribute o f pos) (mUn (dXf p.1 dx f) m) := by
  refine PE.imp (pe_xp T.1 (T.2 f hf) hp hz ho hb) fun σ H Q ⟨I, e, Fs, R, d, e', hm, k⟩ => ?_
  obtain ⟨⟨x, e1⟩, h1, hm⟩ := Option.bind_eq_some_iff.mp hm
  obtain ⟨z, h3, hm⟩ := Option.map_eq_some_iff.mp hm
  cases hm
  refine ⟨I, e, Fs, R, x, e1, h1, fun v I' Fs' H' R' x' r => ?_⟩
  cases x with
  | exc a' dx' c gs =>
    have h9 : (if a' = p.1 ∧ dx' = dx then gs.lookup f else none) = some d := h3
    split at h9
    · rename_i hh
      obtain ⟨rfl, rfl⟩ := hh
      simp only [Rp] at r
      obtain ⟨rfl, C', fs, _, h4, h5⟩ := r
      obtain ⟨v, hv, rv⟩ := h5.look.1 _ h9
      exact ⟨rfl, fs, v, R'.sub _ _ h4, hv, k v I' Fs' H' R' x' rv⟩
    · cases h9
  | _ => cases h3
/-- a def called in an except suite with what is handled -/
def spP (K : PySem.W.Frag) (mg : Str → Option Value) (fl : List Str) (n : Nat) (g : Addr → Addr → FSem) : Addr × Obj → Sp := fun p vs H Q E => ∃ C dx, Pn p C dx ∧ XRd K fl C ∧ spF K mg n (g p.1 dx) vs H Q E
theorem fn_semP {P : Program} {w : World} {K : PySem.W.Frag} {mg : Str → Option Value} {base : Heap} {x qual : Str} {params : Arguments} {body : List Stmt} {scope : Scope} {dvs : List V} {kws : List (Str × V)} {f : Addr} {fd : FuncData} {N ps : List Str} {k : Nat} {io : List Bool} {fl : List Str} {m : Addr → Addr → S}
    (F : FunD K x qual params body scope dvs kws f fd) (Sc : FnScope N ps scope) (hio : io.length = ps.length)
    (hb : ∀ (cdv : Value) (A : Around) (outer : List PySem.Env) (s : Shared) (H : Hp) (E : XK) (p : Addr × Obj) (C dx : Addr), RoomH k (A.deeper (PyProof.Rows.envOfC qual scope s.heap.objs.size f cdv)) → Pn p C dx → XRd K fl C →
      SB (cxH (L2N.CX P w) P w K mg base N qual scope f cdv A outer s H E p) (ioA io) (WB E) body (m p.1 dx)) :
    FnP P w K mg base (L2N.CX P w) (k + 1) f fd ps (spP K mg fl ps.length fun a dx => fsem N.length io (m a dx)) := by
  have hpl : ps.length ≤ N.length := by have := congrArg List.length Sc.pre; rw [List.length_take] at this; omega
  refine fn_p F Sc (fun p vs H Q E ⟨C, dx, _, _, h⟩ => spF_len h) fun cdv A outer s H vs Q E p hr ⟨C, dx, h1, h2, h⟩ => ?_
  exact ⟨tS K mg (ioA io) (WB E) (m p.1 dx), hb cdv A outer s H E p C dx hr h1 h2, fsem_run hio hpl h⟩
/-- a def of the module that is so called -/
def FnHot (P : Program) (w : World) (K : PySem.W.Frag) (mg : Str → Option Value) (base : Heap) (k : Nat) (x : Str) (ps fl : List Str) (g : Addr → Addr → FSem) : Prop := ∃ f fd, mg x = some (.ref f) ∧ PySem.W.keepIn K (.ref f) = true ∧ Binds K fd ps [] ∧ FnP P w K mg base (L2N.CX P w) k f fd ps (spP K mg fl ps.length g)
end MV

/-! a, b = x, y in an except suite -/
namespace XO
open PySem PySem.Spec PyProof.Rows L2 L2H HotX
section
variable {prog : Program} {w : World} {A : Around} {E : Value → Shared → Prop} {s : Shared}
theorem tup_end {it t x1 : Addr} {i : Nat} {items : Array Value} {Q : Option Value → Shared → Prop} (hot : HotAt A x1 s.heap) (hn : x1 ≠ it) (hit : IsTupIter s.heap it t i) (ht : IsTup s.heap t items) (hx : items[i]? = none)
    (k : ∀ h', (∀ b o, b ≠ it → s.heap.get? b = some o → h'.get? b = some o) → Q none { s with heap := h' }) : wpAny (model prog w) A (pyNext (.ref it)) Q E s := by
  obtain ⟨oi, hoi, hci, hdi⟩ := id hit
  obtain ⟨ot, hot', _, nt, hdt⟩ := ht
  obtain ⟨hh, o1, v1, g1, d1, c1⟩ := hot
  have st : (s.heap.update it (Obj.mapFields (·.setIfInBounds 0 Value.none))).get? x1 = some o1 := by rw [Heap.get?_update_other _ _ (Ne.symm hn)]; exact g1
  unfold pyNext
  refine wpAny_bind (wpAny_attempt (wpAny_callSpecial?_slot (name := Str.ofString "__next__") hit.typeIs slot_tupleiter_next (wpAny_call_entry slot_tupleiter_next hit.typeIs entry_tupleiter_next ?_ (args_tupleiter_next _))))
  show wpAny (model prog w) A.in1 (field (.ref it) 0 >>= _) _ _ s
  refine wpAny_bind (wpAny_field hoi hdi (x := .ref t) rfl ?_)
  show wpAny (model prog w) A.in1 (if (Value.ref t == Value.none) = true then _ else _) _ _ s
  rw [if_neg (show ¬ (Value.ref t == Value.none) = true from Bool.false_ne_true)]
  show wpAny (model prog w) A.in1 (field (.ref it) 1 >>= _) _ _ s
  refine wpAny_bind (wpAny_field hoi hdi (x := .int i 0) rfl ?_)
  show wpAny (model prog w) A.in1 (seqItems? (.ref t) >>= _) _ _ s
  refine wpAny_bind (wpAny_seqItems hot' hdt ?_)
  simp only [hx, Int.toNat_natCast]
  refine wpAny_bind (wpAny_rule (wpAny_bind (wpAny_setField hoi hdi (by simp) ?_)))
  show wpAny (model prog w) A.in1 (newExc (.type "StopIteration") [] >>= _) _ _ _
  refine wpAny_bind ?_
  simp only [newTuple, newExc]
  refine wpAny_bind (wpAny_newObj_type ?_ (by size_fits))
  refine wpAny_bind (m := firstArgMember _ _) (wpAny_of_eq (a := Value.none) (by first | (simp only [firstArgMember]; rfl) | rfl) ?_)
  refine wpAny_newObj_type ?_ (by size_fits)
  refine raiseNew_hot (x1 := x1) ⟨hh, o1, v1, Heap.get?_push_of_some _ (Heap.get?_push_of_some _ st), d1, c1⟩ (Nat.ne_of_lt (Heap.lt_size (Heap.get?_push_of_some _ st))) (Heap.get?_push_size _ rfl) rfl
    (by first | (simp; done) | (simp; omega) | (simp only [Array.size_append]; simp; omega)) ?_
  refine wpAny_bind (wpAny_isInstance (T := "StopIteration") (b := true) ⟨_, Heap.get?_update_self _ (Heap.get?_push_size _ rfl) rfl, rfl⟩ isSubtype_stop ?_)
  refine wpAny_pure (k _ fun b o hb e => ?_)
  have e2 : (s.heap.update it (Obj.mapFields (·.setIfInBounds 0 Value.none))).get? b = some o := by rw [Heap.get?_update_other _ _ (Ne.symm hb)]; exact e
  rw [Heap.get?_update_other _ _ (Nat.ne_of_gt (Heap.lt_size (Heap.get?_push_of_some _ e2)))]
  exact Heap.get?_push_of_some _ (Heap.get?_push_of_some _ e2)
theorem unpack_hot {t x1 : Addr} {items : Array Value} {Q : List Value → Shared → Prop} (hot : HotAt A x1 s.heap) (ht : IsTup s.heap t items)
    (k : ∀ h', Heap.ExtBut s.heap.objs.size s.heap h' → Q items.toList { s with heap := h' }) : wpAny (model prog w) A (unpackItems (.ref t) items.size none) Q E s := by
  have hlt : t ≠ s.heap.objs.size := let ⟨o, ho, _⟩ := ht; Nat.ne_of_lt (Heap.lt_size ho)
  obtain ⟨hh, o1, v1, g1, d1, c1⟩ := hot
  have hx : x1 ≠ s.heap.objs.size := Nat.ne_of_lt (Heap.lt_size g1)
  unfold unpackItems
  refine wpAny_bind ?_
  unfold notIterableAtAll
  refine wpAny_bind (wpAny_specialOf ht.typeIs slot_tuple_iter.lookup (wpAny_pure ?_))
  simp only [Bool.false_eq_true, if_false]
  refine wpAny_bind (wpAny_holding (iter_tuple ht (wpAny_bind (wpAny_holding (draw_tuple hlt items.size 0 _ _ ⟨_, Heap.get?_push_size _ rfl, rfl, rfl⟩ (ht.push _) (by omega) fun h₁ hit₁ hs₁ => ?_)))))
  have hall : List.take items.size (List.drop 0 items.toList) = items.toList := by
    rw [List.drop_zero, List.take_of_length_le (by simp)]
  rw [hall, if_neg (by simp)]
  have ht₁ : IsTup h₁ t items := (ht.push _).extBut hs₁.extBut hlt
  have g2 : h₁.get? x1 = some o1 := hs₁.extBut x1 o1 hx (Heap.get?_push_of_some _ g1)
  refine wpAny_bind (wpAny_holding (tup_end (x1 := x1) ⟨hh, o1, v1, g2, d1, c1⟩ hx hit₁ ht₁ (by simp) fun h₂ he₂ => ?_))
  simp only [Option.isSome_none, Bool.false_eq_true, if_false]
  exact wpAny_pure (k h₂ fun b o hb e => he₂ b o hb (hs₁.extBut b o hb (Heap.get?_push_of_some _ e)))
end
end XO

namespace XO
open PySem PySem.Spec PyProof.Rows L2 L2H HotX
theorem hot_suite {X : Cx} {a : Addr} {oe : Obj} {cls : Value} {d : Option Addr} {pn : List (Addr × Obj)} (hz : L2N.Zn cls d oe) (hf : ∃ vs, oe.data = .fields vs) : HotC (X.suite a ((a, oe) :: pn)) := by
  obtain ⟨vs, e⟩ := hf
  exact ⟨(a, oe), ⟨rfl, vs, e, hz.2.2 vs e⟩, List.mem_cons_self⟩
theorem ps_parH {X : Cx} {i j : Nat} {x y : Str} {a b : Expr} {ta : TA} {px py pt pt2 pos : Pos} {kt k2 : Nat} (hc : HotC X) (hN : X.N.Nodup) (hi : X.N[i]? = some x) (hj : X.N[j]? = some y) (hij : i ≠ j)
    (hx : X.env.scope.names.lookup x = some .local) (hy : X.env.scope.names.lookup y = some .local) (ha : PA X [a, b] ta) (hw : swappedStores [.Tuple [.Name x px, .Name y py] kt pt] (.Tuple [a, b] k2 pt2) X.env = pure (some [x, y]))
    (hs : swapsWithSole [.Tuple [.Name x px, .Name y py] kt pt] (.Tuple [a, b] k2 pt2) pos.line X.env = pure false := by rfl) : PS X (.Assign [.Tuple [.Name x px, .Name y py] kt pt] (.Tuple [a, b] k2 pt2) pos) (tPar i j ta) := by
  refine ⟨fun pins s σ H D I h => ?_⟩
  refine Assign_Tuple_swapped (names := [x, y]) (Tuple_ (thn (ha.run _ pins s σ H _ I h) fun us s1 ⟨vs, H1, I1, r1, v, w, ev, q1⟩ => ?_)) hs hw
  subst ev
  cases r1 with
  | @cons _ u1 _ ur rv r2 =>
    cases r2 with
    | @cons _ u2 _ ur2 rw2 r3 =>
      cases r3
      refine wpAny_newObj_type ?_ (by show 2 ≤ sizeLine; rw [sizeLine_eq]; decide)
      have I2 : Inv X pins σ H1 { s1 with heap := s1.heap.push { cls := .type "tuple", data := .seq [u1, u2].toArray } } := I1.kept (t' := s1.toks) fun b o e => Heap.get?_push_of_some _ e
      obtain ⟨x1, hot⟩ := hc.at I2
      show wpAny (model X.prog X.w) X.A (unpackItems (.ref s1.heap.objs.size) (#[u1, u2] : Array Value).size none) _ _ _
      refine unpack_hot (items := #[u1, u2]) hot (IsTup.new s1.heap _) fun h' hk => ?_
      have I3 := I2.kept (h' := h') (t' := s1.toks) fun b o e => hk b o (Nat.ne_of_lt (Heap.lt_size e)) e
      refine assignInOrder_cons (wpAny_bindName (store_ok I3 hN hj (.inl hy) rw2 (fun s2 I4 => ?_) (.inr hy)))
      refine assignInOrder_cons (wpAny_bindName (store_ok I4 hN hi (.inl hx) rv (fun s3 I5 => assignInOrder_nil ?_) (.inr hx)))
      rw [List.set_comm _ _ (Ne.symm hij)] at I5
      exact ⟨_, H1, I5, q1⟩
end XO

namespace LamK
open PySem PySem.Spec PyProof.Rows L2 LamX
/-! ### a lambda without parameters, called from any depth -/
section
variable {X : Cx} {pins : List (Addr × Obj)} {σ : L2.St} {H HZ : Hp} {s s1 : Shared}
theorem lamN_start {A : Around} {outer : List Env} {E : XK} {scope : Scope} {f c' : Addr} {g : Heap} {tk : Nat} {fs : List Addr} (I : Inv X pins σ H s) (L : LamS X.env.scope scope) (e0 : Env0 X.prog X.w X.K X.mg X.base A outer s1 HZ) (hd : A.handled = none)
    (un : Un fs [] H HZ s.heap s1.heap) (hns : g.Ns s1.heap.objs.size fun z => ([] : List (Str × Value)).reverse.lookup z) (kp : ∀ b o, s1.heap.get? b = some o → g.get? b = some o) :
    Inv (lamCx X A outer s1 HZ E scope f c') [] σ HZ { s1 with heap := g, toks := tk } := by
  have caps := L.has I.ok
  have up : ∀ {z c}, (cloFrom X.env.cells scope.names []).lookup z = some c → X.env.cells.lookup z = some c := fun {z c} e => by
    rcases cloFrom_mem (PySem.mem_of_lookup e) with hm | ⟨h1, h2⟩
    · cases hm
    · obtain ⟨c1, hc⟩ := caps _ h1 rfl
      have hc : X.env.cells.lookup z = some c1 := hc
      have e2 : c = c1 := by
        rw [h2, hc] <;> rfl
      rw [e2]; exact hc
  have look : ∀ {z}, scope.names.lookup z = some .free → ∃ c, (cloFrom X.env.cells scope.names []).lookup z = some c := fun {z} hl =>
    mem_lookup (cloFrom_has (cells := X.env.cells) (acc := []) (show (z, NameKind.free) ∈ scope.names from PySem.mem_of_lookup hl))
  have cellK : ∀ {c : Addr} {v : Option Value}, H c = none → s.heap.IsCell c v → g.IsCell c v := fun {c v} n ⟨o, ho, hdt⟩ => by
    obtain ⟨sl, q⟩ := un.any ho n (by simp)
    exact ⟨_, kp _ _ q, hdt⟩
  have noX : ∀ b : Addr, b ∉ (lamCx X A outer s1 HZ E scope f c').ex := fun b z => absurd (show b ∈ ([] : List Addr) from z) (by simp)
  have nocell : ∀ z, scope.names.lookup z ≠ some .cell := fun z k => absurd rfl (L.own _ (PySem.mem_of_lookup k)).2
  have noloc : ∀ z, scope.names.lookup z ≠ some .local := fun z k => absurd rfl (L.own _ (PySem.mem_of_lookup k)).1
  refine ⟨⟨e0.mod, L.kind, rfl, rfl, Nat.le_refl _, fun y z c e1 e2 => I.ok.inj y z c (up e1) (up e2), fun z hz => ?_, fun z c q _ => ?_, fun _ => hd, Around.frames_deeper e0.frames, .inr ⟨rfl, rfl⟩, fun b z => absurd z (noX b), e0.bs, e0.bsz, fun b _ _ => noX b,
      fun b z => absurd z (noX b), e0.funs, e0.frf⟩,
    rfl, e0.bare, Un.kept kp, ⟨_, hns, fun i z w e1 e2 e3 => ?_⟩, fun z c e => ?_, e0.hok.fresh (Nat.le_refl _), fun z c e => ?_, fun q hq => absurd (show q ∈ ([] : List (Addr × Obj)) ++ [] from hq) (by simp), e0.hok.kept kp, I.len⟩
  · have hz : scope.names.lookup z = some .cell ∨ scope.names.lookup z = some .free := hz
    rcases hz with hz | hz
    · exact absurd hz (nocell z)
    · exact look hz
  · have q : false = true := q
    cases q
  · have e3 : Vis scope z := e3
    rcases e3 with k | k | k
    · exact absurd k (noloc z)
    · exact absurd k (nocell z)
    · obtain ⟨m, hn, hl⟩ := I.loc
      have fz := L.free _ (PySem.mem_of_lookup k) rfl
      obtain ⟨w', r', q⟩ := hl i z w e1 e2 (fz.elim (fun k => .inr (.inl k)) (fun k => .inr (.inr k)))
      obtain ⟨c2, h2⟩ := look k
      refine ⟨w', r', .inr ⟨.inr k, c2, h2, ?_⟩⟩
      have c1 := up h2
      rcases q with ⟨k', _⟩ | ⟨_, c3, e', q3⟩
      · have k' : X.env.scope.names.lookup z = some .local := k'
        rcases fz with k2 | k2 <;> rw [show X.env.scope.names.lookup z = _ from k2] at k' <;> cases k'
      · rw [c1] at e'
        cases e'
        exact cellK (I.freeC z c2 c1) q3
  · obtain ⟨w', q⟩ := I.cell z c (up e)
    exact ⟨w', cellK (I.freeC z c (up e)) q⟩
  · obtain ⟨v, o, ho, hdt⟩ := I.cell z c (up e)
    exact un.free c o ho (I.freeC z c (up e)) (by simp)
/-- the context of the lambda's body; its exceptions by L2N -/
def lamNx (X : Cx) (A : Around) (outer : List Env) (s : Shared) (H : Hp) (E : XK) (scope : Scope) (f c' : Addr) : Cx :=
  (lamCx X A outer s H E scope f c').wish fun e s' => wpAny (model X.prog X.w) (A.deeper (lamEnv X scope s.heap.objs.size f c')) (leaving (lamEnv X scope s.heap.objs.size f c') e) (fun _ s2 => L2N.CX X.prog X.w outer H s E e s2) (fun e2 s2 => L2N.CX X.prog X.w outer H s E e2 s2) s'
theorem takes_lam {A : Around} {outer : List Env} {E : XK} {scope : Scope} {f c' : Addr} {H : Hp} {s : Shared} : L2N.Takes (lamNx X A outer s H E scope f c') (fun cls d _ H' => E cls d H') := L2N.takes_of rfl rfl rfl rfl
/-- x(), deep in the frames of defs that got the lambda -/
theorem pe_deep {CXg : CXT} {Eg : XK} {Ng : List Str} {qg : Str} {sg : Scope} {g f c' : Addr} {cdg pm ctv : Value} {params : Arguments} {body : Expr} {scope : Scope} {k i : Nat} {a : Str} {pn : List (Addr × Obj)} {xe : Value → Shared → Prop} {W : WX} {tb : XK → TE} {p1 p2 : Pos}
    {Ao : Around} {outer : List Env} {s0 : Shared} {H0 : Hp}
    (I : Inv X pins σ H s) (L : LamS X.env.scope scope) (hf : s.heap.get? f = some (PySem.W.kla_obj "<lambda>" (X.env.qual ++ "<lambda>") params body scope (cloFrom X.env.cells scope.names []) pm c' ctv)) (hfn : H f = none) (hfr : f ∉ frs outer) (un0 : Un (frs outer) [] H H0 s.heap s0.heap)
    (hbind : bindArgs (PySem.W.kla_fn "<lambda>" (X.env.qual ++ "<lambda>") params body scope (cloFrom X.env.cells scope.names []) pm (.ref c') ctv) ⟨[], []⟩ = pure [])
    (tk : L2N.Takes ((cxOf CXg X.prog X.w X.K X.mg X.base Ng qg sg g cdg Ao outer s0 H0 Eg).tr pn xe) W) (hr : Room (k + 1) (Ao.deeper (envOfC qg sg s0.heap.objs.size g cdg)))
    (hbody : ∀ (A : Around) (outer : List Env) (s : Shared) (H : Hp) (E : XK), Room k (A.deeper (lamEnv X scope s.heap.objs.size f c')) → PE (lamNx X A outer s H E scope f c') body (tb E))
    (hN : Ng[i]? = some a) (hv : Vis sg a) (hd : (a == ("__debug__" : Str)) = false := by decide) (hcd : (a == ("__classdict__" : Str)) = false := by decide) :
    PE ((cxOf CXg X.prog X.w X.K X.mg X.base Ng qg sg g cdg Ao outer s0 H0 Eg).tr pn xe) (.Call (.Name a p1) [] [] p2)
      (fun σZ HZ Q => σZ[i]? = some (some (.ref f)) ∧ HZ c' = some (CodeO c' (X.env.qual ++ "<lambda>")) ∧ ∃ E : XK, (∀ cls d H', E cls d H' → W cls d σZ H') ∧ tb E σ HZ Q) := by
  refine ⟨fun pinsZ sZ σZ HZ Q IZ ⟨hs, hc, E, hE, ht⟩ => ?_⟩
  refine wpAny_Call_Name_kw (thn ((pe_var (pos := p1) (i := i) hN hv hd hcd).run pinsZ sZ σZ HZ (fun v H1 => v = .ref f ∧ H1 = HZ) IZ ⟨.ref f, hs, rfl, rfl⟩) fun u s2 ⟨v, H1, I1, ru, ev, eH⟩ => ?_)
  subst ev
  rw [eH] at I1
  obtain rfl : u = Value.ref f := ru
  have un : Un (frs outer) [] H HZ s.heap s2.heap := un0.trans I1.base
  have of2 : s2.heap.get? f = some (PySem.W.kla_obj "<lambda>" (X.env.qual ++ "<lambda>") params body scope (cloFrom X.env.cells scope.names []) pm c' ctv) := un.keep f _ hf hfn hfr (fun z => nomatch (show f ∈ ([] : List Addr) from z))
  refine PySem.W.callWith_F0 ⟨_, _, _, _, of2⟩ ?_
  obtain ⟨⟨oc, vs, t, hoc, hdc, hvc⟩, _, _⟩ := I1.hok c' _ hc
  have rc : codeAny (model X.prog X.w) (Ao.deeper (envOfC qg sg s0.heap.objs.size g cdg)) (.call (.ref f) ⟨[], []⟩) (CR (L2N.CX X.prog X.w) (envOfC qg sg s0.heap.objs.size g cdg :: outer) X.prog X.w HZ s2 Q E) s2 := by
    refine PySem.W.kla_callFunE hr.depth of2 rfl L.co L.gen rfl ⟨c', oc, vs, t, rfl, hoc, hdc, hvc⟩ ?_
    rw [hbind]
    refine wpAny_pure (wpAny_newFunctionEnv (fun y hy => (L.own y hy).2) (fun y hy => absurd hy (by simp)) (fun h₁ hns hsb => ⟨I1.nolimit.fresh _ hsb, ?_⟩) L.kind)
    have kp : ∀ b o, s2.heap.get? b = some o → h₁.get? b = some o := fun b o e => hsb.extBut b o (Nat.ne_of_lt (Heap.lt_size e)) (Heap.get?_push_of_some _ e)
    have J := lamN_start (A := Ao.deeper (envOfC qg sg s0.heap.objs.size g cdg)) (E := E) (f := f) (c' := c') (tk := s2.toks + ([] : List (Str × Value)).length) I L I1.env0 hr.hd un hns kp
    refine PySem.W.kla_codeExpr (wpAny_mono ((hbody _ _ s2 HZ E (hr.deeper _)).run [] _ _ HZ Q (J.wish _) ht) (fun v s' hq => ?_) fun e s' hq => hq)
    obtain ⟨w', H', J', rv, q⟩ := hq
    exact ⟨w', H', J'.os, J'.bare, J'.base, J'.hok, rv, q⟩
  refine wpAny_call (codeAny_mono rc fun r s' hq => ?_)
  cases r with
  | error e => exact tk e s' (L2N.XE.of_call I1 (fun cls d H' h => hE cls d H' h) hq)
  | ok fl =>
    cases fl with
    | ret u => exact I1.after hq
    | next => exact False.elim hq
    | brk => exact False.elim hq
    | cont => exact False.elim hq
end
end LamK

namespace MV
open PySem L2 L2H XO
variable [TB]
/-! ### word, field = e.word, told(e), in an except suite -/
/-- what the suite makes of the exception at a with its dict at dx -/
def tTell (K : PySem.W.Frag) (mg : Str → Option Value) (fl : List Str) (g : Addr → Addr → FSem) (i j l : Nat) (a : Addr) (cls : Value) (d : Option Addr) : TS := fun D σ H =>
  match cls, d with
  | .ref C, some dx => XRd K fl C ∧ σ[l]? = some (some (.ref a)) ∧ ∃ (fs : List (Str × V)) (v : V), H dx = some (.xd fs) ∧ fs.lookup ("word" : Str) = some v ∧ spF K mg 1 (g a dx) [.ref a] H (fun u H2 => D.nx ((σ.set i (some v)).set j (some u)) H2) (fun _ _ _ => False)
  | _, _ => False
theorem ps_tell {X : Cx} {p : Addr × Obj} {cls : Value} {d : Option Addr} {i j l k : Nat} {x y z nm : Str} {fl : List Str} {g : Addr → Addr → FSem} {ps : List Str} {px py pz pz2 pf pt pt2 pc pa pos : Pos} {kt k2 : Nat} (hz : L2N.Zn cls d p.2) (hv : ∃ vs, p.2.data = .fields vs) (hot : HotC X) (hp : p ∈ X.pn)
    (F : FnHot X.prog X.w X.K X.mg X.base k nm ps fl g) (hps : ps.length = 1) (hr : RoomH k X.A) (hfl : ("word" : Str) ∈ fl) (hN : X.N.Nodup) (hi : X.N[i]? = some x) (hj : X.N[j]? = some y) (hl : X.N[l]? = some z) (hij : i ≠ j)
    (hx : X.env.scope.names.lookup x = some .local) (hy : X.env.scope.names.lookup y = some .local) (hzv : Vis X.env.scope z) (hgn : Gl X nm) (hzd : (z == ("__debug__" : Str)) = false) (hzc : (z == ("__classdict__" : Str)) = false) (hnd : (nm == ("__debug__" : Str)) = false)
    (hw : swappedStores [.Tuple [.Name x px, .Name y py] kt pt] (.Tuple [.Attribute (.Name z pz) "word" pa, .Call (.Name nm pf) [.Name z pz2] [] pc] k2 pt2) X.env = pure (some [x, y]))
    (hs : swapsWithSole [.Tuple [.Name x px, .Name y py] kt pt] (.Tuple [.Attribute (.Name z pz) "word" pa, .Call (.Name nm pf) [.Name z pz2] [] pc] k2 pt2) pos.line X.env = pure false)
    (hb : attributeBase (.Name z pz) "word" X.env (eval (.Name z pz) X.env) = eval (.Name z pz) X.env)
    (h1 : starEach [.Attribute (.Name z pz) "word" pa, .Call (.Name nm pf) [.Name z pz2] [] pc] X.env = (false, eval (.Attribute (.Name z pz) "word" pa) X.env) :: starEach [.Call (.Name nm pf) [.Name z pz2] [] pc] X.env)
    (h2 : starEach [.Call (.Name nm pf) [.Name z pz2] [] pc] X.env = (false, eval (.Call (.Name nm pf) [.Name z pz2] [] pc) X.env) :: starEach [] X.env)
    (h3 : starEach [.Name z pz2] X.env = (false, eval (.Name z pz2) X.env) :: starEach [] X.env) (h4 : (backTo pc (starEach [] X.env)).any (·.1) = false) :
    PSs X [.Assign [.Tuple [.Name x px, .Name y py] kt pt] (.Tuple [.Attribute (.Name z pz) "word" pa, .Call (.Name nm pf) [.Name z pz2] [] pc] k2 pt2) pos] (tTell X.K X.mg fl g i j l p.1 cls d) := by
  obtain ⟨f, fd, hm, hk, hbd, FP⟩ := F
  refine pss_one ⟨fun pins s σ H D I h => ?_⟩
  unfold tTell at h
  cases cls with
  | ref C =>
    cases d with
    | none => exact h.elim
    | some dx =>
      obtain ⟨T, h0, fs, v, hd, hlk, q⟩ := h
      have hpn : Pn p C dx := ⟨hz, hv⟩
      have pz1 : PE X (.Name z pz) (tVar l) := pe_var hl hzv hzd hzc
      have pz2' : PE X (.Name z pz2) (tVar l) := pe_var hl hzv hzd hzc
      have e1 := pe_xp (pos := pa) T.1 (T.2 _ hfl) hp hpn pz1 hb
      have e2 := pe_callP (pos := pc) (q := pf) (E := fun σ => WE W0 σ) FP hr hp hgn hm hk hbd (L2N.passAt takesN0) (pa_cons pz2' pa_nil h3) hnd h3 h4
      have st := ps_parH (px := px) (py := py) (pt := pt) (kt := kt) (k2 := k2) (pt2 := pt2) (pos := pos) hot hN hi hj hij hx hy (pa_cons e1 (pa_cons e2 pa_nil h2) h1) hw hs
      refine st.run pins s σ H D I ?_
      refine ⟨.ref p.1, h0, rfl, fs, v, hd, hlk, .ref p.1, h0, C, dx, hpn, T, ?_⟩
      rw [hps]
      obtain ⟨I1, ws, Fa, a1, a2, w, oe, a3, a4, a5⟩ := q
      exact ⟨I1, ws, Fa, a1, a2, w, oe, a3, fun u I' Fo H' F b1 b2 b3 b4 => ⟨v, u, rfl, a4 u I' Fo H' F b1 b2 b3 b4⟩, a5⟩
  | _ => exact h.elim
end MV

namespace MV
open PySem L2 L2H XO LamX
variable [TB]
/-! ### a, w, u = None, "", None; try: a = ask() / except ..: w, u = e.word, told(e); return (a, w, u) -/
section
variable {K : PySem.W.Frag} {mg : Str → Option Value}
/-- how it ends -/
def endT (Q : VK) : V → V → V → Hp → Prop := fun v w u H => ∀ T, H T = none → Q (.ref T) (upd H T (.tup [v, w, u]))
/-- what is wanted of an exception that comes out of the call -/
def exT (K : PySem.W.Frag) (mg : Str → Option Value) (fl : List Str) (g : Addr → Addr → FSem) (c1 c2 : Value) (Q : VK) : XK := fun cls d H =>
  (∃ b1, PySem.W.exmOne K cls c1 = some b1 ∧ (b1 = true ∨ PySem.W.exmOne K cls c2 = some true)) ∧
  ∃ C dx, cls = .ref C ∧ d = some dx ∧ XRd K fl C ∧ ∃ (fs : List (Str × V)) (v : V), H dx = some (.xd fs) ∧ fs.lookup ("word" : Str) = some v ∧ ∀ a, H a = none → spF K mg 1 (g a dx) [.ref a] H (fun u H2 => endT Q .non v u H2) (fun _ _ _ => False)
/-- what the def makes of the reading tl of the call -/
def tryT (K : PySem.W.Frag) (mg : Str → Option Value) (fl : List Str) (g : Addr → Addr → FSem) (c1 c2 : Value) (tl : XK → Hp → VK → Prop) (H : Hp) (Q : VK) : Prop :=
  ∀ T, H T = none → tl (exT K mg fl g c1 c2 Q) (upd H T (.tup [.non, .str (Str.ofString ""), .non])) (fun v H' => endT Q v (.str (Str.ofString "")) .non H')
/-- the try's body as it is read: i the call's lambda, at f, its code object at c' -/
def tbT (f c' : Addr) (q : Str) (tl : XK → Hp → VK → Prop) : WX → TS := fun W D σ H => ∃ Ech : XK, (∀ cls d H', Ech cls d H' → W cls d σ H') ∧ σ[0]? = some (some (.ref f)) ∧ H c' = some (CodeO c' q) ∧ tl Ech H (fun v H' => D.nx (σ.set 1 (some v)) H')
/-- the whole body's reading -/
def tTryDef (K : PySem.W.Frag) (mg : Str → Option Value) (fl : List Str) (g : Addr → Addr → FSem) (c1 c2 : Value) (f c' : Addr) (q : Str) (tl : XK → Hp → VK → Prop) : TS :=
  tSeq (tAsg (tTup (tCons (tC .non) (tCons (tC (.str (Str.ofString ""))) (tCons (tC .non) tNil)))) (gTup K 3 (gCons (gName 1) (gCons (gName 2) (gCons (gName 3) gNil)))))
    (tSeq (fun D σ H => tbT f c' q tl (wAll K 4 (fun _ _ _ _ => False) D [(c1, tTell K mg fl g 2 3 4), (c2, tTell K mg fl g 2 3 4)]) D σ H)
      (tSeq (tRet (tTup (tCons (tVar 1) (tCons (tVar 2) (tCons (tVar 3) tNil))))) tNext))
theorem try_run {fl : List Str} {g : Addr → Addr → FSem} {c1 c2 : Value} {f c' : Addr} {q : Str} {tl : XK → Hp → VK → Prop} {H : Hp} {Q : VK} {D : Ends} (hc : H c' = some (CodeO c' q)) (mono : ∀ (E : XK) (H : Hp) (Q1 Q2 : VK), (∀ v H', Q1 v H' → Q2 v H') → tl E H Q1 → tl E H Q2) (h : tryT K mg fl g c1 c2 tl H Q) (hD : D.rt = Q) :
    tTryDef K mg fl g c1 c2 f c' q tl D [some (.ref f), none, none, none, none] H := by
  have z3 : ([.non, .str (Str.ofString ""), .non] : List V).length ≤ sizeLine := by rw [sizeLine_eq]; decide
  refine ⟨z3, fun T hT => ⟨T, _, rfl, .of upd_same, rfl, .non, _, rfl, .str (Str.ofString ""), _, rfl, .non, _, rfl, rfl, ?_⟩⟩
  have e1 : ((([some (V.ref f), none, none, none, none] : L2.St).set 1 (some .non)).set 2 (some (.str (Str.ofString "")))).set 3 (some .non) = [some (.ref f), some .non, some (.str (Str.ofString "")), some .non, none] := rfl
  show tbT _ _ _ _ _ _ (((([some (V.ref f), none, none, none, none] : L2.St).set 1 (some .non)).set 2 (some (.str (Str.ofString "")))).set 3 (some .non)) _
  rw [e1]
  have nT : c' ≠ T := fun z => by rw [z, hT] at hc; cases hc
  have fin : ∀ (v w u : V) (x : Option V) (H' : Hp), endT Q v w u H' → tTup (tCons (tVar 1) (tCons (tVar 2) (tCons (tVar 3) tNil))) [some (.ref f), some v, some w, some u, x] H' D.rt := fun v w u x H' he =>
    ⟨v, rfl, w, rfl, u, rfl, by show [v, w, u].length ≤ sizeLine; rw [sizeLine_eq]; simp, fun p hp => by rw [hD]; exact he p hp⟩
  refine ⟨exT K mg fl g c1 c2 Q, fun cls d H' hx => ?_, rfl, by rw [upd_ne nT]; exact hc, ?_⟩
  · obtain ⟨⟨b1, hb1, hor⟩, C, dx, rfl, rfl, T', fs, v, hd, hl, k⟩ := hx
    have tell : ∀ a, H' a = none → tTell K mg fl g 2 3 4 a (.ref C) (some dx) (goneD 4 { D with nx := (tSeq (tRet (tTup (tCons (tVar 1) (tCons (tVar 2) (tCons (tVar 3) tNil))))) tNext) D }) (([some (.ref f), some .non, some (.str (Str.ofString "")), some .non, none] : L2.St).set 4 (some (.ref a))) H' := fun a ha => by
      refine ⟨T', rfl, fs, v, hd, hl, ?_⟩
      obtain ⟨I1, ws, Fa, a1, a2, w, oe, a3, a4, a5⟩ := k a ha
      exact ⟨I1, ws, Fa, a1, a2, w, oe, a3, fun u I' Fo H2 F b1 b2 b3 b4 => fin .non v u none H2 (a4 u I' Fo H2 F b1 b2 b3 b4), a5⟩
    refine ⟨b1, hb1, fun _ a ha => tell a ha, fun hf => ?_⟩
    rcases hor with z | z
    · rw [z] at hf; cases hf
    · exact ⟨true, z, fun _ a ha => tell a ha, fun y => by cases y⟩
  · exact mono _ _ _ _ (fun v H' he => fin v (.str (Str.ofString "")) .non none H' he) (h T hT)
end
end MV

namespace MV
open PySem L2 L2H XO LamX
variable [TB]
/-! ### the law's try, called with a lambda -/
section
variable {P : Program} {w : World} {K : PySem.W.Frag} {mg : Str → Option Value} {base : Heap}
/-- the call of what was handed in, as it is read: f the lambda, c' its code object -/
def actT (f c' : Addr) (q : Str) (tl : XK → Hp → VK → Prop) (W : WX) : TE := fun σ H Q => σ[0]? = some (some (.ref f)) ∧ H c' = some (CodeO c' q) ∧ ∃ E : XK, (∀ cls d H', E cls d H' → W cls d σ H') ∧ tl E H Q
/-- in the def's frame what was handed in may be called so -/
def ActP (Y : Cx) (ask : Str) (f c' : Addr) (q : Str) (tl : XK → Hp → VK → Prop) : Prop := ∀ (W : WX) (pn : List (Addr × Obj)) (xe : Value → Shared → Prop) (p1 p2 : Pos), L2N.Takes (Y.tr pn xe) W → PE (Y.tr pn xe) (.Call (.Name ask p1) [] [] p2) (actT f c' q tl W)
theorem try_code {x qual ask : Str} {params : Arguments} {body : List Stmt} {scope : Scope} {gT : Addr} {fd : FuncData} {Nt : List Str} {k : Nat} {fl : List Str} {g : Addr → Addr → FSem} {c1 c2 : Value} (F : FunD K x qual params body scope [] [] gT fd) (Sc : FnScope Nt [ask] scope) (hNt : Nt.length = 5) (hbd : Binds K fd [ask] [])
    (hbody : ∀ (cdv : Value) (A : Around) (outer : List PySem.Env) (s0 : Shared) (H0 : Hp) (E0 : XK) (f c' : Addr) (q : Str) (tl : XK → Hp → VK → Prop), Room k (A.deeper (PyProof.Rows.envOfC qual scope s0.heap.objs.size gT cdv)) → ActP (cxOf (L2N.CX P w) P w K mg base Nt qual scope gT cdv A outer s0 H0 E0) ask f c' q tl →
      PSs (cxOf (L2N.CX P w) P w K mg base Nt qual scope gT cdv A outer s0 H0 E0) body (tTryDef K mg fl g c1 c2 f c' q tl))
    {A : Around} {outer : List PySem.Env} {s0 : Shared} {H0 : Hp} {f c' : Addr} {q : Str} {tl : XK → Hp → VK → Prop} {Q : VK} (hr : Room (k + 1) A) (e0 : Env0 P w K mg base A outer s0 H0)
    (act : ∀ cdv, ActP (cxOf (L2N.CX P w) P w K mg base Nt qual scope gT cdv A outer s0 H0 (fun _ _ _ => False)) ask f c' q tl) (hc : H0 c' = some (CodeO c' q)) (mono : ∀ (E : XK) (H : Hp) (Q1 Q2 : VK), (∀ v H', Q1 v H' → Q2 v H') → tl E H Q1 → tl E H Q2) (h : tryT K mg fl g c1 c2 tl H0 Q) :
    codeAny (model P w) A (.call (.ref gT) ⟨[.ref f], []⟩) (CR (L2N.CX P w) outer P w H0 s0 Q (fun _ _ _ => False)) s0 := by
  have KX : K.In s0.heap := e0.mod.kin.keeps fun b o e => (e0.bs b o e).1
  obtain ⟨oc, od, dV, kV, doc, pm, an, cdv, ct, osl, rfl, lk, hcd, _, _⟩ := F.ex
  refine run_ofS (N := Nt) (ps := [ask]) (us := [.ref f]) (vs := [.ref f]) lk hcd Sc hr e0 (hbd s0 [.ref f] KX rfl) (.cons rfl .nil) rfl fun hr' => ⟨_, hbody cdv A outer s0 H0 _ f c' q tl hr' (act cdv), ?_⟩
  have st : L2.start Nt [V.ref f] = [some (.ref f), none, none, none, none] := by
    unfold L2.start
    rw [hNt]
    rfl
  rw [st]
  exact try_run hc mono h rfl
end
end MV

namespace MV
open PySem L2 L2H XO LamX LamK
variable [TB]
/-! ### the law's try, called from a def that got the lambda -/
section
variable {X : Cx} {pins : List (Addr × Obj)} {σ : L2.St} {H : Hp} {s : Shared}
/-- the lambda may be called from a def's frame above the frames outer -/
theorem act_of {scope sg : Scope} {params : Arguments} {lb : Expr} {f c' : Addr} {pm ctv : Value} {tb : XK → TE} {outer : List PySem.Env} {s0 : Shared} {H0 : Hp} {Nt : List Str} {qual ask : Str} {gT : Addr} {k : Nat} {A : Around} {Eg : XK} {cdv : Value}
    (I : Inv X pins σ H s) (L : LamS X.env.scope scope) (hf : s.heap.get? f = some (PySem.W.kla_obj "<lambda>" (X.env.qual ++ "<lambda>") params lb scope (cloFrom X.env.cells scope.names []) pm c' ctv)) (hfn : H f = none) (hfr : f ∉ frs outer) (un0 : Un (frs outer) [] H H0 s.heap s0.heap)
    (hbind : ∀ (q : Str) (cl : List (Str × Addr)) (pm cv ctv : Value), bindArgs (PySem.W.kla_fn "<lambda>" q params lb scope cl pm cv ctv) ⟨[], []⟩ = pure [])
    (hr : Room (k + 1) (A.deeper (PyProof.Rows.envOfC qual sg s0.heap.objs.size gT cdv)))
    (hlb : ∀ (A : Around) (outer : List PySem.Env) (s : Shared) (H : Hp) (E : XK) (f c' : Addr), Room k (A.deeper (lamEnv X scope s.heap.objs.size f c')) → PE (lamNx X A outer s H E scope f c') lb (tb E))
    (hN : Nt[0]? = some ask) (hv : Vis sg ask) (hd : (ask == ("__debug__" : Str)) = false) (hcd : (ask == ("__classdict__" : Str)) = false) :
    ActP (cxOf (L2N.CX X.prog X.w) X.prog X.w X.K X.mg X.base Nt qual sg gT cdv A outer s0 H0 Eg) ask f c' (X.env.qual ++ "<lambda>") (fun E H' Q' => tb E σ H' Q') := fun W pn xe p1 p2 tk =>
  pe_deep (k := k) (i := 0) I L hf hfn hfr un0 (hbind _ _ _ _ _) tk hr (fun A outer s H E hr' => hlb A outer s H E f c' hr') hN hv hd hcd
theorem frs_more {env : PySem.Env} {outer : List PySem.Env} : ∀ b ∈ frs outer, b ∈ frs (env :: outer) := fun b hb => by
  unfold frs at hb ⊢
  obtain ⟨x, hx, e⟩ := List.mem_filterMap.mp hb
  exact List.mem_filterMap.mpr ⟨x, List.mem_cons_of_mem _ hx, e⟩
/-- tryN(ask), in the frame of a def that got the lambda -/
theorem pe_tryIn {scope sg : Scope} {params : Arguments} {lb : Expr} {f c' : Addr} {pm ctv : Value} {tb : XK → TE} {outerE : List PySem.Env} {sE : Shared} {HE : Hp} {k : Nat} {fl : List Str} {g : Addr → Addr → FSem} {c1 c2 : Value}
    {Ne : List Str} {qe : Str} {se : Scope} {gE : Addr} {cdE : Value} {Ae : Around} {Ee : XK}
    {tryN ask askE : Str} {pT : Arguments} {bT : List Stmt} {gT : Addr} {fdT : FuncData} {Nt : List Str} {p pa pos : Pos}
    (I : Inv X pins σ H s) (L : LamS X.env.scope scope) (hf : s.heap.get? f = some (PySem.W.kla_obj "<lambda>" (X.env.qual ++ "<lambda>") params lb scope (cloFrom X.env.cells scope.names []) pm c' ctv)) (hfn : H f = none) (hfr : f ∉ frs outerE) (un0 : Un (frs outerE) [] H HE s.heap sE.heap)
    (hbind : ∀ (q : Str) (cl : List (Str × Addr)) (pm cv ctv : Value), bindArgs (PySem.W.kla_fn "<lambda>" q params lb scope cl pm cv ctv) ⟨[], []⟩ = pure [])
    (F : FunD X.K tryN tryN pT bT sg [] [] gT fdT) (Sc : FnScope Nt [ask] sg) (hNt : Nt.length = 5) (hbd : Binds X.K fdT [ask] [])
    (hbody : ∀ (cdv : Value) (A : Around) (outer : List PySem.Env) (s0 : Shared) (H0 : Hp) (E0 : XK) (f c' : Addr) (q : Str) (tl : XK → Hp → VK → Prop), Room (k + 1) (A.deeper (PyProof.Rows.envOfC tryN sg s0.heap.objs.size gT cdv)) → ActP (cxOf (L2N.CX X.prog X.w) X.prog X.w X.K X.mg X.base Nt tryN sg gT cdv A outer s0 H0 E0) ask f c' q tl →
      PSs (cxOf (L2N.CX X.prog X.w) X.prog X.w X.K X.mg X.base Nt tryN sg gT cdv A outer s0 H0 E0) bT (tTryDef X.K X.mg fl g c1 c2 f c' q tl))
    (hr : Room (k + 2) (Ae.deeper (PyProof.Rows.envOfC qe se sE.heap.objs.size gE cdE)))
    (hlb : ∀ (A : Around) (outer : List PySem.Env) (s : Shared) (H : Hp) (E : XK) (f c' : Addr), Room k (A.deeper (lamEnv X scope s.heap.objs.size f c')) → PE (lamNx X A outer s H E scope f c') lb (tb E))
    (mono : ∀ (E : XK) (H : Hp) (Q1 Q2 : VK), (∀ v H', Q1 v H' → Q2 v H') → tb E σ H Q1 → tb E σ H Q2)
    (hN : Nt[0]? = some ask) (hv : Vis sg ask) (hd : (ask == ("__debug__" : Str)) = false) (hcd : (ask == ("__classdict__" : Str)) = false)
    (hNe : Ne[0]? = some askE) (hve : Vis se askE) (hde : (askE == ("__debug__" : Str)) = false) (hcde : (askE == ("__classdict__" : Str)) = false)
    (hgT : Gl (cxOf (L2N.CX X.prog X.w) X.prog X.w X.K X.mg X.base Ne qe se gE cdE Ae outerE sE HE Ee) tryN) (hmT : X.mg tryN = some (.ref gT)) (hdT : (tryN == ("__debug__" : Str)) = false)
    (he : starEach [.Name askE pa] (PyProof.Rows.envOfC qe se sE.heap.objs.size gE cdE) = (false, eval (.Name askE pa) (PyProof.Rows.envOfC qe se sE.heap.objs.size gE cdE)) :: starEach [] (PyProof.Rows.envOfC qe se sE.heap.objs.size gE cdE)) (hpl : (backTo pos (starEach [] (PyProof.Rows.envOfC qe se sE.heap.objs.size gE cdE))).any (·.1) = false) :
    PE (cxOf (L2N.CX X.prog X.w) X.prog X.w X.K X.mg X.base Ne qe se gE cdE Ae outerE sE HE Ee) (.Call (.Name tryN p) [.Name askE pa] [] pos)
      (fun σZ HZ Q => σZ[0]? = some (some (.ref f)) ∧ HZ c' = some (CodeO c' (X.env.qual ++ "<lambda>")) ∧ tryT X.K X.mg fl g c1 c2 (fun E H' Q' => tb E σ H' Q') HZ Q) := by
  refine ⟨fun pinsZ sZ σZ HZ Q IZ ⟨h0, hc, ht⟩ => ?_⟩
  refine wpAny_Call_Name_kw (ld_glob IZ hgT hmT ?_ hdT)
  refine PySem.W.callWith_K (h₀ := X.base) IZ.ok.mod.kin F.kp (thn ((pa_one (pe_var (pos := pa) (i := 0) hNe hve hde hcde) he).run pos pinsZ sZ σZ HZ (fun vs H1 => vs = [.ref f] ∧ H1 = HZ) IZ ⟨.ref f, h0, rfl, rfl⟩) fun us s1 ⟨vs, H1, I1, r, ev, eH⟩ => ⟨I1.kIn, ?_⟩) he hpl
  subst ev
  rw [eH] at I1
  rw [Vals.ref1 r]
  have un1 : Un (frs outerE) [] H HZ s.heap s1.heap := un0.trans I1.base
  have un2 : Un (frs (PyProof.Rows.envOfC qe se sE.heap.objs.size gE cdE :: outerE)) [] H HZ s.heap s1.heap := un1.mono frs_more (fun b hb => hb)
  have hfE : sE.heap.get? f = some (PySem.W.kla_obj "<lambda>" (X.env.qual ++ "<lambda>") params lb scope (cloFrom X.env.cells scope.names []) pm c' ctv) := un0.keep f _ hf hfn hfr (fun z => nomatch (show f ∈ ([] : List Addr) from z))
  have hfr2 : f ∉ frs (PyProof.Rows.envOfC qe se sE.heap.objs.size gE cdE :: outerE) := fun hm => by
    unfold frs at hm
    obtain ⟨x, hx, e⟩ := List.mem_filterMap.mp hm
    rcases List.mem_cons.mp hx with rfl | hx
    · have e : some sE.heap.objs.size = some f := e
      have lt := Heap.lt_size hfE
      rw [← Option.some.inj e] at lt
      exact Nat.lt_irrefl _ lt
    · exact hfr (List.mem_filterMap.mpr ⟨x, hx, e⟩)
  refine wpAny_call (codeAny_mono (try_code F Sc hNt hbd hbody hr I1.env0 (fun cdv => act_of I L hf hfn hfr2 un2 hbind (Room.deeper hr _) hlb hN hv hd hcd) hc mono ht) fun r s' hq => ?_)
  cases r with
  | error e =>
    have hq : L2N.CX X.prog X.w _ HZ s1 (fun _ _ _ => False) e s' := hq
    obtain ⟨_, _, _, _, _, _, _, _, _, _, _, _, z⟩ := hq
    exact z.elim
  | ok fl =>
    cases fl with
    | ret u => exact I1.after hq
    | next => exact False.elim hq
    | brk => exact False.elim hq
    | cont => exact False.elim hq
end
end MV

namespace MV
open PySem L2 L2H XO LamX LamK
variable [TB]
/-! ### error(lambda: ..): the def that hands the lambda on -/
section
variable {X : Cx}
/-- what the def makes of what the try gives (R) -/
def tErr (K : PySem.W.Frag) (mg : Str → Option Value) (fl : List Str) (g : Addr → Addr → FSem) (c1 c2 : Value) (P : Addr) (q : Str) (tb : XK → TE) (R : V → Hp → VK → Prop) : TE := fun σ H Q =>
  Tabs TB.T H ∧ ∀ (c' : Addr) (H1 : Hp), Made P q c' H H1 → Tabs TB.T H1 → tryT K mg fl g c1 c2 (fun E H' Q' => tb E σ H' Q') H1 (fun v H' => R v H' Q)
theorem pe_err {scope se : Scope} {params : Arguments} {lb : Expr} {tb : XK → TE} {fl : List Str} {g : Addr → Addr → FSem} {c1 c2 : Value} {R : V → Hp → VK → Prop}
    {errN askE : Str} {pE : Arguments} {bE : List Stmt} {gE : Addr} {fdE : FuncData} {Ne : List Str} {p lpos pos : Pos} {c : Addr} {df : He.Defn} {q : Str} {k : Nat}
    (hcode : X.env.code = .ref c) (hcc : c = He.codeOf X.K df) (hq : X.env.qual ++ "<lambda>" = q) (LF : LamF X.K X.mg X.base df q) (L : LamS X.env.scope scope) (hdef : defaultsOf params X.env = ([], [])) (hr : Room (k + 1) X.A)
    (F : FunD X.K errN errN pE bE se [] [] gE fdE) (Sc : FnScope Ne [askE] se) (hbd : Binds X.K fdE [askE] []) (hg : Gl X errN) (hm : X.mg errN = some (.ref gE)) (hd : (errN == ("__debug__" : Str)) = false)
    (hbody : ∀ (cdE : Value) (pins : List (Addr × Obj)) (σ : L2.St) (H1 : Hp) (s1 : Shared) (f c' : Addr) (pm ctv : Value) (Q : VK), Inv X pins σ H1 s1 → s1.heap.get? f = some (PySem.W.kla_obj "<lambda>" (X.env.qual ++ "<lambda>") params lb scope (cloFrom X.env.cells scope.names []) pm c' ctv) → H1 f = none → f ∉ frs X.stack →
      H1 c' = some (CodeO c' (X.env.qual ++ "<lambda>")) → Room k (X.A.deeper (PyProof.Rows.envOfC errN se s1.heap.objs.size gE cdE)) → tryT X.K X.mg fl g c1 c2 (fun E H' Q' => tb E σ H' Q') H1 (fun v H' => R v H' Q) →
      ∃ t, PSs (cxOf (L2N.CX X.prog X.w) X.prog X.w X.K X.mg X.base Ne errN se gE cdE X.A X.stack s1 H1 (fun _ _ _ => False)) bE t ∧ t { nx := fun _ H' => Q .non H', rt := Q } (L2.start Ne [.ref f]) H1)
    (he : starEach [.Lambda params lb scope lpos] X.env = (false, eval (.Lambda params lb scope lpos) X.env) :: starEach [] X.env := by rfl) (hpl : (backTo pos (starEach [] X.env)).any (·.1) = false := by rfl) :
    PE X (.Call (.Name errN p) [.Lambda params lb scope lpos] [] pos) (tErr X.K X.mg fl g c1 c2 (He.tabOf X.K (He.codeOf X.K df)) q tb R) := by
  refine ⟨fun pins s σ H Q I h => ?_⟩
  obtain ⟨hT, h⟩ := h
  refine wpAny_Call_Name_kw (ld_glob I hg hm ?_ hd)
  refine PySem.W.callWith_K (h₀ := X.base) I.ok.mod.kin F.kp ?_ he hpl
  show wpAny _ _ (spliced ((false, eval (.Lambda params lb scope lpos) X.env) :: backTo pos (starEach [] X.env))) _ _ s
  refine Calls.spliced_cons (lam_done I LF.tb (hcode.trans (by rw [hcc])) (by rw [hq]; exact LF.mem) (by rw [hq]; exact LF.only) hT hdef (L.has I.ok) fun f c' pm ctv H1 s1 I1 M T1 le hf hfn hfr => ?_)
  refine Calls.spliced_nil ⟨I1.kIn, ?_⟩
  have M' : Made (He.tabOf X.K (He.codeOf X.K df)) q c' H H1 := hq ▸ M
  have pr := h c' H1 M' T1
  have rc : codeAny (model X.prog X.w) X.A (.call (.ref gE) ⟨[.ref f], []⟩) (CR (L2N.CX X.prog X.w) X.stack X.prog X.w H1 s1 Q (fun _ _ _ => False)) s1 := by
    obtain ⟨oc, od, dV, kV, doc, pm', an, cdv, ct, osl, rfl, lk, hcd, _, _⟩ := F.ex
    refine run_ofS (N := Ne) (ps := [askE]) (us := [.ref f]) (vs := [.ref f]) lk hcd Sc hr I1.env0 (hbd s1 [.ref f] I1.kIn rfl) (.cons rfl .nil) rfl fun hr' => ?_
    exact hbody cdv pins σ H1 s1 f c' pm ctv Q I1 hf hfn hfr M.1 hr' pr
  refine wpAny_call (codeAny_mono rc fun r s' hq => ?_)
  cases r with
  | error e =>
    have hq : L2N.CX X.prog X.w _ H1 s1 (fun _ _ _ => False) e s' := hq
    obtain ⟨_, _, _, _, _, _, _, _, _, _, _, _, z⟩ := hq
    exact z.elim
  | ok fl =>
    cases fl with
    | ret u => exact I1.after hq
    | next => exact False.elim hq
    | brk => exact False.elim hq
    | cont => exact False.elim hq
end
end MV

namespace MV
open PySem L2 L2H XO LamX LamK
variable [TB]
/-! ### return try_(ask)[1:] -/
def rTail (K : PySem.W.Frag) : V → Hp → VK → Prop := fun v H Q => rSlD K v (some 1) none H Q
section
variable {Y : Cx}
/-- the def's one statement, the call read as tc -/
theorem pss_tail {e : Expr} {tc : TE} {j : Nat} {p1 p2 p3 pos : Pos} (h : PE Y e tc) : PSs Y [.Return (some (.Subscript e (.Slice (some (.Constant (.int 1) j p1)) none none p2) p3)) pos] (tSeq (tRet (tSl (rSlD Y.K) tc (tPart (tC (.int 1))) tNoPart)) tNext) :=
  pss_cons (ps_ret (pe_slice sl_all h (po_some pe_int) po_none)) pss_nil
theorem tail_run {K : PySem.W.Frag} {tc : TE} {D : Ends} {σ : L2.St} {H : Hp} (h : tc σ H fun v H' => rTail K v H' D.rt) : tSeq (tRet (tSl (rSlD K) tc (tPart (tC (.int 1))) tNoPart)) tNext D σ H := by
  have e : (fun v H' => rTail K v H' D.rt) = fun v H1 => (tPart (tC (.int 1))) σ H1 fun l H2 => tNoPart σ H2 fun u H3 => rSlD K v l u H3 D.rt := by
    funext v H'
    refine propext ⟨fun q => ⟨1, rfl, q⟩, fun ⟨i, hi, q⟩ => ?_⟩
    cases hi
    exact q
  rw [e] at h
  exact h
end
end MV

namespace MV
open PySem L2 L2H XO LamX LamK
variable [TB]
/-! ### error(lambda: ..), both defs in one -/
section
variable {X : Cx}
theorem pe_error {scope sg se : Scope} {params : Arguments} {lb : Expr} {tb : XK → TE} {fl : List Str} {g : Addr → Addr → FSem} {c1 c2 : Value} {k : Nat}
    {tryN errN ask askE : Str} {pT pE : Arguments} {bT : List Stmt} {gT gE : Addr} {fdT fdE : FuncData} {Nt Ne : List Str} {p lpos pos pt pa pc pi ps pr : Pos} {j : Nat} {c : Addr} {df : He.Defn} {q : Str}
    (hcode : X.env.code = .ref c) (hcc : c = He.codeOf X.K df) (hq : X.env.qual ++ "<lambda>" = q) (LF : LamF X.K X.mg X.base df q) (L : LamS X.env.scope scope) (hdef : defaultsOf params X.env = ([], [])) (hr : Room (k + 3) X.A)
    (hbind : ∀ (q : Str) (cl : List (Str × Addr)) (pm cv ctv : Value), bindArgs (PySem.W.kla_fn "<lambda>" q params lb scope cl pm cv ctv) ⟨[], []⟩ = pure [])
    (hlb : ∀ (A : Around) (outer : List PySem.Env) (s : Shared) (H : Hp) (E : XK) (f c' : Addr), Room k (A.deeper (lamEnv X scope s.heap.objs.size f c')) → PE (lamNx X A outer s H E scope f c') lb (tb E))
    (mono : ∀ (E : XK) (σ : L2.St) (H : Hp) (Q1 Q2 : VK), (∀ v H', Q1 v H' → Q2 v H') → tb E σ H Q1 → tb E σ H Q2)
    (FT : FunD X.K tryN tryN pT bT sg [] [] gT fdT) (ScT : FnScope Nt [ask] sg) (hNt : Nt.length = 5) (hbT : Binds X.K fdT [ask] []) (hmT : X.mg tryN = some (.ref gT)) (hdT : (tryN == ("__debug__" : Str)) = false)
    (hN : Nt[0]? = some ask) (hv : Vis sg ask) (hd : (ask == ("__debug__" : Str)) = false) (hcd : (ask == ("__classdict__" : Str)) = false)
    (hbody : ∀ (cdv : Value) (A : Around) (outer : List PySem.Env) (s0 : Shared) (H0 : Hp) (E0 : XK) (f c' : Addr) (q : Str) (tl : XK → Hp → VK → Prop), Room (k + 1) (A.deeper (PyProof.Rows.envOfC tryN sg s0.heap.objs.size gT cdv)) → ActP (cxOf (L2N.CX X.prog X.w) X.prog X.w X.K X.mg X.base Nt tryN sg gT cdv A outer s0 H0 E0) ask f c' q tl →
      PSs (cxOf (L2N.CX X.prog X.w) X.prog X.w X.K X.mg X.base Nt tryN sg gT cdv A outer s0 H0 E0) bT (tTryDef X.K X.mg fl g c1 c2 f c' q tl))
    (FE : FunD X.K errN errN pE [.Return (some (.Subscript (.Call (.Name tryN pt) [.Name askE pa] [] pc) (.Slice (some (.Constant (.int 1) j pi)) none none ps) pr)) pos] se [] [] gE fdE) (ScE : FnScope Ne [askE] se) (hbE : Binds X.K fdE [askE] []) (hg : Gl X errN) (hm : X.mg errN = some (.ref gE)) (hdE : (errN == ("__debug__" : Str)) = false)
    (hNe : Ne[0]? = some askE) (hve : Vis se askE) (hde : (askE == ("__debug__" : Str)) = false) (hcde : (askE == ("__classdict__" : Str)) = false) (hgT : se.names.lookup tryN = some .globalImplicit)
    (h1 : ∀ (cdE : Value) (n : Nat), starEach [.Name askE pa] (PyProof.Rows.envOfC errN se n gE cdE) = (false, eval (.Name askE pa) (PyProof.Rows.envOfC errN se n gE cdE)) :: starEach [] (PyProof.Rows.envOfC errN se n gE cdE)) (h2 : ∀ (cdE : Value) (n : Nat), (backTo pc (starEach [] (PyProof.Rows.envOfC errN se n gE cdE))).any (·.1) = false)
    {p0 pos0 : Pos} (he : starEach [.Lambda params lb scope lpos] X.env = (false, eval (.Lambda params lb scope lpos) X.env) :: starEach [] X.env := by rfl) (hpl : (backTo pos0 (starEach [] X.env)).any (·.1) = false := by rfl) :
    PE X (.Call (.Name errN p0) [.Lambda params lb scope lpos] [] pos0) (tErr X.K X.mg fl g c1 c2 (He.tabOf X.K (He.codeOf X.K df)) q tb (rTail X.K)) :=
  pe_err (k := k + 2) hcode hcc hq LF L hdef hr FE ScE hbE hg hm hdE (fun cdE pins σ H1 s1 f c' pm ctv Q I1 hf hfn hfr hc hr' pr =>
    ⟨_, pss_tail (pe_tryIn I1 L hf hfn hfr Un.refl hbind FT ScT hNt hbT hbody hr' hlb (fun E H Q1 Q2 z => mono E σ H Q1 Q2 z) hN hv hd hcd hNe hve hde hcde hgT hmT hdT (h1 cdE _) (h2 cdE _)), tail_run ⟨rfl, hc, pr⟩⟩) he hpl
end
end MV

namespace MV
open PySem L2 L2H XO LamX LamK
variable [TB]
/-! ### error(lambda: ..) in the own layer -/
/-- what the telling def gives for an exception of the class c with the fields gs, wherever it stands -/
def Told (g : Addr → Addr → FSem) (c : Str) (gs : List (Str × D)) (fd : D) : Prop := ∀ a dx, ∃ oe, g a dx [.p (.exc a dx c gs)] = some (.p fd, oe)
open Classical in
noncomputable def fieldOf (g : Addr → Addr → FSem) (c : Str) (gs : List (Str × D)) : Option D := if h : ∃ fd, Told g c gs fd then some (choose h) else none
open Classical in
theorem fieldOf_told {g : Addr → Addr → FSem} {c : Str} {gs : List (Str × D)} {fd : D} (h : fieldOf g c gs = some fd) : Told g c gs fd := by
  unfold fieldOf at h
  split at h
  · rename_i hx
    cases h
    exact choose_spec hx
  · cases h
open Classical in
theorem fieldOf_is {g : Addr → Addr → FSem} {c : Str} {gs : List (Str × D)} {fd : D} (h : Told g c gs fd) : fieldOf g c gs = some fd := by
  have hx : ∃ fd, Told g c gs fd := ⟨fd, h⟩
  have e : fieldOf g c gs = some (choose hx) := by unfold fieldOf; rw [dif_pos hx]
  rw [e]
  have h1 := choose_spec hx
  obtain ⟨o1, e1⟩ := h1 0 0
  obtain ⟨o2, e2⟩ := h 0 0
  rw [e1] at e2
  injection e2 with e2
  injection e2 with e2 _
  injection e2 with e2
  rw [e2]
noncomputable def errW (g : Addr → Addr → FSem) (cls : List Str) : W → Option D
  | .p _ => some (.tup [.str (Str.ofString ""), .none])
  | .ex (.inst c gs) => if c ∈ cls then (gs.lookup (Str.ofString "word")).bind fun wd => (fieldOf g c gs).map fun fd => .tup [wd, fd] else none
  | _ => none
noncomputable def mErr (g : Addr → Addr → FSem) (cls : List Str) (m : M W) : M D := fun e => (m e).bind fun x => (errW g cls x.1).map fun d => (d, x.2)
theorem Ext.loose {Fs : Fp} {I H : Hp} {T : Addr} {o : HO} (hT : H T = none) : Ext Fs I H Fs I (upd H T o) :=
  ⟨⟨Ex.refl _, fun a u q _ _ => Ex.new hT a u q, fun a h => .inl h, fun t => t.ext (Ex.new hT), fun a ps q _ => ⟨ps, Ex.new hT a _ q⟩⟩, fun a m => .inl m⟩
/-- the end: a tuple of three, two of them handed on -/
theorem end_run {K : PySem.W.Frag} {mg : Str → Option Value} {I H : Hp} {e : Env} {Fs : Fp} {σ : L2.St} {Q : VK} {v0 v1 v2 : V} {d1 d2 : D} (R : Rel K mg I e Fs σ H) (h1 : Rp K mg I d1 v1) (h2 : Rp K mg I d2 v2) (d0 : D) (h0 : Rp K mg I d0 v0)
    (k : ∀ v I' H', Rel K mg I' e Fs σ H' → Ext Fs I H Fs I' H' → Rp K mg I' (.tup [d1, d2]) v → Q v H') : endT (fun v H' => rTail K v H' Q) v0 v1 v2 H := fun T hT => by
  obtain ⟨R1, x1⟩ := R.laid (p := T) (o := .tup [v0, v1, v2]) hT
  have rt : Rp K mg (upd I T (.tup [v0, v1, v2])) (.tup [d0, d1, d2]) (.ref T) := rp_tup R.sub hT (RpL.cons h0 (RpL.cons h1 (RpL.cons h2 RpL.nil)))
  refine sl_run (z := .tup [d1, d2]) R1.sub rt (by rfl) fun v' I' H' g r => ?_
  obtain ⟨R2, x2⟩ := g.rel R1
  exact k v' I' H' R2 (x1.trans x2) r
end MV

namespace MV
open PySem L2 L2H XO LamX LamK
variable [TB]
theorem noMF : ∀ a, ¬ MF (consF [] fun _ => []) a := fun a ⟨i, hi⟩ => by cases i <;> cases hi
/-- what is raised is caught by one of the two clauses, its fields may be read -/
def Caught (K : PySem.W.Frag) (fl : List Str) (c1 c2 : Value) (C : Addr) : Prop := (∃ b1, PySem.W.exmOne K (.ref C) c1 = some b1 ∧ (b1 = true ∨ PySem.W.exmOne K (.ref C) c2 = some true)) ∧ XRd K fl C
theorem se_err {X : Cx} {ex : Expr} {m : M W} {g : Addr → Addr → FSem} {cls : List Str} {fl : List Str} {c1 c2 : Value} {P : Addr} {q : Str} (hp : PE X ex (tErr X.K X.mg fl g c1 c2 P q (fun E => tO X.K X.mg (fun cls d _ H' => E cls d H') m) (rTail X.K))) (hP : ∃ q', (P, q') ∈ TB.T)
    (hcl : ∀ c ∈ cls, ∀ C, X.mg c = some (.ref C) → Caught X.K fl c1 c2 C) : SE X ex (mErr g cls m) := PE.imp hp fun σ H Q ⟨I, e, Fs, R, d, e', hm, k⟩ => by
  obtain ⟨⟨w, e1⟩, h1, hm⟩ := Option.bind_eq_some_iff.mp hm
  obtain ⟨z, h2, hm⟩ := Option.map_eq_some_iff.mp hm
  cases hm
  refine ⟨R.tb.1, fun c' H1 M T1 T hT => ?_⟩
  obtain ⟨R1, x1⟩ := R.lam M T1 hP
  have R2 := R1.loose (o := .tup [.non, .str (Str.ofString ""), .non]) hT
  have x2 := x1.trans (Ext.loose (o := .tup [.non, .str (Str.ofString ""), .non]) hT)
  refine ⟨I, e, Fs, R2, w, e1, h1, fun v I' Fs' H' F R' x o hF => ?_, fun y hy cl d' I' Fs' H' R' x xr => ?_⟩
  · cases w with
    | p d0 =>
      cases h2
      have r0 := o.ro
      simp only [Ro] at r0
      exact end_run R' (by simp only [Rp]) (by simp only [Rp]) d0 r0.1 fun v' I2 H2 R3 x3 r => k v' I2 Fs' H2 R3 ((x2.trans x).trans x3) r
    | ex y =>
      have r0 := o.ro
      simp only [Ro] at r0
    | ol ws => cases h2
    | ot ws => cases h2
    | od es => cases h2
    | oi c fs => cases h2
  · subst hy
    cases y with
    | inst c gs =>
      obtain ⟨C, dx, fs, rfl, hmc, rfl, hdx, rf⟩ := xr
      have h2 : (if c ∈ cls then (gs.lookup (Str.ofString "word")).bind fun wd => (fieldOf g c gs).map fun fd => D.tup [wd, fd] else none) = some d := h2
      split at h2
      · rename_i hc
        obtain ⟨wd, hw, h2⟩ := Option.bind_eq_some_iff.mp h2
        obtain ⟨fd, hf, h2⟩ := Option.map_eq_some_iff.mp h2
        cases h2
        obtain ⟨f1, f2⟩ := hcl c hc C hmc
        obtain ⟨wv, hwv, rw_⟩ := rf.look.1 wd hw
        refine ⟨f1, C, dx, rfl, rfl, f2, fs, wv, R'.sub _ _ hdx, hwv, fun a ha => ?_⟩
        obtain ⟨oe, hg⟩ := fieldOf_told hf a dx
        have rx : Rp X.K X.mg I' (.exc a dx c gs) (.ref a) := by
          simp only [Rp]
          exact ⟨trivial, C, fs, hmc, hdx, rf⟩
        refine ⟨I', [.p (.exc a dx c gs)], consF [] (fun _ => []), rfl, (Rel.nil R'.sub R'.tb).cons (.pure rx), .p fd, oe, hg, fun u I2 Fo H2 F2 Ro2 xo oo hF2 => ?_, fun x hx => by cases hx⟩
        have R3 : Rel X.K X.mg I2 e1 Fs' σ H2 := R'.frame xo.g Ro2.sub fun a _ => noMF a
        have x3 : Ext Fs' I' H' Fs' I2 H2 := ⟨⟨xo.g.ex, fun a u q _ nt => xo.g.fr a u q (noMF a) nt, fun a h => (xo.g.new a h).elim .inl fun h => h.elim (fun h => .inr (.inl h)) fun h => absurd h (noMF a), xo.g.tb, fun a ps q _ => xo.g.tl a ps q (noMF a)⟩, fun a m => .inl m⟩
        have r0 := oo.ro
        simp only [Ro] at r0
        exact end_run R3 (rw_.mono xo.g.ex _ _) r0.1 .none (by simp only [Rp]) fun v' I4 H4 R4 x4 r => k v' I4 Fs' H4 R4 (((x2.trans x).trans x3).trans x4) r
      · cases h2
    | _ => cases h2
end MV

namespace MV
open PySem L2 L2H XO LamX LamK
variable [TB]
/-- the try's body: a = ask() -/
theorem pss_ask {Y : Cx} {W : WX} {pn : List (Addr × Obj)} {xe : Value → Shared → Prop} {f c' : Addr} {q ask an : Str} {tl : XK → Hp → VK → Prop} {p1 p2 pa pos : Pos} (act : ActP Y ask f c' q tl) (tk : L2N.Takes (Y.tr pn xe) W) (hN : Y.N.Nodup) (hi : Y.N[1]? = some an) (hx : Y.env.scope.names.lookup an = some .local)
    (hs : swapsWith (.Call (.Name ask p1) [] [] p2) (some (.Name an pa)) pos.line (Y.tr pn xe).env = pure false) : PSs (Y.tr pn xe) [.Assign [.Name an pa] (.Call (.Name ask p1) [] [] p2) pos] (tbT f c' q tl W) :=
  pss_one ⟨fun pins s σ H D I ⟨E, h1, h2, h3, h4⟩ => (ps_set (X := Y.tr pn xe) (i := 1) (pos' := pa) (pos := pos) hN hi (.inl hx) (act W pn xe p1 p2 tk) hs (.inr hx)).run pins s σ H D I ⟨h2, h3, E, h1, h4⟩⟩
end MV

namespace MV
open PySem L2 L2H XO LamX LamK
variable [TB]
/-! ### own exception classes: what is asked of the written part -/
def bmX : Bool → List Value
  | false => [.type "ValueError", .type "Exception", .type "BaseException", .type "object"]
  | true => [.type "LookupError", .type "Exception", .type "BaseException", .type "object"]
def newX : Bool → String
  | false => "ValueError.__new__"
  | true => "LookupError.__new__"
theorem xb_of : ∀ b : Bool, ∃ B i, XB B (newX b) i (bmX b)
  | false => ⟨_, _, xb_value⟩
  | true => ⟨_, _, xb_lookup⟩
def xcB (K : PySem.W.Frag) (c : Str) (b : Bool) (fl : List Str) : Bool :=
  (PySem.W.excInitIn K (He.ga K c) (bmX b) (newX b) && (PySem.W.hasDictIn K (He.ga K c) && (PySem.W.excOver K (He.ga K c) (bmX b) && (He.eqO (PySem.W.findIn K (.ref (He.ga K c)) "__setattr__") (some (some (.builtin "object.__setattr__"))) &&
    (decide (PySem.W.subIn K (.ref (He.ga K c)) (.type "BaseException") = some true) && (decide (PySem.W.typeIn K (.ref (He.ga K c)) = some (.type "type")) && PySem.W.keepIn K (.ref (He.ga K c)))))))) &&
  ((He.eqO (PySem.W.findIn K (.ref (He.ga K c)) "__init__") (some (some (.ref (He.ma K (He.ga K c) "__init__")))) && decide (PySem.W.typeIn K (.ref (He.ma K (He.ga K c) "__init__")) = some (.type "function"))) &&
    fl.all fun f => He.eqO (PySem.W.findIn K (.ref (He.ga K c)) f) (some none))
theorem ba2 {a b : Bool} (h : (a && b) = true) : a = true ∧ b = true := by simpa using h
theorem xcB_xc {K : PySem.W.Frag} {c : Str} {b : Bool} {fl : List Str} (h : xcB K c b fl = true) : XC K (He.ga K c) (newX b) (bmX b) := by
  obtain ⟨h, _⟩ := ba2 h
  obtain ⟨h1, h⟩ := ba2 h
  obtain ⟨h2, h⟩ := ba2 h
  obtain ⟨h3, h⟩ := ba2 h
  obtain ⟨h4, h⟩ := ba2 h
  obtain ⟨h5, h⟩ := ba2 h
  obtain ⟨h6, h7⟩ := ba2 h
  exact ⟨h1, h2, h3, He.eqO_ok h4, of_decide_eq_true h5, of_decide_eq_true h6, h7⟩
theorem xcB_ini {K : PySem.W.Frag} {c : Str} {b : Bool} {fl : List Str} (h : xcB K c b fl = true) : PySem.W.findIn K (.ref (He.ga K c)) "__init__" = some (some (.ref (He.ma K (He.ga K c) "__init__"))) ∧ PySem.W.typeIn K (.ref (He.ma K (He.ga K c) "__init__")) = some (.type "function") := by
  obtain ⟨_, h⟩ := ba2 h
  obtain ⟨h, _⟩ := ba2 h
  obtain ⟨h1, h2⟩ := ba2 h
  exact ⟨He.eqO_ok h1, of_decide_eq_true h2⟩
theorem xcB_no {K : PySem.W.Frag} {c : Str} {b : Bool} {fl : List Str} (h : xcB K c b fl = true) : ∀ f ∈ fl, PySem.W.findIn K (.ref (He.ga K c)) f = some none := by
  obtain ⟨_, h⟩ := ba2 h
  obtain ⟨_, h⟩ := ba2 h
  exact fun f hf => He.eqO_ok (List.all_eq_true.mp h f hf)
/-- self.f = e in an __init__ of such a class -/
theorem ps_xsB {X : Cx} {b : Bool} {o e : Expr} {to te : TE} {f : Str} {p' pos : Pos} (ho : PE X o to) (he : PE X e te) (hs : swapsWith e (some (.Attribute o f p')) pos.line X.env = pure false := by rfl) : PS X (.Assign [.Attribute o f p'] e pos) (tXs X.K f (newX b) (bmX b) to te) := by
  obtain ⟨B, i, xb⟩ := xb_of b
  exact ps_xs (B := B) (initId := i) xb.st ho he hs
theorem cl_ok {P : Program} {w : World} {K : PySem.W.Frag} {mg : Str → Option Value} {base : Heap} {c qual : Str} {n : Nat} {b : Bool} {q : Str × Src} {r : List (Str × Src)} {params : Arguments} {body : List Stmt} {scope : Scope} {fd : FuncData} {N ps : List Str} (h : xcB K c b ((q :: r).map (·.1)) = true) (hg : mg c = some (.ref (He.ga K c)))
    (F : FunD K "__init__" qual params body scope [] [] (He.ma K (He.ga K c) "__init__") fd) (Sc : FnScope N ps scope) (hb : Binds K fd ps []) (hps : ps.length = n + 1) (hl : (q :: r).length ≤ 800) (hi : ∀ z ∈ q :: r, ∀ i, z.2 = .inr i → 1 ≤ i ∧ i ≤ n)
    (hbody : ∀ (cdv : Value) (A : Around) (outer : List PySem.Env) (s : Shared) (H : Hp) (E : XK), PSs (cxOf (L2N.CX P w) P w K mg base N qual scope (He.ma K (He.ga K c) "__init__") cdv A outer s H E) body (tXb K (newX b) (bmX b) (q :: r))) : Cl P w K mg base c n (q :: r) (He.ga K c) := by
  obtain ⟨B, i, xb⟩ := xb_of b
  have hno : ∀ z ∈ q :: r, PySem.W.findIn K (.ref (He.ga K c)) z.1 = some none := fun z hz => xcB_no h _ (List.mem_map.mpr ⟨z, hz, rfl⟩)
  have T := xcB_xc h
  obtain ⟨iC, tI⟩ := xcB_ini h
  have FO := fn_x (mg := mg) (base := base) (P := P) (w := w) F Sc T hno hl (fun z hz j hj => by have := hi z hz j hj; omega) hbody
  rw [hps] at FO
  exact ⟨hg, B, newX b, i, bmX b, _, fd, ps, xb, T, iC, tI, hi, hps, FO, hb⟩
/-- caught by one of the two clauses; the fields fl are read -/
def caughtB (K : PySem.W.Frag) (fl : List Str) (x1 x2 c : Str) : Bool :=
  (decide (PySem.W.exmOne K (.ref (He.ga K c)) (.ref (He.ga K x1)) = some true) || (decide (PySem.W.exmOne K (.ref (He.ga K c)) (.ref (He.ga K x1)) = some false) && decide (PySem.W.exmOne K (.ref (He.ga K c)) (.ref (He.ga K x2)) = some true))) && xrdB K fl (He.ga K c)
theorem caughtB_ok {K : PySem.W.Frag} {fl : List Str} {x1 x2 c : Str} (h : caughtB K fl x1 x2 c = true) : Caught K fl (.ref (He.ga K x1)) (.ref (He.ga K x2)) (He.ga K c) := by
  obtain ⟨h, h2⟩ := ba2 h
  refine ⟨?_, xrdB_ok h2⟩
  rcases Bool.or_eq_true_iff.mp h with h | h
  · exact ⟨true, of_decide_eq_true h, .inl rfl⟩
  · obtain ⟨h3, h4⟩ := ba2 h
    exact ⟨false, of_decide_eq_true h3, .inr (of_decide_eq_true h4)⟩
theorem caughts {K : PySem.W.Frag} {mg : Str → Option Value} {fl cls : List Str} {x1 x2 : Str} (h : (cls.all fun c => caughtB K fl x1 x2 c) = true) (g : ∀ c ∈ cls, mg c = some (.ref (He.ga K c))) : ∀ c ∈ cls, ∀ C, mg c = some (.ref C) → Caught K fl (.ref (He.ga K x1)) (.ref (He.ga K x2)) C := fun c hc C e => by
  have e2 := (g c hc).symm.trans e
  cases e2
  exact caughtB_ok (List.all_eq_true.mp h c hc)
/-- a promise's weaker end -/
theorem tO_mono {K : PySem.W.Frag} {mg : Str → Option Value} {m : M W} (E : XK) (σ : L2.St) (H : Hp) (Q1 Q2 : VK) (h : ∀ v H', Q1 v H' → Q2 v H') (t : tO K mg (fun cls d _ H' => E cls d H') m σ H Q1) : tO K mg (fun cls d _ H' => E cls d H') m σ H Q2 := by
  obtain ⟨I, e, Fs, R, w, e', hm, k1, k2⟩ := t
  exact ⟨I, e, Fs, R, w, e', hm, fun v I' Fs' H' F a b c d => h _ _ (k1 v I' Fs' H' F a b c d), k2⟩
end MV

namespace MV
open PySem L2 L2H XO LamX LamK
variable [TB]
/-! ### try_(lambda: ..), in the law's own frame -/
def rSame : V → Hp → VK → Prop := fun v H Q => Q v H
theorem pe_try {X : Cx} {scope sg : Scope} {params : Arguments} {lb : Expr} {tb : XK → TE} {fl : List Str} {g : Addr → Addr → FSem} {c1 c2 : Value} {k : Nat}
    {tryN ask : Str} {pT : Arguments} {bT : List Stmt} {gT : Addr} {fdT : FuncData} {Nt : List Str} {lpos : Pos} {c : Addr} {df : He.Defn} {q : Str}
    (hcode : X.env.code = .ref c) (hcc : c = He.codeOf X.K df) (hq : X.env.qual ++ "<lambda>" = q) (LF : LamF X.K X.mg X.base df q) (L : LamS X.env.scope scope) (hdef : defaultsOf params X.env = ([], [])) (hr : Room (k + 2) X.A)
    (hbind : ∀ (q : Str) (cl : List (Str × Addr)) (pm cv ctv : Value), bindArgs (PySem.W.kla_fn "<lambda>" q params lb scope cl pm cv ctv) ⟨[], []⟩ = pure [])
    (hlb : ∀ (A : Around) (outer : List PySem.Env) (s : Shared) (H : Hp) (E : XK) (f c' : Addr), Room k (A.deeper (lamEnv X scope s.heap.objs.size f c')) → PE (lamNx X A outer s H E scope f c') lb (tb E))
    (mono : ∀ (E : XK) (σ : L2.St) (H : Hp) (Q1 Q2 : VK), (∀ v H', Q1 v H' → Q2 v H') → tb E σ H Q1 → tb E σ H Q2)
    (FT : FunD X.K tryN tryN pT bT sg [] [] gT fdT) (ScT : FnScope Nt [ask] sg) (hNt : Nt.length = 5) (hbT : Binds X.K fdT [ask] []) (hg : Gl X tryN) (hmT : X.mg tryN = some (.ref gT)) (hdT : (tryN == ("__debug__" : Str)) = false)
    (hN : Nt[0]? = some ask) (hv : Vis sg ask) (hd : (ask == ("__debug__" : Str)) = false) (hcd : (ask == ("__classdict__" : Str)) = false)
    (hbody : ∀ (cdv : Value) (A : Around) (outer : List PySem.Env) (s0 : Shared) (H0 : Hp) (E0 : XK) (f c' : Addr) (q : Str) (tl : XK → Hp → VK → Prop), Room (k + 1) (A.deeper (PyProof.Rows.envOfC tryN sg s0.heap.objs.size gT cdv)) → ActP (cxOf (L2N.CX X.prog X.w) X.prog X.w X.K X.mg X.base Nt tryN sg gT cdv A outer s0 H0 E0) ask f c' q tl →
      PSs (cxOf (L2N.CX X.prog X.w) X.prog X.w X.K X.mg X.base Nt tryN sg gT cdv A outer s0 H0 E0) bT (tTryDef X.K X.mg fl g c1 c2 f c' q tl))
    {p0 pos0 : Pos} (he : starEach [.Lambda params lb scope lpos] X.env = (false, eval (.Lambda params lb scope lpos) X.env) :: starEach [] X.env := by rfl) (hpl : (backTo pos0 (starEach [] X.env)).any (·.1) = false := by rfl) :
    PE X (.Call (.Name tryN p0) [.Lambda params lb scope lpos] [] pos0) (tErr X.K X.mg fl g c1 c2 (He.tabOf X.K (He.codeOf X.K df)) q tb rSame) := by
  refine ⟨fun pins s σ H Q I h => ?_⟩
  obtain ⟨hT, h⟩ := h
  refine wpAny_Call_Name_kw (ld_glob I hg hmT ?_ hdT)
  refine PySem.W.callWith_K (h₀ := X.base) I.ok.mod.kin FT.kp ?_ he hpl
  show wpAny _ _ (spliced ((false, eval (.Lambda params lb scope lpos) X.env) :: backTo pos0 (starEach [] X.env))) _ _ s
  refine Calls.spliced_cons (lam_done I LF.tb (hcode.trans (by rw [hcc])) (by rw [hq]; exact LF.mem) (by rw [hq]; exact LF.only) hT hdef (L.has I.ok) fun f c' pm ctv H1 s1 I1 M T1 le hf hfn hfr => ?_)
  refine Calls.spliced_nil ⟨I1.kIn, ?_⟩
  have M' : Made (He.tabOf X.K (He.codeOf X.K df)) q c' H H1 := hq ▸ M
  have pr := h c' H1 M' T1
  have rc : codeAny (model X.prog X.w) X.A (.call (.ref gT) ⟨[.ref f], []⟩) (CR (L2N.CX X.prog X.w) X.stack X.prog X.w H1 s1 Q (fun _ _ _ => False)) s1 :=
    try_code (k := k + 1) FT ScT hNt hbT hbody hr I1.env0 (fun cdv => act_of I1 L hf hfn hfr Un.refl hbind (Room.deeper hr _) hlb hN hv hd hcd) M.1 (fun E H Q1 Q2 z => mono E σ H Q1 Q2 z) pr
  refine wpAny_call (codeAny_mono rc fun r s' hq => ?_)
  cases r with
  | error e =>
    have hq : L2N.CX X.prog X.w _ H1 s1 (fun _ _ _ => False) e s' := hq
    obtain ⟨_, _, _, _, _, _, _, _, _, _, _, _, z⟩ := hq
    exact z.elim
  | ok fl =>
    cases fl with
    | ret u => exact I1.after hq
    | next => exact False.elim hq
    | brk => exact False.elim hq
    | cont => exact False.elim hq
noncomputable def tryW (g : Addr → Addr → FSem) (cls : List Str) : W → Option D
  | .p d => some (.tup [d, .str (Str.ofString ""), .none])
  | .ex (.inst c gs) => if c ∈ cls then (gs.lookup (Str.ofString "word")).bind fun wd => (fieldOf g c gs).map fun fd => .tup [.none, wd, fd] else none
  | _ => none
noncomputable def mTry (g : Addr → Addr → FSem) (cls : List Str) (m : M W) : M D := fun e => (m e).bind fun x => (tryW g cls x.1).map fun d => (d, x.2)
theorem end_try {K : PySem.W.Frag} {mg : Str → Option Value} {I H : Hp} {e : Env} {Fs : Fp} {σ : L2.St} {Q : VK} {v0 v1 v2 : V} {d0 d1 d2 : D} (R : Rel K mg I e Fs σ H) (h0 : Rp K mg I d0 v0) (h1 : Rp K mg I d1 v1) (h2 : Rp K mg I d2 v2)
    (k : ∀ v I' H', Rel K mg I' e Fs σ H' → Ext Fs I H Fs I' H' → Rp K mg I' (.tup [d0, d1, d2]) v → Q v H') : endT (fun v H' => rSame v H' Q) v0 v1 v2 H := fun T hT => by
  obtain ⟨R1, x1⟩ := R.laid (p := T) (o := .tup [v0, v1, v2]) hT
  exact k _ _ _ R1 x1 (rp_tup R.sub hT (RpL.cons h0 (RpL.cons h1 (RpL.cons h2 RpL.nil))))
theorem se_try {X : Cx} {ex : Expr} {m : M W} {g : Addr → Addr → FSem} {cls : List Str} {fl : List Str} {c1 c2 : Value} {P : Addr} {q : Str} (hp : PE X ex (tErr X.K X.mg fl g c1 c2 P q (fun E => tO X.K X.mg (fun cls d _ H' => E cls d H') m) rSame)) (hP : ∃ q', (P, q') ∈ TB.T)
    (hcl : ∀ c ∈ cls, ∀ C, X.mg c = some (.ref C) → Caught X.K fl c1 c2 C) : SE X ex (mTry g cls m) := PE.imp hp fun σ H Q ⟨I, e, Fs, R, d, e', hm, k⟩ => by
  obtain ⟨⟨w, e1⟩, h1, hm⟩ := Option.bind_eq_some_iff.mp hm
  obtain ⟨z, h2, hm⟩ := Option.map_eq_some_iff.mp hm
  cases hm
  refine ⟨R.tb.1, fun c' H1 M T1 T hT => ?_⟩
  obtain ⟨R1, x1⟩ := R.lam M T1 hP
  have R2 := R1.loose (o := .tup [.non, .str (Str.ofString ""), .non]) hT
  have x2 := x1.trans (Ext.loose (o := .tup [.non, .str (Str.ofString ""), .non]) hT)
  refine ⟨I, e, Fs, R2, w, e1, h1, fun v I' Fs' H' F R' x o hF => ?_, fun y hy cl d' I' Fs' H' R' x xr => ?_⟩
  · cases w with
    | p d0 =>
      cases h2
      have r0 := o.ro
      simp only [Ro] at r0
      exact end_try R' r0.1 (by simp only [Rp]) (by simp only [Rp]) fun v' I2 H2 R3 x3 r => k v' I2 Fs' H2 R3 ((x2.trans x).trans x3) r
    | ex y =>
      have r0 := o.ro
      simp only [Ro] at r0
    | ol ws => cases h2
    | ot ws => cases h2
    | od es => cases h2
    | oi c fs => cases h2
  · subst hy
    cases y with
    | inst c gs =>
      obtain ⟨C, dx, fs, rfl, hmc, rfl, hdx, rf⟩ := xr
      have h2 : (if c ∈ cls then (gs.lookup (Str.ofString "word")).bind fun wd => (fieldOf g c gs).map fun fd => D.tup [.none, wd, fd] else none) = some d := h2
      split at h2
      · rename_i hc
        obtain ⟨wd, hw, h2⟩ := Option.bind_eq_some_iff.mp h2
        obtain ⟨fd, hf, h2⟩ := Option.map_eq_some_iff.mp h2
        cases h2
        obtain ⟨f1, f2⟩ := hcl c hc C hmc
        obtain ⟨wv, hwv, rw_⟩ := rf.look.1 wd hw
        refine ⟨f1, C, dx, rfl, rfl, f2, fs, wv, R'.sub _ _ hdx, hwv, fun a ha => ?_⟩
        obtain ⟨oe, hg⟩ := fieldOf_told hf a dx
        have rx : Rp X.K X.mg I' (.exc a dx c gs) (.ref a) := by
          simp only [Rp]
          exact ⟨trivial, C, fs, hmc, hdx, rf⟩
        refine ⟨I', [.p (.exc a dx c gs)], consF [] (fun _ => []), rfl, (Rel.nil R'.sub R'.tb).cons (.pure rx), .p fd, oe, hg, fun u I2 Fo H2 F2 Ro2 xo oo hF2 => ?_, fun x hx => by cases hx⟩
        have R3 : Rel X.K X.mg I2 e1 Fs' σ H2 := R'.frame xo.g Ro2.sub fun a _ => noMF a
        have x3 : Ext Fs' I' H' Fs' I2 H2 := ⟨⟨xo.g.ex, fun a u q _ nt => xo.g.fr a u q (noMF a) nt, fun a h => (xo.g.new a h).elim .inl fun h => h.elim (fun h => .inr (.inl h)) fun h => absurd h (noMF a), xo.g.tb, fun a ps q _ => xo.g.tl a ps q (noMF a)⟩, fun a m => .inl m⟩
        have r0 := oo.ro
        simp only [Ro] at r0
        exact end_try R3 (by simp only [Rp]) (rw_.mono xo.g.ex _ _) r0.1 fun v' I4 H4 R4 x4 r => k v' I4 Fs' H4 R4 (((x2.trans x).trans x3).trans x4) r
      · cases h2
    | _ => cases h2
end MV

namespace MV
open PySem L2 L2H XO LamX LamK
variable [TB]
def srcOkB (n : Nat) (l : List (Str × Src)) : Bool := l.all fun z => match z.2 with
  | .inl _ => true
  | .inr i => decide (1 ≤ i) && decide (i ≤ n)
theorem srcs_ok {n : Nat} {l : List (Str × Src)} (h : srcOkB n l = true) : ∀ z ∈ l, ∀ i, z.2 = .inr i → 1 ≤ i ∧ i ≤ n := fun z hz i e => by
  have q := List.all_eq_true.mp h z hz
  rw [e] at q
  simpa using q
/-- tables of several defs: one name each -/
theorem only_of : ∀ {T : List (Addr × Str)} (nd : (T.map (·.1)).Nodup) {p : Addr × Str} (hp : p ∈ T), ∀ r ∈ T, r.1 = p.1 → r.2 = p.2
  | [], nd, p, hp, r, hr, e => by cases hr
  | t :: T, nd, p, hp, r, hr, e => by
    obtain ⟨n1, n2⟩ := List.nodup_cons.mp nd
    rcases List.mem_cons.mp hp with rfl | hq
    · rcases List.mem_cons.mp hr with rfl | hs
      · rfl
      · exact absurd (List.mem_map.mpr ⟨r, hs, e⟩) n1
    · rcases List.mem_cons.mp hr with rfl | hs
      · exact absurd (List.mem_map.mpr ⟨p, hq, e.symm⟩) n1
      · exact only_of n2 hq r hs e
def tabsT (K : PySem.W.Frag) (l : List (He.Defn × Str)) : List (Addr × Str) := l.map fun p => (He.tabOf K (He.codeOf K p.1), p.2)
theorem tabsT_nd {K : PySem.W.Frag} {l : List (He.Defn × Str)} (h : ((l.map (·.1)).map fun p => (He.cT K p).2).Nodup) : ((tabsT K l).map (·.1)).Nodup := by
  have e : (tabsT K l).map (·.1) = (l.map (·.1)).map fun p => (He.cT K p).2 := by
    unfold tabsT
    rw [List.map_map, List.map_map]
    rfl
  rw [e]
  exact h
theorem lam_so {X : Cx} {A : Around} {outer : List PySem.Env} {s : Shared} {H : Hp} {E : XK} {scope : Scope} {f c' : Addr} {lb : Expr} {m : M W} (h : SO (lamNx X A outer s H E scope f c') (fun cls d _ H' => E cls d H') lb m) : PE (lamNx X A outer s H E scope f c') lb (tO X.K X.mg (fun cls d _ H' => E cls d H') m) := h
theorem roomH_mk {k : Nat} {A : Around} (r : Room k A) (h : Option Value) : RoomH k (A.mark h) := ⟨r.dp, r.un⟩
end MV

namespace MV
open PySem L2 L2H XO LamX LamK
variable [TB]
/-- error(lambda: ..), all in one -/
theorem se_error {X : Cx} {scope sg se : Scope} {params : Arguments} {lb : Expr} {m : M W} {fl cls : List Str} {g : Addr → Addr → FSem} {c1 c2 : Value} {k : Nat}
    {tryN errN ask askE : Str} {pT pE : Arguments} {bT : List Stmt} {gT gE : Addr} {Nt Ne : List Str} {lpos pos pt pa pc pi ps pr : Pos} {j : Nat} {c : Addr} {df : He.Defn} {q : Str} {p0 pos0 : Pos}
    (hcode : X.env.code = .ref c) (hcc : c = He.codeOf X.K df) (hq : X.env.qual ++ "<lambda>" = q) (LF : LamF X.K X.mg X.base df q) (L : LamS X.env.scope scope) (hdef : defaultsOf params X.env = ([], [])) (hr : Room (k + 3) X.A)
    (hbind : ∀ (q : Str) (cl : List (Str × Addr)) (pm cv ctv : Value), bindArgs (PySem.W.kla_fn "<lambda>" q params lb scope cl pm cv ctv) ⟨[], []⟩ = pure [])
    (hlb : ∀ (A : Around) (outer : List PySem.Env) (s : Shared) (H : Hp) (E : XK) (f c' : Addr), Room k (A.deeper (lamEnv X scope s.heap.objs.size f c')) → SO (lamNx X A outer s H E scope f c') (fun cls d _ H' => E cls d H') lb m)
    (FT : ∃ fdT, FunD X.K tryN tryN pT bT sg [] [] gT fdT) (ScT : FnScope Nt [ask] sg) (hNt : Nt.length = 5) (hbT : ∀ fdT, FunD X.K tryN tryN pT bT sg [] [] gT fdT → Binds X.K fdT [ask] []) (hmT : X.mg tryN = some (.ref gT)) (hdT : (tryN == ("__debug__" : Str)) = false)
    (hN : Nt[0]? = some ask) (hv : Vis sg ask) (hd : (ask == ("__debug__" : Str)) = false) (hcd : (ask == ("__classdict__" : Str)) = false)
    (hbody : ∀ (cdv : Value) (A : Around) (outer : List PySem.Env) (s0 : Shared) (H0 : Hp) (E0 : XK) (f c' : Addr) (q : Str) (tl : XK → Hp → VK → Prop), Room (k + 1) (A.deeper (PyProof.Rows.envOfC tryN sg s0.heap.objs.size gT cdv)) → ActP (cxOf (L2N.CX X.prog X.w) X.prog X.w X.K X.mg X.base Nt tryN sg gT cdv A outer s0 H0 E0) ask f c' q tl →
      PSs (cxOf (L2N.CX X.prog X.w) X.prog X.w X.K X.mg X.base Nt tryN sg gT cdv A outer s0 H0 E0) bT (tTryDef X.K X.mg fl g c1 c2 f c' q tl))
    (FE : ∃ fdE, FunD X.K errN errN pE [.Return (some (.Subscript (.Call (.Name tryN pt) [.Name askE pa] [] pc) (.Slice (some (.Constant (.int 1) j pi)) none none ps) pr)) pos] se [] [] gE fdE) (ScE : FnScope Ne [askE] se) (hbE : ∀ fdE, FunD X.K errN errN pE [.Return (some (.Subscript (.Call (.Name tryN pt) [.Name askE pa] [] pc) (.Slice (some (.Constant (.int 1) j pi)) none none ps) pr)) pos] se [] [] gE fdE → Binds X.K fdE [askE] []) (hg : Gl X errN) (hm : X.mg errN = some (.ref gE)) (hdE : (errN == ("__debug__" : Str)) = false)
    (hNe : Ne[0]? = some askE) (hve : Vis se askE) (hde : (askE == ("__debug__" : Str)) = false) (hcde : (askE == ("__classdict__" : Str)) = false) (hgT : se.names.lookup tryN = some .globalImplicit)
    (h1 : ∀ (cdE : Value) (n : Nat), starEach [.Name askE pa] (PyProof.Rows.envOfC errN se n gE cdE) = (false, eval (.Name askE pa) (PyProof.Rows.envOfC errN se n gE cdE)) :: starEach [] (PyProof.Rows.envOfC errN se n gE cdE)) (h2 : ∀ (cdE : Value) (n : Nat), (backTo pc (starEach [] (PyProof.Rows.envOfC errN se n gE cdE))).any (·.1) = false)
    (hcl : ∀ c ∈ cls, ∀ C, X.mg c = some (.ref C) → Caught X.K fl c1 c2 C)
    (he : starEach [.Lambda params lb scope lpos] X.env = (false, eval (.Lambda params lb scope lpos) X.env) :: starEach [] X.env := by rfl) (hpl : (backTo pos0 (starEach [] X.env)).any (·.1) = false := by rfl) :
    SE X (.Call (.Name errN p0) [.Lambda params lb scope lpos] [] pos0) (mErr g cls m) := by
  obtain ⟨fdT, FT⟩ := FT
  obtain ⟨fdE, FE⟩ := FE
  exact se_err (pe_error (p := pos0) (tb := fun E => tO X.K X.mg (fun cls d _ H' => E cls d H') m) hcode hcc hq LF L hdef hr hbind (fun A outer s H E f c' hr' => hlb A outer s H E f c' hr') (fun E σ H Q1 Q2 z t => tO_mono E σ H Q1 Q2 z t) FT ScT hNt (hbT _ FT) hmT hdT hN hv hd hcd hbody FE ScE (hbE _ FE) hg hm hdE hNe hve hde hcde hgT h1 h2 he hpl) ⟨_, LF.mem⟩ hcl
/-- try(lambda: ..) -/
theorem se_tryl {X : Cx} {scope sg : Scope} {params : Arguments} {lb : Expr} {m : M W} {fl cls : List Str} {g : Addr → Addr → FSem} {c1 c2 : Value} {k : Nat}
    {tryN ask : Str} {pT : Arguments} {bT : List Stmt} {gT : Addr} {Nt : List Str} {lpos : Pos} {c : Addr} {df : He.Defn} {q : Str} {p0 pos0 : Pos}
    (hcode : X.env.code = .ref c) (hcc : c = He.codeOf X.K df) (hq : X.env.qual ++ "<lambda>" = q) (LF : LamF X.K X.mg X.base df q) (L : LamS X.env.scope scope) (hdef : defaultsOf params X.env = ([], [])) (hr : Room (k + 2) X.A)
    (hbind : ∀ (q : Str) (cl : List (Str × Addr)) (pm cv ctv : Value), bindArgs (PySem.W.kla_fn "<lambda>" q params lb scope cl pm cv ctv) ⟨[], []⟩ = pure [])
    (hlb : ∀ (A : Around) (outer : List PySem.Env) (s : Shared) (H : Hp) (E : XK) (f c' : Addr), Room k (A.deeper (lamEnv X scope s.heap.objs.size f c')) → SO (lamNx X A outer s H E scope f c') (fun cls d _ H' => E cls d H') lb m)
    (FT : ∃ fdT, FunD X.K tryN tryN pT bT sg [] [] gT fdT) (ScT : FnScope Nt [ask] sg) (hNt : Nt.length = 5) (hbT : ∀ fdT, FunD X.K tryN tryN pT bT sg [] [] gT fdT → Binds X.K fdT [ask] []) (hg : Gl X tryN) (hmT : X.mg tryN = some (.ref gT)) (hdT : (tryN == ("__debug__" : Str)) = false)
    (hN : Nt[0]? = some ask) (hv : Vis sg ask) (hd : (ask == ("__debug__" : Str)) = false) (hcd : (ask == ("__classdict__" : Str)) = false)
    (hbody : ∀ (cdv : Value) (A : Around) (outer : List PySem.Env) (s0 : Shared) (H0 : Hp) (E0 : XK) (f c' : Addr) (q : Str) (tl : XK → Hp → VK → Prop), Room (k + 1) (A.deeper (PyProof.Rows.envOfC tryN sg s0.heap.objs.size gT cdv)) → ActP (cxOf (L2N.CX X.prog X.w) X.prog X.w X.K X.mg X.base Nt tryN sg gT cdv A outer s0 H0 E0) ask f c' q tl →
      PSs (cxOf (L2N.CX X.prog X.w) X.prog X.w X.K X.mg X.base Nt tryN sg gT cdv A outer s0 H0 E0) bT (tTryDef X.K X.mg fl g c1 c2 f c' q tl))
    (hcl : ∀ c ∈ cls, ∀ C, X.mg c = some (.ref C) → Caught X.K fl c1 c2 C)
    (he : starEach [.Lambda params lb scope lpos] X.env = (false, eval (.Lambda params lb scope lpos) X.env) :: starEach [] X.env := by rfl) (hpl : (backTo pos0 (starEach [] X.env)).any (·.1) = false := by rfl) :
    SE X (.Call (.Name tryN p0) [.Lambda params lb scope lpos] [] pos0) (mTry g cls m) := by
  obtain ⟨fdT, FT⟩ := FT
  exact se_try (pe_try (tb := fun E => tO X.K X.mg (fun cls d _ H' => E cls d H') m) hcode hcc hq LF L hdef hr hbind (fun A outer s H E f c' hr' => hlb A outer s H E f c' hr') (fun E σ H Q1 Q2 z t => tO_mono E σ H Q1 Q2 z t) FT ScT hNt (hbT _ FT) hg hmT hdT hN hv hd hcd hbody he hpl) ⟨_, LF.mem⟩ hcl
end MV

namespace MV
open PySem L2 XO
/-! ### evaluation: what is raised, what is told -/
section
variable {c f w : Str} {n : Nat} {l : List (Str × Src)} {ma : M (List Arg)} {e : Env} {as : List Arg} {ds : List D} {d d' : D}
def raK (c : Str) (n : Nat) (l : List (Str × Src)) : Option (List Arg × Env) → Option SR
  | some x => ra2 c n l (allD x.1) x.2
  | none => none
where
  ra2 (c : Str) (n : Nat) (l : List (Str × Src)) : Option (List D) → Env → Option SR
  | some ds, e => if ds.length = n then some (.ex (.inst c (xD l ds)) e) else none
  | none, _ => none
@[simp] theorem ev_raise : sRaise c n l ma e = raK c n l (ma e) := by
  unfold sRaise raK
  cases ma e with
  | none => rfl
  | some x =>
    show (allD x.1).bind _ = raK.ra2 c n l (allD x.1) x.2
    unfold raK.ra2
    cases allD x.1 <;> rfl
@[simp] theorem raK_s : raK c n l (some (as, e)) = raK.ra2 c n l (allD as) e := rfl
@[simp] theorem ra2_s : raK.ra2 c n l (some ds) e = if ds.length = n then some (.ex (.inst c (xD l ds)) e) else none := rfl
@[simp] theorem xD_0 {k : Str} : xD [(k, .inl w)] [] = [(k, .str w)] := rfl
@[simp] theorem xD_1 {k : Str} : xD [(k, .inl w), (f, .inr 1)] [d] = [(f, d), (k, .str w)] := rfl
@[simp] theorem xD_2 {k g : Str} : xD [(k, .inl w), (f, .inr 1), (g, .inr 2)] [d, d'] = [(g, d'), (f, d), (k, .str w)] := rfl
variable {g : Addr → Addr → FSem} {cls : List Str} {m : M W} {x : W} {gs : List (Str × D)} {wd fd : D}
noncomputable def erK (g : Addr → Addr → FSem) (cls : List Str) : Option (W × Env) → Option (D × Env)
  | some x => retK (errW g cls x.1) x.2
  | none => none
@[simp] theorem ev_err : mErr g cls m e = erK g cls (m e) := by
  unfold mErr erK
  cases m e with
  | none => rfl
  | some x => show (errW g cls x.1).map _ = retK (errW g cls x.1) x.2; unfold retK; cases errW g cls x.1 <;> rfl
@[simp] theorem erK_s : erK g cls (some (x, e)) = retK (errW g cls x) e := rfl
@[simp] theorem errW_p : errW g cls (.p d) = some (.tup [.str (Str.ofString ""), .none]) := rfl
theorem errW_ex (hc : c ∈ cls) (hw : gs.lookup (Str.ofString "word") = some wd) (hf : Told g c gs fd) : errW g cls (.ex (.inst c gs)) = some (.tup [wd, fd]) := by
  show (if c ∈ cls then _ else _) = _
  rw [if_pos hc, hw, fieldOf_is hf]
  rfl
noncomputable def tyK (g : Addr → Addr → FSem) (cls : List Str) : Option (W × Env) → Option (D × Env)
  | some x => retK (tryW g cls x.1) x.2
  | none => none
@[simp] theorem ev_try : mTry g cls m e = tyK g cls (m e) := by
  unfold mTry tyK
  cases m e with
  | none => rfl
  | some x => show (tryW g cls x.1).map _ = retK (tryW g cls x.1) x.2; unfold retK; cases tryW g cls x.1 <;> rfl
@[simp] theorem tyK_s : tyK g cls (some (x, e)) = retK (tryW g cls x) e := rfl
@[simp] theorem tryW_p : tryW g cls (.p d) = some (.tup [d, .str (Str.ofString ""), .none]) := rfl
theorem tryW_ex (hc : c ∈ cls) (hw : gs.lookup (Str.ofString "word") = some wd) (hf : Told g c gs fd) : tryW g cls (.ex (.inst c gs)) = some (.tup [.none, wd, fd]) := by
  show (if c ∈ cls then _ else _) = _
  rw [if_pos hc, hw, fieldOf_is hf]
  rfl
end
end MV

namespace MV
open PySem L2
def isEnd : SR → Bool
  | .rt _ _ => true
  | .ex _ _ => true
  | _ => false
/-- a loop that ends at x -/
theorem forRun_stop {α : Type} {tg : Tg} {b : S} {g : α → D} (E : List α → Env) {x : α} {post : List α} {r : SR} (hr : isEnd r = true) : ∀ (pre done : List α), (∀ p1 y p2, pre = p1 ++ y :: p2 → forStep tg b (g y) (E (done ++ p1)) = some (.nx (E (done ++ (p1 ++ [y]))))) → forStep tg b (g x) (E (done ++ pre)) = some r → forRun tg b ((pre ++ x :: post).map g) (E done) = some r
  | [], done, _, hx => by
    rw [List.append_nil] at hx
    rw [List.nil_append, List.map_cons, forRun_c, hx, Option.bind_some]
    cases r <;> first | rfl | cases hr
  | y :: pre, done, hp, hx => by
    have h0 := hp [] y pre rfl
    rw [List.append_nil, List.nil_append] at h0
    rw [List.cons_append, List.map_cons, forRun_c, h0, Option.bind_some]
    refine forRun_stop E hr pre (done ++ [y]) (fun p1 z p2 e => ?_) (by simpa using hx)
    have := hp (y :: p1) z p2 (by rw [e]; rfl)
    simpa using this
/-- a loop that ends at the first x with f x -/
theorem forRun_first {α β : Type} {tg : Tg} {b : S} {g : α → D} (E : List α → Env) (f : α → Option β) (R : β → SR → Prop) (xs : List α)
    (hn : ∀ pre x post, xs = pre ++ x :: post → (∀ y ∈ pre, f y = none) → f x = none → forStep tg b (g x) (E pre) = some (.nx (E (pre ++ [x]))))
    (hs : ∀ pre x post z, xs = pre ++ x :: post → (∀ y ∈ pre, f y = none) → f x = some z → ∃ r, isEnd r = true ∧ R z r ∧ forStep tg b (g x) (E pre) = some r) :
    (xs.findSome? f = none → forRun tg b (xs.map g) (E []) = some (.nx (E xs))) ∧ ∀ z, xs.findSome? f = some z → ∃ r, isEnd r = true ∧ R z r ∧ forRun tg b (xs.map g) (E []) = some r := by
  refine ⟨fun h => ?_, fun z h => ?_⟩
  · have hx := List.findSome?_eq_none_iff.mp h
    exact forRun_go E xs fun pre x post e => hn pre x post e (fun y hy => hx y (by rw [e]; simp [hy])) (hx x (by rw [e]; simp))
  · obtain ⟨pre, x, post, e, hx, hp⟩ := List.findSome?_eq_some_iff.mp h
    obtain ⟨r, h1, h2, h3⟩ := hs pre x post z e hp hx
    refine ⟨r, h1, h2, ?_⟩
    have := forRun_stop (tg := tg) (b := b) (g := g) E (x := x) (post := post) h1 pre [] (fun p1 y p2 e2 => by
      rw [List.nil_append]
      exact hn p1 y (p2 ++ x :: post) (by rw [e, e2]; simp) (fun z hz => hp z (by rw [e2]; simp [hz])) (hp y (by rw [e2]; simp))) (by simpa using h3)
    rw [e]
    exact this
/-- one statement after the other -/
theorem seq_nx {a b : S} {e e1 : Env} {r : Option SR} (h1 : a e = some (.nx e1)) (h2 : b e1 = r) : sSeq a b e = r := by
  unfold sSeq
  rw [h1]
  exact h2
theorem seq_end {a b : S} {e : Env} {r : SR} (h1 : a e = some r) (hr : isEnd r = true) : sSeq a b e = some r := by
  unfold sSeq
  rw [h1]
  cases r <;> first | rfl | cases hr
theorem fsem_ex {n : Nat} {io : List Bool} {m : S} {ws : List W} {x : D} {e : Env} (h : m (ws.map some ++ List.replicate (n - ws.length) none) = some (.ex x e)) : fsem n io m ws = some (.ex x, outs io e) := by
  unfold fsem
  rw [h]
theorem kill_to {ks : List Nat} {b : S} {e e1 e2 : Env} (h : b e = some (.nx e1)) (h2 : wipeE e1 ks = e2) : sKill ks b e = some (.nx e2) := by
  have := @ev_kill
  simp [h, h2]
theorem if_t {c : M Bool} {a b : S} {e e1 : Env} (h : c e = some (true, e1)) : sIf c a b e = a e1 := by
  unfold sIf
  rw [h]
  rfl
theorem if_f {c : M Bool} {a : S} {e e1 : Env} (h : c e = some (false, e1)) : sIf c a sNext e = some (.nx e1) := by
  unfold sIf
  rw [h]
  rfl
theorem if_e {c : M Bool} {a b : S} {e e1 : Env} (h : c e = some (false, e1)) : sIf c a b e = b e1 := by
  unfold sIf
  rw [h]
  rfl
theorem bool_to {m : M D} {e e1 : Env} {b : Bool} (h : m e = some (.bool b, e1)) : mBool m e = some (b, e1) := by
  unfold mBool
  rw [h]
  rfl
theorem op_to {f : D → D → Option D} {a b : M D} {e e1 e2 : Env} {x y z : D} (h1 : a e = some (x, e1)) (h2 : b e1 = some (y, e2)) (h3 : f x y = some z) : mOp f a b e = some (z, e2) := by
  unfold mOp
  rw [h1, Option.bind_some, h2, Option.bind_some, h3]
  rfl
end MV

namespace MV
open PySem PySem.Spec PyProof.Rows L2
variable [TB]
/-! ### a dict of the module, its keys texts -/
def kdE (K : PySem.W.Frag) (d : Addr) : List DictEntry := match K.lookup d with
  | some ⟨_, _, .dict es _, _⟩ => es.toList
  | _ => []
def entB (K : PySem.W.Frag) (e : DictEntry) (q : Str × He.Dv) : Bool := (match e.key with
  | .str x _ => decide (x = q.1)
  | _ => false) && He.relB (q.2.v K) e.val
def entsB (K : PySem.W.Frag) : List DictEntry → List (Str × He.Dv) → Bool
  | [], [] => true
  | e :: es, q :: qs => entB K e q && entsB K es qs
  | _, _ => false
def ktB (K : PySem.W.Frag) (x : Str) (tbl : List (Str × He.Dv)) : Bool := entsB K (kdE K (He.ga K x)) tbl
def kfind (tbl : List (Str × He.Dv)) (k : Str) : Option He.Dv := (tbl.find? fun q => decide (q.1 = k)).map (·.2)
theorem ents_ok {K : PySem.W.Frag} {k : Str} : ∀ {es : List DictEntry} {qs : List (Str × He.Dv)}, entsB K es qs = true →
    (es.any (·.refKey) = false) ∧ (∀ v, kfind qs k = some v → ∃ e, es.find? (·.key.isStr k) = some e ∧ RelV (v.v K) e.val) ∧ (kfind qs k = none → es.find? (·.key.isStr k) = none)
  | [], [], _ => ⟨rfl, fun v h => (by cases h), fun _ => rfl⟩
  | [], q :: qs, h => by cases h
  | e :: es, [], h => by cases h
  | e :: es, q :: qs, h => by
    obtain ⟨h1, h2⟩ := ba2 h
    obtain ⟨h3, h4⟩ := ba2 h1
    obtain ⟨i1, i2, i3⟩ := ents_ok (k := k) h2
    obtain ⟨hs, ky, vl⟩ := e
    cases ky with
    | str x t =>
      have hx : x = q.1 := of_decide_eq_true h3
      subst hx
      have eq : (Value.str q.1 t).isStr k = decide (q.1 = k) := by
        show (q.1 == k) = _
        by_cases z : q.1 = k
        · subst z; simp
        · simp [z]
      refine ⟨by rw [List.any_cons, i1]; rfl, fun v hv => ?_, fun hn => ?_⟩
      · unfold kfind at hv
        rw [List.find?_cons] at hv
        rw [List.find?_cons]
        simp only [eq]
        by_cases z : q.1 = k
        · simp only [z, decide_true, Option.map_some, Option.some.injEq] at hv
          simp only [z, decide_true]
          exact ⟨_, rfl, by rw [← hv]; exact He.relB_ok h4⟩
        · simp only [z, decide_false] at hv
          simp only [z, decide_false]
          exact i2 v hv
      · unfold kfind at hn
        rw [List.find?_cons] at hn
        rw [List.find?_cons]
        simp only [eq]
        by_cases z : q.1 = k
        · simp only [z, decide_true, Option.map_some] at hn
          cases hn
        · simp only [z, decide_false] at hn
          simp only [z, decide_false]
          exact i3 hn
    | _ => cases h3
theorem kt_ns {K : PySem.W.Frag} {w : World} {x : Str} {es : Array DictEntry} {n : Nat} {tbl : List (Str × He.Dv)} (D : KDict K w (He.ga K x) es n) (h : ktB K x tbl = true) (k : Str) :
    (∀ v, kfind tbl k = some v → ∃ u, PySem.W.nsIn K (He.ga K x) k = some (some u) ∧ RelV (v.v K) u) ∧ (kfind tbl k = none → PySem.W.nsIn K (He.ga K x) k = some none) := by
  have e : kdE K (He.ga K x) = es.toList := by
    unfold kdE
    rw [D.at_]
  unfold ktB at h
  rw [e] at h
  obtain ⟨i1, i2, i3⟩ := ents_ok (k := k) h
  refine ⟨fun v hv => ?_, fun hn => ?_⟩
  · obtain ⟨e, h1, h2⟩ := i2 v hv
    refine ⟨e.val, ?_, h2⟩
    unfold PySem.W.nsIn
    rw [D.at_]
    simp only [h1]
  · have h1 := i3 hn
    unfold PySem.W.nsIn
    rw [D.at_]
    simp only [h1, i1]
    rfl
end MV

namespace MV
open PySem PySem.Spec PyProof.Rows L2
variable [TB]
/-! ### a method of a text, plain arguments -/
def mStrM (f : Str → List D → Option D) (mo : M D) (ma : M (List Arg)) : M D := fun e => (mo e).bind fun x => (ma x.2).bind fun y => match x.1, allD y.1 with
  | .str a, some ds => (f a ds).map fun z => (z, y.2)
  | _, _ => none
def mStrM0 (f : Str → Option D) (mo : M D) : M D := fun e => (mo e).bind fun x => match x.1 with
  | .str a => (f a).map fun z => (z, x.2)
  | _ => none
def StrOk (K : PySem.W.Frag) (mg : Str → Option Value) (r : V → List V → Hp → VK → Prop) (f : Str → List D → Option D) : Prop :=
  ∀ (I H : Hp) (a : Str) (ds : List D) (us : List V) (z : D) (Q : VK), Ex I H → RpL K mg I ds us → f a ds = some z →
    (∀ v' I' H', Gr I H I' H' → Rp K mg I' z v' → Q v' H') → r (.str a) us H Q
section
variable {X : Cx} {o a : Expr} {es : List Expr} {mo : M D} {ma : M (List Arg)} {apos pos : Pos} {name : Str} {id : String} {r : V → List V → Hp → VK → Prop} {f : Str → List D → Option D}
theorem se_strM (slot : Slot "str" name id) (hty : typeOf (.builtin id) = pure (.type "method_descriptor")) (hm' : MtR X id r) (hf : StrOk X.K X.mg r f) (ho : SE X o mo) (ha : SA X (a :: es) ma)
    (hbase : attributeBase o name X.env (eval o X.env) = eval o X.env := by rfl)
    (hfew : ((backTo pos (starEach (a :: es) X.env)).all (fun x => !x.1) && (backToKw pos (keywordEach [] X.env)).all (fun x => x.1.isSome)
      && decide ((a :: es).length + ([] : List Keyword).length + (if ([] : List Keyword).isEmpty then 0 else 1) < 30)) = true := by rfl)
    (hline : (apos.endLine == pos.line) = true := by rfl) (hs : starEach (a :: es) X.env = (false, eval a X.env) :: starEach es X.env := by rfl) (hplain : (backTo pos (starEach es X.env)).any (·.1) = false := by rfl) :
    SE X (.Call (.Attribute o name apos) (a :: es) [] pos) (mStrM f mo ma) := by
  refine PE.imp (pe_bm PySem.F.plainAttrs_str slot hty hm' ho ha hbase hfew hline hs hplain) fun σ H Q ⟨I, e, Fs, R, d, e', hm, kk⟩ => ?_
  obtain ⟨⟨x, e1⟩, h1, hm1⟩ := Option.bind_eq_some_iff.mp hm
  obtain ⟨⟨as, e2⟩, h2, hm2⟩ := Option.bind_eq_some_iff.mp hm1
  clear hm hm1
  refine ⟨I, e, Fs, R, x, e1, h1, fun v I1 F1 H1 R1 x1 r1 => ?_⟩
  split at hm2
  · rename_i b ds hx hd0
    obtain ⟨z, h3, hm3⟩ := Option.map_eq_some_iff.mp hm2
    cases hm3
    have hx : x = .str b := hx
    rw [hx] at r1
    simp only [Rp] at r1
    subst r1
    refine ⟨rfl, I1, e1, F1, R1, as, _, h2, fun vs I2 F2 H2 R2 x2 r2 => ?_⟩
    refine hf I2 H2 b ds vs d Q R2.sub (allD_rp hd0 r2) h3 fun v' I3 H3 g r3 => ?_
    obtain ⟨R3, x3⟩ := g.rel R2
    exact kk v' I3 F2 H3 R3 ((x1.trans x2).trans x3) r3
  · cases hm2
theorem se_strM0 {f : Str → Option D} (slot : Slot "str" name id) (hty : typeOf (.builtin id) = pure (.type "method_descriptor")) (hm' : MtR X id r) (hf : StrOk X.K X.mg r (fun x ds => match ds with | [] => f x | _ => none)) (ho : SE X o mo)
    (hbase : attributeBase o name X.env (eval o X.env) = eval o X.env := by rfl) (hline : (apos.endLine == pos.line) = true := by rfl) :
    SE X (.Call (.Attribute o name apos) [] [] pos) (mStrM0 f mo) := by
  refine PE.imp (pe_bm0 PySem.F.plainAttrs_str slot hty hm' ho hbase hline) fun σ H Q ⟨I, e, Fs, R, d, e', hm, kk⟩ => ?_
  obtain ⟨⟨x, e1⟩, h1, hm2⟩ := Option.bind_eq_some_iff.mp hm
  clear hm
  refine ⟨I, e, Fs, R, x, e1, h1, fun v I1 F1 H1 R1 x1 r1 => ?_⟩
  split at hm2
  · rename_i b hx
    obtain ⟨z, h3, hm3⟩ := Option.map_eq_some_iff.mp hm2
    cases hm3
    have hx : x = .str b := hx
    rw [hx] at r1
    simp only [Rp] at r1
    subst r1
    refine ⟨rfl, ?_⟩
    refine hf I1 H1 b [] [] d Q R1.sub .nil h3 fun v' I3 H3 g r3 => ?_
    obtain ⟨R3, x3⟩ := g.rel R1
    exact kk v' I3 F1 H3 R3 (x1.trans x3) r3
  · cases hm2
end
theorem rpL_strs {K : PySem.W.Frag} {mg : Str → Option Value} {I : Hp} : ∀ ys : List Str, RpL K mg I (ys.map .str) (ys.map V.str)
  | [] => .nil
  | y :: ys => .cons rp_str (rpL_strs ys)
def splitF (a : Str) : List D → Option D
  | [.str b] => if (b.length == 0) = false ∧ a.length + 2 ≤ LIM then some (.lst ((Txt.split a b).map .str)) else none
  | _ => none
theorem ok_split {K : PySem.W.Frag} {mg : Str → Option Value} : StrOk K mg (fun x xs H Q => ∃ a b, x = .str a ∧ xs = [.str b] ∧ (b.length == 0) = false ∧ a.length + 2 ≤ sizeLine ∧ rNewStrs (Txt.split a b) H Q) splitF := by
  intro I H a ds us z Q s r e k
  unfold splitF at e
  split at e
  · rename_i b
    split at e
    · rename_i h
      cases e
      simp only [RpL] at r
      obtain ⟨x, t, rfl, h1, rfl⟩ := r
      simp only [Rp] at h1
      subst h1
      exact ⟨a, b, rfl, rfl, h.1, lim_le h.2, fun p hp => k _ _ _ (.new p _ hp) (rp_lst s hp (rpL_strs _))⟩
    · cases e
  · cases e
def splitMaxF (a : Str) : List D → Option D
  | [.str b, .int n] => if (b.length == 0) = false ∧ a.length + 2 ≤ LIM ∧ 0 ≤ n ∧ n ≤ 1000 then some (.lst ((Txt.splitMax a b n).map .str)) else none
  | _ => none
theorem ok_splitMax {K : PySem.W.Frag} {mg : Str → Option Value} : StrOk K mg (fun x xs H Q => ∃ (a b : Str) (k : Int), x = .str a ∧ xs = [.str b, .int k] ∧ (b.length == 0) = false ∧ -(2 ^ 63) ≤ k ∧ k < 2 ^ 63 ∧ a.length + 2 ≤ sizeLine ∧ rNewStrs (Txt.splitMax a b k) H Q) splitMaxF := by
  intro I H a ds us z Q s r e k
  unfold splitMaxF at e
  split at e
  · rename_i b n
    split at e
    · rename_i h
      cases e
      simp only [RpL] at r
      obtain ⟨x, t, rfl, h1, x2, t2, rfl, h2, rfl⟩ := r
      simp only [Rp] at h1 h2
      subst h1 h2
      exact ⟨a, b, n, rfl, rfl, h.1, by omega, by omega, lim_le h.2.1, fun p hp => k _ _ _ (.new p _ hp) (rp_lst s hp (rpL_strs _))⟩
    · cases e
  · cases e
def partF (a : Str) : List D → Option D
  | [.str b] => if (b.length == 0) = false ∧ a.length ≤ LIM then some (.tup [.str (Txt.partition a b).1, .str (Txt.partition a b).2.1, .str (Txt.partition a b).2.2]) else none
  | _ => none
theorem ok_part {K : PySem.W.Frag} {mg : Str → Option Value} : StrOk K mg (fun x xs H Q => ∃ a b, x = .str a ∧ xs = [.str b] ∧ (b.length == 0) = false ∧ a.length ≤ sizeLine ∧
    ∀ p, H p = none → Q (.ref p) (upd H p (.tup [.str (Txt.partition a b).1, .str (Txt.partition a b).2.1, .str (Txt.partition a b).2.2]))) partF := by
  intro I H a ds us z Q s r e k
  unfold partF at e
  split at e
  · rename_i b
    split at e
    · rename_i h
      cases e
      simp only [RpL] at r
      obtain ⟨x, t, rfl, h1, rfl⟩ := r
      simp only [Rp] at h1
      subst h1
      exact ⟨a, b, rfl, rfl, h.1, lim_le h.2, fun p hp => k _ _ _ (.new p _ hp) (rp_tup s hp (rpL_strs [_, _, _]))⟩
    · cases e
  · cases e
/-! ### a + b, a list of one's own -/
theorem ol_new {K : PySem.W.Frag} {mg : Str → Option Value} {I I1 H H1 : Hp} {Fs F1 : Fp} {e' : Env} {σ : L2.St} {q : Addr} {vs : List V} {ds : List D} {G : Prop} (x1 : Ext Fs I H F1 I1 H1) (R1 : Rel K mg I1 e' F1 σ H1)
    (r : RpL K mg I1 ds vs) (hq : H1 q = none)
    (kk : ∀ F, (Rel K mg I1 e' F1 σ (upd H1 q (.lst vs)) ∧ Ext Fs I H F1 I1 (upd H1 q (.lst vs)) ∧ Own K mg I1 (upd H1 q (.lst vs)) F1 (.ol (ds.map .p)) (.ref q) F ∧ (∀ a ∈ F, MF Fs a ∨ H a = none)) → G) : G := by
  have R2 := R1.loose (o := .lst vs) hq
  have hI : I1 q = none := sub_none R1.sub hq
  have dq : ∀ i, q ∉ F1 i := fun i hi => R1.live i q hi hq
  have hH : MF Fs q ∨ H q = none := by
    cases e0 : H q with
    | none => exact .inr rfl
    | some u =>
      by_cases mm : MF Fs q
      · exact .inl mm
      · rw [x1.g.back mm hq] at e0; cases e0
  refine kk [q] ⟨R2, ⟨⟨x1.g.ex, fun c u q' mm nt => Ex.new hq c u (x1.g.fr c u q' mm nt), x1.g.new, fun t => (x1.g.tb t).ext (Ex.new hq), fun a ps q mm => let ⟨p', h'⟩ := x1.g.tl a ps q mm; ⟨p', Ex.new hq a _ h'⟩⟩, x1.fp⟩, ⟨?_, by simp, fun c hc => ?_, fun c hc ⟨i, hi⟩ => ?_⟩, fun c hc => ?_⟩
  · simp only [Ro]
    exact ⟨q, vs, [], rfl, upd_same, rfl, RoL.ofP r⟩
  · rw [List.mem_singleton.mp hc]; exact hI
  · rw [List.mem_singleton.mp hc] at hi; exact dq i hi
  · rw [List.mem_singleton.mp hc]; exact hH
def mCat (ma mb : M D) : M W := fun e => (ma e).bind fun x => (mb x.2).bind fun y => match x.1, y.1 with
  | .lst a, .lst b => if a.length + b.length ≤ LIM then some (.ol ((a ++ b).map .p), y.2) else none
  | _, _ => none
theorem so_cat {X : Cx} {Wx : WX} {a b : Expr} {ma mb : M D} {pos : Pos} (ha : SE X a ma) (hb : SE X b mb) : SO X Wx (.BinOp a .Add b pos) (mCat ma mb) := by
  refine PE.imp (pe_op op_cat ha hb) fun σ H Q ⟨I, e, Fs, R, w, e', hm, kk, _⟩ => ?_
  obtain ⟨⟨x, e1⟩, h1, hm⟩ := Option.bind_eq_some_iff.mp hm
  obtain ⟨⟨y, e2⟩, h2, hm⟩ := Option.bind_eq_some_iff.mp hm
  refine ⟨I, e, Fs, R, x, e1, h1, fun v I0 F0 H0 R0 x0 r0 => ⟨I0, e1, F0, R0, y, e2, h2, fun u I1 F1 H1 R1 x1 r1 => ?_⟩⟩
  split at hm
  · rename_i as bs hx hy
    have hx : x = .lst as := hx
    have hy : y = .lst bs := hy
    subst hx hy
    split at hm
    · rename_i hz
      cases hm
      have r0' := r0.mono x1.g.ex _ _
      simp only [Rp] at r0' r1
      obtain ⟨p, xs, rfl, g1, g2⟩ := r0'
      obtain ⟨p2, ys, rfl, g3, g4⟩ := r1
      refine ⟨p, p2, xs, ys, rfl, rfl, R1.sub _ _ g1, R1.sub _ _ g3, by rw [← g2.length, ← g4.length]; exact lim_le hz, fun q hq => ?_⟩
      exact ol_new (x0.trans x1) R1 (g2.append g4) hq (fun F h => kk _ _ _ _ _ h.1 h.2.1 h.2.2.1 h.2.2.2)
    · cases hm
  · cases hm
end MV

namespace MV
open PySem PySem.Spec PyProof.Rows L2
variable [TB]
/-! ### a dict of the module: get, [], in -/
structure KDt (K : PySem.W.Frag) (w : World) (mg : Str → Option Value) (x : Str) (tbl : List (Str × He.Dv)) : Prop where
  gl : mg x = some (.ref (He.ga K x))
  ex : ∃ es n, KDict K w (He.ga K x) es n
  kt : ktB K x tbl = true
def dvD : He.Dv → Option D
  | .non => some .none
  | .bl b => some (.bool b)
  | .int i => some (.int i)
  | .str x => some (.str x)
  | _ => none
theorem dvD_rp {K : PySem.W.Frag} {mg : Str → Option Value} {I : Hp} {v : He.Dv} {d : D} (h : dvD v = some d) : Rp K mg I d (v.v K) := by
  cases v with
  | non => cases h; exact rp_none
  | bl b => cases h; exact rp_bool
  | int i => cases h; exact rp_int
  | str x => cases h; exact rp_str
  | _ => cases h
def kgetD (tbl : List (Str × He.Dv)) (k d : D) : Option D := match k with
  | .str k => kgo d (kfind tbl k)
  | _ => none
where
  kgo (d : D) : Option He.Dv → Option D
  | some v => dvD v
  | none => some d
def kitemD (tbl : List (Str × He.Dv)) (k : D) : Option D := match k with
  | .str k => match kfind tbl k with
    | some v => dvD v
    | none => none
  | _ => none
def mKget (tbl : List (Str × He.Dv)) (m md : M D) : M D := fun e => (m e).bind fun x => (md x.2).bind fun y => (kgetD tbl x.1 y.1).map fun z => (z, y.2)
section
variable {X : Cx} {e f : Expr} {x : Str} {tbl : List (Str × He.Dv)} {m md : M D} {p apos cpos : Pos}
theorem se_kget (T : KDt X.K X.w X.mg x tbl) (hg : Gl X x) (he : SE X e m) (hf : SE X f md) (mm : M2 X (.Name x p) "get" apos e f cpos) (hdb : (x == ("__debug__" : Str)) = false := by decide) :
    SE X (.Call (.Attribute (.Name x p) "get" apos) [e, f] [] cpos) (mKget tbl m md) := by
  obtain ⟨es, n, D⟩ := T.ex
  refine ⟨fun pins s σ H Q I hq => ?_⟩
  obtain ⟨I0, en, Fs, R, d, e', hm, kk⟩ := hq
  refine wpAny_Call_method mm.base mm.few mm.line PySem.F.plainAttrs_dict PySem.F.slot_dict_get PySem.F.type_dict_get (thn ((pe_glob (pos := p) hg T.gl (v := .ref (He.ga X.K x)) rfl hdb).run pins s σ H (fun v H1 => v = .ref (He.ga X.K x) ∧ H1 = H) I ⟨rfl, rfl⟩) fun u s1 ⟨v, H1, I1, rx, e1, e2⟩ => ?_)
  subst e1 e2
  obtain rfl : u = Value.ref (He.ga X.K x) := rx
  have hty := kd_type D I1
  refine ⟨hty, fun b hb => ?_, ?_⟩
  · cases hb
    exact ⟨_, I1.kIn _ _ D.at_, rfl⟩
  · rw [mm.trees]
    obtain ⟨⟨ky, e1⟩, h1, hm⟩ := Option.bind_eq_some_iff.mp hm
    obtain ⟨⟨dy, e2⟩, h2, hm⟩ := Option.bind_eq_some_iff.mp hm
    obtain ⟨z, h3, hm⟩ := Option.map_eq_some_iff.mp hm
    cases hm
    refine Calls.callWith_builtin rfl (Calls.evalArgs_plain (Calls.spliced_cons (thn (he.run pins s1 σ H1 (fun v H2 => ∃ I2 F2, Rel X.K X.mg I2 e1 F2 σ H2 ∧ Ext Fs I0 H1 F2 I2 H2 ∧ Rp X.K X.mg I2 ky v) I1 ⟨I0, en, Fs, R, ky, e1, h1, fun v I2 F2 H2 R2 x2 r2 => ⟨I2, F2, R2, x2, r2⟩⟩) fun iv s2 ⟨y, H2, J2, ry, I2, F2, R2, x2, r2⟩ =>
      Calls.spliced_cons (thn (hf.run pins s2 σ H2 (fun v H3 => ∃ I3 F3, Rel X.K X.mg I3 e2 F3 σ H3 ∧ Ext F2 I2 H2 F3 I3 H3 ∧ Rp X.K X.mg I3 dy v) J2 ⟨I2, e1, F2, R2, dy, e2, h2, fun v I3 F3 H3 R3 x3 r3 => ⟨I3, F3, R3, x3, r3⟩⟩) fun fv s3 ⟨z3, H3, J3, rz, I3, F3, R3, x3, r3⟩ => Calls.spliced_nil ?_))))
    unfold kgetD at h3
    cases ky with
    | str k =>
      simp only [Rp] at r2
      subst r2
      obtain ⟨t, rfl⟩ := ry
      obtain ⟨n1, n2⟩ := kt_ns D T.kt k
      have go : ∀ (o : Option Value) (w : V), PySem.W.nsIn X.K (He.ga X.K x) k = some o → RelV w (o.getD fv) → Rp X.K X.mg I3 d w → wpAny (model X.prog X.w) X.A (call (.builtin "dict.get") [.ref (He.ga X.K x), .str k t, fv]) (EP X pins σ Q) X.xe s3 := fun o ww hn rw' rd => by
        refine call_meetsIn PySem.F.slot_dict_get (kd_type D J3) PySem.F.entry_dict_get (PySem.F.args_dict_get_3 _ _ _) (PySem.meets_dict_get_default (PySem.strKind X.prog X.w) (He.ga X.K x) (PySem.strKind_is X.prog X.w k t) D.low fv) ⟨_, PySem.W.mapOf_K (prog := X.prog) J3.kIn D.at_ D.lit, ?_⟩
        rw [PySem.W.find_K D.at_ hn]
        exact ⟨ww, H3, J3.tok _, rw', kk ww I3 F3 H3 R3 (x2.trans x3) rd⟩
      have h3 : kgetD.kgo dy (kfind tbl k) = some d := h3
      cases hv : kfind tbl k with
      | some v =>
        rw [hv] at h3
        obtain ⟨u, hn, ru⟩ := n1 v hv
        exact go (some u) (v.v X.K) hn ru (dvD_rp h3)
      | none =>
        rw [hv] at h3
        cases h3
        exact go none z3 (n2 hv) rz r3
    | _ => cases h3
end
end MV

namespace MV
open PySem PySem.Spec PyProof.Rows L2
variable [TB]
/-! ### d.get(k, x), d an owned dict with a name -/
theorem RoK.noKey {K : PySem.W.Frag} {mg : Str → Option Value} {I H : Hp} {k : Key} : ∀ {es : List (Key × W)} {kvs : List (Key × V)} {F : List Addr}, RoK K mg I H es kvs F → valW es k = none → valV kvs k = none
  | [], kvs, F, h, _ => by simp only [RoK] at h; rw [h.1]; rfl
  | (j, w) :: es, kvs, F, h, hn => by
    simp only [RoK] at h
    obtain ⟨x, r, F1, F2, rfl, rfl, _, h2⟩ := h
    by_cases e : j = k
    · subst e; simp [valW] at hn
    · rw [valV_neg (p := (j, x)) e]
      refine RoK.noKey h2 ?_
      simpa [valW, List.find?_cons, e] using hn
def wGetD (d : D) : Option W → Option D
  | some (.p x) => some x
  | none => some d
  | _ => none
def mDgetO (i : Nat) (m md : M D) : M D := fun e => match e[i]? with
  | some (some (.od _)) => (m e).bind fun x => (md x.2).bind fun y => match y.2[i]? with
    | some (some (.od es)) => (keyD x.1).bind fun k => (wGetD y.1 (valW es k)).map fun z => (z, y.2)
    | _ => none
  | _ => none
theorem se_dgetO {X : Cx} {o b c : Expr} {i : Nat} {m md : M D} {apos pos : Pos} (hu : X.A.units + 1 < cLine) (ho : PE X o (tVar i)) (hb : SE X b m) (hc : SE X c md) (mm : M2 X o "get" apos b c pos) :
    SE X (.Call (.Attribute o "get" apos) [b, c] [] pos) (mDgetO i m md) := PE.imp (pe_dget2 hu ho hb hc mm) fun σ H Q ⟨I, e, Fs, R, d, e', hm, k⟩ => by
  unfold mDgetO at hm
  split at hm
  · rename_i es0 he0
    obtain ⟨⟨x, e1⟩, h1, hm⟩ := Option.bind_eq_some_iff.mp hm
    obtain ⟨⟨y, e2⟩, h2, hm⟩ := Option.bind_eq_some_iff.mp hm
    split at hm
    · rename_i es hes
      obtain ⟨ky, h3, hm⟩ := Option.bind_eq_some_iff.mp hm
      obtain ⟨z, h4, hm⟩ := Option.map_eq_some_iff.mp hm
      cases hm
      obtain ⟨v0, hv0, hro0⟩ := R.at_ i _ he0
      simp only [Ro] at hro0
      obtain ⟨a0, kvs0, G0, rfl, ha0, _, _⟩ := hro0
      refine ⟨_, hv0, a0, rfl, .inl ⟨kvs0, .inl ha0⟩, I, e, Fs, R, x, e1, h1, fun yv I1 F1 H1 R1 x1 r1 => ⟨I1, e1, F1, R1, y, _, h2, fun zv I2 F2 H2 R2 x2 r2 => ?_⟩⟩
      obtain ⟨v1, hv1, hro⟩ := R2.at_ i _ hes
      rw [hv0] at hv1
      cases hv1
      simp only [Ro] at hro
      obtain ⟨a, kvs, G1, ea, ha, _, hF⟩ := hro
      cases ea
      have r1 := r1.mono x2.g.ex _ _
      refine ⟨valV kvs ky, .inl ⟨kvs, ky, .inl ha, keyD_v h3 r1, rfl⟩, ?_⟩
      cases hw : valW es ky with
      | none =>
        rw [hw] at h4
        cases h4
        rw [hF.noKey hw]
        exact k zv I2 F2 H2 R2 (x1.trans x2) r2
      | some w =>
        rw [hw] at h4
        cases w with
        | p d0 =>
          cases h4
          obtain ⟨zz, A, G2, B, hx, _, hro, _⟩ := hF.lens hw
          simp only [Ro] at hro
          rw [hx]
          exact k zz I2 F2 H2 R2 (x1.trans x2) hro.1
        | _ => cases h4
    · cases hm
  · cases hm
/-! evaluation -/
section
variable {e : Env} {d : D}
def smK1 (f : Str → List D → Option D) (ma : M (List Arg)) : Option (D × Env) → Option (D × Env)
  | some x => smK2 f x.1 (ma x.2)
  | none => none
where
  smK2 (f : Str → List D → Option D) (x : D) : Option (List Arg × Env) → Option (D × Env)
  | some y => smK3 f x y.2 (allD y.1)
  | none => none
  smK3 (f : Str → List D → Option D) (x : D) (e : Env) : Option (List D) → Option (D × Env)
  | some ds => smK4 f ds e x
  | none => none
  smK4 (f : Str → List D → Option D) (ds : List D) (e : Env) : D → Option (D × Env)
  | .str a => retK (f a ds) e
  | _ => none
@[simp] theorem ev_strM {f : Str → List D → Option D} {mo : M D} {ma : M (List Arg)} : mStrM f mo ma e = smK1 f ma (mo e) := by
  unfold mStrM smK1
  cases h : mo e with
  | none => rfl
  | some x =>
    simp only [Option.bind_some]
    unfold smK1.smK2
    cases h2 : ma x.2 with
    | none => rfl
    | some y =>
      simp only [Option.bind_some]
      unfold smK1.smK3
      cases h3 : allD y.1 with
      | none => simp
      | some ds =>
        obtain ⟨x1, x2⟩ := x
        cases x1 with
        | str a => show (f a ds).map _ = retK (f a ds) y.2; unfold retK; cases f a ds <;> rfl
        | _ => rfl
@[simp] theorem smK1_s {f : Str → List D → Option D} {ma : M (List Arg)} {x : D} : smK1 f ma (some (x, e)) = smK1.smK2 f x (ma e) := rfl
@[simp] theorem smK2_s {f : Str → List D → Option D} {as : List Arg} {x : D} : smK1.smK2 f x (some (as, e)) = smK1.smK3 f x e (allD as) := rfl
@[simp] theorem smK3_s {f : Str → List D → Option D} {ds : List D} {a : Str} : smK1.smK3 f (.str a) e (some ds) = retK (f a ds) e := rfl
def sm0K (f : Str → Option D) : Option (D × Env) → Option (D × Env)
  | some x => sm0K2 f x.2 x.1
  | none => none
where
  sm0K2 (f : Str → Option D) (e : Env) : D → Option (D × Env)
  | .str a => retK (f a) e
  | _ => none
@[simp] theorem ev_strM0 {f : Str → Option D} {mo : M D} : mStrM0 f mo e = sm0K f (mo e) := by
  unfold mStrM0 sm0K
  cases h : mo e with
  | none => rfl
  | some x =>
    obtain ⟨x1, x2⟩ := x
    cases x1 with
    | str a => show (f a).map _ = retK (f a) x2; unfold retK; cases f a <;> rfl
    | _ => rfl
@[simp] theorem sm0K_s {f : Str → Option D} {a : Str} : sm0K f (some (.str a, e)) = retK (f a) e := rfl
def kgK1 (tbl : List (Str × He.Dv)) (md : M D) : Option (D × Env) → Option (D × Env)
  | some x => kgK2 tbl x.1 (md x.2)
  | none => none
where
  kgK2 (tbl : List (Str × He.Dv)) (k : D) : Option (D × Env) → Option (D × Env)
  | some y => retK (kgetD tbl k y.1) y.2
  | none => none
@[simp] theorem ev_kget {tbl : List (Str × He.Dv)} {m md : M D} : mKget tbl m md e = kgK1 tbl md (m e) := by
  unfold mKget kgK1
  cases m e with
  | none => rfl
  | some x =>
    simp only [Option.bind_some]
    unfold kgK1.kgK2
    cases md x.2 with
    | none => rfl
    | some y => show (kgetD tbl x.1 y.1).map _ = retK (kgetD tbl x.1 y.1) y.2; unfold retK; cases kgetD tbl x.1 y.1 <;> rfl
@[simp] theorem kgK1_s {tbl : List (Str × He.Dv)} {md : M D} {x : D} : kgK1 tbl md (some (x, e)) = kgK1.kgK2 tbl x (md e) := rfl
@[simp] theorem kgK2_s {tbl : List (Str × He.Dv)} {k y : D} : kgK1.kgK2 tbl k (some (y, e)) = retK (kgetD tbl k y) e := rfl
def dgoK0 (i : Nat) (m md : M D) (e : Env) : Option (Option W) → Option (D × Env)
  | some (some (.od _)) => dgoK1 i md (m e)
  | _ => none
where
  dgoK1 (i : Nat) (md : M D) : Option (D × Env) → Option (D × Env)
  | some x => dgoK2 i x.1 (md x.2)
  | none => none
  dgoK2 (i : Nat) (k : D) : Option (D × Env) → Option (D × Env)
  | some y => dgoK3 k y.1 y.2 y.2[i]?
  | none => none
  dgoK3 (k y : D) (e : Env) : Option (Option W) → Option (D × Env)
  | some (some (.od es)) => retK ((keyD k).bind fun k => wGetD y (valW es k)) e
  | _ => none
@[simp] theorem ev_dgetO {i : Nat} {m md : M D} : mDgetO i m md e = dgoK0 i m md e e[i]? := by
  unfold mDgetO dgoK0
  split
  · unfold dgoK0.dgoK1
    cases m e with
    | none => rfl
    | some x =>
      simp only [Option.bind_some]
      unfold dgoK0.dgoK2
      cases md x.2 with
      | none => rfl
      | some y =>
        simp only [Option.bind_some]
        unfold dgoK0.dgoK3
        split
        · rename_i es _
          cases keyD x.1 with
          | none => rfl
          | some k => simp only [Option.bind_some]; unfold retK; cases wGetD y.1 (valW es k) <;> rfl
        · rfl
  · rfl
@[simp] theorem dgoK0_s {i : Nat} {m md : M D} {es : List (Key × W)} : dgoK0 i m md e (some (some (.od es))) = dgoK0.dgoK1 i md (m e) := rfl
@[simp] theorem dgoK1_s {i : Nat} {md : M D} {x : D} : dgoK0.dgoK1 i md (some (x, e)) = dgoK0.dgoK2 i x (md e) := rfl
@[simp] theorem dgoK2_s {i : Nat} {k y : D} : dgoK0.dgoK2 i k (some (y, e)) = dgoK0.dgoK3 k y e e[i]? := rfl
@[simp] theorem dgoK3_s {k y : D} {es : List (Key × W)} : dgoK0.dgoK3 k y e (some (some (.od es))) = retK ((keyD k).bind fun k => wGetD y (valW es k)) e := rfl
def ctK1 (mb : M D) : Option (D × Env) → Option (W × Env)
  | some x => ctK2 x.1 (mb x.2)
  | none => none
where
  ctK2 (a : D) : Option (D × Env) → Option (W × Env)
  | some y => ctK3 y.2 a y.1
  | none => none
  ctK3 (e : Env) : D → D → Option (W × Env)
  | .lst a, .lst b => if a.length + b.length ≤ LIM then some (.ol ((a ++ b).map .p), e) else none
  | _, _ => none
@[simp] theorem ev_cat {ma mb : M D} : mCat ma mb e = ctK1 mb (ma e) := by
  unfold mCat ctK1
  cases ma e with
  | none => rfl
  | some x =>
    simp only [Option.bind_some]
    unfold ctK1.ctK2
    cases mb x.2 with
    | none => rfl
    | some y => rfl
@[simp] theorem ctK1_s {mb : M D} {x : D} : ctK1 mb (some (x, e)) = ctK1.ctK2 x (mb e) := rfl
@[simp] theorem ctK2_s {x y : D} : ctK1.ctK2 x (some (y, e)) = ctK1.ctK3 e x y := rfl
theorem ctK3_s {a b : List D} (h : a.length + b.length ≤ LIM) : ctK1.ctK3 e (.lst a) (.lst b) = some (.ol ((a ++ b).map .p), e) := if_pos h
end
end MV
namespace Lw
open PySem L2 MV
def top (i : Nat) : Stmt := PySem.Challenge.pw_hiddenrank_k63_texts_that_are_no_command.main.body.getD i (.Pass ⟨0, 0, 0, 0⟩)
abbrev s_x_law_bag : Stmt := (top 8)
abbrev N_x_law_bag : List Str := ["_law_script"]
theorem sc_x_law_bag : FnScope N_x_law_bag ["_law_script"] (defScope s_x_law_bag) := ⟨rfl, rfl, rfl, by decide +kernel, rfl, by decide +kernel, by decide +kernel⟩
abbrev s_x_law_pull : Stmt := (top 9)
abbrev N_x_law_pull : List Str := ["_law_bag_here", "_law_sides", "_law_cell", "_law_digit", "_law_twice"]
theorem sc_x_law_pull : FnScope N_x_law_pull ["_law_bag_here", "_law_sides"] (defScope s_x_law_pull) := ⟨rfl, rfl, rfl, by decide +kernel, rfl, by decide +kernel, by decide +kernel⟩
abbrev s_x_law_of : Stmt := (top 10)
abbrev N_x_law_of : List Str := ["_law_bag_here", "_law_some"]
theorem sc_x_law_of : FnScope N_x_law_of ["_law_bag_here", "_law_some"] (defScope s_x_law_of) := ⟨rfl, rfl, rfl, by decide +kernel, rfl, by decide +kernel, by decide +kernel⟩
abbrev s_x_law_names : Stmt := (top 13)
abbrev N_x_law_names : List Str := ["_law_bag_here", "_law_many", "_law_letters", "_law_stem", "_law_spot", "_law_first", "_law_found", "_law_k", "_law_one"]
theorem sc_x_law_names : FnScope N_x_law_names ["_law_bag_here", "_law_many"] (defScope s_x_law_names) := ⟨rfl, rfl, rfl, by decide +kernel, rfl, by decide +kernel, by decide +kernel⟩
abbrev s_x_law_command_in : Stmt := (top 14)
abbrev N_x_law_command_in : List Str := ["_law_text", "_law_words", "_law_rest", "_law_sizes", "_law_request", "_law_outcomes"]
theorem sc_x_law_command_in : FnScope N_x_law_command_in ["_law_text"] (defScope s_x_law_command_in) := ⟨rfl, rfl, rfl, by decide +kernel, rfl, by decide +kernel, by decide +kernel⟩
abbrev s_x_law_field : Stmt := (top 15)
abbrev N_x_law_field : List Str := ["_law_e"]
theorem sc_x_law_field : FnScope N_x_law_field ["_law_e"] (defScope s_x_law_field) := ⟨rfl, rfl, rfl, by decide +kernel, rfl, by decide +kernel, by decide +kernel⟩
abbrev s_x_law_same : Stmt := (top 11)
abbrev N_x_law_same : List Str := ["_law_found", "_law_due", "_law_one", "_law_two"]
theorem sc_x_law_same : FnScope N_x_law_same ["_law_found", "_law_due"] (defScope s_x_law_same) := ⟨rfl, rfl, rfl, by decide +kernel, rfl, by decide +kernel, by decide +kernel⟩
abbrev s_parse_command : Stmt := (top 6)
abbrev N_parse_command : List Str := ["text", "words", "request", "outcomes"]
theorem sc_parse_command : FnScope N_parse_command ["text"] (defScope s_parse_command) := ⟨rfl, rfl, rfl, by decide +kernel, rfl, by decide +kernel, by decide +kernel⟩
abbrev s_law : Stmt := (top 16)
abbrev N_law : List Str := ["_law_script", "_law_bag_here", "_law_names_here", "_law_some", "_law_words", "_law_turn", "_law_word", "_law_bend", "_law_at", "_law_due", "_law_found"]
theorem sc_law : FnScope N_law ["_law_script"] (defScope s_law) := ⟨rfl, rfl, rfl, by decide +kernel, rfl, by decide +kernel, by decide +kernel⟩
abbrev s_x_law_try : Stmt := (top 12)
abbrev N_x_law_try : List Str := ["_law_ask", "_law_answer", "_law_word", "_law_field_here", "_law_e"]
theorem sc_x_law_try : FnScope N_x_law_try ["_law_ask"] (defScope s_x_law_try) := ⟨rfl, rfl, rfl, by decide +kernel, rfl, by decide +kernel, by decide +kernel⟩
abbrev s_InvalidText__init_ : Stmt := (inClass (top 3) 0)
abbrev N_InvalidText__init_ : List Str := ["self"]
theorem sc_InvalidText__init_ : FnScope N_InvalidText__init_ ["self"] (defScope s_InvalidText__init_) := ⟨rfl, rfl, rfl, by decide +kernel, rfl, by decide +kernel, by decide +kernel⟩
/-! ### meanings -/
def tb_LENGTHS : List (PySem.Str × He.Dv) := [("add", .int 4), ("rewrite", .int 4), ("drop", .int 2), ("raise", .int 2), ("lower", .int 2), ("above", .int 3), ("below", .int 3), ("swap", .int 3), ("observe", .int 3), ("compare", .int 3)]
noncomputable def m_x_law_bag : S := (sRet (mOlW (wCons (mP (mDisp fList (aD (mSl dSl (mVar 0) mNoI (mOptI (mC (.int 63)))) aNil))) (wCons (mP (mC (.int 0))) (wCons (mP (mC (.int 0))) (wCons (mP (mC (.int 9485))) wNil))))))
noncomputable def f_x_law_bag : FSem := fsem 1 [false] m_x_law_bag
noncomputable def m_x_law_pull : S := (sSeq (sIf (mAnd (mBool (mOp dEq (mIxO 0 (mC (.int 2))) (mC (.int 0)))) (mBool (mOp dLt (mIxO 0 (mC (.int 1))) (mDisp fLen (aD (mIxO 0 (mC (.int 0))) aNil))))) ((sSeq (sSet 2 (mP (mOp dIx (mIxO 0 (mC (.int 0))) (mIxO 0 (mC (.int 1))))))
  (sSeq (sSetIx 0 (mC (.int 1)) (mOp dAdd (mIxO 0 (mC (.int 1))) (mC (.int 1))))
  (sIf (mBool (mOp dGe (mDisp fAbs (aD (mVar 2) aNil)) (mOp dPow (mC (.int 10)) (mC (.int 18))))) ((sSetIx 0 (mC (.int 2)) (mDisp fAbs (aD (mVar 2) aNil)))) ((sSetIx 0 (mC (.int 3)) (mOp dMod (mOp dAdd (mOp dAdd (mOp dMul (mIxO 0 (mC (.int 3))) (mC (.int 48271))) (mOp dMul (mOp dMod (mVar 2) (mC (.int 1000003))) (mC (.int 911)))) (mC (.int 7))) (mC (.int 2147483647))))))))) (sNext))
  (sSeq (sIf (mBool (mOp dGt (mIxO 0 (mC (.int 2))) (mC (.int 0)))) ((sSeq (sSet 3 (mP (mOp dMod (mIxO 0 (mC (.int 2))) (mVar 1))))
  (sSeq (sSetIx 0 (mC (.int 2)) (mOp dDiv (mIxO 0 (mC (.int 2))) (mVar 1)))
  (sRet (mP (mVar 3)))))) (sNext))
  (sSeq (sSet 4 (mP (mOp dMod (mOp dMul (mIxO 0 (mC (.int 3))) (mIxO 0 (mC (.int 3)))) (mC (.int 2147483629)))))
  (sSeq (sSetIx 0 (mC (.int 3)) (mOp dMod (mOp dAdd (mOp dAdd (mOp dMul (mVar 4) (mC (.int 16807))) (mOp dMul (mIxO 0 (mC (.int 3))) (mC (.int 40692)))) (mC (.int 12345))) (mC (.int 2147483647))))
  (sRet (mP (mOp dMod (mOp dDiv (mIxO 0 (mC (.int 3))) (mC (.int 64))) (mVar 1))))))))
noncomputable def f_x_law_pull : FSem := fsem 5 [true, false] m_x_law_pull
noncomputable def m_x_law_of : S := (sRet (mP (mOp dIx (mVar 1) (mGetP (mCall f_x_law_pull (aIO 0 (aD (mDisp fLen (aD (mVar 1) aNil)) aNil)))))))
noncomputable def f_x_law_of : FSem := fsem 2 [true, false] m_x_law_of
noncomputable def b_x_law_names_0 : M D := (mGetP (mCall f_x_law_of (aIO 0 (aD (mVar 2) aNil))))
noncomputable def b_x_law_names_1 : S := (sKill [7, 8] (sSeq (sSet 8 (mP (mOp dAdd (mOp dAdd (mSl dSl (mVar 3) mNoI (mOptI (mVar 4))) (mOp dIx (mVar 2) (mOp dMod (mOp dAdd (mVar 5) (mOp dMul (mC (.int 7)) (mVar 7))) (mC (.int 26))))) (mSl dSl (mVar 3) (mOptI (mVar 4)) mNoI))))
  (sDrop (mAppO 6 (mP (mIf (mBool (mOp dEq (mGetP (mCall f_x_law_pull (aIO 0 (aD (mC (.int 4)) aNil)))) (mC (.int 0)))) (mSl dSl (mVar 8) mNoI (mOptI (mDisp fMax2 (aD (mOp dAdd (mVar 4) (mC (.int 1))) (aD (mOp dSub (mDisp fLen (aD (mVar 8) aNil)) (mVar 7)) aNil))))) (mVar 8)))))))
noncomputable def m_x_law_names : S := (sSeq (sSet 2 (mP (mC (.str "abcdefghijklmnopqrstuvwxyz"))))
  (sSeq (sSet 3 (mP (mOp2 joinD (mC (.str "")) (aD (mLc [7] (iArgs fRange1 (aD (mGetP (mCall f_x_law_pull (aIO 0 (aD (mC (.int 7)) aNil)))) aNil)) (gN 7) (fun e => some (true, e)) b_x_law_names_0) aNil))))
  (sSeq (sIf (mBool (mOp dEq (mGetP (mCall f_x_law_pull (aIO 0 (aD (mC (.int 2)) aNil)))) (mC (.int 0)))) ((sSet 3 (mP (mOp dMul (mSl dSl (mVar 3) mNoI (mOptI (mC (.int 1)))) (mDisp fLen (aD (mVar 3) aNil)))))) (sNext))
  (sSeq (sPar [4, 5] (wCons (mCall f_x_law_pull (aIO 0 (aD (mOp dAdd (mDisp fLen (aD (mVar 3) aNil)) (mC (.int 1))) aNil))) (wCons (mCall f_x_law_pull (aIO 0 (aD (mC (.int 26)) aNil))) wNil)))
  (sSeq (sSet 6 (mOlW wNil))
  (sSeq (sFor (iArgs fRange1 (aD (mVar 1) aNil)) (gN 7) (b_x_law_names_1))
  (sFzL (lName 6) ((sRet (mP (mVar 6)))))))))))
noncomputable def f_x_law_names : FSem := fsem 9 [true, false] m_x_law_names
noncomputable def m_x_law_command_in : S := (sSeq (sSet 1 (mP (mStrM splitF (mVar 0) (aD (mC (.str " ")) aNil))))
  (sSeq (sIf (mBool (mOp dIn (mOp dIx (mVar 1) (mC (.int 0))) (mDisp fTup (aD (mC (.str "add")) (aD (mC (.str "rewrite")) aNil))))) ((sSeq (sSet 2 (mP (mIf (mBool (mOp dGt (mDisp fLen (aD (mVar 1) aNil)) (mC (.int 3)))) (mSl dSl (mVar 0) (mOptI (mOp dAdd (mDisp fLen (aD (mOp2 joinD (mC (.str " ")) (aD (mSl dSl (mVar 1) mNoI (mOptI (mC (.int 3)))) aNil)) aNil)) (mC (.int 1)))) mNoI) (mC (.str "")))))
  (sSeq (sIf (mOr (mBool (mOp dEq (mVar 2) (mC (.str "")))) (mBool (mOp dIn (mC (.str "")) (mSl dSl (mVar 1) mNoI (mOptI (mC (.int 3))))))) ((sRet (mP (mC .none)))) (sNext))
  (sRet (mP (mDisp fTup (aD (mOp dIx (mVar 1) (mC (.int 0))) (aD (mOp dIx (mVar 1) (mC (.int 1))) (aD (mVar 2) (aD (mOp dIx (mVar 1) (mC (.int 2))) aNil)))))))))) (sNext))
  (sSeq (sSet 3 (mDictS (("drop", (mC (.int 2))) :: (("raise", (mC (.int 2))) :: (("lower", (mC (.int 2))) :: (("above", (mC (.int 3))) :: (("below", (mC (.int 3))) :: (("swap", (mC (.int 3))) :: (("observe", (mC (.int 3))) :: (("compare", (mC (.int 3))) :: []))))))))))
  (sSeq (sIf (mOr (mBool (mOp dNe (mDgetO 3 (mOp dIx (mVar 1) (mC (.int 0))) (mC (.int 0))) (mDisp fLen (aD (mVar 1) aNil)))) (mBool (mOp dIn (mC (.str "")) (mVar 1)))) ((sRet (mP (mC .none)))) (sNext))
  (sSeq (sIf (mBool (mOp dEq (mOp dIx (mVar 1) (mC (.int 0))) (mC (.str "observe")))) ((sSeq (sPar [4, 5] (wCons (mP (mStrM splitF (mOp dIx (mVar 1) (mC (.int 1))) (aD (mC (.str ",")) aNil))) (wCons (mP (mStrM splitF (mOp dIx (mVar 1) (mC (.int 2))) (aD (mC (.str ",")) aNil))) wNil)))
  (sRet (mP (mIf (mBool (mOp dIn (mC (.str "")) (mOp dAdd (mVar 4) (mVar 5)))) (mC .none) (mDisp fTup (aD (mOp dIx (mVar 1) (mC (.int 0))) (aD (mDisp fTuple (aD (mVar 4) aNil)) (aD (mDisp fTuple (aD (mVar 5) aNil)) aNil))))))))) (sNext))
  (sRet (mP (mDisp fTuple (aD (mVar 1) aNil)))))))))
noncomputable def f_x_law_command_in : FSem := fsem 6 [false] m_x_law_command_in
def m_x_law_field (a dx : Addr) : S := (sSeq (sIf (mBool (mOp dIn (mUn (dXf a dx "word") (mVar 0)) (mDisp fTup (aD (mC (.str "invalidname")) (aD (mC (.str "duplicatename")) (aD (mC (.str "samerule")) (aD (mC (.str "unknownfield")) (aD (mC (.str "unknowneffect")) (aD (mC (.str "unknownrule")) aNil))))))))) ((sRet (mP (mUn (dXf a dx "name") (mVar 0))))) (sNext))
  (sSeq (sIf (mBool (mOp dIn (mUn (dXf a dx "word") (mVar 0)) (mDisp fTup (aD (mC (.str "invalidvalue")) (aD (mC (.str "unknownvalue")) aNil))))) ((sRet (mP (mUn (dXf a dx "value") (mVar 0))))) (sNext))
  (sSeq (sIf (mBool (mOp dIn (mUn (dXf a dx "word") (mVar 0)) (mDisp fTup (aD (mC (.str "invalidrequest")) (aD (mC (.str "invalidcondition")) aNil))))) ((sRet (mP (mUn (dXf a dx "position") (mVar 0))))) (sNext))
  (sSeq (sIf (mBool (mOp dIn (mUn (dXf a dx "word") (mVar 0)) (mDisp fTup (aD (mC (.str "invalidpair")) (aD (mC (.str "invalidreport")) aNil))))) ((sRet (mP (mUn (dXf a dx "place") (mVar 0))))) (sNext))
  (sSeq (sIf (mBool (mOp dEq (mUn (dXf a dx "word") (mVar 0)) (mC (.str "invalidnumber")))) ((sRet (mP (mUn (dXf a dx "number") (mVar 0))))) (sNext))
  (sSeq (sIf (mBool (mOp dEq (mUn (dXf a dx "word") (mVar 0)) (mC (.str "limitreached")))) ((sRet (mP (mUn (dXf a dx "limit") (mVar 0))))) (sNext))
  (sRet (mP (mIf (mBool (mOp dEq (mUn (dXf a dx "word") (mVar 0)) (mC (.str "invalidslot")))) (mUn (dXf a dx "slot") (mVar 0)) (mC .none))))))))))
def f_x_law_field (a dx : Addr) : FSem := fsem 1 [false] (m_x_law_field a dx)
def exl : List Str := ["InvalidText"]
noncomputable def b_x_law_same_0 (rec : FSem) : M D := (mGetP (mCall rec (aD (mVar 2) (aD (mVar 3) aNil))))
noncomputable def m_x_law_same (rec : FSem) : S := (sSeq (sIf (mBool (mOp dIsN (mVar 1) (mC .none))) ((sRet (mP (mOp dIsN (mVar 0) (mC .none))))) (sNext))
  (sSeq (sIf (mOr (mTru (mUn (dIsi "bool") (mVar 1))) (mTru (mUn (dIsi "bool") (mVar 0)))) ((sRet (mP (mAndV (mUn (dIsi "bool") (mVar 1)) (mAndV (mUn (dIsi "bool") (mVar 0)) (mOp dEq (mVar 0) (mVar 1))))))) (sNext))
  (sSeq (sIf (mOr (mTru (mUn (dIsi "int") (mVar 1))) (mTru (mUn (dIsi "str") (mVar 1)))) ((sRet (mP (mAndV (mOp dEq (mUn (dIsi "int") (mVar 0)) (mUn (dIsi "int") (mVar 1))) (mAndV (mOp dEq (mUn (dIsi "str") (mVar 0)) (mUn (dIsi "str") (mVar 1))) (mOp dEq (mVar 0) (mVar 1))))))) (sNext))
  (sSeq (sIf (mOr (mBool (mOp dNe (mUn (dIsi "list") (mVar 1)) (mUn (dIsi "list") (mVar 0)))) (mBool (mOp dNe (mUn (dIsi "tuple") (mVar 1)) (mUn (dIsi "tuple") (mVar 0))))) ((sRet (mP (mC (.bool false))))) (sNext))
  (sRet (mP (mAndV (mOp dEq (mDisp fLen (aD (mVar 0) aNil)) (mDisp fLen (aD (mVar 1) aNil))) (mDisp fAll (aD (mLc [2, 3] (iArgs fZip (aD (mVar 0) (aD (mVar 1) aNil))) (gT 2 (gsCons (gN 2) (gsCons (gN 3) gsNil))) (fun e => some (true, e)) (b_x_law_same_0 rec)) aNil)))))))))
noncomputable def f_x_law_same : Nat → FSem
  | 0 => fun _ => none
  | n + 1 => fsem 4 [false, false] (m_x_law_same (f_x_law_same n))
noncomputable def m_parse_command : S := (sSeq (sSet 1 (mP (mStrM splitF (mVar 0) (aD (mC (.str " ")) aNil))))
  (sSeq (sIf (mBool (mOp dIn (mOp dIx (mVar 1) (mC (.int 0))) (mDisp fTup (aD (mC (.str "add")) (aD (mC (.str "rewrite")) aNil))))) ((sSeq (sSet 1 (mP (mStrM splitMaxF (mVar 0) (aD (mC (.str " ")) (aD (mC (.int 3)) aNil)))))
  (sSeq (sIf (mOr (mBool (mOp dNe (mDisp fLen (aD (mVar 1) aNil)) (mC (.int 4)))) (mBool (mOp dIn (mC (.str "")) (mVar 1)))) ((sRaise "InvalidText" 0 [("word", .inl "invalidtext")] aNil)) (sNext))
  (sRet (mP (mDisp fTup (aD (mOp dIx (mVar 1) (mC (.int 0))) (aD (mOp dIx (mVar 1) (mC (.int 1))) (aD (mOp dIx (mVar 1) (mC (.int 3))) (aD (mOp dIx (mVar 1) (mC (.int 2))) aNil)))))))))) (sNext))
  (sSeq (sIf (mOr (mBool (mOp dNe (mKget tb_LENGTHS (mOp dIx (mVar 1) (mC (.int 0))) (mC (.int 0))) (mDisp fLen (aD (mVar 1) aNil)))) (mBool (mOp dIn (mC (.str "")) (mVar 1)))) ((sRaise "InvalidText" 0 [("word", .inl "invalidtext")] aNil)) (sNext))
  (sSeq (sIf (mBool (mOp dEq (mOp dIx (mVar 1) (mC (.int 0))) (mC (.str "observe")))) ((sSeq (sPar [2, 3] (wCons (mP (mStrM splitF (mOp dIx (mVar 1) (mC (.int 1))) (aD (mC (.str ",")) aNil))) (wCons (mP (mStrM splitF (mOp dIx (mVar 1) (mC (.int 2))) (aD (mC (.str ",")) aNil))) wNil)))
  (sSeq (sIf (mBool (mOp dIn (mC (.str "")) (mOp dAdd (mVar 2) (mVar 3)))) ((sRaise "InvalidText" 0 [("word", .inl "invalidtext")] aNil)) (sNext))
  (sRet (mP (mDisp fTup (aD (mOp dIx (mVar 1) (mC (.int 0))) (aD (mDisp fTuple (aD (mVar 2) aNil)) (aD (mDisp fTuple (aD (mVar 3) aNil)) aNil))))))))) (sNext))
  (sRet (mP (mDisp fTuple (aD (mVar 1) aNil))))))))
noncomputable def f_parse_command : FSem := fsem 4 [false] m_parse_command
noncomputable def b_law_0 : S := (sKill [7, 8] (sSeq (sSet 8 (mCall f_x_law_pull (aIO 1 (aD (mOp dAdd (mDisp fLen (aD (mVar 6) aNil)) (mC (.int 1))) aNil))))
  (sSet 6 (mP (mOp dAdd (mOp dAdd (mSl dSl (mVar 6) mNoI (mOptI (mVar 8))) (mGetP (mCall f_x_law_of (aIO 1 (aD (mDisp fLst (aD (mC (.str "")) (aD (mC (.str " ")) (aD (mC (.str ",")) (aD (mC (.str "a")) (aD (mC (.str "0")) (aD (mC (.str "add ")) (aD (mC (.str "=")) (aD (mC (.str "\n")) aNil))))))))) aNil))))) (mSl dSl (mVar 6) (mOptI (mOp dAdd (mVar 8) (mGetP (mCall f_x_law_pull (aIO 1 (aD (mC (.int 2)) aNil)))))) mNoI))))))
noncomputable def b_law_1 : S := (sKill [5, 7, 8] (sSeq (sSet 6 (mCall f_x_law_of (aIO 1 (aD (mVar 3) aNil))))
  (sSeq (sFor (iArgs fRange1 (aD (mOp dAdd (mC (.int 1)) (mGetP (mCall f_x_law_pull (aIO 1 (aD (mC (.int 2)) aNil))))) aNil)) (gN 7) (b_law_0))
  (sDrop (mAppO 4 (mP (mVar 6)))))))
noncomputable def b_law_2 : M W := (mCall f_parse_command (aD (mVar 6) aNil))                    
noncomputable def b_law_3 : S := (sKill [9, 10] (sSeq (sSet 9 (mCall f_x_law_command_in (aD (mVar 6) aNil)))
  (sSeq (sSet 10 (mP (mTry f_x_law_field exl b_law_2)))
  (sIf (mNot (mTru (mGetP (mCall (f_x_law_same 10) (aD (mVar 10) (aD (mIf (mBool (mOp dNotN (mVar 9) (mC .none))) (mDisp fTup (aD (mVar 9) (aD (mC (.str "")) (aD (mC .none) aNil)))) (mDisp fTup (aD (mC .none) (aD (mC (.str "invalidtext")) (aD (mC .none) aNil))))) aNil)))))) ((sRet (mP (mC (.bool false))))) (sNext)))))
noncomputable def m_law : S := (sSeq (sSet 1 (mCall f_x_law_bag (aD (mVar 0) aNil)))
  (sSeq (sSet 2 (mCall f_x_law_names (aIO 1 (aD (mC (.int 4)) aNil))))
  (sSeq (sSet 3 (mP (mDisp fLst (aD (mOp dAdd (mOp dAdd (mOp dAdd (mOp dAdd (mC (.str "add ")) (mOp dIx (mVar 2) (mC (.int 0)))) (mC (.str " "))) (mOp dIx (mVar 2) (mC (.int 1)))) (mC (.str " any | a=b"))) (aD (mOp dAdd (mC (.str "drop ")) (mOp dIx (mVar 2) (mC (.int 0)))) (aD (mOp dAdd (mOp dAdd (mOp dAdd (mC (.str "swap ")) (mOp dIx (mVar 2) (mC (.int 0)))) (mC (.str " "))) (mOp dIx (mVar 2) (mC (.int 2)))) (aD (mOp dAdd (mOp dAdd (mOp dAdd (mC (.str "observe a,b1 ")) (mOp dIx (mVar 2) (mC (.int 0)))) (mC (.str ","))) (mOp dIx (mVar 2) (mC (.int 3)))) aNil)))))))
  (sSeq (sSet 4 (mOlW (wCons (mP (mC (.str ""))) (wCons (mP (mC (.str " "))) (wCons (mP (mC (.str "add"))) (wCons (mP (mC (.str "add a"))) (wCons (mP (mC (.str "add a b"))) (wCons (mP (mC (.str "add a b "))) (wCons (mP (mC (.str "add  b any"))) (wCons (mP (mC (.str "add a  any"))) (wCons (mP (mC (.str "add a b  any"))) (wCons (mP (mC (.str "add a b any "))) (wCons (mP (mC (.str " add a b any"))) (wCons (mP (mC (.str "drop"))) (wCons (mP (mC (.str "drop "))) (wCons (mP (mC (.str "drop a b"))) wNil))))))))))))))))
  (sSeq (sFzL (lName 4) ((sSet 4 (mCat (mVar 4) (mDisp fLst (aD (mC (.str "Drop a")) (aD (mC (.str "raise a ")) (aD (mC (.str "swap a")) (aD (mC (.str "swap a b c")) (aD (mC (.str "observe a")) (aD (mC (.str "observe a b c")) (aD (mC (.str "observe , ,")) (aD (mC (.str "observe a,,b x")) (aD (mC (.str "compare a  b")) (aD (mC (.str "rewrite a b")) (aD (mC (.str "rewrite a b c d e")) aNil))))))))))))))))
  (sSeq (sFor (iArgs fRange1 (aD (mC (.int 8)) aNil)) (gN 5) (b_law_1))
  (sSeq (sFzL (lName 4) ((sFor (iSeq (mVar 4)) (gN 6) (b_law_3))))
  (sRet (mP (mC (.bool true)))))))))))
noncomputable def f_law : FSem := fsem 11 [false] m_law
/-! ### the text's facts -/
structure Facts (K : PySem.W.Frag) (mg : Str → Option Value) (w : World) : Prop where
  g_x_law_bag : mg "_law_bag" = some (.ref (He.ga K "_law_bag"))
  g_x_law_pull : mg "_law_pull" = some (.ref (He.ga K "_law_pull"))
  g_x_law_of : mg "_law_of" = some (.ref (He.ga K "_law_of"))
  g_x_law_names : mg "_law_names" = some (.ref (He.ga K "_law_names"))
  g_x_law_command_in : mg "_law_command_in" = some (.ref (He.ga K "_law_command_in"))
  g_x_law_field : mg "_law_field" = some (.ref (He.ga K "_law_field"))
  g_x_law_same : mg "_law_same" = some (.ref (He.ga K "_law_same"))
  g_parse_command : mg "parse_command" = some (.ref (He.ga K "parse_command"))
  g_law : mg "law" = some (.ref (He.ga K "law"))
  g_x_law_try : mg "_law_try" = some (.ref (He.ga K "_law_try"))
  cl_InvalidText : mg "InvalidText" = some (.ref (He.ga K "InvalidText"))
  cl_NotFound : mg "NotFound" = some (.ref (He.ga K "NotFound"))
  cl_RankError : mg "RankError" = some (.ref (He.ga K "RankError"))
  kt_LENGTHS : KDt K w mg "LENGTHS" tb_LENGTHS
  n_abs : mg "abs" = none
  n_all : mg "all" = none
  n_bool : mg "bool" = none
  n_int : mg "int" = none
  n_isinstance : mg "isinstance" = none
  n_len : mg "len" = none
  n_list : mg "list" = none
  n_max : mg "max" = none
  n_range : mg "range" = none
  n_str : mg "str" = none
  n_tuple : mg "tuple" = none
  n_zip : mg "zip" = none
  d_x_law_bag : ∃ fd, FunD K "_law_bag" "_law_bag" (defArgs s_x_law_bag) (defBody s_x_law_bag) (defScope s_x_law_bag) [] [] (He.ga K "_law_bag") fd
  d_x_law_pull : ∃ fd, FunD K "_law_pull" "_law_pull" (defArgs s_x_law_pull) (defBody s_x_law_pull) (defScope s_x_law_pull) [] [] (He.ga K "_law_pull") fd
  d_x_law_of : ∃ fd, FunD K "_law_of" "_law_of" (defArgs s_x_law_of) (defBody s_x_law_of) (defScope s_x_law_of) [] [] (He.ga K "_law_of") fd
  d_x_law_names : ∃ fd, FunD K "_law_names" "_law_names" (defArgs s_x_law_names) (defBody s_x_law_names) (defScope s_x_law_names) [] [] (He.ga K "_law_names") fd
  d_x_law_command_in : ∃ fd, FunD K "_law_command_in" "_law_command_in" (defArgs s_x_law_command_in) (defBody s_x_law_command_in) (defScope s_x_law_command_in) [] [] (He.ga K "_law_command_in") fd
  d_x_law_field : ∃ fd, FunD K "_law_field" "_law_field" (defArgs s_x_law_field) (defBody s_x_law_field) (defScope s_x_law_field) [] [] (He.ga K "_law_field") fd
  d_x_law_same : ∃ fd, FunD K "_law_same" "_law_same" (defArgs s_x_law_same) (defBody s_x_law_same) (defScope s_x_law_same) [] [] (He.ga K "_law_same") fd
  d_parse_command : ∃ fd, FunD K "parse_command" "parse_command" (defArgs s_parse_command) (defBody s_parse_command) (defScope s_parse_command) [] [] (He.ga K "parse_command") fd
  d_law : ∃ fd, FunD K "law" "law" (defArgs s_law) (defBody s_law) (defScope s_law) [] [] (He.ga K "law") fd
  d_x_law_try : ∃ fd, FunD K "_law_try" "_law_try" (defArgs s_x_law_try) (defBody s_x_law_try) (defScope s_x_law_try) [] [] (He.ga K "_law_try") fd
  d_InvalidText__init_ : ∃ fd, FunD K "__init__" "InvalidText.__init__" (defArgs s_InvalidText__init_) (defBody s_InvalidText__init_) (defScope s_InvalidText__init_) [] [] (He.ma K (He.ga K "InvalidText") "__init__") fd
  xc_InvalidText : xcB K "InvalidText" false ((["word"] : List Str))  = true
  caught : (exl.all fun c => caughtB K ["limit", "name", "number", "place", "position", "slot", "value", "word"] "RankError" "NotFound" c) = true
section
variable [TB] {P : Program} {w : World} {K : PySem.W.Frag} {mg : Str → Option Value} {base : Heap}
theorem x_InvalidText (T : Facts K mg w) : XO.Cl P w K mg base "InvalidText" 0 [("word", .inl "invalidtext")] (He.ga K "InvalidText") := by
  obtain ⟨fd, F⟩ := T.d_InvalidText__init_
  exact cl_ok T.xc_InvalidText T.cl_InvalidText F sc_InvalidText__init_ (FunD.bindsN F (fun _ _ _ _ _ _ us hl => match us, hl with | [_], _ => rfl)) rfl (by decide) (srcs_ok (by decide)) (fun cdv A outer s H E => (pss_cons (ps_xsB (pv 0) pe_str) pss_nil))
theorem ca (T : Facts K mg w) : ∀ c ∈ exl, ∀ C, mg c = some (.ref C) → Caught K ["limit", "name", "number", "place", "position", "slot", "value", "word"] (.ref (He.ga K "RankError")) (.ref (He.ga K "NotFound")) C := caughts T.caught (by
  intro c hc
  simp only [exl, List.mem_cons, List.not_mem_nil, or_false] at hc
  rcases hc with rfl
  exact T.cl_InvalidText)
theorem hot_x_law_field (T : Facts K mg w) : FnHot P w K mg base 1 "_law_field" ["_law_e"] ["limit", "name", "number", "place", "position", "slot", "value", "word"] f_x_law_field := by
  obtain ⟨fd, F⟩ := T.d_x_law_field
  exact ⟨_, fd, T.g_x_law_field, F.kp, FunD.bindsN F (fun _ _ _ _ _ _ us hl => match us, hl with | [_], _ => rfl), fn_semP F sc_x_law_field rfl fun cdv A outer s H E p C dx hr hz XT => (sb_cons (ss_if (st_cmp (op_inG hr.u65) od_in (se_xp XT (List.Mem.head _) hz (se_var (pv 0)) (by decide)) (se_tup (sa_d se_str (sa_d se_str (sa_d se_str (sa_d se_str (sa_d se_str (sa_d se_str sa_nil))))))) (by with_unfolding_all rfl)) (sb_one (ss_ret (so_p (se_xp XT (List.Mem.head _) hz (se_var (pv 0)) (by decide))))) sb_nil) (sb_cons (ss_if (st_cmp (op_inG hr.u65) od_in (se_xp XT (List.Mem.head _) hz (se_var (pv 0)) (by decide)) (se_tup (sa_d se_str (sa_d se_str sa_nil))) (by with_unfolding_all rfl)) (sb_one (ss_ret (so_p (se_xp XT (List.Mem.head _) hz (se_var (pv 0)) (by decide))))) sb_nil) (sb_cons (ss_if (st_cmp (op_inG hr.u65) od_in (se_xp XT (List.Mem.head _) hz (se_var (pv 0)) (by decide)) (se_tup (sa_d se_str (sa_d se_str sa_nil))) (by with_unfolding_all rfl)) (sb_one (ss_ret (so_p (se_xp XT (List.Mem.head _) hz (se_var (pv 0)) (by decide))))) sb_nil) (sb_cons (ss_if (st_cmp (op_inG hr.u65) od_in (se_xp XT (List.Mem.head _) hz (se_var (pv 0)) (by decide)) (se_tup (sa_d se_str (sa_d se_str sa_nil))) (by with_unfolding_all rfl)) (sb_one (ss_ret (so_p (se_xp XT (List.Mem.head _) hz (se_var (pv 0)) (by decide))))) sb_nil) (sb_cons (ss_if (st_cmp (op_eq2 hr.u64) od_eq (se_xp XT (List.Mem.head _) hz (se_var (pv 0)) (by decide)) se_str (nomark _)) (sb_one (ss_ret (so_p (se_xp XT (List.Mem.head _) hz (se_var (pv 0)) (by decide))))) sb_nil) (sb_cons (ss_if (st_cmp (op_eq2 hr.u64) od_eq (se_xp XT (List.Mem.head _) hz (se_var (pv 0)) (by decide)) se_str (nomark _)) (sb_one (ss_ret (so_p (se_xp XT (List.Mem.head _) hz (se_var (pv 0)) (by decide))))) sb_nil) (sb_one (ss_ret (so_p (se_if (st_cmp (op_eq2 hr.u64) od_eq (se_xp XT (List.Mem.head _) hz (se_var (pv 0)) (by decide)) se_str (nomark _)) (se_xp XT (List.Mem.head _) hz (se_var (pv 0)) (by decide)) se_non))))))))))⟩
theorem hb_x_law_try (T : Facts K mg w) {k : Nat} (cdv : Value) (A : Around) (outer : List PySem.Env) (s0 : Shared) (H0 : Hp) (E0 : XK) (f c' : Addr) (q : Str) (tl : XK → Hp → VK → Prop) (hr : Room (k + 1) (A.deeper (PyProof.Rows.envOfC "_law_try" (defScope s_x_law_try) s0.heap.objs.size (He.ga K "_law_try") cdv))) (act : ActP (cxOf (L2N.CX P w) P w K mg base N_x_law_try "_law_try" (defScope s_x_law_try) (He.ga K "_law_try") cdv A outer s0 H0 E0) "_law_ask" f c' q tl) :
  PSs (cxOf (L2N.CX P w) P w K mg base N_x_law_try "_law_try" (defScope s_x_law_try) (He.ga K "_law_try") cdv A outer s0 H0 E0) (defBody s_x_law_try) (tTryDef K mg ["limit", "name", "number", "place", "position", "slot", "value", "word"] f_x_law_field (.ref (He.ga K "RankError")) (.ref (He.ga K "NotFound")) f c' q tl) :=
  pss_cons (ps_asg (pe_tup (pa_cons pe_non (pa_cons pe_str (pa_cons pe_non pa_nil)))) (pg_tup rfl (pgs_cons (pg_name (i := 1) sc_x_law_try.nd rfl (Or.inl rfl)) (pgs_cons (pg_name (i := 2) sc_x_law_try.nd rfl (Or.inl rfl)) (pgs_cons (pg_name (i := 3) sc_x_law_try.nd rfl (Or.inl rfl)) pgs_nil)))))
    (pss_cons (XO.ps_try_all rfl rfl sc_x_law_try.nd rfl rfl takesN0 (fun W pn xe tk _ => pss_ask act tk sc_x_law_try.nd rfl rfl rfl)
      (.cons ⟨rfl, by decide, .inl T.cl_RankError⟩ (fun a oe cls d pn hz hf => ps_tell (p := (a, oe)) hz hf (XO.hot_suite hz hf) (.head _) (hot_x_law_field T) rfl (roomH_mk (hr.mono (by omega)) _) (by decide) sc_x_law_try.nd rfl rfl rfl (by decide) rfl rfl (Or.inl rfl) rfl (by decide) (by decide) (by decide) rfl rfl rfl rfl rfl rfl rfl) (.cons ⟨rfl, by decide, .inl T.cl_NotFound⟩ (fun a oe cls d pn hz hf => ps_tell (p := (a, oe)) hz hf (XO.hot_suite hz hf) (.head _) (hot_x_law_field T) rfl (roomH_mk (hr.mono (by omega)) _) (by decide) sc_x_law_try.nd rfl rfl rfl (by decide) rfl rfl (Or.inl rfl) rfl (by decide) (by decide) (by decide) rfl rfl rfl rfl rfl rfl rfl) .nil)))
    (pss_cons (ps_ret (pe_tup (pa_cons (pv 1) (pa_cons (pv 2) (pa_cons (pv 3) pa_nil))))) pss_nil))
theorem ok_x_law_bag (T : Facts K mg w)  : Fn P w K mg base 1 "_law_bag" ["_law_script"] f_x_law_bag := by
  obtain ⟨fd, F⟩ := T.d_x_law_bag
  exact ⟨_, fd, T.g_x_law_bag, F.kp, FunD.bindsN F (fun _ _ _ _ _ _ us hl => match us, hl with | [_], _ => rfl), fn_sem F sc_x_law_bag rfl fun cdv A outer s H E hr z => (sb_one (ss_ret (so_lstW (saw_cons (so_p (se_callTy call_list_of cd_list rfl T.n_list (by rfl) (sa_d (se_slice (se_var (pv 0)) spo_none (spo_some se_int)) sa_nil))) (saw_cons (so_p se_int) (saw_cons (so_p se_int) (saw_cons (so_p se_int) saw_nil)))))))⟩
theorem ok_x_law_pull (T : Facts K mg w)  : Fn P w K mg base 1 "_law_pull" ["_law_bag_here", "_law_sides"] f_x_law_pull := by
  obtain ⟨fd, F⟩ := T.d_x_law_pull
  exact ⟨_, fd, T.g_x_law_pull, F.kp, FunD.bindsN F (fun _ _ _ _ _ _ us hl => match us, hl with | [_, _], _ => rfl), fn_sem F sc_x_law_pull rfl fun cdv A outer s H E hr z => (sb_cons (ss_if (SW.st (sw_and (st_cmp (op_eq2 hr.u64) od_eq (se_ixO (pv 0) se_int (fun _ _ => rfl)) se_int (nomark _)) (sw_and1 (st_cmp op_lt od_lt (se_ixO (pv 0) se_int (fun _ _ => rfl)) (se_callB call_len cd_len rfl T.n_len boot_len (sa_d (se_ixO (pv 0) se_int (fun _ _ => rfl)) sa_nil)) (nomark _))))) (sb_cons (ss_set (i := 2) rfl sc_x_law_pull.nd rfl (Or.inl rfl) (so_p (se_ix (se_ixO (pv 0) se_int (fun _ _ => rfl)) (se_ixO (pv 0) se_int (fun _ _ => rfl)) (fun _ _ => rfl)))) (sb_cons (ss_setIx (se_op op_addD od_add (se_ixO (pv 0) se_int (fun _ _ => rfl)) se_int) (pv 0) se_int) (sb_one (ss_if (st_cmp op_ge od_ge (se_callB call_abs cd_abs rfl T.n_abs (by rfl) (sa_d (se_var (pv 2)) sa_nil)) (se_op op_pow od_pow se_int se_int) (nomark _)) (sb_one (ss_setIx (se_callB call_abs cd_abs rfl T.n_abs (by rfl) (sa_d (se_var (pv 2)) sa_nil)) (pv 0) se_int)) (sb_one (ss_setIx (se_op op_mod od_mod (se_op op_addD od_add (se_op op_addD od_add (se_op op_mulD od_mul (se_ixO (pv 0) se_int (fun _ _ => rfl)) se_int) (se_op op_mulD od_mul (se_op op_mod od_mod (se_var (pv 2)) se_int) se_int)) se_int) se_int) (pv 0) se_int)))))) sb_nil) (sb_cons (ss_if (st_cmp op_gt od_gt (se_ixO (pv 0) se_int (fun _ _ => rfl)) se_int (nomark _)) (sb_cons (ss_set (i := 3) rfl sc_x_law_pull.nd rfl (Or.inl rfl) (so_p (se_op op_mod od_mod (se_ixO (pv 0) se_int (fun _ _ => rfl)) (se_var (pv 1))))) (sb_cons (ss_setIx (se_op op_fdiv od_div (se_ixO (pv 0) se_int (fun _ _ => rfl)) (se_var (pv 1))) (pv 0) se_int) (sb_one (ss_ret (so_p (se_var (pv 3))))))) sb_nil) (sb_cons (ss_set (i := 4) rfl sc_x_law_pull.nd rfl (Or.inl rfl) (so_p (se_op op_mod od_mod (se_op op_mulD od_mul (se_ixO (pv 0) se_int (fun _ _ => rfl)) (se_ixO (pv 0) se_int (fun _ _ => rfl))) se_int))) (sb_cons (ss_setIx (se_op op_mod od_mod (se_op op_addD od_add (se_op op_addD od_add (se_op op_mulD od_mul (se_var (pv 4)) se_int) (se_op op_mulD od_mul (se_ixO (pv 0) se_int (fun _ _ => rfl)) se_int)) se_int) se_int) (pv 0) se_int) (sb_one (ss_ret (so_p (se_op op_mod od_mod (se_op op_fdiv od_div (se_ixO (pv 0) se_int (fun _ _ => rfl)) se_int) (se_var (pv 1))))))))))⟩
theorem ok_x_law_of (T : Facts K mg w) (F_x_law_pull : Fn P w K mg base 1 "_law_pull" ["_law_bag_here", "_law_sides"] f_x_law_pull) : Fn P w K mg base 2 "_law_of" ["_law_bag_here", "_law_some"] f_x_law_of := by
  obtain ⟨fd, F⟩ := T.d_x_law_of
  exact ⟨_, fd, T.g_x_law_of, F.kp, FunD.bindsN F (fun _ _ _ _ _ _ us hl => match us, hl with | [_, _], _ => rfl), fn_sem F sc_x_law_of rfl fun cdv A outer s H E hr z => (sb_one (ss_ret (so_p (se_ix (se_var (pv 1)) (se_o (so_fn takesN0 F_x_law_pull (hr.mono (by first | decide | omega)) rfl (sa_io (pv 0) (sa_d (se_callB call_len cd_len rfl T.n_len boot_len (sa_d (se_var (pv 1)) sa_nil)) sa_nil)) (len_io (len_d len_nil)))) (fun _ _ => rfl)))))⟩
theorem ok_x_law_names (T : Facts K mg w) (F_x_law_of : Fn P w K mg base 2 "_law_of" ["_law_bag_here", "_law_some"] f_x_law_of) (F_x_law_pull : Fn P w K mg base 1 "_law_pull" ["_law_bag_here", "_law_sides"] f_x_law_pull) : Fn P w K mg base 3 "_law_names" ["_law_bag_here", "_law_many"] f_x_law_names := by
  obtain ⟨fd, F⟩ := T.d_x_law_names
  exact ⟨_, fd, T.g_x_law_names, F.kp, FunD.bindsN F (fun _ _ _ _ _ _ us hl => match us, hl with | [_, _], _ => rfl), fn_sem F sc_x_law_names rfl fun cdv A outer s H E hr z => (sb_cons (ss_set (i := 2) rfl sc_x_law_names.nd rfl (Or.inr rfl) (so_p se_str)) (sb_cons (ss_set (i := 3) rfl sc_x_law_names.nd rfl (Or.inl rfl) (so_p (se_join se_str (sa_d (se_lc (own := [("_law_k", 7)]) rfl sc_x_law_names.nd (blkOk_by (N := N_x_law_names) (sc := (defScope s_x_law_names)) (by decide +kernel)) (si_range1 rfl T.n_range (sa_d (se_o (so_fn takesN0 F_x_law_pull (hr.mono (by first | decide | omega)) rfl (sa_io (pv 0) (sa_d se_int sa_nil)) (len_io (len_d len_nil)))) sa_nil)) (fun _ _ _ _ _ => (sg_name (i := 7) rfl sc_x_law_names.nd rfl (Or.inl rfl))) (fun _ _ _ _ _ => sts_nil) (fun _ _ _ _ _ => (se_o (so_fn takesN0 F_x_law_of (hr.mono (by first | decide | omega)) rfl (sa_io (pv 0) (sa_d (se_var (pv 2)) sa_nil)) (len_io (len_d len_nil)))))) sa_nil)))) (sb_cons (ss_if (st_cmp (op_eq2 hr.u64) od_eq (se_o (so_fn takesN0 F_x_law_pull (hr.mono (by first | decide | omega)) rfl (sa_io (pv 0) (sa_d se_int sa_nil)) (len_io (len_d len_nil)))) se_int (nomark _)) (sb_one (ss_set (i := 3) rfl sc_x_law_names.nd rfl (Or.inl rfl) (so_p (se_op op_mulD od_mul (se_slice (se_var (pv 3)) spo_none (spo_some se_int)) (se_callB call_len cd_len rfl T.n_len boot_len (sa_d (se_var (pv 3)) sa_nil)))))) sb_nil) (sb_cons (ss_par2 rfl rfl rfl sc_x_law_names.nd (i := 4) (j := 5) rfl rfl (by decide) rfl rfl (saw_cons (so_fn z.tk F_x_law_pull (hr.mono (by first | decide | omega)) rfl (sa_io (pv 0) (sa_d (se_op op_addD od_add (se_callB call_len cd_len rfl T.n_len boot_len (sa_d (se_var (pv 3)) sa_nil)) se_int) sa_nil)) (len_io (len_d len_nil))) (saw_cons (so_fn z.tk F_x_law_pull (hr.mono (by first | decide | omega)) rfl (sa_io (pv 0) (sa_d se_int sa_nil)) (len_io (len_d len_nil))) saw_nil)) rfl) (sb_cons (ss_set (i := 6) rfl sc_x_law_names.nd rfl (Or.inl rfl) (so_lstW saw_nil)) (sb_cons (ss_for z.po rfl (si_range1 rfl T.n_range (sa_d (se_var (pv 1)) sa_nil)) (sg_name (i := 7) rfl sc_x_law_names.nd rfl (Or.inl rfl)) (sb_kill [7, 8] (sb_cons (ss_set (i := 8) rfl sc_x_law_names.nd rfl (Or.inl rfl) (so_p (se_op op_addD od_add (se_op op_addD od_add (se_slice (se_var (pv 3)) spo_none (spo_some (se_var (pv 4)))) (se_ix (se_var (pv 2)) (se_op op_mod od_mod (se_op op_addD od_add (se_var (pv 5)) (se_op op_mulD od_mul se_int (se_var (pv 7)))) se_int) (fun _ _ => rfl))) (se_slice (se_var (pv 3)) (spo_some (se_var (pv 4))) spo_none)))) (sb_one (ss_drop (so_appO (pv 6) (so_p (se_if (st_cmp (op_eq2 hr.u64) od_eq (se_o (so_fn takesN0 F_x_law_pull (hr.mono (by first | decide | omega)) rfl (sa_io (pv 0) (sa_d se_int sa_nil)) (len_io (len_d len_nil)))) se_int (nomark _)) (se_slice (se_var (pv 8)) spo_none (spo_some (se_callB (call_max2 rfl) cd_max2 rfl T.n_max (by rfl) (sa_d (se_op op_addD od_add (se_var (pv 4)) se_int) (sa_d (se_op op_sub od_sub (se_callB call_len cd_len rfl T.n_len boot_len (sa_d (se_var (pv 8)) sa_nil)) (se_var (pv 7))) sa_nil))))) (se_var (pv 8)))))))))) (sb_one (ss_fzL (lName 6) (ss_ret (so_p (se_var (pv 6))))))))))))⟩
theorem ok_x_law_command_in (T : Facts K mg w)  : Fn P w K mg base 1 "_law_command_in" ["_law_text"] f_x_law_command_in := by
  obtain ⟨fd, F⟩ := T.d_x_law_command_in
  exact ⟨_, fd, T.g_x_law_command_in, F.kp, FunD.bindsN F (fun _ _ _ _ _ _ us hl => match us, hl with | [_], _ => rfl), fn_sem F sc_x_law_command_in rfl fun cdv A outer s H E hr z => (sb_cons (ss_set (i := 1) rfl sc_x_law_command_in.nd rfl (Or.inl rfl) (so_p (se_strM PySem.F.slot_str_split PySem.F.type_str_split mt_split ok_split (se_var (pv 0)) (sa_d se_str sa_nil)))) (sb_cons (ss_if (st_cmp (op_inG hr.u65) od_in (se_ix (se_var (pv 1)) se_int (fun _ _ => rfl)) (se_tup (sa_d se_str (sa_d se_str sa_nil))) (by with_unfolding_all rfl)) (sb_cons (ss_set (i := 2) rfl sc_x_law_command_in.nd rfl (Or.inl rfl) (so_p (se_if (st_cmp op_gt od_gt (se_callB call_len cd_len rfl T.n_len boot_len (sa_d (se_var (pv 1)) sa_nil)) se_int (nomark _)) (se_slice (se_var (pv 0)) (spo_some (se_op op_addD od_add (se_callB call_len cd_len rfl T.n_len boot_len (sa_d (se_join se_str (sa_d (se_slice (se_var (pv 1)) spo_none (spo_some se_int)) sa_nil)) sa_nil)) se_int)) spo_none) se_str))) (sb_cons (ss_if (SW.st (sw_or (st_cmp (op_eq2 hr.u64) od_eq (se_var (pv 2)) se_str (nomark _)) (sw_or1 (st_cmp (op_inG hr.u65) od_in se_str (se_slice (se_var (pv 1)) spo_none (spo_some se_int)) (by with_unfolding_all rfl))))) (sb_one (ss_ret (so_p se_non))) sb_nil) (sb_one (ss_ret (so_p (se_tup (sa_d (se_ix (se_var (pv 1)) se_int (fun _ _ => rfl)) (sa_d (se_ix (se_var (pv 1)) se_int (fun _ _ => rfl)) (sa_d (se_var (pv 2)) (sa_d (se_ix (se_var (pv 1)) se_int (fun _ _ => rfl)) sa_nil)))))))))) sb_nil) (sb_cons (ss_set (i := 3) rfl sc_x_law_command_in.nd rfl (Or.inl rfl) (so_dictS (sd_cons se_int (sd_cons se_int (sd_cons se_int (sd_cons se_int (sd_cons se_int (sd_cons se_int (sd_cons se_int (sd_cons se_int sd_nil)))))))) (by decide) (by decide) (by simp) (by decide))) (sb_cons (ss_if (SW.st (sw_or (st_cmp (op_ne2 hr.u64) od_ne (se_dgetO hr.u1 (pv 3) (se_ix (se_var (pv 1)) se_int (fun _ _ => rfl)) se_int ⟨rfl, rfl, rfl, rfl⟩) (se_callB call_len cd_len rfl T.n_len boot_len (sa_d (se_var (pv 1)) sa_nil)) (nomark _)) (sw_or1 (st_cmp (op_inG hr.u65) od_in se_str (se_var (pv 1)) (by with_unfolding_all rfl))))) (sb_one (ss_ret (so_p se_non))) sb_nil) (sb_cons (ss_if (st_cmp (op_eq2 hr.u64) od_eq (se_ix (se_var (pv 1)) se_int (fun _ _ => rfl)) se_str (nomark _)) (sb_cons (ss_par2 rfl rfl rfl sc_x_law_command_in.nd (i := 4) (j := 5) rfl rfl (by decide) rfl rfl (saw_cons (so_p (se_strM PySem.F.slot_str_split PySem.F.type_str_split mt_split ok_split (se_ix (se_var (pv 1)) se_int (fun _ _ => rfl)) (sa_d se_str sa_nil))) (saw_cons (so_p (se_strM PySem.F.slot_str_split PySem.F.type_str_split mt_split ok_split (se_ix (se_var (pv 1)) se_int (fun _ _ => rfl)) (sa_d se_str sa_nil))) saw_nil)) rfl) (sb_one (ss_ret (so_p (se_if (st_cmp (op_inG hr.u65) od_in se_str (se_op op_addD od_add (se_var (pv 4)) (se_var (pv 5))) (by with_unfolding_all rfl)) se_non (se_tup (sa_d (se_ix (se_var (pv 1)) se_int (fun _ _ => rfl)) (sa_d (se_callTy call_tuple_of cd_tuple rfl T.n_tuple (by rfl) (sa_d (se_var (pv 4)) sa_nil)) (sa_d (se_callTy call_tuple_of cd_tuple rfl T.n_tuple (by rfl) (sa_d (se_var (pv 5)) sa_nil)) sa_nil))))))))) sb_nil) (sb_one (ss_ret (so_p (se_callTy call_tuple_of cd_tuple rfl T.n_tuple (by rfl) (sa_d (se_var (pv 1)) sa_nil))))))))))⟩
theorem ok_x_law_same (T : Facts K mg w)  : ∀ n : Nat, Fn P w K mg base (n + 1) "_law_same" ["_law_found", "_law_due"] (f_x_law_same n)
  | 0 => by
    obtain ⟨fd, F⟩ := T.d_x_law_same
    exact ⟨_, fd, T.g_x_law_same, F.kp, FunD.bindsN F (fun _ _ _ _ _ _ us hl => match us, hl with | [_, _], _ => rfl), fn_none⟩
  | n + 1 => by
    have REC := ok_x_law_same T  n
    obtain ⟨fd, F⟩ := T.d_x_law_same
    refine ⟨_, fd, T.g_x_law_same, F.kp, FunD.bindsN F (fun _ _ _ _ _ _ us hl => match us, hl with | [_, _], _ => rfl), ?_⟩
    rw [show n + 1 + 1 = (n + 1) + 1 by omega]
    exact fn_sem F sc_x_law_same rfl fun cdv A outer s H E hr z => (sb_cons (ss_if (st_cmp op_isN1 od_isN (se_var (pv 1)) se_non (nomark _)) (sb_one (ss_ret (so_p (se_cmp op_isN1 od_isN (se_var (pv 0)) se_non (nomark _))))) sb_nil) (sb_cons (ss_if (SW.st (sw_or (st_tru (se_isi (T := "bool") (by decide) (by decide) rfl T.n_isinstance rfl T.n_bool (by rfl) (se_var (pv 1))) (fun _ => rfl)) (sw_or1 (st_tru (se_isi (T := "bool") (by decide) (by decide) rfl T.n_isinstance rfl T.n_bool (by rfl) (se_var (pv 0))) (fun _ => rfl))))) (sb_one (ss_ret (so_p (se_and (se_isi (T := "bool") (by decide) (by decide) rfl T.n_isinstance rfl T.n_bool (by rfl) (se_var (pv 1))) (se_and (se_isi (T := "bool") (by decide) (by decide) rfl T.n_isinstance rfl T.n_bool (by rfl) (se_var (pv 0))) (se_one (se_cmp (op_eq2 hr.u64) od_eq (se_var (pv 0)) (se_var (pv 1)) (nomark _)))))))) sb_nil) (sb_cons (ss_if (SW.st (sw_or (st_tru (se_isi (T := "int") (by decide) (by decide) rfl T.n_isinstance rfl T.n_int (by rfl) (se_var (pv 1))) (fun _ => rfl)) (sw_or1 (st_tru (se_isi (T := "str") (by decide) (by decide) rfl T.n_isinstance rfl T.n_str (by rfl) (se_var (pv 1))) (fun _ => rfl))))) (sb_one (ss_ret (so_p (se_and (se_cmp (op_eq2 hr.u64) od_eq (se_isi (T := "int") (by decide) (by decide) rfl T.n_isinstance rfl T.n_int (by rfl) (se_var (pv 0))) (se_isi (T := "int") (by decide) (by decide) rfl T.n_isinstance rfl T.n_int (by rfl) (se_var (pv 1))) (nomark _)) (se_and (se_cmp (op_eq2 hr.u64) od_eq (se_isi (T := "str") (by decide) (by decide) rfl T.n_isinstance rfl T.n_str (by rfl) (se_var (pv 0))) (se_isi (T := "str") (by decide) (by decide) rfl T.n_isinstance rfl T.n_str (by rfl) (se_var (pv 1))) (nomark _)) (se_one (se_cmp (op_eq2 hr.u64) od_eq (se_var (pv 0)) (se_var (pv 1)) (nomark _)))))))) sb_nil) (sb_cons (ss_if (SW.st (sw_or (st_cmp (op_ne2 hr.u64) od_ne (se_isi (T := "list") (by decide) (by decide) rfl T.n_isinstance rfl T.n_list (by rfl) (se_var (pv 1))) (se_isi (T := "list") (by decide) (by decide) rfl T.n_isinstance rfl T.n_list (by rfl) (se_var (pv 0))) (nomark _)) (sw_or1 (st_cmp (op_ne2 hr.u64) od_ne (se_isi (T := "tuple") (by decide) (by decide) rfl T.n_isinstance rfl T.n_tuple (by rfl) (se_var (pv 1))) (se_isi (T := "tuple") (by decide) (by decide) rfl T.n_isinstance rfl T.n_tuple (by rfl) (se_var (pv 0))) (nomark _))))) (sb_one (ss_ret (so_p se_bl))) sb_nil) (sb_one (ss_ret (so_p (se_and (se_cmp (op_eq2 hr.u64) od_eq (se_callB call_len cd_len rfl T.n_len boot_len (sa_d (se_var (pv 0)) sa_nil)) (se_callB call_len cd_len rfl T.n_len boot_len (sa_d (se_var (pv 1)) sa_nil)) (nomark _)) (se_one (se_callB (cr_all rfl) cd_all rfl T.n_all (by rfl) (sa_d (se_lc (own := [("_law_one", 2), ("_law_two", 3)]) rfl sc_x_law_same.nd (blkOk_by (N := N_x_law_same) (sc := (defScope s_x_law_same)) (by decide +kernel)) (si_zip rfl T.n_zip (sa_d (se_var (pv 0)) (sa_d (se_var (pv 1)) sa_nil))) (fun _ _ _ _ _ => (sg_tup (n := 2) rfl (sgs_cons (sg_name (i := 2) rfl sc_x_law_same.nd rfl (Or.inl rfl)) (sgs_cons (sg_name (i := 3) rfl sc_x_law_same.nd rfl (Or.inl rfl)) sgs_nil)))) (fun _ _ _ _ _ => sts_nil) (fun _ _ _ _ _ => (se_o (so_fn takesN0 REC (hr.mono (by omega)) rfl (sa_d (se_var (pv 2)) (sa_d (se_var (pv 3)) sa_nil)) (len_d (len_d len_nil)))))) sa_nil)))))))))))
theorem ok_parse_command (T : Facts K mg w)  : Fn P w K mg base 3 "parse_command" ["text"] f_parse_command := by
  obtain ⟨fd, F⟩ := T.d_parse_command
  exact ⟨_, fd, T.g_parse_command, F.kp, FunD.bindsN F (fun _ _ _ _ _ _ us hl => match us, hl with | [_], _ => rfl), fn_sem F sc_parse_command rfl fun cdv A outer s H E hr z => (sb_cons (ss_set (i := 1) rfl sc_parse_command.nd rfl (Or.inl rfl) (so_p (se_strM PySem.F.slot_str_split PySem.F.type_str_split mt_split ok_split (se_var (pv 0)) (sa_d se_str sa_nil)))) (sb_cons (ss_if (st_cmp (op_inG hr.u65) od_in (se_ix (se_var (pv 1)) se_int (fun _ _ => rfl)) (se_tup (sa_d se_str (sa_d se_str sa_nil))) (by with_unfolding_all rfl)) (sb_cons (ss_set (i := 1) rfl sc_parse_command.nd rfl (Or.inl rfl) (so_p (se_strM PySem.F.slot_str_split PySem.F.type_str_split mt_splitMax ok_splitMax (se_var (pv 0)) (sa_d se_str (sa_d se_int sa_nil))))) (sb_cons (ss_if (SW.st (sw_or (st_cmp (op_ne2 hr.u64) od_ne (se_callB call_len cd_len rfl T.n_len boot_len (sa_d (se_var (pv 1)) sa_nil)) se_int (nomark _)) (sw_or1 (st_cmp (op_inG hr.u65) od_in se_str (se_var (pv 1)) (by with_unfolding_all rfl))))) (sb_one (ss_raise0 rfl z.tk (x_InvalidText T) (hr.mono (by decide)) rfl)) sb_nil) (sb_one (ss_ret (so_p (se_tup (sa_d (se_ix (se_var (pv 1)) se_int (fun _ _ => rfl)) (sa_d (se_ix (se_var (pv 1)) se_int (fun _ _ => rfl)) (sa_d (se_ix (se_var (pv 1)) se_int (fun _ _ => rfl)) (sa_d (se_ix (se_var (pv 1)) se_int (fun _ _ => rfl)) sa_nil)))))))))) sb_nil) (sb_cons (ss_if (SW.st (sw_or (st_cmp (op_ne2 hr.u64) od_ne (se_kget T.kt_LENGTHS rfl (se_ix (se_var (pv 1)) se_int (fun _ _ => rfl)) se_int ⟨rfl, rfl, rfl, rfl⟩ (by decide)) (se_callB call_len cd_len rfl T.n_len boot_len (sa_d (se_var (pv 1)) sa_nil)) (nomark _)) (sw_or1 (st_cmp (op_inG hr.u65) od_in se_str (se_var (pv 1)) (by with_unfolding_all rfl))))) (sb_one (ss_raise0 rfl z.tk (x_InvalidText T) (hr.mono (by decide)) rfl)) sb_nil) (sb_cons (ss_if (st_cmp (op_eq2 hr.u64) od_eq (se_ix (se_var (pv 1)) se_int (fun _ _ => rfl)) se_str (nomark _)) (sb_cons (ss_par2 rfl rfl rfl sc_parse_command.nd (i := 2) (j := 3) rfl rfl (by decide) rfl rfl (saw_cons (so_p (se_strM PySem.F.slot_str_split PySem.F.type_str_split mt_split ok_split (se_ix (se_var (pv 1)) se_int (fun _ _ => rfl)) (sa_d se_str sa_nil))) (saw_cons (so_p (se_strM PySem.F.slot_str_split PySem.F.type_str_split mt_split ok_split (se_ix (se_var (pv 1)) se_int (fun _ _ => rfl)) (sa_d se_str sa_nil))) saw_nil)) rfl) (sb_cons (ss_if (st_cmp (op_inG hr.u65) od_in se_str (se_op op_addD od_add (se_var (pv 2)) (se_var (pv 3))) (by with_unfolding_all rfl)) (sb_one (ss_raise0 rfl z.tk (x_InvalidText T) (hr.mono (by decide)) rfl)) sb_nil) (sb_one (ss_ret (so_p (se_tup (sa_d (se_ix (se_var (pv 1)) se_int (fun _ _ => rfl)) (sa_d (se_callTy call_tuple_of cd_tuple rfl T.n_tuple (by rfl) (sa_d (se_var (pv 2)) sa_nil)) (sa_d (se_callTy call_tuple_of cd_tuple rfl T.n_tuple (by rfl) (sa_d (se_var (pv 3)) sa_nil)) sa_nil))))))))) sb_nil) (sb_one (ss_ret (so_p (se_callTy call_tuple_of cd_tuple rfl T.n_tuple (by rfl) (sa_d (se_var (pv 1)) sa_nil)))))))))⟩
theorem okd_law (T : Facts K mg w) (F_x_law_bag : Fn P w K mg base 1 "_law_bag" ["_law_script"] f_x_law_bag) (F_x_law_command_in : Fn P w K mg base 1 "_law_command_in" ["_law_text"] f_x_law_command_in) (F_x_law_names : Fn P w K mg base 3 "_law_names" ["_law_bag_here", "_law_many"] f_x_law_names) (F_x_law_of : Fn P w K mg base 2 "_law_of" ["_law_bag_here", "_law_some"] f_x_law_of) (F_x_law_pull : Fn P w K mg base 1 "_law_pull" ["_law_bag_here", "_law_sides"] f_x_law_pull) (F_x_law_same : Fn P w K mg base 11 "_law_same" ["_law_found", "_law_due"] (f_x_law_same 10)) (F_parse_command : Fn P w K mg base 3 "parse_command" ["text"] f_parse_command) (LF_law : LamF K mg base ("law", none) ((("law" : Str) ++ ".<locals>.") ++ "<lambda>")) {fd : FuncData} (F : FunD K "law" "law" (defArgs s_law) (defBody s_law) (defScope s_law) [] [] (He.ga K "law") fd) : FnOk P w K mg base (L2N.CX P w) 12 (He.ga K "law") fd ["_law_script"] (spF K mg 1 f_law) := fn_semL ("law", none) F sc_law rfl fun cdv hcd A outer s H E hr z => (sb_cons (ss_set (i := 1) rfl sc_law.nd rfl (Or.inl rfl) (so_fn z.tk F_x_law_bag (hr.mono (by first | decide | omega)) rfl (sa_d (se_var (pv 0)) sa_nil) (len_d len_nil))) (sb_cons (ss_set (i := 2) rfl sc_law.nd rfl (Or.inl rfl) (so_fn z.tk F_x_law_names (hr.mono (by first | decide | omega)) rfl (sa_io (pv 1) (sa_d se_int sa_nil)) (len_io (len_d len_nil)))) (sb_cons (ss_set (i := 3) rfl sc_law.nd rfl (Or.inl rfl) (so_p (se_lst (sa_d (se_op op_addD od_add (se_op op_addD od_add (se_op op_addD od_add (se_op op_addD od_add se_str (se_ix (se_var (pv 2)) se_int (fun _ _ => rfl))) se_str) (se_ix (se_var (pv 2)) se_int (fun _ _ => rfl))) se_str) (sa_d (se_op op_addD od_add se_str (se_ix (se_var (pv 2)) se_int (fun _ _ => rfl))) (sa_d (se_op op_addD od_add (se_op op_addD od_add (se_op op_addD od_add se_str (se_ix (se_var (pv 2)) se_int (fun _ _ => rfl))) se_str) (se_ix (se_var (pv 2)) se_int (fun _ _ => rfl))) (sa_d (se_op op_addD od_add (se_op op_addD od_add (se_op op_addD od_add se_str (se_ix (se_var (pv 2)) se_int (fun _ _ => rfl))) se_str) (se_ix (se_var (pv 2)) se_int (fun _ _ => rfl))) sa_nil))))))) (sb_cons (ss_set (i := 4) rfl sc_law.nd rfl (Or.inl rfl) (so_lstW (saw_cons (so_p se_str) (saw_cons (so_p se_str) (saw_cons (so_p se_str) (saw_cons (so_p se_str) (saw_cons (so_p se_str) (saw_cons (so_p se_str) (saw_cons (so_p se_str) (saw_cons (so_p se_str) (saw_cons (so_p se_str) (saw_cons (so_p se_str) (saw_cons (so_p se_str) (saw_cons (so_p se_str) (saw_cons (so_p se_str) (saw_cons (so_p se_str) saw_nil)))))))))))))))) (sb_cons (ss_fzL (lName 4) (ss_set (i := 4) rfl sc_law.nd rfl (Or.inl rfl) (so_cat (se_var (pv 4)) (se_lst (sa_d se_str (sa_d se_str (sa_d se_str (sa_d se_str (sa_d se_str (sa_d se_str (sa_d se_str (sa_d se_str (sa_d se_str (sa_d se_str (sa_d se_str sa_nil))))))))))))))) (sb_cons (ss_for z.po rfl (si_range1 rfl T.n_range (sa_d se_int sa_nil)) (sg_name (i := 5) rfl sc_law.nd rfl (Or.inl rfl)) (sb_kill [5, 7, 8] (sb_cons (ss_set (i := 6) rfl sc_law.nd rfl (Or.inr rfl) (so_fn z.tk F_x_law_of (hr.mono (by first | decide | omega)) rfl (sa_io (pv 1) (sa_d (se_var (pv 3)) sa_nil)) (len_io (len_d len_nil)))) (sb_cons (ss_for z.po rfl (si_range1 rfl T.n_range (sa_d (se_op op_addD od_add se_int (se_o (so_fn takesN0 F_x_law_pull (hr.mono (by first | decide | omega)) rfl (sa_io (pv 1) (sa_d se_int sa_nil)) (len_io (len_d len_nil))))) sa_nil)) (sg_name (i := 7) rfl sc_law.nd rfl (Or.inl rfl)) (sb_kill [7, 8] (sb_cons (ss_set (i := 8) rfl sc_law.nd rfl (Or.inl rfl) (so_fn z.tk F_x_law_pull (hr.mono (by first | decide | omega)) rfl (sa_io (pv 1) (sa_d (se_op op_addD od_add (se_callB call_len cd_len rfl T.n_len boot_len (sa_d (se_var (pv 6)) sa_nil)) se_int) sa_nil)) (len_io (len_d len_nil)))) (sb_one (ss_set (i := 6) rfl sc_law.nd rfl (Or.inr rfl) (so_p (se_op op_addD od_add (se_op op_addD od_add (se_slice (se_var (pv 6)) spo_none (spo_some (se_var (pv 8)))) (se_o (so_fn takesN0 F_x_law_of (hr.mono (by first | decide | omega)) rfl (sa_io (pv 1) (sa_d (se_lst (sa_d se_str (sa_d se_str (sa_d se_str (sa_d se_str (sa_d se_str (sa_d se_str (sa_d se_str (sa_d se_str sa_nil))))))))) sa_nil)) (len_io (len_d len_nil))))) (se_slice (se_var (pv 6)) (spo_some (se_op op_addD od_add (se_var (pv 8)) (se_o (so_fn takesN0 F_x_law_pull (hr.mono (by first | decide | omega)) rfl (sa_io (pv 1) (sa_d se_int sa_nil)) (len_io (len_d len_nil)))))) spo_none)))))))) (sb_one (ss_drop (so_appO (pv 4) (so_p (se_var (pv 6)))))))))) (sb_cons (ss_fzL (lName 4) (ss_for z.po rfl (si_seq (se_var (pv 4))) (sg_name (i := 6) rfl sc_law.nd rfl (Or.inr rfl)) (sb_kill [9, 10] (sb_cons (ss_set (i := 9) rfl sc_law.nd rfl (Or.inl rfl) (so_fn z.tk F_x_law_command_in (hr.mono (by first | decide | omega)) rfl (sa_d (se_var (pv 6)) sa_nil) (len_d len_nil))) (sb_cons (ss_set (i := 10) rfl sc_law.nd rfl (Or.inl rfl) (so_p (se_tryl (g := f_x_law_field) (cls := exl) (k := 3) (m := b_law_2) hcd rfl rfl LF_law (LamX.lamS_by (sc := (defScope s_law)) (by decide +kernel)) rfl (hr.mono (by decide)) (fun _ _ _ _ _ => rfl) (fun _ _ _ _ _ _ _ hr => (so_fn LamK.takes_lam F_parse_command (hr.mono (by first | decide | omega)) rfl (sa_d (se_var (pv 6)) sa_nil) (len_d len_nil))) T.d_x_law_try sc_x_law_try rfl (fun fd F => FunD.bindsN F (fun _ _ _ _ _ _ us hl => match us, hl with | [_], _ => rfl)) rfl T.g_x_law_try (by decide) rfl (by first | exact Or.inl rfl | exact Or.inr (Or.inl rfl) | exact Or.inr (Or.inr rfl)) (by decide) (by decide) (fun cdv A outer s0 H0 E0 f c q tl hr act => hb_x_law_try T cdv A outer s0 H0 E0 f c q tl hr act) (ca T)))) (sb_one (ss_if (st_not (st_tru (se_o (so_fn takesN0 F_x_law_same (hr.mono (by first | decide | omega)) rfl (sa_d (se_var (pv 10)) (sa_d (se_if (st_cmp op_notN1 od_notN (se_var (pv 9)) se_non (nomark _)) (se_tup (sa_d (se_var (pv 9)) (sa_d se_str (sa_d se_non sa_nil)))) (se_tup (sa_d se_non (sa_d se_str (sa_d se_non sa_nil))))) sa_nil)) (len_d (len_d len_nil)))) (fun _ => rfl))) (sb_one (ss_ret (so_p se_bl))) sb_nil))))))) (sb_one (ss_ret (so_p se_bl))))))))))
theorem all_law (T : Facts K mg w) (LF_law : LamF K mg base ("law", none) ((("law" : Str) ++ ".<locals>.") ++ "<lambda>")) {fd : FuncData} (F : FunD K "law" "law" (defArgs s_law) (defBody s_law) (defScope s_law) [] [] (He.ga K "law") fd) : FnOk P w K mg base (L2N.CX P w) 12 (He.ga K "law") fd ["_law_script"] (spF K mg 1 f_law) := by
  have F_x_law_bag : Fn P w K mg base 1 "_law_bag" ["_law_script"] f_x_law_bag := ok_x_law_bag T 
  have F_x_law_pull : Fn P w K mg base 1 "_law_pull" ["_law_bag_here", "_law_sides"] f_x_law_pull := ok_x_law_pull T 
  have F_x_law_of : Fn P w K mg base 2 "_law_of" ["_law_bag_here", "_law_some"] f_x_law_of := ok_x_law_of T F_x_law_pull
  have F_x_law_names : Fn P w K mg base 3 "_law_names" ["_law_bag_here", "_law_many"] f_x_law_names := ok_x_law_names T F_x_law_of F_x_law_pull
  have F_x_law_command_in : Fn P w K mg base 1 "_law_command_in" ["_law_text"] f_x_law_command_in := ok_x_law_command_in T 
  have F_x_law_same : Fn P w K mg base 11 "_law_same" ["_law_found", "_law_due"] (f_x_law_same 10) := ok_x_law_same T  10
  have F_parse_command : Fn P w K mg base 3 "parse_command" ["text"] f_parse_command := ok_parse_command T 
  exact okd_law T F_x_law_bag F_x_law_command_in F_x_law_names F_x_law_of F_x_law_pull F_x_law_same F_parse_command LF_law F
end
end Lw
namespace Lw
open PySem L2 MV
/-! ### the bag -/
def bagW (ns : List Int) (a b c : Int) : W := .ol [.p (.lst (ns.map .int)), .p (.int a), .p (.int b), .p (.int c)]
def BagW (w : W) : Prop := ∃ ns a b c, w = bagW ns a b c ∧ 0 ≤ a ∧ a ≤ (ns.length : Int) ∧ 0 ≤ b ∧ 0 ≤ c ∧ c < 2147483647
theorem atI_ints {ns : List Int} {a : Int} (h0 : 0 ≤ a) (h1 : a < (ns.length : Int)) : ∃ v, L2.atI (ns.map D.int) a = some (.int v) := by
  refine ⟨ns[a.toNat]'(by omega), ?_⟩
  rw [atI_nn h0]
  simp
theorem pull_ok {w : W} (h : BagW w) {s : Int} (h0 : 0 < s) (h1 : s ≤ 1073741823) : ∃ r w', f_x_law_pull [w, .p (.int s)] = some (.p (.int r), [some w', none]) ∧ 0 ≤ r ∧ r < s ∧ BagW w' := by
  obtain ⟨ns, a, b, c, rfl, ha, ha', hb, hc, hc'⟩ := h
  have hp : CPow 10 18 := by unfold CPow; decide
  have hcc : CMul c c := .inl (by omega)
  have cm1 : ∀ x : Int, CMul x 48271 := fun x => .inr (by omega)
  have cm2 : ∀ x : Int, CMul x 911 := fun x => .inr (by omega)
  have cm3 : ∀ x : Int, CMul x 16807 := fun x => .inr (by omega)
  have cm4 : ∀ x : Int, CMul x 40692 := fun x => .inr (by omega)
  have m1 : ∀ x : Int, 0 ≤ x % 2147483647 ∧ x % 2147483647 < 2147483647 := fun x => ⟨Int.emod_nonneg _ (by decide), Int.emod_lt_of_pos _ (by decide)⟩
  have m2 : ∀ x : Int, 0 ≤ x % s ∧ x % s < s := fun x => ⟨Int.emod_nonneg _ (by omega), Int.emod_lt_of_pos _ h0⟩
  have d1 : ∀ x : Int, CDiv x 64 := fun x => ⟨by decide, by decide⟩
  have d2 : ∀ x : Int, CDiv x s := fun x => ⟨h0, by omega⟩
  have hm : ∀ x : Int, CMul (x % 2147483647) (x % 2147483647) := fun x => .inl (by have := m1 x; omega)
  have fin : ∀ (ns : List Int) (a b c : Int), 0 ≤ a → a ≤ (ns.length : Int) → 0 ≤ b → 0 ≤ c → c < 2147483647 → BagW (bagW ns a b c) := fun ns a b c h1 h2 h3 h4 h5 => ⟨ns, a, b, c, rfl, h1, h2, h3, h4, h5⟩
  unfold f_x_law_pull fsem m_x_law_pull
  by_cases hb0 : b = 0
  · by_cases hal : a < (ns.length : Int)
    · obtain ⟨v, hv⟩ := atI_ints ha hal
      by_cases hv0 : v < 0
      · by_cases hg : (10 : Int) ^ 18 ≤ -v
        · have hg' : (1000000000000000000 : Int) ≤ -v := hg
          have hg2 : 0 < -v := by omega
          simp [bagW, hb0, hal, hv, hv0, hp, hg, hg', h0, d2, outs]
          refine ⟨_, _, ⟨rfl, rfl⟩, (m2 _).1, (m2 _).2, ?_⟩
          exact fin ns (a+1) _ c (by omega) (by omega) (Int.ediv_nonneg (by omega) (by omega)) hc hc'
        · have hg' : ¬ (1000000000000000000 : Int) ≤ -v := hg
          simp [bagW, hb0, hal, hv, hv0, hp, hg, hg', h0, d1, d2, cm1, cm2, cm3, cm4, hm, outs]
          exact ⟨_, _, ⟨rfl, rfl⟩, (m2 _).1, (m2 _).2, fin ns (a+1) 0 _ (by omega) (by omega) (by omega) (m1 _).1 (m1 _).2⟩
      · by_cases hg : (10 : Int) ^ 18 ≤ v
        · have hg' : (1000000000000000000 : Int) ≤ v := hg
          have hg2 : 0 < v := by omega
          simp [bagW, hb0, hal, hv, hv0, hp, hg, hg', hg2, h0, d2, outs]
          refine ⟨_, _, ⟨rfl, rfl⟩, (m2 _).1, (m2 _).2, ?_⟩
          exact fin ns (a+1) _ c (by omega) (by omega) (Int.ediv_nonneg (by omega) (by omega)) hc hc'
        · have hg' : ¬ (1000000000000000000 : Int) ≤ v := hg
          simp [bagW, hb0, hal, hv, hv0, hp, hg, hg', h0, d1, d2, cm1, cm2, cm3, cm4, hm, outs]
          exact ⟨_, _, ⟨rfl, rfl⟩, (m2 _).1, (m2 _).2, fin ns (a+1) 0 _ (by omega) (by omega) (by omega) (m1 _).1 (m1 _).2⟩
    · simp [bagW, hb0, hal, h0, hcc, d1, d2, cm1, cm2, cm3, cm4, hm, outs]
      exact ⟨_, _, ⟨rfl, rfl⟩, (m2 _).1, (m2 _).2, fin ns a 0 _ (by omega) (by omega) (by omega) (m1 _).1 (m1 _).2⟩
  · have hb1 : 0 < b := by omega
    simp [bagW, hb0, hb1, h0, d2, outs]
    exact ⟨_, _, ⟨rfl, rfl⟩, (m2 _).1, (m2 _).2, fin ns a _ c (by omega) (by omega) (Int.ediv_nonneg (by omega) (by omega)) hc hc'⟩
end Lw

namespace Lw
open PySem L2 MV
/-! ### the same -/
def Sm : Nat → D → Prop
  | 0, _ => False
  | _ + 1, .none => True
  | _ + 1, .bool _ => True
  | _ + 1, .int _ => True
  | _ + 1, .str _ => True
  | n + 1, .lst ds => ds.length ≤ 1000000 ∧ ∀ x ∈ ds, Sm n x
  | n + 1, .tup ds => ds.length ≤ 1000000 ∧ ∀ x ∈ ds, Sm n x
  | _ + 1, _ => False
theorem zip_self : ∀ ds : List D, zipD ds ds = ds.map fun d => .tup [d, d]
  | [] => rfl
  | d :: ds => by rw [zipD, zip_self ds]; rfl
theorem bools_same : ∀ ds : List D, boolsD (ds.map fun _ => .bool true) = some (ds.map fun _ => true) := fun ds => boolsD_map
theorem isi_t : ∀ s : String, isiT s s = true := fun s => by unfold isiT; simp
theorem same_refl : ∀ (n : Nat) (d : D), Sm n d → f_x_law_same n [.p d, .p d] = some (.p (.bool true), [none, none])
  | 0, d, h => by cases d <;> exact h.elim
  | n + 1, d, h => by
    have h1 : isiT "list" "bool" = false := by decide
    have h2 : isiT "list" "int" = false := by decide
    have h3 : isiT "list" "str" = false := by decide
    have h4 : isiT "list" "tuple" = false := by decide
    have h5 : isiT "tuple" "bool" = false := by decide
    have h6 : isiT "tuple" "int" = false := by decide
    have h7 : isiT "tuple" "str" = false := by decide
    have h8 : isiT "tuple" "list" = false := by decide
    have h9 : isiT "int" "bool" = false := by decide
    have h10 : isiT "str" "bool" = false := by decide
    have h11 : isiT "str" "int" = false := by decide
    have h12 : isiT "int" "str" = false := by decide
    have lc : ∀ (a b : Option W) (ds : List D), (∀ x ∈ ds, Sm n x) → lcRun [2, 3] (gT 2 (gsCons (gN 2) (gsCons (gN 3) gsNil))) (fun e => some (true, e)) (mGetP (mCall (f_x_law_same n) (aD (mVar 2) (aD (mVar 3) aNil)))) (zipD ds ds) [a, b, none, none] = some (ds.map (fun _ => .bool true), [a, b, none, none]) := fun a b ds hs => by
      rw [zip_self, lcRun_map (fun _ => .bool true)]
      · simp
      · intro d hd
        obtain ⟨x, hx, rfl⟩ := List.mem_map.mp hd
        have := same_refl n x (hs x hx)
        exact ⟨[a, b, some (.p x), some (.p x)], _, [a, b, some (.p x), some (.p x)], by simp, rfl, by simp [this], by simp⟩
    have zl : ∀ ds : List D, (zipD ds ds).length = ds.length := fun ds => by rw [zip_self]; simp
    cases d with
    | none => simp [f_x_law_same, fsem, m_x_law_same, b_x_law_same_0, outs]
    | bool b => simp [f_x_law_same, fsem, m_x_law_same, b_x_law_same_0, isi_t, outs]
    | int b => simp [f_x_law_same, fsem, m_x_law_same, b_x_law_same_0, isi_t, h9, h12, outs]
    | str b => simp [f_x_law_same, fsem, m_x_law_same, b_x_law_same_0, isi_t, h10, h11, outs]
    | lst ds => simp [f_x_law_same, fsem, m_x_law_same, b_x_law_same_0, isi_t, h1, h2, h3, h4, h.1, outs, lc _ _ ds h.2, zl, bools_same]
    | tup ds => simp [f_x_law_same, fsem, m_x_law_same, b_x_law_same_0, isi_t, h5, h6, h7, h8, h.1, outs, lc _ _ ds h.2, zl, bools_same]
    | fl ds => exact h.elim
    | ft ds => exact h.elim
    | exc _ _ _ _ => exact h.elim
    | dict es => exact h.elim
    | inst _ _ => exact h.elim
end Lw

namespace Lw
open PySem L2 MV
/-! ### small helps -/
theorem pd_lit {n : Nat} {s : Str} (h : PyData.strOk s = true) : Pd n (.str s) := by cases n <;> exact h
theorem ne_same {n : Nat} {d : D} (h : Pd n d) (hn : n ≤ 60) : dNe d d = some (.bool false) := by
  rw [ne_pd h h hn hn]
  simp
theorem eq_same {n : Nat} {d : D} (h : Pd n d) (hn : n ≤ 60) : dEq d d = some (.bool true) := by
  rw [eq_pd h h hn hn]
  simp
theorem pd_two {n : Nat} {a b : D} (ha : Pd n a) (hb : Pd n b) : Pd (n + 1) (.tup [a, b]) := fun d hd => by
  simp only [List.mem_cons, List.not_mem_nil, or_false] at hd
  rcases hd with rfl | rfl <;> assumption
theorem ne_none : dNe (.tup [.str "", .none]) (.tup [.str "", .none]) = some (.bool false) := by
  have h : eqDeep (.tup [.str "", .none]) (.tup [.str "", .none]) = some true := by
    unfold eqDeep
    decide +kernel
  show (eqDeep _ _).map _ = _
  rw [h]
  rfl
theorem dadd_t {xs ys : List D} (h : xs.length + ys.length ≤ 1000000) : dAdd (.tup xs) (.tup ys) = some (.tup (xs ++ ys)) := by
  have : xs.length + ys.length ≤ LIM := by unfold LIM; omega
  unfold dAdd
  simp [this]
theorem dadd_ll {xs ys : List D} (h : xs.length + ys.length ≤ 1000000) : dAdd (.lst xs) (.lst ys) = some (.lst (xs ++ ys)) := by
  have : xs.length + ys.length ≤ LIM := by unfold LIM; omega
  unfold dAdd
  simp [this]
theorem ix_last {α : Type} {f : α → D} {l : List α} (h : l ≠ []) : dIx (.lst (l.map f)) (.int (-1)) = some (f (l.getLast h)) := by
  have e : l.map f = l.dropLast.map f ++ [f (l.getLast h)] := by
    conv => lhs; rw [← List.dropLast_concat_getLast h]
    rw [List.map_append]; rfl
  show L2.atI (l.map f) (-1) = _
  rw [e]
  exact L2.atI_last _ _
end Lw

namespace Lw
open PySem L2 MV
theorem LIM_le {n : Nat} (h : n ≤ 1000000) : n ≤ LIM := by unfold LIM; omega
theorem bag_nex {w : W} (h : BagW w) : nex w = true := by obtain ⟨_, _, _, _, rfl, _⟩ := h; rfl
theorem of_l {w : W} (hw : BagW w) {ds : List D} (h0 : 0 < ds.length) (h1 : ds.length ≤ 1000000) : ∃ d w', f_x_law_of [w, .p (.lst ds)] = some (.p d, [some w', none]) ∧ d ∈ ds ∧ BagW w' := by
  obtain ⟨r, w', e, h2, h3, h4⟩ := pull_ok hw (s := ds.length) (by omega) (by omega)
  have hr : r.toNat < ds.length := by omega
  have ha : L2.atI ds r = some (ds[r.toNat]'hr) := by rw [atI_nn h2, List.getElem?_eq_getElem hr]
  refine ⟨ds[r.toNat]'hr, w', ?_, List.getElem_mem hr, h4⟩
  simp [f_x_law_of, fsem, m_x_law_of, e, outs, ha]
theorem bag_ok (ns : List Int) (h : ns.length ≤ 63) : ∃ w, f_x_law_bag [.p (.fl (ns.map .int))] = some (w, [none]) ∧ BagW w := by
  refine ⟨bagW (ns.take 63) 0 0 9485, ?_, ⟨_, _, _, _, rfl, by omega, by omega, by omega, by omega, by omega⟩⟩
  have ct : cutD (ns.map D.int) none (some 63) = (ns.take 63).map D.int := by
    unfold cutD
    rw [show HT.sIx (ns.map D.int).length 0 none = 0 from rfl, List.drop_zero, Nat.sub_zero]
    have : HT.sIx (ns.map D.int).length (ns.map D.int).length (some 63) = min 63 ns.length := by
      rw [List.length_map]
      rfl
    rw [this, ← List.map_take]
    congr 1
    rw [List.take_eq_take_iff]
    omega
  simp [f_x_law_bag, fsem, m_x_law_bag, dSl, ct, outs, bagW]
theorem orX_bag {w : W} (h : BagW w) {e : MV.Env} {r : SR} : orX w e r = r := orX_ne (bag_nex h)
end Lw

namespace Lw
open PySem L2 MV
theorem rng_mem {n : Nat} {d : D} {lo : Int} (h : d ∈ rngD lo n) : ∃ i : Int, d = .int i ∧ lo ≤ i ∧ i < lo + n := by
  unfold rngD at h
  obtain ⟨i, hi, rfl⟩ := List.mem_map.mp h
  exact ⟨_, rfl, by omega, by have := List.mem_range.mp hi; omega⟩
theorem rng_len {n : Nat} {lo : Int} : (rngD lo n).length = n := by simp [rngD]
theorem sIx_nn {n d : Nat} {k : Int} (h : 0 ≤ k) : HT.sIx n d (some k) = min k.toNat n := by
  show (if k < 0 then _ else _) = _
  rw [if_neg (by omega)]
theorem cutD_to {ds : List D} {k : Int} (h : 0 ≤ k) : cutD ds none (some k) = ds.take k.toNat := by
  unfold cutD
  rw [sIx_nn h, show HT.sIx ds.length 0 none = 0 from rfl, List.drop_zero, Nat.sub_zero]
  rw [List.take_eq_take_iff]
  omega
theorem cutD_from {ds : List D} {k : Int} (h : 0 ≤ k) : cutD ds (some k) none = ds.drop k.toNat := by
  unfold cutD
  rw [sIx_nn h, show HT.sIx ds.length ds.length none = ds.length from rfl]
  by_cases hk : k.toNat ≤ ds.length
  · rw [Nat.min_eq_left hk, List.take_of_length_le (by simp)]
  · rw [Nat.min_eq_right (by omega), List.drop_eq_nil_of_le (by omega), List.drop_eq_nil_of_le (by omega)]; simp
theorem fs_gN {b : S} {i : Nat} {d : D} {e : MV.Env} : forStep (gN i) b d e = b (e.set i (some (.p d))) := by
  cases h : b (e.set i (some (.p d))) <;> simp [forStep, h]
end Lw

namespace Lw
open PySem L2 MV
theorem lcRun_mapF {α : Type} {own : List Nat} {tg : Tg} {c : M Bool} {m : M D} {e : MV.Env} (g f : α → D) : ∀ (xs : List α), (∀ x ∈ xs, ∃ e1 e2 e3, tg (g x) e = some e1 ∧ c e1 = some (true, e2) ∧ m e2 = some (f x, e3) ∧ wipeE e3 own = e) → lcRun own tg c m (xs.map g) e = some (xs.map f, e)
  | [], _ => rfl
  | x :: xs, k => by
    obtain ⟨e1, e2, e3, h1, h2, h3, h4⟩ := k x (by simp)
    simp [lcRun, h1, h2, h3, h4, lcRun_mapF g f xs fun x hx => k x (by simp [hx])]
/-! ### the two deciders -/
/-- the text of these signs -/
def T (l : List Nat) : Str := ⟨l.toArray⟩
theorem T_tl (y : Str) : T y.cps.toList = y := rfl
@[simp] theorem T_sg {l : List Nat} : (T l).cps.toList = l := rfl
@[simp] theorem T_len {l : List Nat} : (T l).length = l.length := by simp [T, Str.length]
def inS (z : Str) (c : Nat) : Bool := decide (c ∈ z.cps.toList)
def nameB (z : Str) (l : List Nat) : Bool := decide (1 ≤ l.length) && (decide (l.length ≤ 8) && l.all fun c => inS z c)
abbrev sg (c : Nat) : D := .str (T [c])
theorem dIn_c {c : Nat} {z : Str} : dIn (sg c) (.str z) = some (.bool (inS z c)) := rfl
theorem chars_T {l : List Nat} : ((T l).cps.toList.map fun c => D.str ⟨#[c]⟩) = l.map sg := rfl
theorem itx_T {l : List Nat} {e : MV.Env} : ixK (some (.str (T l), e)) = some (l.map sg, e) := rfl
theorem lc_in {l : List Nat} {z : Str} {a : Option W} : lcRun [1] (gN 1) (fun e => some (true, e)) (mOp dIn (mVar 1) (mC (.str z))) (l.map sg) [a, none] = some (l.map fun c => .bool (inS z c), [a, none]) := by
  rw [lcRun_mapF sg (fun c => .bool (inS z c))]
  intro c _
  exact ⟨_, _, [a, some (.p (sg c))], by simp; rfl, rfl, rfl, by simp⟩
theorem lc_in2 {l : List Nat} {z : Str} {a : Option W} : lcRun [2] (gN 2) (fun e => some (true, e)) (mOp dIn (mVar 2) (mVar 1)) (l.map sg) [a, some (.p (.str z)), none] = some (l.map fun c => .bool (inS z c), [a, some (.p (.str z)), none]) := by
  rw [lcRun_mapF sg (fun c => .bool (inS z c))]
  intro c _
  exact ⟨_, _, [a, some (.p (.str z)), some (.p (sg c))], by simp; rfl, rfl, rfl, by simp⟩
def letters : Str := "abcdefghijklmnopqrstuvwxyz"
def signs : Str := "abcdefghijklmnopqrstuvwxyz0123456789"
theorem all_in {l : List Nat} {z : Str} : fAll [.lst (l.map fun c => .bool (inS z c))] = some (.bool (l.all fun c => inS z c)) := by
  rw [fAll_l, boolsD_map]
  simp only [Option.map_some, List.all_map]
  rfl
theorem nat_le {a b : Nat} : decide ((a : Int) ≤ (b : Int)) = decide (a ≤ b) := by simp
theorem of_txt {w : W} (hw : BagW w) {l : List Nat} (h0 : 0 < l.length) (h1 : l.length ≤ 1000000) : ∃ c w', f_x_law_of [w, .p (.str (T l))] = some (.p (sg c), [some w', none]) ∧ c ∈ l ∧ BagW w' := by
  obtain ⟨r, w', e, h2, h3, h4⟩ := pull_ok hw (s := l.length) (by omega) (by omega)
  have hl : l.length ≤ LIM := by unfold LIM; omega
  have hr : r.toNat < l.length := by omega
  have ha : L2.atI l r = some (l[r.toNat]'hr) := by rw [atI_nn h2, List.getElem?_eq_getElem hr]
  refine ⟨l[r.toNat]'hr, w', ?_, List.getElem_mem hr, h4⟩
  simp [f_x_law_of, fsem, m_x_law_of, hl, e, outs, ha]
  rfl
end Lw

namespace Lw
open PySem L2 MV
theorem strs_sg : ∀ (ys : List D), (∀ y ∈ ys, ∃ c, y = sg c) → ∃ cs : List Nat, ys = cs.map sg
  | [], _ => ⟨[], rfl⟩
  | y :: ys, h => by
    obtain ⟨c, rfl⟩ := h y (by simp)
    obtain ⟨cs, rfl⟩ := strs_sg ys fun y hy => h y (by simp [hy])
    exact ⟨c :: cs, rfl⟩
theorem strsD_sg : ∀ cs : List Nat, strsD (cs.map sg) = some (cs.map fun c => T [c])
  | [] => rfl
  | c :: cs => by show (strsD (cs.map sg)).map _ = _; rw [strsD_sg cs]; rfl
theorem lens_sg (cs : List Nat) : ((cs.map fun c => T [c]).map (·.length)).sum = cs.length := by
  induction cs with
  | nil => rfl
  | cons c cs ih => simp [ih] at ih ⊢; omega
theorem joinL_nil : ∀ cs : List (List Nat), TL.joinL [] cs = cs.flatten
  | [] => rfl
  | [x] => by simp [TL.joinL]
  | x :: y :: r => by
    have := joinL_nil (y :: r)
    simp [TL.joinL] at this ⊢
    try exact this
theorem flat_sg : ∀ cs : List Nat, (cs.map fun c => [c]).flatten = cs
  | [] => rfl
  | c :: cs => by rw [List.map_cons, List.flatten_cons, flat_sg cs]; rfl
theorem join_sg {cs : List Nat} (h : cs.length ≤ 1000000) : joinD (.str "") (.lst (cs.map sg)) = some (.str (T cs)) := by
  have hl : cs.length ≤ LIM := by unfold LIM; omega
  have e1 : (cs.map fun c => T [c]) = (cs.map fun c => [c]).map SX.S := by simp [T]
  have e2 : Txt.join (Str.ofString "") (cs.map fun c => T [c]) = T cs := by
    rw [e1]
    have := SX.join_S [] (cs.map fun c => [c])
    refine this.trans ?_
    rw [joinL_nil]
    rw [flat_sg]
    rfl
  have e3 : (Str.ofString "").length = 0 := rfl
  rw [joinD_l, strsD_sg, Option.bind_some, lens_sg, e3, e2]
  simp [hl]
theorem cutS_T {l : List Nat} {lo hi : Option Int} : ∃ l', cutS (T l) lo hi = T l' ∧ l'.length ≤ l.length := ⟨(cutS (T l) lo hi).cps.toList, rfl, by
  have := cutS_length (T l) lo hi
  rw [T_len] at this
  simpa [Str.length] using this⟩
theorem T_cat {a b : List Nat} : T a ++ T b = T (a ++ b) := SX.S_cat a b
def allSigns0 : Str := "abcdefghijklmnopqrstuvwxyz0123456789AZ _-~\n"
theorem allSigns0_T : allSigns0 = T allSigns0.cps.toList := rfl
end Lw

namespace Lw
open PySem L2 MV
/-! ### texts -/
abbrev sT (l : List Nat) : D := .str (T l)
theorem cut_to {l : List Nat} {k : Int} (h : 0 ≤ k) : cutS (T l) none (some k) = T (l.take k.toNat) := by
  unfold cutS T
  have e1 : HT.sIx (Str.length ⟨l.toArray⟩) 0 none = 0 := rfl
  have e2 : HT.sIx (Str.length ⟨l.toArray⟩) (Str.length ⟨l.toArray⟩) (some k) = min k.toNat l.length := by
    show (if k < 0 then (k + (Str.length ⟨l.toArray⟩ : Int)).toNat else min k.toNat (Str.length ⟨l.toArray⟩)) = _
    rw [if_neg (by omega)]
    simp [Str.length]
  rw [e1, e2, Nat.sub_zero, List.drop_zero]
  congr 2
  show l.take (min k.toNat l.length) = l.take k.toNat
  rw [List.take_eq_take_iff]
  omega
theorem cut_from {l : List Nat} {k : Int} (h : 0 ≤ k) : cutS (T l) (some k) none = T (l.drop k.toNat) := by
  unfold cutS T
  have e1 : HT.sIx (Str.length ⟨l.toArray⟩) 0 (some k) = min k.toNat l.length := by
    show (if k < 0 then (k + (Str.length ⟨l.toArray⟩ : Int)).toNat else min k.toNat (Str.length ⟨l.toArray⟩)) = _
    rw [if_neg (by omega)]
    simp [Str.length]
  have e2 : HT.sIx (Str.length ⟨l.toArray⟩) (Str.length ⟨l.toArray⟩) none = l.length := by
    show Str.length ⟨l.toArray⟩ = _
    simp [Str.length]
  rw [e1, e2]
  congr 2
  show (l.drop (min k.toNat l.length)).take (l.length - min k.toNat l.length) = l.drop k.toNat
  by_cases hk : k.toNat ≤ l.length
  · rw [Nat.min_eq_left hk, List.take_of_length_le (by simp)]
  · rw [Nat.min_eq_right (by omega), List.drop_eq_nil_of_le (Nat.le_refl _), List.drop_eq_nil_of_le (by omega)]; simp
theorem fold_rep (c : Nat) : ∀ (n : Nat) (a : Array Nat), ((List.replicate n #[c]).foldl (· ++ ·) a).toList = a.toList ++ List.replicate n c
  | 0, a => by simp
  | n + 1, a => by
    rw [List.replicate_succ, List.foldl_cons, fold_rep c n]
    simp [List.replicate_succ]
theorem mul_T1 {c n : Nat} : Txt.mul (T [c]) (n : Int) = T (List.replicate n c) := by
  unfold Txt.mul
  by_cases h0 : n = 0
  · subst h0; rfl
  · rw [if_neg (by omega)]
    by_cases h1 : n = 1
    · subst h1; rfl
    · have : ((n : Int) == 1 || (T [c]).length == 0) = false := by
        have : ¬ (n : Int) = 1 := by omega
        simp [this]
      rw [this]
      simp only [Bool.false_eq_true, if_false]
      have := fold_rep c n #[]
      unfold T
      congr 1
      apply Array.ext'
      rw [Int.toNat_natCast]
      simpa using this
theorem mul_T0 {n : Int} (h : n ≤ 0) : Txt.mul (T []) n = T [] := by
  unfold Txt.mul
  rw [if_pos (by omega)]
  rfl
theorem sg_mk {c : Nat} : (⟨#[c]⟩ : Str) = T [c] := rfl
def Lt : List Nat := letters.cps.toList
def Sg : List Nat := signs.cps.toList
theorem Lt_inj : ∀ i < 26, ∀ j < 26, Lt[i]? = Lt[j]? → i = j := by decide +kernel
theorem Sg_inj : ∀ i < 36, ∀ j < 36, Sg[i]? = Sg[j]? → i = j := by decide +kernel
theorem Lt_len : Lt.length = 26 := by decide +kernel
theorem Sg_len : Sg.length = 36 := by decide +kernel
theorem inS_iff {z : Str} {c : Nat} : inS z c = true ↔ c ∈ z.cps.toList := by unfold inS; simp
theorem nameB_iff {z : Str} {l : List Nat} : nameB z l = true ↔ (1 ≤ l.length ∧ l.length ≤ 8) ∧ ∀ c ∈ l, c ∈ z.cps.toList := by
  unfold nameB
  simp only [Bool.and_eq_true, decide_eq_true_eq, List.all_eq_true, inS_iff]
  constructor
  · rintro ⟨a, b, c⟩; exact ⟨⟨a, b⟩, c⟩
  · rintro ⟨⟨a, b⟩, c⟩; exact ⟨a, b, c⟩
/-- a drawn stem -/
theorem stem_ok {S : List (Option W)} {n : Nat} {z : List Nat} {b : M D} {own : List Nat} {tg : Tg} (E : W → MV.Env) (hz : 0 < z.length) (hz1 : z.length ≤ 1000)
    (hb : ∀ w d, BagW w → ∃ (c : Nat) (w' : W), lcStep own tg (fun e => some (true, e)) b d (E w) = some (some (sg c), E w') ∧ c ∈ z ∧ BagW w') {w : W} (hw : BagW w) :
    ∃ (cs : List Nat) (w' : W), lcRun own tg (fun e => some (true, e)) b (rngD 0 n) (E w) = some (cs.map sg, E w') ∧ cs.length = n ∧ (∀ c ∈ cs, c ∈ z) ∧ BagW w' := by
  obtain ⟨ys, e', h1, w', hw', rfl, cs, rfl, hl, hc⟩ := lcRun_st (own := own) (tg := tg) (c := fun e => some (true, e)) (m := b) (g := id) (fun pre acc e => ∃ w', BagW w' ∧ e = E w' ∧ ∃ cs : List Nat, acc = cs.map sg ∧ cs.length = pre.length ∧ ∀ c ∈ cs, c ∈ z) (rngD 0 n) (by
    rintro pre x post acc e hx ⟨w', hw', rfl, cs, rfl, hl, hc⟩
    obtain ⟨c, w2, h1, h2, h3⟩ := hb w' x hw'
    refine ⟨_, _, h1, w2, h3, rfl, cs ++ [c], by simp, by simp [hl], fun c' hc' => ?_⟩
    rcases List.mem_append.mp hc' with q | q
    · exact hc c' q
    · rw [List.mem_singleton] at q; subst q; exact h2) (E w) ⟨w, hw, rfl, [], rfl, rfl, by simp⟩
  rw [List.map_id] at h1
  exact ⟨cs, w', h1, by rw [hl, rng_len], hc, hw'⟩
theorem names_ok {w : W} (hw : BagW w) {m : Nat} (hm : m ≤ 20) : ∃ (ls : List (List Nat)) (w' : W), f_x_law_names [w, .p (.int m)] = some (.p (.lst (ls.map sT)), [some w', none]) ∧ ls.length = m ∧ (∀ l ∈ ls, nameB letters l = true) ∧ ls.Nodup ∧ BagW w' := by
  have es : (Str.ofString "abcdefghijklmnopqrstuvwxyz") = T Lt := rfl
  have e0 : (Str.ofString "") = T [] := rfl
  obtain ⟨r7, w1, p7, r70, r71, hw1⟩ := pull_ok hw (s := 7) (by omega) (by omega)
  obtain ⟨st0, w2, h2, st0l, st0c, hw2⟩ := stem_ok (S := []) (n := r7.toNat) (z := Lt) (own := [7]) (tg := gN 7) (b := b_x_law_names_0) (fun w => [some w, some (.p (.int m)), some (.p (.str (T Lt))), none, none, none, none, none, none]) (by rw [Lt_len]; omega) (by rw [Lt_len]; omega) (by
    intro w d hw
    obtain ⟨c, w', e, hc, hw'⟩ := of_txt hw (l := Lt) (by rw [Lt_len]; omega) (by rw [Lt_len]; omega)
    exact ⟨c, w', by simp [lcStep, b_x_law_names_0, e], hc, hw'⟩) hw1
  have st0n : st0.length ≤ 6 := by omega
  -- one letter throughout
  obtain ⟨st, w3, hif, stl, stc, hw3⟩ : ∃ (st : List Nat) (w3 : W), (sIf (mBool (mOp dEq (mGetP (mCall f_x_law_pull (aIO 0 (aD (mC (.int 2)) aNil)))) (mC (.int 0)))) ((sSet 3 (mP (mOp dMul (mSl dSl (mVar 3) mNoI (mOptI (mC (.int 1)))) (mDisp fLen (aD (mVar 3) aNil)))))) (sNext)) [some w2, some (.p (.int m)), some (.p (.str (T Lt))), some (.p (.str (T st0))), none, none, none, none, none] = some (.nx [some w3, some (.p (.int m)), some (.p (.str (T Lt))), some (.p (.str (T st))), none, none, none, none, none]) ∧ st.length ≤ 6 ∧ (∀ c ∈ st, c ∈ Lt) ∧ BagW w3 := by
    obtain ⟨r2, w3, p2, _, _, hw3⟩ := pull_ok hw2 (s := 2) (by omega) (by omega)
    by_cases z : r2 = 0
    · have hL : st0.length ≤ LIM := LIM_le (by omega)
      cases st0 with
      | nil => exact ⟨[], w3, by simp [p2, z, dSl, cut_to, dMul, mul_T0, LIM_le], by simp, by simp, hw3⟩
      | cons c r =>
        refine ⟨List.replicate (r.length + 1) c, w3, ?_, by simp at st0n ⊢; omega, fun d hd => ?_, hw3⟩
        · have h3 : r.length + 1 ≤ LIM := LIM_le (by simp at st0n; omega)
          have h4 : (r.length : Int) + 1 ≤ 1000000 := by simp at st0n; omega
          have h5 : (0 : Int) ≤ (r.length : Int) + 1 := by omega
          have h6 : ((r.length : Int) + 1).toNat = r.length + 1 := by omega
          have h7 := @mul_T1 c (r.length + 1)
          have h8 : (1 : Nat) ≤ LIM := LIM_le (by omega)
          simp at h7
          simp [p2, z, dSl, cut_to, dMul, h3, h4, h5, h6, h7, h8]
        · rw [List.eq_of_mem_replicate hd]; exact st0c c (by simp)
    · exact ⟨st0, w3, by simp [p2, z], st0n, st0c, hw3⟩
  obtain ⟨spot, w4, p4, s0, s1, hw4⟩ := pull_ok hw3 (s := st.length + 1) (by omega) (by omega)
  obtain ⟨first, w5, p5, f0, f1, hw5⟩ := pull_ok hw4 (s := 26) (by omega) (by omega)
  obtain ⟨sp, rfl⟩ : ∃ sp : Nat, spot = sp := ⟨spot.toNat, by omega⟩
  obtain ⟨fi, rfl⟩ : ∃ fi : Nat, first = fi := ⟨first.toNat, by omega⟩
  have hsp : sp ≤ st.length := by omega
  have hfi : fi < 26 := by omega
  have loop := forRun_st (tg := gN 7) (b := b_x_law_names_1) (g := fun (i : Nat) => D.int (0 + (i : Int))) (fun pre e => ∃ (w' : W) (ls : List (List Nat)), BagW w' ∧ e = [some w', some (.p (.int m)), some (.p (.str (T Lt))), some (.p (.str (T st))), some (.p (.int sp)), some (.p (.int fi)), some (.ol (ls.map fun l => .p (sT l))), none, none] ∧ ls.length = pre.length ∧
      ∀ j l, ls[j]? = some l → l[sp]? = Lt[(fi + 7 * j) % 26]? ∧ nameB letters l = true) (List.range m) (by
    rintro pre i post e hx ⟨w', ls, hw', rfl, hl, hg⟩
    have hk : pre.length < m := by
      have := congrArg List.length hx
      simp at this
      omega
    have hi : i = pre.length := by
      have h1 : (List.range m)[pre.length]? = some i := by rw [hx]; simp
      rw [List.getElem?_range hk] at h1
      cases h1
      rfl
    obtain ⟨r4, w6, p6, _, _, hw6⟩ := pull_ok hw' (s := 4) (by omega) (by omega)
    have hmod : (fi + 7 * i) % 26 < Lt.length := by rw [Lt_len]; omega
    obtain ⟨ch, hch⟩ : ∃ ch, Lt[(fi + 7 * i) % 26]? = some ch := ⟨_, List.getElem?_eq_getElem hmod⟩
    have hchL : ch ∈ Lt := List.mem_of_getElem? hch
    have hat : L2.atI Lt (((fi : Int) + 7 * (i : Int)) % 26) = some ch := by
      rw [show ((fi : Int) + 7 * (i : Int)) % 26 = (((fi + 7 * i) % 26 : Nat) : Int) by omega, atI_cast]
      exact hch
    obtain ⟨one, hone⟩ : ∃ one, one = st.take sp ++ ch :: st.drop sp := ⟨_, rfl⟩
    have hol : one.length = st.length + 1 := by rw [hone]; simp; omega
    have hoc : ∀ c ∈ one, c ∈ Lt := fun c hc => by
      rw [hone] at hc
      simp only [List.mem_append, List.mem_cons] at hc
      rcases hc with hc | hc | hc
      · exact stc c (List.mem_of_mem_take hc)
      · subst hc; exact hchL
      · exact stc c (List.mem_of_mem_drop hc)
    have hosp : one[sp]? = some ch := by
      have e1 : (st.take sp).length = sp := by simp; omega
      rw [hone, List.getElem?_append_right (by omega), e1, Nat.sub_self]
      rfl
    obtain ⟨l, hfin, hl1, hl2⟩ : ∃ l : List Nat, (∃ k : Nat, sp + 1 ≤ k ∧ l = one.take k) ∧ l[sp]? = some ch ∧
        forStep (gN 7) b_x_law_names_1 (.int (0 + (i : Int))) [some w', some (.p (.int m)), some (.p (.str (T Lt))), some (.p (.str (T st))), some (.p (.int sp)), some (.p (.int fi)), some (.ol (ls.map fun l => .p (sT l))), none, none] = some (.nx [some w6, some (.p (.int m)), some (.p (.str (T Lt))), some (.p (.str (T st))), some (.p (.int sp)), some (.p (.int fi)), some (.ol ((ls ++ [l]).map fun l => .p (sT l))), none, none]) := by
      have hA : st.length ≤ LIM := LIM_le (by omega)
      have hB : min sp st.length + 1 ≤ LIM := LIM_le (by omega)
      have hC : min sp st.length + 1 + (st.length - sp) ≤ LIM := LIM_le (by omega)
      have hD : (26 : Nat) ≤ LIM := LIM_le (by omega)
      have hE : ls.length < 1000000 := by omega
      have cm : CMul 7 (i : Int) := .inl (by omega)
      have cd : ∀ x : Int, CDiv x 26 := fun x => ⟨by decide, by decide⟩
      have hF : (26 : Nat) ≤ LIM := LIM_le (by omega)
      by_cases z : r4 = 0
      · have hM : (0 : Int) ≤ (if (one.length : Int) - i > (sp : Int) + 1 then (one.length : Int) - i else (sp : Int) + 1) := by split <;> omega
        obtain ⟨kk, hkk⟩ : ∃ kk : Nat, (if (one.length : Int) - i > (sp : Int) + 1 then (one.length : Int) - i else (sp : Int) + 1) = kk := ⟨_, (Int.toNat_of_nonneg hM).symm⟩
        have hkk1 : sp + 1 ≤ kk := by split at hkk <;> omega
        have hOl : one.length ≤ LIM := LIM_le (by omega)
        refine ⟨one.take kk, ⟨kk, hkk1, rfl⟩, by rw [List.getElem?_take_of_lt (by omega)]; exact hosp, ?_⟩
        simp [forStep, b_x_law_names_1, p6, z, dSl, cut_to, cut_from, hA, Lt_len, hF, cm, cd, hat, dAdd, T_cat, hE, sg_mk, hB, hC, ← hone, hOl, fMax2]
        have hkk2 : (if (sp : Int) + 1 < (one.length : Int) - i then (one.length : Int) - i else (sp : Int) + 1) = kk := hkk
        rw [hkk2, cut_to (by omega)]
        simp
      · refine ⟨one, ⟨one.length, by rw [hol]; omega, by rw [List.take_length]⟩, hosp, ?_⟩
        simp [forStep, b_x_law_names_1, p6, z, dSl, cut_to, cut_from, hA, Lt_len, hF, cm, cd, hat, dAdd, T_cat, hE, sg_mk, hB, hC, ← hone]
    obtain ⟨k, hk1, rfl⟩ := hfin
    refine ⟨_, .inl hl2, w6, ls ++ [one.take k], hw6, rfl, by simp [hl], fun j l hj => ?_⟩
    by_cases q : j < ls.length
    · rw [List.getElem?_append_left q] at hj
      exact hg j l hj
    · have hj2 : j = ls.length := by
        have := (List.getElem?_eq_some_iff.mp hj).1
        simp at this
        omega
      subst hj2
      rw [List.getElem?_append_right (Nat.le_refl _), Nat.sub_self] at hj
      cases hj
      refine ⟨by rw [hl1, hl, ← hi, hch], nameB_iff.mpr ⟨⟨?_, ?_⟩, fun c hc => hoc c (List.mem_of_mem_take hc)⟩⟩
      · simp; omega
      · simp; omega) [some w5, some (.p (.int m)), some (.p (.str (T Lt))), some (.p (.str (T st))), some (.p (.int sp)), some (.p (.int fi)), some (.ol []), none, none] ⟨w5, [], hw5, rfl, rfl, by simp⟩
  obtain ⟨e', l1, w6, ls, hw6, rfl, hl, hg⟩ := loop
  rw [List.length_range] at hl
  refine ⟨ls, w6, ?_, hl, fun l h => ?_, ?_, hw6⟩
  · have hr7 : (-1000000 : Int) ≤ r7 ∧ r7 ≤ 1000000 := by omega
    have hrm : (-1000000 : Int) ≤ m ∧ (m : Int) ≤ 1000000 := by omega
    have hrl : (rngD 0 r7.toNat).length ≤ 1000000 := by rw [rng_len]; omega
    have hst : st.length ≤ LIM := LIM_le (by omega)
    have hj := join_sg (cs := st0) (by omega)
    rw [e0] at hj
    unfold f_x_law_names fsem m_x_law_names
    rw [es, e0]
    have n4 : nex (W.p (.int sp)) = true := rfl
    simp [-ev_sif, -joinD_l, p7, hr7, hrl, h2, hj]
    simp [-ev_sif, hif, hst, p4, p5, hrm]
    rw [show (List.range m).map (fun (i : Nat) => D.int (0 + (i : Int))) = rngD 0 m from rfl] at l1
    rw [l1]
    simp [outs]
  · obtain ⟨j, hj⟩ := List.mem_iff_getElem?.mp h
    exact (hg j l hj).2
  · refine List.pairwise_iff_getElem.mpr fun i j hi hj hij he => ?_
    have g1 := (hg i ls[i] (List.getElem?_eq_getElem hi)).1
    have g2 := (hg j ls[j] (List.getElem?_eq_getElem hj)).1
    rw [he, g2] at g1
    have := Lt_inj _ (Nat.mod_lt _ (by omega)) _ (Nat.mod_lt _ (by omega)) g1
    omega
end Lw

namespace Lw
open PySem L2 MV
theorem T_inj {a b : List Nat} : T a = T b ↔ a = b := ⟨fun h => SX.S_inj h, fun h => by rw [h]⟩
end Lw

namespace Lw
open PySem L2 MV
theorem in_tS {v : List Nat} {ms : List (List Nat)} : dIn (sT v) (.tup (ms.map sT)) = some (.bool (decide (v ∈ ms))) := by
  have h1 : (List.map sT ms).all flatD = true := by
    rw [List.all_map]; exact List.all_eq_true.mpr fun _ _ => rfl
  have h2 : ((List.map sT ms).any fun z => eqF z (sT v)) = decide (v ∈ ms) := by
    rw [List.any_map]
    induction ms with
    | nil => rfl
    | cons m r ih =>
      rw [List.any_cons, ih (by rw [List.all_map]; exact List.all_eq_true.mpr fun _ _ => rfl)]
      have : ((fun z => eqF z (sT v)) ∘ sT) m = decide (m = v) := by
        show decide (T m = T v) = _
        simp [T_inj]
      rw [this]
      by_cases q : m = v
      · subst q; simp
      · have q' : ¬ v = m := fun z => q z.symm
        simp [q, q']
  unfold dIn inB
  simp only [h1, h2, show flatD (sT v) = true from rfl]
  rfl
theorem nin_tS {v : List Nat} {ms : List (List Nat)} : dNotIn (sT v) (.tup (ms.map sT)) = some (.bool !decide (v ∈ ms)) := by
  have := @in_tS v ms
  unfold dIn at this
  unfold dNotIn
  cases q : inB (sT v) (.tup (ms.map sT)) with
  | none => rw [q] at this; cases this
  | some b => rw [q] at this; cases this; rfl
theorem in_lS {v : List Nat} {ms : List (List Nat)} : dIn (sT v) (.lst (ms.map sT)) = some (.bool (decide (v ∈ ms))) := by
  have h := @in_tS v ms
  have h1 : (List.map sT ms).all flatD = true := by
    rw [List.all_map]; exact List.all_eq_true.mpr fun _ _ => rfl
  unfold dIn inB at h ⊢
  simp only [h1, show flatD (sT v) = true from rfl, Bool.and_self, if_true, Option.map_some] at h ⊢
  exact h
theorem nin_lS {v : List Nat} {ms : List (List Nat)} : dNotIn (sT v) (.lst (ms.map sT)) = some (.bool !decide (v ∈ ms)) := by
  have := @in_lS v ms
  unfold dIn at this
  unfold dNotIn
  cases q : inB (sT v) (.lst (ms.map sT)) with
  | none => rw [q] at this; cases this
  | some b => rw [q] at this; cases this; rfl
end Lw

namespace Lw
open PySem L2 MV
/-! ### what is told of an exception -/
theorem told_of {c : Str} {gs : List (Str × D)} {fd : D} (h : ∀ a dx, ∃ e, m_x_law_field a dx (some (.p (.exc a dx c gs)) :: List.replicate 0 none) = some (.rt (.p fd) e)) : Told f_x_law_field c gs fd := fun a dx => by
  obtain ⟨e, he⟩ := h a dx
  refine ⟨outs [false] e, ?_⟩
  unfold f_x_law_field fsem
  simp at he
  simp [he]
theorem told_InvalidText : Told f_x_law_field "InvalidText" [("word", .str "invalidtext")] .none := told_of fun a dx => by
  have z0 : List.lookup ("word" : Str) ([("word", .str "invalidtext")] : List (Str × D)) = some (.str "invalidtext") := rfl
  have z1 : dIn (.str "invalidtext") (.tup [.str "invalidname", .str "duplicatename", .str "samerule", .str "unknownfield", .str "unknowneffect", .str "unknownrule"]) = some (.bool false) := rfl
  have z2 : dIn (.str "invalidtext") (.tup [.str "invalidvalue", .str "unknownvalue"]) = some (.bool false) := rfl
  have z3 : dIn (.str "invalidtext") (.tup [.str "invalidrequest", .str "invalidcondition"]) = some (.bool false) := rfl
  have z4 : dIn (.str "invalidtext") (.tup [.str "invalidpair", .str "invalidreport"]) = some (.bool false) := rfl
  have z5 : dEq (.str "invalidtext") (.str "invalidnumber") = some (.bool false) := rfl
  have z6 : dEq (.str "invalidtext") (.str "limitreached") = some (.bool false) := rfl
  have z7 : dEq (.str "invalidtext") (.str "invalidslot") = some (.bool false) := rfl
  have y0 : (2 : Nat) ≤ LIM := by unfold LIM; omega
  have y1 : (6 : Nat) ≤ LIM := by unfold LIM; omega
  refine ⟨?e, ?h⟩
  case h =>
    unfold m_x_law_field
    simp [z0, z1, z2, z3, z4, z5, z6, z7, y0, y1]
    rfl
theorem err_InvalidText : errW f_x_law_field exl (.ex (.inst "InvalidText" [("word", .str "invalidtext")])) = some (.tup [.str "invalidtext", .none]) := errW_ex (by decide) rfl told_InvalidText
theorem try_InvalidText : tryW f_x_law_field exl (.ex (.inst "InvalidText" [("word", .str "invalidtext")])) = some (.tup [.none, .str "invalidtext", .none]) := tryW_ex (by decide) rfl told_InvalidText
end Lw

namespace Lw
open PySem L2 MV Builtin Builtin.Str StrLaws
/-! ### what split with a limit has to do with split -/
def occL (s sub : Str) (hi : Nat) : List Nat → Nat → Nat → List Nat
  | [], _, _ => []
  | i :: r, free, lim => if ((0 < lim ∧ free ≤ i) ∧ i + sub.length ≤ hi) ∧ subAt s sub i = true then i :: occL s sub hi r (i + sub.length) (lim - 1) else occL s sub hi r free lim
theorem occ_L (s sub : Str) (hi limit : Nat) : ∀ (l : List Nat) (st : Array Nat × Nat), (forIn l st (occBody s sub hi limit)).run.fst.toList = st.fst.toList ++ occL s sub hi l st.snd (limit - st.fst.size)
  | [], st => by simp [occL]
  | i :: l, st => by
    rw [List.forIn_cons]
    unfold occBody occL
    by_cases h : ((st.fst.size < limit ∧ st.snd ≤ i) ∧ i + sub.length ≤ hi) ∧ subAt s sub i = true
    · have h' : ((0 < limit - st.fst.size ∧ st.snd ≤ i) ∧ i + sub.length ≤ hi) ∧ subAt s sub i = true := ⟨⟨⟨by omega, h.1.1.2⟩, h.1.2⟩, h.2⟩
      rw [if_pos h, if_pos h']
      have := occ_L s sub hi limit l (st.fst.push i, i + sub.length)
      simp only [Array.toList_push, Array.size_push, List.append_assoc, List.singleton_append] at this
      rw [show limit - st.fst.size - 1 = limit - (st.fst.size + 1) by omega]
      exact this
    · have h' : ¬ (((0 < limit - st.fst.size ∧ st.snd ≤ i) ∧ i + sub.length ≤ hi) ∧ subAt s sub i = true) := fun z => h ⟨⟨⟨by omega, z.1.1.2⟩, z.1.2⟩, z.2⟩
      rw [if_neg h, if_neg h']
      exact occ_L s sub hi limit l st
theorem occL_take (s sub : Str) (hi : Nat) : ∀ (l : List Nat) (free k n : Nat), k ≤ n → occL s sub hi l free k = (occL s sub hi l free n).take k
  | [], _, _, _, _ => by simp [occL]
  | i :: l, free, k, n, hk => by
    unfold occL
    by_cases h : ((0 < n ∧ free ≤ i) ∧ i + sub.length ≤ hi) ∧ subAt s sub i = true
    · rw [if_pos h]
      cases k with
      | zero =>
        rw [if_neg (fun z => by have := z.1.1.1; omega)]
        simp only [List.take_zero]
        have := occL_take s sub hi l free 0 0 (Nat.le_refl _)
        simpa using this
      | succ k =>
        rw [if_pos ⟨⟨⟨by omega, h.1.1.2⟩, h.1.2⟩, h.2⟩, List.take_succ_cons]
        rw [Nat.add_sub_cancel, occL_take s sub hi l (i + sub.length) k (n - 1) (by omega)]
    · rw [if_neg h]
      by_cases h0 : n = 0
      · have : k = 0 := by omega
        subst h0 this
        rw [if_neg (fun z => by have := z.1.1.1; omega)]
        exact occL_take s sub hi l free 0 0 (Nat.le_refl _)
      · rw [if_neg (fun z => h ⟨⟨⟨by omega, z.1.1.2⟩, z.1.2⟩, z.2⟩)]
        exact occL_take s sub hi l free k n hk
theorem occ_take (x y : Str) {k n : Nat} (hk : k ≤ n) : occurrences x y 0 x.length k = (occurrences x y 0 x.length n).take k := by
  rw [occ_eq, occ_eq, occ_L, occ_L]
  simpa using occL_take x y x.length _ 0 k n hk
theorem occ_takeA (x y : Str) (k : Nat) : occurrences x y 0 x.length k = (occurrences x y 0 x.length (x.length + 1)).take k := by
  by_cases h : k ≤ x.length + 1
  · exact occ_take x y h
  · have e1 := occ_take x y (show x.length + 1 ≤ k by omega)
    have e2 := occ_length_le_len x y 0 x.length k
    rw [List.take_of_length_le (by omega)] at e1
    rw [e1, List.take_of_length_le (by omega)]
/-- split, and split with a limit, over the same cuts -/
theorem split_parts {x y : Str} : ∃ cuts f, ChainTo x y x.length 0 cuts f ∧ Txt.split x y = partsFrom x y.length 0 cuts ∧ ∀ k : Nat, Txt.splitMax x y k = partsFrom x y.length 0 (cuts.take k) := by
  unfold Txt.split Txt.splitMax
  by_cases c : (decide (x.length < y.length) || decide (strKind x < strKind y)) = true
  · refine ⟨[], 0, rfl, ?_, fun k => ?_⟩
    · rw [if_pos c]; simp only [partsFrom]; rw [sub_whole]
    · rw [if_pos c]; simp only [List.take_nil, partsFrom]; rw [sub_whole]
  · obtain ⟨f, hf⟩ := occ_chain x y (x.length + 1)
    refine ⟨_, f, hf, ?_, fun k => ?_⟩
    · rw [if_neg c]
      by_cases e : (occurrences x y 0 x.length (x.length + 1)).isEmpty = true
      · rw [if_pos e, List.isEmpty_iff.mp e]; simp only [partsFrom]; rw [sub_whole]
      · rw [if_neg e, partsBetween_eq]
    · rw [if_neg c]
      have e1 : limitOf x (k : Int) = k := by unfold limitOf; rw [if_neg (by omega)]; rfl
      rw [e1, occ_takeA x y k]
      by_cases e : ((occurrences x y 0 x.length (x.length + 1)).take k).isEmpty = true
      · rw [if_pos e, List.isEmpty_iff.mp e]; simp only [partsFrom]; rw [sub_whole]
      · rw [if_neg e, partsBetween_eq]
theorem parts_len {x : Str} {w : Nat} : ∀ (a : Nat) (cuts : List Nat), (partsFrom x w a cuts).length = cuts.length + 1
  | _, [] => rfl
  | a, c :: r => by show (partsFrom x w (c + w) r).length + 1 = _; rw [parts_len]; rfl
theorem sub_len {x : Str} {i j : Nat} (hj : j ≤ x.length) : (strSub x i j).length = j - i := by
  unfold strSub Str.length
  simp only [Array.size_extract]
  have : x.cps.size = x.length := rfl
  omega
/-- split by one sign into four at the most: the fourth is the rest behind the first three -/
theorem split4 {x y : Str} (hy : y.length = 1) : ((Txt.split x y).length ≤ 3 → Txt.splitMax x y 3 = Txt.split x y) ∧
    (4 ≤ (Txt.split x y).length → ∃ a b c : Str, (Txt.split x y).take 3 = [a, b, c] ∧ Txt.splitMax x y 3 = [a, b, c, strSub x (a.length + 1 + b.length + 1 + c.length + 1) x.length] ∧ a.length + b.length + c.length + 3 ≤ x.length) := by
  obtain ⟨cuts, f, ch, e1, e2⟩ := @split_parts x y
  have e2 := e2 3
  have e2 : Txt.splitMax x y 3 = partsFrom x y.length 0 (cuts.take 3) := e2
  rw [e1, e2, parts_len]
  refine ⟨fun h => ?_, fun h => ?_⟩
  · rw [List.take_of_length_le (by omega)]
  · match cuts, h, ch with
    | i :: j :: k :: r, _, ch =>
      obtain ⟨h1, a1, h2, a2, h3, a3, _⟩ := ch
      have b3 := a3.1
      have b2 := a2.1
      have b1 := a1.1
      refine ⟨strSub x 0 i, strSub x (i + y.length) j, strSub x (j + y.length) k, ?_, ?_, ?_⟩
      · show [_, _, _] = _; rfl
      · show [strSub x 0 i, strSub x (i + y.length) j, strSub x (j + y.length) k, strSub x (k + y.length) x.length] = _
        rw [sub_len (by omega), sub_len (by omega), sub_len (by omega), hy]
        rw [hy] at h2 h3
        rw [show i - 0 + 1 + (j - (i + 1)) + 1 + (k - (j + 1)) + 1 = k + 1 by omega]
      · rw [sub_len (by omega), sub_len (by omega), sub_len (by omega), hy]
        rw [hy] at h2 h3
        omega
theorem split_short {x y a : Str} (h : a ∈ Txt.split x y) : a.length ≤ x.length := by
  obtain ⟨cuts, f, ch, e1, e2⟩ := @split_parts x y
  rw [e1] at h
  clear e1 e2 ch
  have : ∀ (cuts : List Nat) (i : Nat), a ∈ partsFrom x y.length i cuts → a.length ≤ x.length := by
    intro cuts
    induction cuts with
    | nil => intro i h; simp only [partsFrom, List.mem_singleton] at h; subst h; unfold strSub Str.length; simp only [Array.size_extract]; omega
    | cons c r ih =>
      intro i h
      simp only [partsFrom, List.mem_cons] at h
      rcases h with rfl | h
      · unfold strSub Str.length; simp only [Array.size_extract]; omega
      · exact ih _ h
  exact this cuts 0 h
end Lw

namespace Lw
open PySem L2 MV
/-! ### texts in lists of texts -/
theorem in_lStr {v : Str} {ms : List Str} : dIn (.str v) (.lst (ms.map .str)) = some (.bool (decide (v ∈ ms))) := by
  have h := @in_lS v.cps.toList (ms.map (·.cps.toList))
  have e1 : (ms.map (·.cps.toList)).map sT = ms.map D.str := by simp [sT, T_tl]
  have e2 : decide (v.cps.toList ∈ ms.map (·.cps.toList)) = decide (v ∈ ms) := by
    apply decide_eq_decide.mpr
    constructor
    · intro h
      obtain ⟨y, hy, e⟩ := List.mem_map.mp h
      have : y = v := by rw [← T_tl y, ← T_tl v, e]
      exact this ▸ hy
    · exact fun h => List.mem_map.mpr ⟨v, h, rfl⟩
  rw [e1, e2] at h
  exact h
theorem in_tStr {v : Str} {ms : List Str} : dIn (.str v) (.tup (ms.map .str)) = some (.bool (decide (v ∈ ms))) := by
  have h := @in_tS v.cps.toList (ms.map (·.cps.toList))
  have e1 : (ms.map (·.cps.toList)).map sT = ms.map D.str := by simp [sT, T_tl]
  have e2 : decide (v.cps.toList ∈ ms.map (·.cps.toList)) = decide (v ∈ ms) := by
    apply decide_eq_decide.mpr
    constructor
    · intro h
      obtain ⟨y, hy, e⟩ := List.mem_map.mp h
      have : y = v := by rw [← T_tl y, ← T_tl v, e]
      exact this ▸ hy
    · exact fun h => List.mem_map.mpr ⟨v, h, rfl⟩
  rw [e1, e2] at h
  exact h
theorem in_aw {v : Str} : dIn (.str v) (.tup [.str "add", .str "rewrite"]) = some (.bool (decide (v = "add" ∨ v = "rewrite"))) := by
  have h := @in_tStr v ["add", "rewrite"]
  simp only [List.mem_cons, List.not_mem_nil, or_false] at h
  exact h
/-! ### the lengths of commands -/
def szI (z : Str) : Int := if z = "drop" then 2 else if z = "raise" then 2 else if z = "lower" then 2 else if z = "above" then 3 else if z = "below" then 3 else if z = "swap" then 3 else if z = "observe" then 3 else if z = "compare" then 3 else 0
theorem szP {z : Str} (h1 : z ≠ "add") (h2 : z ≠ "rewrite") : kgetD tb_LENGTHS (.str z) (.int 0) = some (.int (szI z)) := by
  have c1 : ¬ (Str.ofString "add") = z := fun h => h1 h.symm
  have c2 : ¬ (Str.ofString "rewrite") = z := fun h => h2 h.symm
  show kgetD.kgo (.int 0) (kfind tb_LENGTHS z) = _
  unfold kfind tb_LENGTHS szI
  simp only [List.find?_cons, c1, c2, decide_false]
  by_cases a1 : z = "drop"
  · subst a1; rfl
  have a1' : ¬ (Str.ofString "drop") = z := fun h => a1 h.symm
  by_cases a2 : z = "raise"
  · subst a2; rfl
  have a2' : ¬ (Str.ofString "raise") = z := fun h => a2 h.symm
  by_cases a3 : z = "lower"
  · subst a3; rfl
  have a3' : ¬ (Str.ofString "lower") = z := fun h => a3 h.symm
  by_cases a4 : z = "above"
  · subst a4; rfl
  have a4' : ¬ (Str.ofString "above") = z := fun h => a4 h.symm
  by_cases a5 : z = "below"
  · subst a5; rfl
  have a5' : ¬ (Str.ofString "below") = z := fun h => a5 h.symm
  by_cases a6 : z = "swap"
  · subst a6; rfl
  have a6' : ¬ (Str.ofString "swap") = z := fun h => a6 h.symm
  by_cases a7 : z = "observe"
  · subst a7; rfl
  have a7' : ¬ (Str.ofString "observe") = z := fun h => a7 h.symm
  by_cases a8 : z = "compare"
  · subst a8; rfl
  have a8' : ¬ (Str.ofString "compare") = z := fun h => a8 h.symm
  simp only [a1', a2', a3', a4', a5', a6', a7', a8', a1, a2, a3, a4, a5, a6, a7, a8, decide_false, if_false, List.find?_nil, Option.map_none]
  rfl
def szEs : List (Key × W) := [(.inr "drop", .p (.int 2)), (.inr "raise", .p (.int 2)), (.inr "lower", .p (.int 2)), (.inr "above", .p (.int 3)), (.inr "below", .p (.int 3)), (.inr "swap", .p (.int 3)), (.inr "observe", .p (.int 3)), (.inr "compare", .p (.int 3))]
theorem szL {z : Str} : wGetD (.int 0) (valW szEs (.inr z)) = some (.int (szI z)) := by
  unfold valW szEs szI
  simp only [List.find?_cons, Sum.inr.injEq]
  by_cases a1 : z = "drop"
  · subst a1; rfl
  have a1' : ¬ (Str.ofString "drop") = z := fun h => a1 h.symm
  by_cases a2 : z = "raise"
  · subst a2; rfl
  have a2' : ¬ (Str.ofString "raise") = z := fun h => a2 h.symm
  by_cases a3 : z = "lower"
  · subst a3; rfl
  have a3' : ¬ (Str.ofString "lower") = z := fun h => a3 h.symm
  by_cases a4 : z = "above"
  · subst a4; rfl
  have a4' : ¬ (Str.ofString "above") = z := fun h => a4 h.symm
  by_cases a5 : z = "below"
  · subst a5; rfl
  have a5' : ¬ (Str.ofString "below") = z := fun h => a5 h.symm
  by_cases a6 : z = "swap"
  · subst a6; rfl
  have a6' : ¬ (Str.ofString "swap") = z := fun h => a6 h.symm
  by_cases a7 : z = "observe"
  · subst a7; rfl
  have a7' : ¬ (Str.ofString "observe") = z := fun h => a7 h.symm
  by_cases a8 : z = "compare"
  · subst a8; rfl
  have a8' : ¬ (Str.ofString "compare") = z := fun h => a8 h.symm
  simp only [a1', a2', a3', a4', a5', a6', a7', a8', a1, a2, a3, a4, a5, a6, a7, a8, decide_false, if_false, List.find?_nil, Option.map_none]
  rfl
/-! ### what a text says -/
def restS (x : Str) (n : Nat) : Str := Builtin.Str.strSub x n x.length
def obsV (w0 : Str) : List Str → Option D
  | a :: b :: _ => if (Str.ofString "") ∈ Txt.split a "," ++ Txt.split b "," then none else some (.tup [.str w0, .tup ((Txt.split a ",").map .str), .tup ((Txt.split b ",").map .str)])
  | _ => none
def addV (x w0 : Str) : List Str → Option D
  | b :: c :: _ :: _ => if (Str.ofString "") ∈ [w0, b, c] ∨ restS x (w0.length + 1 + b.length + 1 + c.length + 1) = "" then none else some (.tup [.str w0, .str b, .str (restS x (w0.length + 1 + b.length + 1 + c.length + 1)), .str c])
  | _ => none
def wdsV (x : Str) : List Str → Option D
  | [] => none
  | w0 :: r => if w0 = "add" ∨ w0 = "rewrite" then addV x w0 r
    else if szI w0 ≠ ((r.length + 1 : Nat) : Int) ∨ (Str.ofString "") ∈ w0 :: r then none
    else if w0 = "observe" then obsV w0 r else some (.tup ((w0 :: r).map .str))
def cmdV (x : Str) : Option D := wdsV x (Txt.split x " ")
def exT : D := .inst "InvalidText" [("word", .str "invalidtext")]
def resP : Option D → W
  | some v => .p v
  | none => .ex exT
theorem splitF_ok {x y : Str} (hy : (y.length == 0) = false) (hx : x.length ≤ 1000) : splitF x [.str y] = some (.lst ((Txt.split x y).map .str)) := if_pos ⟨hy, by unfold LIM; omega⟩
theorem splitM_ok {x : Str} (hx : x.length ≤ 1000) : splitMaxF x [.str " ", .int 3] = some (.lst ((Txt.splitMax x " " 3).map .str)) := if_pos ⟨rfl, by unfold LIM; omega, by decide, by decide⟩
theorem cut_from' {x : Str} {n : Nat} : cutS x (some (n : Int)) none = restS x n := by
  have := @cut_from x.cps.toList n (by omega)
  rw [T_tl] at this
  rw [this]
  apply Str.ext'
  apply Array.toList_inj.mp
  unfold restS
  rw [StrLaws.strSub_toList, T_sg, Int.toNat_natCast]
  exact (List.take_of_length_le (by simp [Str.length])).symm
theorem join3 {a b c : Str} (h : a.length + b.length + c.length ≤ 1000) : joinD (.str " ") (.lst [.str a, .str b, .str c]) = some (.str (Txt.join " " [a, b, c])) := by
  have e : (Str.ofString " ").length = 1 := rfl
  rw [joinD_l]
  simp [strsD, e]
  unfold LIM
  omega
theorem join3_len {a b c : Str} : (Txt.join " " [a, b, c]).length = a.length + 1 + b.length + 1 + c.length := by
  show (Builtin.Str.glued _ _).length = _
  have e : (Str.ofString " ").cps.size = 1 := rfl
  unfold Builtin.Str.glued Str.length
  simp [e]
  omega
end Lw

namespace Lw
open PySem L2 MV
theorem ix_n {xs : List D} {n : Nat} : dIx (.lst xs) (.int (n : Int)) = xs[n]? := by
  show L2.atI xs n = _
  rw [atI_nn (by omega)]; rfl
theorem ix_0 {w : D} {r : List D} : dIx (.lst (w :: r)) (.int 0) = some w := @ix_n (w :: r) 0
theorem ix_1 {w a : D} {r : List D} : dIx (.lst (w :: a :: r)) (.int 1) = some a := @ix_n (w :: a :: r) 1
theorem ix_2 {w a b : D} {r : List D} : dIx (.lst (w :: a :: b :: r)) (.int 2) = some b := @ix_n (w :: a :: b :: r) 2
theorem ix_3 {w a b c : D} {r : List D} : dIx (.lst (w :: a :: b :: c :: r)) (.int 3) = some c := @ix_n (w :: a :: b :: c :: r) 3
theorem sp_ne (x y : Str) : Txt.split x y ≠ [] := fun h => by
  have := PyProof.Rows.split_pos x y
  rw [h] at this
  cases this
theorem wds_cons {x w0 : Str} {r : List Str} : wdsV x (w0 :: r) = if w0 = "add" ∨ w0 = "rewrite" then addV x w0 r
    else if szI w0 ≠ ((r.length + 1 : Nat) : Int) ∨ (Str.ofString "") ∈ w0 :: r then none
    else if w0 = "observe" then obsV w0 r else some (.tup ((w0 :: r).map .str)) := rfl
theorem obs_two {w0 a b : Str} {r : List Str} : obsV w0 (a :: b :: r) = if (Str.ofString "") ∈ Txt.split a "," ++ Txt.split b "," then none else some (.tup [.str w0, .tup ((Txt.split a ",").map .str), .tup ((Txt.split b ",").map .str)]) := rfl
theorem add_three {x w0 b c d : Str} {r : List Str} : addV x w0 (b :: c :: d :: r) = if (Str.ofString "") ∈ [w0, b, c] ∨ restS x (w0.length + 1 + b.length + 1 + c.length + 1) = "" then none else some (.tup [.str w0, .str b, .str (restS x (w0.length + 1 + b.length + 1 + c.length + 1)), .str c]) := rfl
theorem add_few {x w0 : Str} {r : List Str} (h : r.length < 3) : addV x w0 r = none := by
  match r, h with
  | [], _ => rfl
  | [_], _ => rfl
  | [_, _], _ => rfl
theorem three_of {r : List Str} (h : ¬ r.length < 3) : ∃ a b c t, r = a :: b :: c :: t := by
  match r, h with
  | a :: b :: c :: t, _ => exact ⟨a, b, c, t, rfl⟩
  | [], h => exact absurd (by decide) h
  | [_], h => exact absurd (by simp) h
  | [_, _], h => exact absurd (by simp) h
theorem dNe_i {a b : Int} : dNe (.int a) (.int b) = some (.bool (!decide (a = b))) := rfl
theorem dEq_l {x y : Str} : dEq (.str x) (.str y) = some (.bool (decide (x = y))) := rfl
theorem parse_ok {x : Str} (hx : x.length ≤ 900) : f_parse_command [.p (.str x)] = some (resP (cmdV x), [none]) := by
  have s1 := @splitF_ok x " " rfl (by omega)
  have s2 := @splitM_ok x (by omega)
  have sh : ∀ a ∈ Txt.split x " ", a.length ≤ 900 := fun a h => Nat.le_trans (split_short h) hx
  have ll := PyProof.Rows.split_le x " "
  unfold f_parse_command fsem m_parse_command cmdV
  cases hw : Txt.split x " " with
  | nil => exact absurd hw (sp_ne _ _)
  | cons w0 r =>
    rw [hw] at s1 sh ll
    rw [List.map_cons] at s1
    simp only [List.length_cons] at ll
    have hl : r.length + 1 ≤ LIM := by unfold LIM; omega
    have k4 : (4 : Nat) ≤ LIM := by unfold LIM; omega
    have k3 : (3 : Nat) ≤ LIM := by unfold LIM; omega
    have k2 : (2 : Nat) ≤ LIM := by unfold LIM; omega
    have k1 : (1 : Nat) ≤ LIM := by unfold LIM; omega
    have s4 := @split4 x " " rfl
    rw [wds_cons]
    by_cases c1 : w0 = "add" ∨ w0 = "rewrite"
    · rw [if_pos c1]
      have d1 := @in_aw w0
      simp only [c1, decide_true] at d1
      rw [hw] at s4
      by_cases c2 : r.length < 3
      · rw [add_few c2]
        have e1 := s4.1 (by simp only [List.length_cons]; omega)
        rw [e1, List.map_cons] at s2
        have c2' : ¬ (r.length : Int) + 1 = 4 := by omega
        simp [k4, k3, k2, k1, s1, d1, s2, ix_0, hl, dNe_i, c2', resP, outs, exT]
      · obtain ⟨a, b, c, e1, e2, e3⟩ := s4.2 (by simp only [List.length_cons]; omega)
        obtain ⟨b', c', d', r', rfl⟩ := three_of c2
        · simp only [List.take_succ_cons, List.take_zero, List.cons.injEq, and_true] at e1
          obtain ⟨rfl, rfl, rfl⟩ := e1
          rw [add_three]
          rw [e2] at s2
          have e4 : Builtin.Str.strSub x (w0.length + 1 + b'.length + 1 + c'.length + 1) x.length = restS x (w0.length + 1 + b'.length + 1 + c'.length + 1) := rfl
          rw [e4] at s2
          generalize restS x (w0.length + 1 + b'.length + 1 + c'.length + 1) = rs at s2 ⊢
          have d3 := @in_lStr "" [w0, b', c', rs]
          simp only [List.map_cons, List.map_nil] at s2 d3
          by_cases c5 : (Str.ofString "") ∈ [w0, b', c'] ∨ rs = ""
          · rw [if_pos c5]
            have c6 : (Str.ofString "") ∈ [w0, b', c', rs] := by
              rcases c5 with h | h
              · simp only [List.mem_cons, List.not_mem_nil, or_false] at h ⊢
                rcases h with h | h | h <;> simp [h]
              · simp [h]
            rw [decide_eq_true c6] at d3
            simp [k4, k3, k2, k1, s1, d1, s2, ix_0, hl, dNe_i, resP, outs, exT, d3]
          · rw [if_neg c5]
            have c6 : ¬ (Str.ofString "") ∈ [w0, b', c', rs] := fun h => c5 (by
              simp only [List.mem_cons, List.not_mem_nil, or_false] at h ⊢
              rcases h with h | h | h | h
              · simp [h]
              · simp [h]
              · simp [h]
              · exact .inr h.symm)
            rw [decide_eq_false c6] at d3
            simp [k4, k3, k2, k1, s1, d1, s2, ix_0, hl, dNe_i, resP, outs, exT, d3, ix_1, ix_2, ix_3]
    · rw [if_neg c1]
      have n1 : w0 ≠ "add" := fun h => c1 (.inl h)
      have n2 : w0 ≠ "rewrite" := fun h => c1 (.inr h)
      have d1 := @in_aw w0
      simp only [c1, decide_false] at d1
      have d2 := szP n1 n2
      have d3 := @in_lStr "" (w0 :: r)
      rw [List.map_cons] at d3
      by_cases c2 : szI w0 ≠ ((r.length + 1 : Nat) : Int)
      · rw [if_pos (.inl c2)]
        have c2' : ¬ szI w0 = (r.length : Int) + 1 := by simpa using c2
        simp [k4, k3, k2, k1, s1, d1, ix_0, d2, hl, dNe_i, c2', resP, outs, exT]
      · by_cases c3 : (Str.ofString "") ∈ w0 :: r
        · rw [if_pos (.inr c3)]
          have c2' : szI w0 = (r.length : Int) + 1 := by simpa using c2
          rw [show decide ((Str.ofString "") ∈ w0 :: r) = true from decide_eq_true c3] at d3
          simp [k4, k3, k2, k1, s1, d1, ix_0, d2, hl, dNe_i, c2', resP, outs, exT, d3]
        · rw [if_neg (fun h => h.elim c2 c3)]
          have c2' : szI w0 = (r.length : Int) + 1 := by simpa using c2
          rw [show decide ((Str.ofString "") ∈ w0 :: r) = false from decide_eq_false c3] at d3
          by_cases c4 : w0 = "observe"
          · rw [if_pos c4]
            subst c4
            have c2'' : (3 : Int) = (r.length : Int) + 1 := c2'
            match r, c2'' with
            | [a, b], _ =>
              have q1 := @splitF_ok a "," rfl (Nat.le_trans (sh a (by simp)) (by decide))
              have q2 := @splitF_ok b "," rfl (Nat.le_trans (sh b (by simp)) (by decide))
              have q3 := @in_lStr "" (Txt.split a "," ++ Txt.split b ",")
              have l1 := PyProof.Rows.split_le a ","
              have l2 := PyProof.Rows.split_le b ","
              have l3 := sh a (by simp)
              have l4 := sh b (by simp)
              have q4 := @dadd_ll ((Txt.split a ",").map .str) ((Txt.split b ",").map .str) (by simp only [List.length_map]; omega)
              rw [← List.map_append] at q4
              have m1 : (Txt.split a ",").length ≤ LIM := by unfold LIM; omega
              have m2 : (Txt.split b ",").length ≤ LIM := by unfold LIM; omega
              rw [obs_two]
              simp only [List.map_cons, List.map_nil] at d3
              by_cases c5 : (Str.ofString "") ∈ Txt.split a "," ++ Txt.split b ","
              · rw [if_pos c5]
                rw [decide_eq_true c5] at q3
                simp [-List.map_append, -List.mem_append, k4, k3, k2, k1, s1, d1, ix_0, d2, hl, dNe_i, c2', resP, outs, exT, d3, dEq_l, ix_1, ix_2, q1, q2, q4, q3]
              · rw [if_neg c5]
                rw [decide_eq_false c5] at q3
                simp [-List.map_append, -List.mem_append, k4, k3, k2, k1, s1, d1, ix_0, d2, hl, dNe_i, c2', resP, outs, exT, d3, dEq_l, ix_1, ix_2, q1, q2, q4, q3, m1, m2]
          · rw [if_neg c4]
            simp [k4, k3, k2, k1, s1, d1, ix_0, d2, hl, dNe_i, c2', resP, outs, exT, d3, dEq_l, c4]
end Lw

namespace Lw
open PySem L2 MV
theorem dict_sz {e : MV.Env} : mDictS (("drop", (mC (.int 2))) :: (("raise", (mC (.int 2))) :: (("lower", (mC (.int 2))) :: (("above", (mC (.int 3))) :: (("below", (mC (.int 3))) :: (("swap", (mC (.int 3))) :: (("observe", (mC (.int 3))) :: (("compare", (mC (.int 3))) :: [])))))))) e = some (.od szEs, e) := by
  simp
  exact dsK_s (by decide) (by decide)
theorem cut_takeS {α : Type} {f : α → D} {xs : List α} {i : Nat} : dSl (.lst (xs.map f)) none (some (i : Int)) = some (.lst ((xs.take i).map f)) := by
  show some (D.lst (cutD _ _ _)) = _
  rw [cutD_to (by omega), List.map_take, Int.toNat_natCast]
theorem due_ok {x : Str} (hx : x.length ≤ 900) : f_x_law_command_in [.p (.str x)] = some (.p ((cmdV x).getD .none), [none]) := by
  have s1 := @splitF_ok x " " rfl (by omega)
  have sh : ∀ a ∈ Txt.split x " ", a.length ≤ 900 := fun a h => Nat.le_trans (split_short h) hx
  have ll := PyProof.Rows.split_le x " "
  have s4 := @split4 x " " rfl
  unfold f_x_law_command_in fsem m_x_law_command_in cmdV
  cases hw : Txt.split x " " with
  | nil => exact absurd hw (sp_ne _ _)
  | cons w0 r =>
    rw [hw] at s1 sh ll s4
    rw [List.map_cons] at s1
    simp only [List.length_cons] at ll
    have hl : r.length + 1 ≤ LIM := by unfold LIM; omega
    have k4 : (4 : Nat) ≤ LIM := by unfold LIM; omega
    have k3 : (3 : Nat) ≤ LIM := by unfold LIM; omega
    have k2 : (2 : Nat) ≤ LIM := by unfold LIM; omega
    have k1 : (1 : Nat) ≤ LIM := by unfold LIM; omega
    have hxl : x.length ≤ LIM := by unfold LIM; omega
    rw [wds_cons]
    by_cases c1 : w0 = "add" ∨ w0 = "rewrite"
    · rw [if_pos c1]
      have d1 := @in_aw w0
      simp only [c1, decide_true] at d1
      by_cases c2 : r.length < 3
      · rw [add_few c2]
        have c2' : ¬ (3 : Int) < (r.length : Int) + 1 := by omega
        simp [k4, k3, k2, k1, s1, d1, ix_0, hl, dNe_i, c2', outs, dEq_l]
      · obtain ⟨a, b, c, e1, e2, e3⟩ := s4.2 (by simp only [List.length_cons]; omega)
        have c2' : (3 : Int) < (r.length : Int) + 1 := by omega
        obtain ⟨b', c', d', r', rfl⟩ := three_of c2
        simp only [List.take_succ_cons, List.take_zero, List.cons.injEq, and_true] at e1
        obtain ⟨rfl, rfl, rfl⟩ := e1
        rw [add_three]
        have j3 := @join3 w0 b' c' (by omega)
        have jl := @join3_len w0 b' c'
        have jm : (Txt.join " " [w0, b', c']).length ≤ LIM := by rw [jl]; unfold LIM; omega
        have cf := @cut_from' x (w0.length + 1 + b'.length + 1 + c'.length + 1)
        have ct : dSl (.lst (.str w0 :: List.map D.str (b' :: c' :: d' :: r'))) none (some 3) = some (.lst [.str w0, .str b', .str c']) := by
          have := @cut_takeS Str D.str (w0 :: b' :: c' :: d' :: r') 3
          simpa using this
        have d3 := @in_lStr "" [w0, b', c']
        simp only [List.map_cons, List.map_nil] at ct d3 s1
        simp only [List.length_cons] at c2' hl
        have c7 : decide ((3 : Int) < (r'.length : Int) + 1 + 1 + 1 + 1) = true := decide_eq_true (by omega)
        have cf' : dSl (.str x) (some (((Txt.join " " [w0, b', c']).length : Int) + 1)) none = some (.str (restS x (w0.length + 1 + b'.length + 1 + c'.length + 1))) := by
          rw [jl]
          show (if x.length ≤ LIM then some (D.str (cutS x (some (((w0.length + 1 + b'.length + 1 + c'.length : Nat) : Int) + 1)) none)) else none) = _
          rw [if_pos hxl]
          have e : ((w0.length + 1 + b'.length + 1 + c'.length : Nat) : Int) + 1 = ((w0.length + 1 + b'.length + 1 + c'.length + 1 : Nat) : Int) := by omega
          rw [e, cf]
        generalize restS x (w0.length + 1 + b'.length + 1 + c'.length + 1) = rs at cf' ⊢
        by_cases c5 : rs = ""
        · rw [if_pos (.inr c5)]
          simp [k4, k3, k2, k1, s1, d1, ix_0, hl, dNe_i, c2', outs, dEq_l, ct, j3, jm, cf', c7, c5]
        · by_cases c6 : (Str.ofString "") ∈ [w0, b', c']
          · rw [if_pos (.inl c6)]
            rw [decide_eq_true c6] at d3
            simp [k4, k3, k2, k1, s1, d1, ix_0, hl, dNe_i, c2', outs, dEq_l, ct, j3, jm, cf', c7, c5, d3]
          · rw [if_neg (fun h => h.elim c6 c5)]
            rw [decide_eq_false c6] at d3
            simp [k4, k3, k2, k1, s1, d1, ix_0, hl, dNe_i, c2', outs, dEq_l, ct, j3, jm, cf', c7, c5, d3, ix_1, ix_2]
    · rw [if_neg c1]
      have n1 : w0 ≠ "add" := fun h => c1 (.inl h)
      have n2 : w0 ≠ "rewrite" := fun h => c1 (.inr h)
      have d1 := @in_aw w0
      simp only [c1, decide_false] at d1
      have d2 := @szL w0
      have d3 := @in_lStr "" (w0 :: r)
      rw [List.map_cons] at d3
      by_cases c2 : szI w0 ≠ ((r.length + 1 : Nat) : Int)
      · rw [if_pos (.inl c2)]
        have c2' : ¬ szI w0 = (r.length : Int) + 1 := by simpa using c2
        simp [-ev_dictS, dict_sz, k4, k3, k2, k1, s1, d1, ix_0, d2, hl, dNe_i, c2', outs]
      · by_cases c3 : (Str.ofString "") ∈ w0 :: r
        · rw [if_pos (.inr c3)]
          have c2' : szI w0 = (r.length : Int) + 1 := by simpa using c2
          rw [show decide ((Str.ofString "") ∈ w0 :: r) = true from decide_eq_true c3] at d3
          simp [-ev_dictS, dict_sz, k4, k3, k2, k1, s1, d1, ix_0, d2, hl, dNe_i, c2', outs, d3]
        · rw [if_neg (fun h => h.elim c2 c3)]
          have c2' : szI w0 = (r.length : Int) + 1 := by simpa using c2
          rw [show decide ((Str.ofString "") ∈ w0 :: r) = false from decide_eq_false c3] at d3
          by_cases c4 : w0 = "observe"
          · rw [if_pos c4]
            subst c4
            have c2'' : (3 : Int) = (r.length : Int) + 1 := c2'
            match r, c2'' with
            | [a, b], _ =>
              have q1 := @splitF_ok a "," rfl (Nat.le_trans (sh a (by simp)) (by decide))
              have q2 := @splitF_ok b "," rfl (Nat.le_trans (sh b (by simp)) (by decide))
              have q3 := @in_lStr "" (Txt.split a "," ++ Txt.split b ",")
              have l1 := PyProof.Rows.split_le a ","
              have l2 := PyProof.Rows.split_le b ","
              have l3 := sh a (by simp)
              have l4 := sh b (by simp)
              have q4 := @dadd_ll ((Txt.split a ",").map .str) ((Txt.split b ",").map .str) (by simp only [List.length_map]; omega)
              rw [← List.map_append] at q4
              have m1 : (Txt.split a ",").length ≤ LIM := by unfold LIM; omega
              have m2 : (Txt.split b ",").length ≤ LIM := by unfold LIM; omega
              rw [obs_two]
              simp only [List.map_cons, List.map_nil] at d3
              by_cases c5 : (Str.ofString "") ∈ Txt.split a "," ++ Txt.split b ","
              · rw [if_pos c5]
                rw [decide_eq_true c5] at q3
                simp [-ev_dictS, dict_sz, -List.map_append, -List.mem_append, k4, k3, k2, k1, s1, d1, ix_0, d2, hl, dNe_i, c2', outs, d3, dEq_l, ix_1, ix_2, q1, q2, q4, q3]
              · rw [if_neg c5]
                rw [decide_eq_false c5] at q3
                simp [-ev_dictS, dict_sz, -List.map_append, -List.mem_append, k4, k3, k2, k1, s1, d1, ix_0, d2, hl, dNe_i, c2', outs, d3, dEq_l, ix_1, ix_2, q1, q2, q4, q3, m1, m2]
          · rw [if_neg c4]
            simp [-ev_dictS, dict_sz, k4, k3, k2, k1, s1, d1, ix_0, d2, hl, dNe_i, c2', outs, d3, dEq_l, c4]
end Lw

namespace Lw
open PySem L2 MV
/-! ### one word asked -/
theorem sm_strs {n : Nat} {l : List Str} (h : l.length ≤ 1000000) : Sm (n + 2) (.tup (l.map .str)) := ⟨by simpa using h, fun d hd => by
  obtain ⟨y, _, rfl⟩ := List.mem_map.mp hd
  trivial⟩
theorem sm_cmd {x : Str} (hx : x.length ≤ 900) {v : D} (h : cmdV x = some v) : Sm 5 v ∧ isNone v = false := by
  have sh : ∀ a ∈ Txt.split x " ", a.length ≤ 900 := fun a h => Nat.le_trans (split_short h) hx
  have ll := PyProof.Rows.split_le x " "
  unfold cmdV at h
  cases hw : Txt.split x " " with
  | nil => exact absurd hw (sp_ne _ _)
  | cons w0 r =>
    rw [hw] at h sh ll
    rw [wds_cons] at h
    simp only [List.length_cons] at ll
    by_cases c1 : w0 = "add" ∨ w0 = "rewrite"
    · rw [if_pos c1] at h
      by_cases c2 : r.length < 3
      · rw [add_few c2] at h; cases h
      · obtain ⟨b', c', d', r', rfl⟩ := three_of c2
        rw [add_three] at h
        split at h
        · cases h
        · cases h
          refine ⟨⟨by simp, fun d hd => ?_⟩, rfl⟩
          simp only [List.mem_cons, List.not_mem_nil, or_false] at hd
          rcases hd with rfl | rfl | rfl | rfl <;> trivial
    · rw [if_neg c1] at h
      split at h
      · cases h
      · split at h
        · match r, h with
          | [], h => cases h
          | [_], h => cases h
          | a :: b :: t, h =>
            rw [obs_two] at h
            split at h
            · cases h
            · cases h
              have l1 := PyProof.Rows.split_le a ","
              have l2 := PyProof.Rows.split_le b ","
              have l3 := sh a (by simp)
              have l4 := sh b (by simp)
              refine ⟨⟨by simp, fun d hd => ?_⟩, rfl⟩
              simp only [List.mem_cons, List.not_mem_nil, or_false] at hd
              rcases hd with rfl | rfl | rfl
              · trivial
              · exact sm_strs (by omega)
              · exact sm_strs (by omega)
        · cases h
          exact ⟨sm_strs (by simp only [List.length_cons]; omega), rfl⟩
theorem sm3 {a b c : D} {n : Nat} (ha : Sm n a) (hb : Sm n b) (hc : Sm n c) : Sm (n + 1) (.tup [a, b, c]) := ⟨by simp, fun d hd => by
  simp only [List.mem_cons, List.not_mem_nil, or_false] at hd
  rcases hd with rfl | rfl | rfl <;> assumption⟩
theorem Sm.up : ∀ {n : Nat} {d : D}, Sm n d → Sm (n + 1) d
  | 0, d, h => h.elim
  | n + 1, .none, _ => trivial
  | n + 1, .bool _, _ => trivial
  | n + 1, .int _, _ => trivial
  | n + 1, .str _, _ => trivial
  | n + 1, .lst ds, h => ⟨h.1, fun x hx => Sm.up (h.2 x hx)⟩
  | n + 1, .tup ds, h => ⟨h.1, fun x hx => Sm.up (h.2 x hx)⟩
  | n + 1, .fl _, h => h.elim
  | n + 1, .dict _, h => h.elim
  | n + 1, .inst _ _, h => h.elim
theorem ask_ok {x : Str} (hx : x.length ≤ 900) {a0 a1 a2 a3 a4 a5 a6 a7 a8 : Option W} : forStep (gN 6) b_law_3 (.str x) [a0, a1, a2, a3, a4, a5, a6, a7, a8, none, none] = some (.nx [a0, a1, a2, a3, a4, a5, some (.p (.str x)), a7, a8, none, none]) := by
  have p := parse_ok hx
  have d := due_ok hx
  have k3 : (3 : Nat) ≤ LIM := by unfold LIM; omega
  cases hc : cmdV x with
  | none =>
    rw [hc] at p d
    have p : f_parse_command [.p (.str x)] = some (.ex (.inst "InvalidText" [("word", .str "invalidtext")]), [none]) := p
    have sm : Sm 10 (.tup [.none, .str "invalidtext", .none]) := by
      refine ⟨by simp, fun d hd => ?_⟩
      simp only [List.mem_cons, List.not_mem_nil, or_false] at hd
      rcases hd with rfl | rfl | rfl <;> trivial
    have sr := same_refl 10 _ sm
    simp only [Option.getD_none] at d
    simp [forStep, b_law_3, b_law_2, d, p, try_InvalidText, k3, sr]
  | some v =>
    rw [hc] at p d
    obtain ⟨sv, nn⟩ := sm_cmd hx hc
    have p : f_parse_command [.p (.str x)] = some (.p v, [none]) := p
    have sm : Sm 10 (.tup [v, .str "", .none]) := sm3 (Sm.up (Sm.up (Sm.up (Sm.up sv)))) trivial trivial
    have sr := same_refl 10 _ sm
    simp only [Option.getD_some] at d
    simp [forStep, b_law_3, b_law_2, d, p, k3, sr, nn]
/-! ### words bent -/
def bits : List D := [.str "", .str " ", .str ",", .str "a", .str "0", .str "add ", .str "=", .str "\n"]
theorem bits_len {d : D} (h : d ∈ bits) : ∃ z : Str, d = .str z ∧ z.length ≤ 4 := by
  simp only [bits, List.mem_cons, List.not_mem_nil, or_false] at h
  rcases h with rfl | rfl | rfl | rfl | rfl | rfl | rfl | rfl <;> exact ⟨_, rfl, by decide⟩
theorem len_cat (a b : Str) : (a ++ b).length = a.length + b.length := by
  show (a.cps ++ b.cps).size = _
  rw [Array.size_append]; rfl
theorem bend_ok {w : W} (hw : BagW w) {x : Str} (hx : x.length ≤ 800) {j : D} {a0 a2 a3 a4 a5 a9 a10 : Option W} : ∃ (w' : W) (x' : Str), BagW w' ∧ x'.length ≤ x.length * 2 + 4 ∧
    forStep (gN 7) b_law_0 j [a0, some w, a2, a3, a4, a5, some (.p (.str x)), none, none, a9, a10] = some (.nx [a0, some w', a2, a3, a4, a5, some (.p (.str x')), none, none, a9, a10]) := by
  obtain ⟨r, w1, e1, h1, h2, hw1⟩ := pull_ok hw (s := (x.length : Int) + 1) (by omega) (by omega)
  obtain ⟨d, w2, e2, hd, hw2⟩ := of_l hw1 (ds := bits) (by decide) (by decide)
  obtain ⟨z, rfl, hz⟩ := bits_len hd
  obtain ⟨r2, w3, e3, h3, h4, hw3⟩ := pull_ok hw2 (s := 2) (by omega) (by omega)
  have k8 : (8 : Nat) ≤ LIM := by unfold LIM; omega
  have hxl : x.length ≤ LIM := by unfold LIM; omega
  have l1 := cutS_length x none (some r)
  have l2 := cutS_length x (some (r + r2)) none
  have k1 : (cutS x none (some r)).length + z.length ≤ LIM := by unfold LIM; omega
  have k2 : (cutS x none (some r) ++ z).length = (cutS x none (some r)).length + z.length := len_cat _ _
  have k3 : (cutS x none (some r)).length + z.length + (cutS x (some (r + r2)) none).length ≤ LIM := by unfold LIM; omega
  refine ⟨w3, cutS x none (some r) ++ z ++ cutS x (some (r + r2)) none, hw3, ?_, ?_⟩
  · rw [len_cat, k2]
    omega
  · unfold bits at e2
    simp [forStep, b_law_0, e1, e2, e3, hxl, k8, dSl, k1, k2, k3, dAdd, orX_bag hw1, orX_bag hw2, orX_bag hw3]
theorem turn_ok {w : W} (hw : BagW w) {ss : List Str} (h0 : 0 < ss.length) (h1 : ss.length ≤ 100) (hs : ∀ s ∈ ss, s.length ≤ 100) {ws : List W} (hl : ws.length ≤ 1000) {j : D} {a0 a2 a6 a9 a10 : Option W} : ∃ (w' : W) (x' : Str), BagW w' ∧ x'.length ≤ 900 ∧
    forStep (gN 5) b_law_1 j [a0, some w, a2, some (.p (.lst (ss.map .str))), some (.ol ws), none, a6, none, none, a9, a10] = some (.nx [a0, some w', a2, some (.p (.lst (ss.map .str))), some (.ol (ws ++ [.p (.str x')])), none, some (.p (.str x')), none, none, a9, a10]) := by
  obtain ⟨d, w1, e1, hd, hw1⟩ := of_l hw (ds := ss.map .str) (by simpa using h0) (by simp; omega)
  obtain ⟨x, hx, rfl⟩ := List.mem_map.mp hd
  have lx := hs x hx
  obtain ⟨r, w2, e2, q1, q2, hw2⟩ := pull_ok hw1 (s := 2) (by omega) (by omega)
  obtain ⟨w3, x3, hw3, l3, e3⟩ := bend_ok hw2 (x := x) (by omega) (j := .int 0) (a0 := a0) (a2 := a2) (a3 := some (.p (.lst (ss.map .str)))) (a4 := some (.ol ws)) (a5 := some (.p j)) (a9 := a9) (a10 := a10)
  obtain ⟨w4, x4, hw4, l4, e4⟩ := bend_ok hw3 (x := x3) (by omega) (j := .int 1) (a0 := a0) (a2 := a2) (a3 := some (.p (.lst (ss.map .str)))) (a4 := some (.ol ws)) (a5 := some (.p j)) (a9 := a9) (a10 := a10)
  have hlw : ws.length < 1000000 := by omega
  have rg2 : List.map (fun i : Nat => D.int (i : Int)) (List.range 2) = [.int 0, .int 1] := rfl
  by_cases c : r = 0
  · subst c
    have lp : forRun (gN 7) b_law_0 [.int 0] [a0, some w2, a2, some (.p (.lst (ss.map .str))), some (.ol ws), some (.p j), some (.p (.str x)), none, none, a9, a10] = some (.nx [a0, some w3, a2, some (.p (.lst (ss.map .str))), some (.ol ws), some (.p j), some (.p (.str x3)), none, none, a9, a10]) := by
      rw [forRun_c, e3]; rfl
    refine ⟨w3, x3, hw3, by omega, ?_⟩
    simp [forStep, b_law_1, e1, e2, lp, orX_bag hw1, orX_bag hw2, orX_bag hw3, rngD, hlw, rg2]
  · have c : r = 1 := by omega
    subst c
    have lp : forRun (gN 7) b_law_0 [.int 0, .int 1] [a0, some w2, a2, some (.p (.lst (ss.map .str))), some (.ol ws), some (.p j), some (.p (.str x)), none, none, a9, a10] = some (.nx [a0, some w4, a2, some (.p (.lst (ss.map .str))), some (.ol ws), some (.p j), some (.p (.str x4)), none, none, a9, a10]) := by
      rw [forRun_c, e3]
      show forRun (gN 7) b_law_0 [.int 1] _ = _
      rw [forRun_c, e4]; rfl
    refine ⟨w4, x4, hw4, by omega, ?_⟩
    simp [forStep, b_law_1, e1, e2, lp, orX_bag hw1, orX_bag hw2, orX_bag hw3, rngD, hlw, rg2]
end Lw

namespace Lw
open PySem L2 MV
theorem dadd_s {a b : Str} (h : a.length + b.length ≤ 1000) : dAdd (.str a) (.str b) = some (.str (a ++ b)) := by
  have : a.length + b.length ≤ LIM := by unfold LIM; omega
  unfold dAdd
  simp [this]
def ws1 : List Str := ["", " ", "add", "add a", "add a b", "add a b ", "add  b any", "add a  any", "add a b  any", "add a b any ", " add a b any", "drop", "drop ", "drop a b"]
def ws2 : List Str := ["Drop a", "raise a ", "swap a", "swap a b c", "observe a", "observe a b c", "observe , ,", "observe a,,b x", "compare a  b", "rewrite a b", "rewrite a b c d e"]
theorem ws_len : ∀ z ∈ ws1 ++ ws2, z.length ≤ 900 := by decide
def pw (z : Str) : W := .p (.str z)
theorem frz_pw (ts : List Str) : frz (.ol (ts.map pw)) = some (.lst (ts.map .str)) := by
  have e : ts.map pw = (ts.map D.str).map W.p := by rw [List.map_map]; rfl
  rw [e]
  exact frz_ol
theorem law_true (ns : List Int) (h : ns.length ≤ 63) : ∃ oe, f_law [.p (.fl (ns.map .int))] = some (.p (.bool true), oe) := by
  obtain ⟨w0, hb, hw0⟩ := bag_ok ns h
  obtain ⟨ls, w1, en, hl, hn, _, hw1⟩ := names_ok hw0 (m := 4) (by omega)
  obtain ⟨n0, n1, n2, n3, rfl⟩ : ∃ a b c d, ls = [a, b, c, d] := by
    match ls, hl with
    | [a, b, c, d], _ => exact ⟨a, b, c, d, rfl⟩
  have sh : ∀ l ∈ [n0, n1, n2, n3], (T l).length ≤ 8 := fun l hl => by
    have := hn l hl
    unfold nameB at this
    simp only [Bool.and_eq_true, decide_eq_true_eq] at this
    rw [T_len]; exact this.2.1
  have s0 := sh n0 (by simp)
  have s1 := sh n1 (by simp)
  have s2 := sh n2 (by simp)
  have s3 := sh n3 (by simp)
  generalize e0 : T n0 = t0 at s0
  generalize e1 : T n1 = t1 at s1
  generalize e2 : T n2 = t2 at s2
  generalize e3 : T n3 = t3 at s3
  have en : f_x_law_names [w0, .p (.int 4)] = some (.p (.lst [.str t0, .str t1, .str t2, .str t3]), [some w1, none]) := by
    rw [← e0, ← e1, ← e2, ← e3]; exact en
  have L1 : (Str.ofString "add ").length = 4 := rfl
  have L2 : (Str.ofString " ").length = 1 := rfl
  have L3 : (Str.ofString " any | a=b").length = 10 := rfl
  have L4 : (Str.ofString "drop ").length = 5 := rfl
  have L5 : (Str.ofString "swap ").length = 5 := rfl
  have L6 : (Str.ofString "observe a,b1 ").length = 13 := rfl
  have L7 : (Str.ofString ",").length = 1 := rfl
  have c1 := @dadd_s "add " t0 (by omega)
  have c2 := @dadd_s ("add " ++ t0) " " (by rw [len_cat]; omega)
  have c3 := @dadd_s ("add " ++ t0 ++ " ") t1 (by simp only [len_cat]; omega)
  have c4 := @dadd_s ("add " ++ t0 ++ " " ++ t1) " any | a=b" (by simp only [len_cat]; omega)
  have c5 := @dadd_s "drop " t0 (by omega)
  have c6 := @dadd_s "swap " t0 (by omega)
  have c7 := @dadd_s ("swap " ++ t0) " " (by rw [len_cat]; omega)
  have c8 := @dadd_s ("swap " ++ t0 ++ " ") t2 (by simp only [len_cat]; omega)
  have c9 := @dadd_s "observe a,b1 " t0 (by omega)
  have d1 := @dadd_s ("observe a,b1 " ++ t0) "," (by rw [len_cat]; omega)
  have d2 := @dadd_s ("observe a,b1 " ++ t0 ++ ",") t3 (by simp only [len_cat]; omega)
  obtain ⟨ss, hss⟩ : ∃ ss : List Str, ss = ["add " ++ t0 ++ " " ++ t1 ++ " any | a=b", "drop " ++ t0, "swap " ++ t0 ++ " " ++ t2, "observe a,b1 " ++ t0 ++ "," ++ t3] := ⟨_, rfl⟩
  have hsl : ∀ s ∈ ss, s.length ≤ 100 := fun s hs => by
    rw [hss] at hs
    simp only [List.mem_cons, List.not_mem_nil, or_false] at hs
    rcases hs with rfl | rfl | rfl | rfl <;> (simp only [len_cat]; omega)
  obtain ⟨S0, hS⟩ : ∃ S, S = D.fl (ns.map .int) := ⟨_, rfl⟩
  obtain ⟨N0, hN⟩ : ∃ N, N = D.lst [.str t0, .str t1, .str t2, .str t3] := ⟨_, rfl⟩
  obtain ⟨e', l1, w2, ts, x6, hw2, hl2, hts, rfl⟩ := forRun_any (tg := gN 5) (b := b_law_1) (P := fun j e => ∃ (w : W) (ts : List Str) (x6 : Option W), BagW w ∧ ts.length = 25 + j ∧ (∀ z ∈ ts, z.length ≤ 900) ∧
      e = [some (.p S0), some w, some (.p N0), some (.p (.lst (ss.map .str))), some (.ol (ts.map pw)), none, x6, none, none, none, none]) (rngD 0 8) (by
    rintro j d e _ hj ⟨w, ts, x6, hw, hl, ht, rfl⟩
    have hj : j < 8 := hj
    obtain ⟨w', x', hw', hx', e1⟩ := turn_ok hw (ss := ss) (by rw [hss]; simp) (by rw [hss]; simp) hsl (ws := ts.map pw) (by simp; omega) (j := d) (a0 := some (.p S0)) (a2 := some (.p N0)) (a6 := x6) (a9 := none) (a10 := none)
    refine ⟨_, e1, w', ts ++ [x'], some (pw x'), hw', by simp; omega, fun z hz => ?_, by rw [List.map_append]; rfl⟩
    rcases List.mem_append.mp hz with hz | hz
    · exact ht z hz
    · rw [List.mem_singleton.mp hz]; exact hx') [some (.p S0), some w1, some (.p N0), some (.p (.lst (ss.map .str))), some (.ol ((ws1 ++ ws2).map pw)), none, none, none, none, none, none] ⟨w1, ws1 ++ ws2, none, hw1, rfl, ws_len, rfl⟩
  obtain ⟨e'', l2, x7, rfl⟩ := forRun_st (tg := gN 6) (b := b_law_3) (g := D.str) (fun _ e => ∃ x6 : Option W, e = [some (.p S0), some w2, some (.p N0), some (.p (.lst (ss.map .str))), some (.p (.lst (ts.map .str))), none, x6, none, none, none, none]) ts (fun pre x post e hx hp => by
    obtain ⟨x6, rfl⟩ := hp
    exact ⟨_, .inl (ask_ok (hts x (by rw [hx]; simp))), _, rfl⟩) [some (.p S0), some w2, some (.p N0), some (.p (.lst (ss.map .str))), some (.p (.lst (ts.map .str))), none, x6, none, none, none, none] ⟨x6, rfl⟩
  have k4 : (4 : Nat) ≤ LIM := by unfold LIM; omega
  have hN' := hN
  subst hS hN hss
  unfold f_law fsem m_law
  simp only [List.map_cons, List.map_nil] at l1 l2
  simp [hb, orX_bag hw0, orX_bag hw1, en, c1, c2, c3, c4, c5, c6, c7, c8, c9, d1, d2, k4, ix_0, ix_1, ix_2, ix_3, outs]
  have f1 := frz_pw ws1
  have f2 := frz_pw ts
  simp only [ws1, List.map_cons, List.map_nil, pw] at f1
  have k11 : (11 : Nat) ≤ LIM := by unfold LIM; omega
  have cat : ∀ e : MV.Env, ctK1.ctK3 e (.lst (ws1.map .str)) (.lst (ws2.map .str)) = some (.ol ((ws1 ++ ws2).map pw), e) := fun e => by
    rw [ctK3_s (by unfold LIM; decide), ← List.map_append, List.map_map]; rfl
  simp only [ws1, ws2, List.map_cons, List.map_nil, pw, List.cons_append, List.nil_append] at cat l1
  rw [f1]
  simp [k11, cat, l1]
  rw [f2]
  simp [l2]
end Lw

/-! ### the head -/
namespace Lw
open PySem PySem.W PySem.Calls PyProof.Rows L2 MV
def d_x_law_bag : He.DefD := ⟨("_law_bag", none), "_law_bag", "_law_bag", defArgs s_x_law_bag, defBody s_x_law_bag, defScope s_x_law_bag, [], []⟩
def d_x_law_pull : He.DefD := ⟨("_law_pull", none), "_law_pull", "_law_pull", defArgs s_x_law_pull, defBody s_x_law_pull, defScope s_x_law_pull, [], []⟩
def d_x_law_of : He.DefD := ⟨("_law_of", none), "_law_of", "_law_of", defArgs s_x_law_of, defBody s_x_law_of, defScope s_x_law_of, [], []⟩
def d_x_law_names : He.DefD := ⟨("_law_names", none), "_law_names", "_law_names", defArgs s_x_law_names, defBody s_x_law_names, defScope s_x_law_names, [], []⟩
def d_x_law_command_in : He.DefD := ⟨("_law_command_in", none), "_law_command_in", "_law_command_in", defArgs s_x_law_command_in, defBody s_x_law_command_in, defScope s_x_law_command_in, [], []⟩
def d_x_law_field : He.DefD := ⟨("_law_field", none), "_law_field", "_law_field", defArgs s_x_law_field, defBody s_x_law_field, defScope s_x_law_field, [], []⟩
def d_x_law_same : He.DefD := ⟨("_law_same", none), "_law_same", "_law_same", defArgs s_x_law_same, defBody s_x_law_same, defScope s_x_law_same, [], []⟩
def d_parse_command : He.DefD := ⟨("parse_command", none), "parse_command", "parse_command", defArgs s_parse_command, defBody s_parse_command, defScope s_parse_command, [], []⟩
def d_law : He.DefD := ⟨("law", none), "law", "law", defArgs s_law, defBody s_law, defScope s_law, [], []⟩
def d_x_law_try : He.DefD := ⟨("_law_try", none), "_law_try", "_law_try", defArgs s_x_law_try, defBody s_x_law_try, defScope s_x_law_try, [], []⟩
def d_InvalidText__init_ : He.DefD := ⟨("InvalidText", some "__init__"), "__init__", "InvalidText.__init__", defArgs s_InvalidText__init_, defBody s_InvalidText__init_, defScope s_InvalidText__init_, [], []⟩
def fn : List He.DefD := [d_x_law_bag, d_x_law_pull, d_x_law_of, d_x_law_names, d_x_law_command_in, d_x_law_field, d_x_law_same, d_parse_command, d_law, d_x_law_try, d_InvalidText__init_]
def fa : List He.Fa := [.glo "_law_bag", .glo "_law_pull", .glo "_law_of", .glo "_law_names", .glo "_law_command_in", .glo "_law_field", .glo "_law_same", .glo "parse_command", .glo "law", .glo "_law_try", .glo "InvalidText", .glo "NotFound", .glo "RankError", .glo "LENGTHS", .free "abs", .free "all", .free "bool", .free "int", .free "isinstance", .free "len", .free "list", .free "max", .free "range", .free "str", .free "tuple", .free "zip"]
abbrev R : PySem.W.OpenRow := PySem.W.OpenLaw.row PySem.Challenge.rw_hiddenrank_k63_texts_that_are_no_command
def lt : List (He.Defn × PySem.Str) := [(("law", none), (("law" : PySem.Str) ++ ".<locals>.") ++ "<lambda>")]
def tf : List He.Defn := [("law", none)]
def exB (K : PySem.W.Frag) : Bool := xcB K "InvalidText" false ((["word"] : List PySem.Str)) && ((exl.all fun c => caughtB K ["limit", "name", "number", "place", "position", "slot", "value", "word"] "RankError" "NotFound" c) && (ktB K "LENGTHS" tb_LENGTHS && (true)))
def ts : List He.Tab := [(fun K => He.ga K "LENGTHS", ["add", "rewrite", "drop", "raise", "lower", "above", "below", "swap", "observe", "compare"])]
abbrev hk : PySem.W.Hook := He.hookX 6 fa fn ts tf exB
def ob (s : PySem.W.SharedT) : He.AlX := He.obsX 6 fa fn ts tf exB (HandSHeadRun.getT s)
theorem ob_eq (s : PySem.W.SharedT) : ob s = hk.obs s.abs := He.obsX_eq (HandSHeadRun.getT_eq s)
def names : List PySem.Str := (["RankError", "NotFound", "InvalidText", "LENGTHS", "parse_command", "_law_bag", "_law_pull", "_law_of", "_law_same", "_law_try", "_law_names", "_law_command_in", "_law_field"] : List PySem.Str)
theorem runF (w : World) : HandSHeadRun.RunEq R (PySem.W.view R.prog [16]) hk ob 20000 names (w.withFollow "special-get-raises" false) := by
  intro os
  kernel_rfl
theorem runT (w : World) : HandSHeadRun.RunEq R (PySem.W.view R.prog [16]) hk ob 20000 names (w.withFollow "special-get-raises" true) := by
  intro os
  kernel_rfl
theorem run (w : World) : HandSHeadRun.RunEq R (PySem.W.view R.prog [16]) hk ob 20000 names w := PySem.W.byRow2 "special-get-raises" (P := fun w => HandSHeadRun.RunEq R (PySem.W.view R.prog [16]) hk ob 20000 names w) runF runT w
theorem facts {K : PySem.W.Frag} {w : World} {h : Heap} {mg : Str → Option Value} (X : K.In h) (G : h.Ns mainGlobals mg) (c : He.SaysT fa fn ts w K) (m : exB K = true) : Facts K mg w where
  xc_InvalidText := (ba2 m).1
  caught := (ba2 (ba2 m).2).1
  kt_LENGTHS := ⟨He.glo_ok X G (c.d.fact 13 (f := .glo "LENGTHS") rfl), c.tab 0, (ba2 (ba2 (ba2 m).2).2).1⟩
  g_x_law_bag := He.glo_ok X G (c.d.fact 0 (f := .glo "_law_bag") rfl)
  g_x_law_pull := He.glo_ok X G (c.d.fact 1 (f := .glo "_law_pull") rfl)
  g_x_law_of := He.glo_ok X G (c.d.fact 2 (f := .glo "_law_of") rfl)
  g_x_law_names := He.glo_ok X G (c.d.fact 3 (f := .glo "_law_names") rfl)
  g_x_law_command_in := He.glo_ok X G (c.d.fact 4 (f := .glo "_law_command_in") rfl)
  g_x_law_field := He.glo_ok X G (c.d.fact 5 (f := .glo "_law_field") rfl)
  g_x_law_same := He.glo_ok X G (c.d.fact 6 (f := .glo "_law_same") rfl)
  g_parse_command := He.glo_ok X G (c.d.fact 7 (f := .glo "parse_command") rfl)
  g_law := He.glo_ok X G (c.d.fact 8 (f := .glo "law") rfl)
  g_x_law_try := He.glo_ok X G (c.d.fact 9 (f := .glo "_law_try") rfl)
  cl_InvalidText := He.glo_ok X G (c.d.fact 10 (f := .glo "InvalidText") rfl)
  cl_NotFound := He.glo_ok X G (c.d.fact 11 (f := .glo "NotFound") rfl)
  cl_RankError := He.glo_ok X G (c.d.fact 12 (f := .glo "RankError") rfl)
  n_abs := He.free_ok X G (c.d.fact 14 (f := .free "abs") rfl)
  n_all := He.free_ok X G (c.d.fact 15 (f := .free "all") rfl)
  n_bool := He.free_ok X G (c.d.fact 16 (f := .free "bool") rfl)
  n_int := He.free_ok X G (c.d.fact 17 (f := .free "int") rfl)
  n_isinstance := He.free_ok X G (c.d.fact 18 (f := .free "isinstance") rfl)
  n_len := He.free_ok X G (c.d.fact 19 (f := .free "len") rfl)
  n_list := He.free_ok X G (c.d.fact 20 (f := .free "list") rfl)
  n_max := He.free_ok X G (c.d.fact 21 (f := .free "max") rfl)
  n_range := He.free_ok X G (c.d.fact 22 (f := .free "range") rfl)
  n_str := He.free_ok X G (c.d.fact 23 (f := .free "str") rfl)
  n_tuple := He.free_ok X G (c.d.fact 24 (f := .free "tuple") rfl)
  n_zip := He.free_ok X G (c.d.fact 25 (f := .free "zip") rfl)
  d_x_law_bag := c.d.def_ 0 (d := d_x_law_bag) rfl
  d_x_law_pull := c.d.def_ 1 (d := d_x_law_pull) rfl
  d_x_law_of := c.d.def_ 2 (d := d_x_law_of) rfl
  d_x_law_names := c.d.def_ 3 (d := d_x_law_names) rfl
  d_x_law_command_in := c.d.def_ 4 (d := d_x_law_command_in) rfl
  d_x_law_field := c.d.def_ 5 (d := d_x_law_field) rfl
  d_x_law_same := c.d.def_ 6 (d := d_x_law_same) rfl
  d_parse_command := c.d.def_ 7 (d := d_parse_command) rfl
  d_law := c.d.def_ 8 (d := d_law) rfl
  d_x_law_try := c.d.def_ 9 (d := d_x_law_try) rfl
  d_InvalidText__init_ := c.d.def_ 10 (d := d_InvalidText__init_) rfl
end Lw
open PySem PySem.W PySem.Calls PyProof.Rows
theorem PySem.Challenge.cw_hiddenrank_k63_texts_that_are_no_command_holds : PySem.Challenge.rw_hiddenrank_k63_texts_that_are_no_command.Holds := by
  w_on; o_law
  refine HandSHeadRun.head_any (r := OpenLaw.row PySem.Challenge.rw_hiddenrank_k63_texts_that_are_no_command) (q := view (OpenLaw.row PySem.Challenge.rw_hiddenrank_k63_texts_that_are_no_command).prog [16]) (H := Lw.hk) (ob := Lw.ob) (M := 20000) (loose := Lw.names) (d := HandSHeadRun.topDef (OpenLaw.row PySem.Challenge.rw_hiddenrank_k63_texts_that_are_no_command).prog 16) (kwd := []) Lw.ob_eq
    (by kernel_rfl) (fun s => by kernel_rfl) Lw.run (by kernel_rfl) (by kernel_rfl) (by kernel_rfl) (by rfl) (by first | assumption | decide +kernel) (by decide +kernel) ⟨rfl, rfl, rfl, rfl, rfl, by decide +kernel⟩ ?hw ?hc
  case hw => w_witness2
  case hc =>
    refine LamX.walk_ofTsE (l := PySem.Challenge.rw_hiddenrank_k63_texts_that_are_no_command) (n := 63) (k := 12) (x := "_law_script") (CX := fun _ => L2.CX0) rfl (by decide) (by kernel_rfl) ⟨rfl, by decide, by decide⟩ ?F (fun _ _ _ _ _ z => z)
    intro w mg fa h Y G hmg0
    obtain ⟨K, KX, c⟩ := Y
    have hmg : mg ("law" : PySem.Str) = some (.ref fa) := by
      have e : (HandSHeadRun.topDef (OpenLaw.row PySem.Challenge.rw_hiddenrank_k63_texts_that_are_no_command).prog 16).name = ("law" : PySem.Str) := by kernel_rfl
      rw [← e]
      exact hmg0
    have T := Lw.facts KX G c.t c.more
    obtain ⟨fd, F⟩ := T.d_law
    have e := hmg.symm.trans T.g_law
    cases e
    have hb := L2.FunD.bindsA (ps := ["_law_script"]) F fun _ _ _ _ _ _ us hl => match us, hl with | [_], _ => rfl
    letI : MV.TB := ⟨MV.tabsT K Lw.lt⟩
    have nd : ((MV.tabsT K Lw.lt).map (·.1)).Nodup := MV.tabsT_nd (by simp [Lw.lt])
    have mem : ∀ {x : He.Defn × PySem.Str}, x ∈ Lw.lt → (He.tabOf K (He.codeOf K x.1), x.2) ∈ MV.tabsT K Lw.lt := fun hx => List.mem_map.mpr ⟨_, hx, rfl⟩
    refine ⟨K, KX, fd, Lw.tf.map (He.cT K), MV.sp0 (MV.spF K mg 1 Lw.f_law), fun p hp => ?_, fun p hp => ?_, fun p hp => ?_, fun s v => hb s [v] rfl, fun H a ns hl _ hT hS => MV.law_sp Lw.law_true H a ns hl hS (MV.tabs_new fun p hp => ?_), fun base _ _ hTB => MV.fn0 (Lw.all_law T (MV.lamF_of (df := ("law", none)) (q := ((("law" : Str) ++ ".<locals>.") ++ "<lambda>")) (fun p hp => by rw [List.mem_singleton.mp hp]; exact hTB _ (List.mem_map.mpr ⟨("law", none), (by simp [Lw.tf]), rfl⟩)) (mem (x := (("law", none), ((("law" : Str) ++ ".<locals>.") ++ "<lambda>"))) (by simp [Lw.lt])) (MV.only_of nd (mem (x := (("law", none), ((("law" : Str) ++ ".<locals>.") ++ "<lambda>"))) (by simp [Lw.lt])))) F)⟩
    · obtain ⟨q, hq, rfl⟩ := List.mem_map.mp hp
      exact c.empty _ hq
    · obtain ⟨q, hq, rfl⟩ := List.mem_map.mp hp
      exact c.out _ hq
    · obtain ⟨q, hq, rfl⟩ := List.mem_map.mp hp
      exact PySem.W.codeHd_of_K KX (c.hd _ hq)
    · obtain ⟨q, hq, rfl⟩ := List.mem_map.mp hp
      exact hT _ (List.mem_map.mpr ⟨q.1, List.mem_map.mpr ⟨q, hq, rfl⟩, rfl⟩)
