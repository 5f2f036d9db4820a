import PyProof.Rows.All
import Wide.All
import OpenK.AllK
import Wide.FinOn
import HandS.Base
import HandS.Call
import HandS.List
import HandS.Exc
import HandS.CallSlots
import HandS.ExcInit
import HandS.Text
import HandS.ForMost
import HandS.ForExc
import HandS.IsInst
import HandS.Wide
import HandS.Deep
import PyProof.ReprRoads
import PyProof.InstEq
import HandS.Defaults
import HandS.ClsMeth
import HandS.FStr
import HandS.RaiseMore
import HandS.TryMany
import HandS.Iter
import HandS.ExcField
import HandS.TryOnly
import HandS.Conv
import HandS.ExcIs
import KE.KExcIs
import HandS.HeadHook2
import HandS.HeadNt
import HandS.Ends
import HandS.EndBits
import HandS.Head2
import PySem.Challenge.RW_fairbatches_k01_errors
import KE.KStateDown
import HandS.HeadEnd
set_option Elab.async false
set_option linter.all false
set_option maxRecDepth 100000
set_option maxHeartbeats 4000000
namespace M
open PySem PySem.Spec PyProof.Rows L2

/-! data without addresses -/
inductive D where
  | non | bl (b : Bool) | int (i : Int) | str (x : Str)
  | lst (xs : List D) | tup (xs : List D)
  | dic (ks : List Key) (vs : List D) | dicT (ks : List (List Key)) (vs : List D)
  | ins (c : Str) (ks : List Str) (vs : List D)
  | cls (c : Str)
  /-- a list that is never changed (the script) -/
  | fro (xs : List D)
  /-- an error that is held as a value -/
  | err (c : Str) (ks : List Str) (vs : List D)
/-- a value: data, or a mutable thing by its number -/
inductive W where
  | p (d : D) | c (n : Nat)
/-- what a mutable thing holds -/
inductive Ct where
  | lst (ws : List W) | dic (ks : List Key) (ws : List W) | dicT (ks : List (List Key)) (ws : List W)
  | ins (c : Str) (ks : List Str) (ws : List W)
inductive Cel where
  | live (c : Ct) | dead (d : D)
abbrev Sto := List Cel
/-- results -/
inductive Rs (α : Type) where
  | no | ok (a : α) (S : Sto) | ex (c : Str) (ks : List Str) (ds : List D) (S : Sto)
def Rs.bind {α β : Type} : Rs α → (α → Sto → Rs β) → Rs β
  | .no, _ => .no
  | .ok a S, g => g a S
  | .ex c ks ds S, _ => .ex c ks ds S
@[simp] theorem Rs.bind_no {α β : Type} (g : α → Sto → Rs β) : Rs.bind .no g = .no := rfl
@[simp] theorem Rs.bind_ok {α β : Type} (a : α) (S : Sto) (g : α → Sto → Rs β) : Rs.bind (.ok a S) g = g a S := rfl
@[simp] theorem Rs.bind_ex {α β : Type} (c ks ds S) (g : α → Sto → Rs β) : Rs.bind (.ex c ks ds S) g = .ex c ks ds S := rfl

/-! what a value of the program represents -/
/-- classes of the program: where they stand -/
structure Cl where
  i : Str → Option Addr
  x : Str → Option Addr
  /-- what stands for good -/
  e : Hp
  /-- the error that is being handled: its slot, where it stands -/
  h : Option (Nat × Addr)
mutual
def Rep (C : Cl) (F : Hp) : D → V → Prop
  | .non, v => v = .non
  | .bl b, v => v = .bl b
  | .int i, v => v = .int i
  | .str x, v => v = .str x
  | .lst xs, v => ∃ a vs, v = .ref a ∧ F a = some (.lst vs) ∧ Reps C F xs vs
  | .tup xs, v => ∃ a vs, v = .ref a ∧ F a = some (.tup vs) ∧ Reps C F xs vs
  | .dic ks ds, v => ∃ a vs ob, v = .ref a ∧ F a = some (.frz ob (.dK (ks.zip vs))) ∧ Reps C F ds vs ∧ ks.length = ds.length
  | .dicT ks ds, v => ∃ a vs ob, v = .ref a ∧ F a = some (.frz ob (.dT (ks.zip vs))) ∧ Reps C F ds vs ∧ ks.length = ds.length
  | .ins c ks ds, v => ∃ a A dx vs, v = .ref a ∧ C.i c = some A ∧ F a = some (.ins A dx (ks.zip vs)) ∧ Reps C F ds vs ∧ ks.length = ds.length
  | .cls c, v => ∃ A, v = .ref A ∧ C.i c = some A
  | .fro xs, v => ∃ a vs ob, v = .ref a ∧ F a = some (.frz ob (.lst vs)) ∧ Reps C F xs vs
  | .err c ks ds, v => ∃ a A vs, v = .ref a ∧ C.x c = some A ∧ Reps C F ds vs ∧ ks.length = ds.length ∧ ((ks = [] ∧ F a = some (exo a A none)) ∨ ∃ dx, F a = some (exo a A (some dx)) ∧ F dx = some (exd dx (ks.zip vs)))
def Reps (C : Cl) (F : Hp) : List D → List V → Prop
  | [], vs => vs = []
  | d :: ds, vs => ∃ v r, vs = v :: r ∧ Rep C F d v ∧ Reps C F ds r
end
abbrev Sub (F F' : Hp) : Prop := ∀ a o, F a = some o → F' a = some o
theorem Sub.refl (F : Hp) : Sub F F := fun _ _ h => h
theorem Sub.trans {F G H : Hp} (a : Sub F G) (b : Sub G H) : Sub F H := fun x o h => b x o (a x o h)
theorem Sub.new {F : Hp} {p : Addr} {o : HO} (h : F p = none) : Sub F (upd F p o) := fun a u e => by
  rw [upd_ne (ne_of_none e h)]
  exact e
mutual
theorem Rep.mono {C : Cl} {F F' : Hp} (s : Sub F F') : ∀ {d : D} {v : V}, Rep C F d v → Rep C F' d v
  | .non, _, h => by simpa [Rep] using h
  | .bl _, _, h => by simpa [Rep] using h
  | .int _, _, h => by simpa [Rep] using h
  | .str _, _, h => by simpa [Rep] using h
  | .lst _, _, h => by
    unfold Rep at h ⊢
    obtain ⟨a, vs, e, f, r⟩ := h
    exact ⟨a, vs, e, s _ _ f, Reps.mono s r⟩
  | .tup _, _, h => by
    unfold Rep at h ⊢
    obtain ⟨a, vs, e, f, r⟩ := h
    exact ⟨a, vs, e, s _ _ f, Reps.mono s r⟩
  | .dic _ _, _, h => by
    unfold Rep at h ⊢
    obtain ⟨a, vs, ob, e, f, r, l⟩ := h
    exact ⟨a, vs, ob, e, s _ _ f, Reps.mono s r, l⟩
  | .dicT _ _, _, h => by
    unfold Rep at h ⊢
    obtain ⟨a, vs, ob, e, f, r, l⟩ := h
    exact ⟨a, vs, ob, e, s _ _ f, Reps.mono s r, l⟩
  | .ins _ _ _, _, h => by
    unfold Rep at h ⊢
    obtain ⟨a, A, dx, vs, e, c, f, r, l⟩ := h
    exact ⟨a, A, dx, vs, e, c, s _ _ f, Reps.mono s r, l⟩
  | .cls _, _, h => by simpa [Rep] using h
  | .fro _, _, h => by
    unfold Rep at h ⊢
    obtain ⟨a, vs, ob, e, f, r⟩ := h
    exact ⟨a, vs, ob, e, s _ _ f, Reps.mono s r⟩
  | .err _ _ _, _, h => by
    unfold Rep at h ⊢
    obtain ⟨a, A, vs, e, c, r, l, f⟩ := h
    exact ⟨a, A, vs, e, c, Reps.mono s r, l, f.imp (fun f => ⟨f.1, s _ _ f.2⟩) fun ⟨dx, f1, f2⟩ => ⟨dx, s _ _ f1, s _ _ f2⟩⟩
theorem Reps.mono {C : Cl} {F F' : Hp} (s : Sub F F') : ∀ {ds : List D} {vs : List V}, Reps C F ds vs → Reps C F' ds vs
  | [], _, h => by simpa [Reps] using h
  | d :: ds, _, h => by
    unfold Reps at h ⊢
    obtain ⟨v, r, e, h1, h2⟩ := h
    exact ⟨v, r, e, Rep.mono s h1, Reps.mono s h2⟩
end
theorem Reps.length {C : Cl} {F : Hp} : ∀ {ds : List D} {vs : List V}, Reps C F ds vs → ds.length = vs.length
  | [], _, h => by unfold Reps at h; subst h; rfl
  | d :: ds, _, h => by
    unfold Reps at h
    obtain ⟨v, r, rfl, _, h2⟩ := h
    simp [Reps.length h2]
theorem Reps.nil {C : Cl} {F : Hp} : Reps C F [] [] := by unfold Reps; rfl
theorem Reps.cons {C : Cl} {F : Hp} {d : D} {v : V} {ds : List D} {vs : List V} (h : Rep C F d v) (t : Reps C F ds vs) : Reps C F (d :: ds) (v :: vs) := by
  unfold Reps; exact ⟨v, vs, rfl, h, t⟩
theorem Reps.get {C : Cl} {F : Hp} : ∀ {ds : List D} {vs : List V} {i : Nat} {d : D}, Reps C F ds vs → ds[i]? = some d → ∃ v, vs[i]? = some v ∧ Rep C F d v
  | [], _, _, _, _, e => by simp at e
  | d :: ds, _, i, x, h, e => by
    unfold Reps at h
    obtain ⟨v, r, rfl, h1, h2⟩ := h
    cases i with
    | zero => simp at e; subst e; exact ⟨v, rfl, h1⟩
    | succ i => simpa using Reps.get h2 (by simpa using e)
theorem Reps.append {C : Cl} {F : Hp} : ∀ {ds es : List D} {vs us : List V}, Reps C F ds vs → Reps C F es us → Reps C F (ds ++ es) (vs ++ us)
  | [], _, _, _, h, k => by unfold Reps at h; subst h; exact k
  | d :: ds, es, _, us, h, k => by
    unfold Reps at h
    obtain ⟨v, r, rfl, h1, h2⟩ := h
    exact Reps.cons h1 (Reps.append h2 k)
theorem Reps.take {C : Cl} {F : Hp} : ∀ (n : Nat) {ds : List D} {vs : List V}, Reps C F ds vs → Reps C F (ds.take n) (vs.take n)
  | 0, _, _, _ => by simp; exact Reps.nil
  | n + 1, [], _, h => by unfold Reps at h; subst h; simp; exact Reps.nil
  | n + 1, d :: ds, _, h => by
    unfold Reps at h
    obtain ⟨v, r, rfl, h1, h2⟩ := h
    exact Reps.cons h1 (Reps.take n h2)
theorem Reps.drop {C : Cl} {F : Hp} : ∀ (n : Nat) {ds : List D} {vs : List V}, Reps C F ds vs → Reps C F (ds.drop n) (vs.drop n)
  | 0, _, _, h => h
  | n + 1, [], _, h => by unfold Reps at h; subst h; simp; exact Reps.nil
  | n + 1, d :: ds, _, h => by
    unfold Reps at h
    obtain ⟨v, r, rfl, h1, h2⟩ := h
    exact Reps.drop n h2

/-- φ: where the mutable things stand; F: what never changes any more -/
def RepW (C : Cl) (φ : List Addr) (F : Hp) : W → V → Prop
  | .p d, v => Rep C F d v
  | .c n, v => ∃ a, φ[n]? = some a ∧ v = .ref a
def RepWs (C : Cl) (φ : List Addr) (F : Hp) : List W → List V → Prop := Paired (RepW C φ F)
def RepCt (C : Cl) (φ : List Addr) (F : Hp) : Ct → HO → Prop
  | .lst ws, o => ∃ vs, o = .lst vs ∧ RepWs C φ F ws vs
  | .dic ks ws, o => ∃ vs, o = .dK (ks.zip vs) ∧ RepWs C φ F ws vs ∧ ks.length = ws.length
  | .dicT ks ws, o => ∃ vs, o = .dT (ks.zip vs) ∧ RepWs C φ F ws vs ∧ ks.length = ws.length
  | .ins c ks ws, o => ∃ A dx vs, C.i c = some A ∧ o = .ins A dx (ks.zip vs) ∧ RepWs C φ F ws vs ∧ ks.length = ws.length
/-- what may be locked while it is read -/
def Lk : HO → Prop
  | .dK _ => True
  | .dT _ => True
  | _ => False
def Hd (H : Hp) (a : Addr) (o : HO) : Prop := H a = some o ∨ (Lk o ∧ ∃ ob, H a = some (.frz ob o))
theorem Hd.rd {H : Hp} {a : Addr} {o : HO} (h : Hd H a o) : Rd H a o := by
  rcases h with h | ⟨_, ob, h⟩
  · exact .inl h
  · exact .inr ⟨ob, h⟩
theorem Hd.at {H : Hp} {a : Addr} {o : HO} (h : Hd H a o) (n : ¬ Lk o) : H a = some o := by
  rcases h with h | ⟨k, _⟩
  · exact h
  · exact absurd k n
theorem Hd.some {H : Hp} {a : Addr} {o : HO} (h : Hd H a o) : H a ≠ none := by
  rcases h with h | ⟨_, ob, h⟩ <;> rw [h] <;> simp
def CelOk (C : Cl) (φ : List Addr) (F H : Hp) (a : Addr) : Cel → Prop
  | .live c => F a = none ∧ ∃ o, H a = some o ∧ RepCt C φ F c o
  | .dead d => Rep C F d (.ref a)
structure SR (C : Cl) (φ : List Addr) (F : Hp) (S : Sto) (H : Hp) : Prop where
  fh : ∀ a o, F a = some o → Hd H a o
  len : φ.length = S.length
  nd : φ.Nodup
  sl : ∀ (n : Nat) s a, S[n]? = some s → φ[n]? = some a → CelOk C φ F H a s
  th : ∀ a, a ∈ φ → H a ≠ none
  xe : Sub C.e F
structure Grow (φ : List Addr) (F : Hp) (φ' : List Addr) (F' : Hp) : Prop where
  f : Sub F F'
  p : φ <+: φ'
theorem Grow.refl (φ : List Addr) (F : Hp) : Grow φ F φ F := ⟨Sub.refl F, List.prefix_rfl⟩
theorem Grow.trans {φ φ1 φ2 : List Addr} {F F1 F2 : Hp} (a : Grow φ F φ1 F1) (b : Grow φ1 F1 φ2 F2) : Grow φ F φ2 F2 := ⟨a.f.trans b.f, a.p.trans b.p⟩
theorem Grow.get {φ φ' : List Addr} {F F' : Hp} (g : Grow φ F φ' F') {n : Nat} {a : Addr} (h : φ[n]? = some a) : φ'[n]? = some a := by
  obtain ⟨t, rfl⟩ := g.p
  rw [List.getElem?_append_left]
  · exact h
  · exact (List.getElem?_eq_some_iff.mp h).1
theorem RepW.mono {C : Cl} {φ φ' : List Addr} {F F' : Hp} (g : Grow φ F φ' F') {w : W} {v : V} (h : RepW C φ F w v) : RepW C φ' F' w v := by
  cases w with
  | p d => exact Rep.mono g.f h
  | c n =>
    obtain ⟨a, e, q⟩ := h
    exact ⟨a, g.get e, q⟩
theorem Paired.imp {α β : Type} {R Q : α → β → Prop} (h : ∀ a b, R a b → Q a b) : ∀ {as : List α} {bs : List β}, Paired R as bs → Paired Q as bs
  | _, _, .nil => .nil
  | _, _, .cons r t => .cons (h _ _ r) (Paired.imp h t)
theorem RepWs.mono {C : Cl} {φ φ' : List Addr} {F F' : Hp} (g : Grow φ F φ' F') {ws : List W} {vs : List V} (h : RepWs C φ F ws vs) : RepWs C φ' F' ws vs := Paired.imp (fun _ _ => RepW.mono g) h
theorem RepCt.mono {C : Cl} {φ φ' : List Addr} {F F' : Hp} (g : Grow φ F φ' F') {c : Ct} {o : HO} (h : RepCt C φ F c o) : RepCt C φ' F' c o := by
  cases c with
  | lst ws => obtain ⟨vs, e, r⟩ := h; exact ⟨vs, e, r.mono g⟩
  | dic ks ws => obtain ⟨vs, e, r, l⟩ := h; exact ⟨vs, e, r.mono g, l⟩
  | dicT ks ws => obtain ⟨vs, e, r, l⟩ := h; exact ⟨vs, e, r.mono g, l⟩
  | ins c ks ws => obtain ⟨A, dx, vs, ec, e, r, l⟩ := h; exact ⟨A, dx, vs, ec, e, r.mono g, l⟩
theorem repWs_p {C : Cl} {φ : List Addr} {F : Hp} : ∀ {ds : List D} {vs : List V}, RepWs C φ F (ds.map .p) vs ↔ Reps C F ds vs
  | [], vs => by
    constructor
    · intro h; cases h; exact Reps.nil
    · intro h; unfold Reps at h; subst h; exact .nil
  | d :: ds, vs => by
    constructor
    · intro h
      cases h with
      | cons r t => exact Reps.cons r (repWs_p.mp t)
    · intro h
      unfold Reps at h
      obtain ⟨v, r, rfl, h1, h2⟩ := h
      exact .cons h1 (repWs_p.mpr h2)

/-! environments -/
abbrev Env := List (Option W)
/-- slot i is not the handled error's -/
def Free (C : Cl) (i : Nat) : Prop := ∀ p, C.h = some p → p.1 ≠ i
def EnvR (C : Cl) (φ : List Addr) (F : Hp) (ρ : Env) (σ : L2.St) : Prop :=
  (ρ.length = σ.length ∧ ∀ p, C.h = some p → σ[p.1]? = some (some (.ref p.2))) ∧ ∀ (i : Nat) w, ρ[i]? = some (some w) → ∃ v, σ[i]? = some (some v) ∧ RepW C φ F w v
theorem EnvR.mono {C : Cl} {φ φ' : List Addr} {F F' : Hp} (g : Grow φ F φ' F') {ρ : Env} {σ : L2.St} (h : EnvR C φ F ρ σ) : EnvR C φ' F' ρ σ :=
  ⟨h.1, fun i w e => let ⟨v, e1, r⟩ := h.2 i w e; ⟨v, e1, r.mono g⟩⟩
theorem EnvR.set {C : Cl} {φ : List Addr} {F : Hp} {ρ : Env} {σ : L2.St} (h : EnvR C φ F ρ σ) (i : Nat) (hh : Free C i) {w : W} {v : V} (r : RepW C φ F w v) : EnvR C φ F (ρ.set i (some w)) (σ.set i (some v)) := by
  refine ⟨⟨by simpa using h.1.1, fun p e => by rw [List.getElem?_set_ne (Ne.symm (hh p e))]; exact h.1.2 p e⟩, fun j u e => ?_⟩
  by_cases hj : i = j
  · subst hj
    by_cases hl : i < ρ.length
    · rw [List.getElem?_set_self hl] at e
      cases e
      exact ⟨v, List.getElem?_set_self (by rw [← h.1.1]; exact hl), r⟩
    · rw [List.getElem?_eq_none (by simpa using hl)] at e
      cases e
  · rw [List.getElem?_set_ne hj] at e ⊢
    exact h.2 j u e
theorem EnvR.unset {C : Cl} {φ : List Addr} {F : Hp} {ρ : Env} {σ : L2.St} (h : EnvR C φ F ρ σ) (i : Nat) (hh : Free C i) (o : Option V) : EnvR C φ F (ρ.set i none) (σ.set i o) := by
  refine ⟨⟨by simpa using h.1.1, fun p e => by rw [List.getElem?_set_ne (Ne.symm (hh p e))]; exact h.1.2 p e⟩, fun j u e => ?_⟩
  by_cases hj : i = j
  · subst hj
    by_cases hl : i < ρ.length
    · rw [List.getElem?_set_self hl] at e
      cases e
    · rw [List.getElem?_eq_none (by simpa using hl)] at e
      cases e
  · rw [List.getElem?_set_ne hj] at e ⊢
    exact h.2 j u e
theorem free_none {C : Cl} (h : C.h = none) (i : Nat) : Free C i := fun p e => by rw [h] at e; cases e

/-! answers -/
def ExR (C : Cl) (F : Hp) (c : Str) (ks : List Str) (ds : List D) (cls : Value) (d : Option Addr) : Prop :=
  ∃ A, C.x c = some A ∧ cls = .ref A ∧ ks.length = ds.length ∧ ((ks = [] ∧ d = none) ∨ ∃ dd vs, d = some dd ∧ F dd = some (.xd (ks.zip vs)) ∧ Reps C F ds vs)
def Ans {α β : Type} (C : Cl) (Rel : List Addr → Hp → α → β → Prop) (φ : List Addr) (F : Hp) (r : Rs α) (Q : β → Hp → Prop) (E : XK) : Prop :=
  match r with
  | .no => False
  | .ok a S' => ∀ b φ' F' H', Grow φ F φ' F' → SR C φ' F' S' H' → Rel φ' F' a b → Q b H'
  | .ex c ks ds S' => ∀ cls d φ' F' H', Grow φ F φ' F' → SR C φ' F' S' H' → ExR C F' c ks ds cls d → E cls d H'
section
variable {α β γ δ : Type} {C : Cl} {Rel : List Addr → Hp → α → β → Prop} {Rel' : List Addr → Hp → γ → δ → Prop} {φ φ' : List Addr} {F F' : Hp} {r : Rs α} {Q Q' : β → Hp → Prop} {E E' : XK}
theorem Ans.mono (h : Ans C Rel φ F r Q E) (k : ∀ b H, Q b H → Q' b H) (k' : ∀ c d H, E c d H → E' c d H) : Ans C Rel φ F r Q' E' := by
  cases r with
  | no => exact h
  | ok a S => exact fun b φ' F' H' g s q => k _ _ (h b φ' F' H' g s q)
  | ex c ks ds S => exact fun cl d φ' F' H' g s q => k' _ _ _ (h cl d φ' F' H' g s q)
theorem Ans.grow (g : Grow φ F φ' F') (h : Ans C Rel φ F r Q E) : Ans C Rel φ' F' r Q E := by
  cases r with
  | no => exact h
  | ok a S => exact fun b φ2 F2 H' g2 s q => h b φ2 F2 H' (g.trans g2) s q
  | ex c ks ds S => exact fun cl d φ2 F2 H' g2 s q => h cl d φ2 F2 H' (g.trans g2) s q
theorem Ans.bind {g : α → Sto → Rs γ} {Q : δ → Hp → Prop} (h : Ans C Rel' φ F (r.bind g) Q E) :
    Ans C Rel φ F r (fun b H1 => ∃ a S1 φ1 F1, Grow φ F φ1 F1 ∧ SR C φ1 F1 S1 H1 ∧ Rel φ1 F1 a b ∧ Ans C Rel' φ1 F1 (g a S1) Q E) E := by
  cases r with
  | no => exact h
  | ok a S => exact fun b φ' F' H' g' s q => ⟨a, S, φ', F', g', s, q, h.grow g'⟩
  | ex c ks ds S => exact h
theorem Ans.ok {a : α} {b : β} {S : Sto} {H : Hp} (h : Ans C Rel φ F (.ok a S) Q E) (s : SR C φ F S H) (q : Rel φ F a b) : Q b H := h b φ F H (Grow.refl φ F) s q
end
end M
set_option Elab.async false
set_option linter.all false
set_option maxRecDepth 100000
set_option maxHeartbeats 4000000
namespace M
open PySem PySem.Spec PyProof.Rows L2

section
variable {C : Cl} {φ : List Addr} {F H : Hp} {S : Sto} {p a : Addr} {o : HO} {n : Nat}
theorem SR.ne (s : SR C φ F S H) (hp : H p = none) : ∀ a ∈ φ, a ≠ p := fun a ha e => s.th a ha (e ▸ hp)
theorem SR.fn (s : SR C φ F S H) (hp : H p = none) : F p = none := by
  cases e : F p with
  | none => rfl
  | some o => exact absurd hp (s.fh p o e).some
theorem Hd.upd (h : Hd H a o) (ne : a ≠ p) {u : HO} : Hd (upd H p u) a o := by
  unfold Hd
  rw [upd_ne ne]
  exact h
/-- a thing beside -/
theorem SR.other (s : SR C φ F S H) (hp : H p = none) : SR C φ F S (upd H p o) where
  fh := fun a u e => (s.fh a u e).upd fun z => by
    rw [z, s.fn hp] at e; cases e
  len := s.len
  nd := s.nd
  sl := fun n sl a e1 e2 => by
    have q := s.sl n sl a e1 e2
    cases sl with
    | live c =>
      obtain ⟨f, u, hu, r⟩ := q
      exact ⟨f, u, by rw [upd_ne (s.ne hp a (List.mem_of_getElem? e2))]; exact hu, r⟩
    | dead d => exact q
  th := fun a ha => by rw [upd_ne (s.ne hp a ha)]; exact s.th a ha
  xe := s.xe
/-- new data -/
theorem SR.pure (s : SR C φ F S H) (hp : H p = none) : SR C φ (upd F p o) S (upd H p o) := by
  have g : Grow φ F φ (upd F p o) := ⟨Sub.new (s.fn hp), List.prefix_rfl⟩
  refine ⟨fun a u e => ?_, s.len, s.nd, fun n sl a e1 e2 => ?_, (s.other hp).th, s.xe.trans g.f⟩
  · by_cases h : a = p
    · subst h
      rw [upd_same] at e
      exact .inl (upd_same.trans e)
    · rw [upd_ne h] at e
      exact (s.fh a u e).upd h
  · have ne := s.ne hp a (List.mem_of_getElem? e2)
    have q := s.sl n sl a e1 e2
    cases sl with
    | live c =>
      obtain ⟨f, u, hu, r⟩ := q
      exact ⟨by rw [upd_ne ne]; exact f, u, by rw [upd_ne ne]; exact hu, r.mono g⟩
    | dead d => exact Rep.mono g.f q
theorem SR.gpure (s : SR C φ F S H) (hp : H p = none) : Grow φ F φ (upd F p o) := ⟨Sub.new (s.fn hp), List.prefix_rfl⟩
/-- a new mutable thing -/
theorem SR.gcell : Grow φ F (φ ++ [p]) F := ⟨Sub.refl F, List.prefix_append _ _⟩
theorem SR.cell (s : SR C φ F S H) (hp : H p = none) {c : Ct} (r : RepCt C φ F c o) : SR C (φ ++ [p]) F (S ++ [.live c]) (upd H p o) := by
  have g : Grow φ F (φ ++ [p]) F := SR.gcell
  refine ⟨(s.other hp).fh, by simp [s.len], ?_, fun n sl a e1 e2 => ?_, fun a ha => ?_, s.xe⟩
  · rw [List.nodup_append]
    exact ⟨s.nd, by simp, fun a ha b hb => by simp at hb; subst hb; exact s.ne hp a ha⟩
  · by_cases hn : n < S.length
    · rw [List.getElem?_append_left hn] at e1
      rw [List.getElem?_append_left (by rw [s.len]; exact hn)] at e2
      have q := (s.other (o := o) hp).sl n sl a e1 e2
      cases sl with
      | live c =>
        obtain ⟨f, u, hu, r⟩ := q
        exact ⟨f, u, hu, r.mono g⟩
      | dead d => exact q
    · have e : n = S.length := by
        have := (List.getElem?_eq_some_iff.mp e1).1
        simp at this; omega
      subst e
      simp at e1
      subst e1
      rw [← s.len] at e2
      simp at e2
      subst e2
      exact ⟨s.fn hp, o, upd_same, r.mono g⟩
  · rcases List.mem_append.mp ha with h | h
    · exact (s.other hp).th a h
    · simp at h; subst h; rw [upd_same]; simp
theorem SR.at_ (s : SR C φ F S H) {sl : Cel} (e : S[n]? = some sl) : ∃ a, φ[n]? = some a ∧ CelOk C φ F H a sl := by
  have h : n < φ.length := by rw [s.len]; exact (List.getElem?_eq_some_iff.mp e).1
  exact ⟨φ[n], List.getElem?_eq_getElem h, s.sl n sl _ e (List.getElem?_eq_getElem h)⟩
theorem nodup_get {l : List Addr} (h : l.Nodup) {i j : Nat} {x : Addr} (a : l[i]? = some x) (b : l[j]? = some x) : i = j := by
  obtain ⟨h1, e1⟩ := List.getElem?_eq_some_iff.mp a
  obtain ⟨h2, e2⟩ := List.getElem?_eq_some_iff.mp b
  exact (List.getElem_inj h).mp (e1.trans e2.symm)
/-- a mutable thing is changed -/
theorem SR.mut (s : SR C φ F S H) {c c' : Ct} (e : S[n]? = some (.live c)) (ea : φ[n]? = some a) (r : RepCt C φ F c' o) : SR C φ F (S.set n (.live c')) (upd H a o) := by
  obtain ⟨fa, u0, hu0, _⟩ := s.sl n _ a e ea
  refine ⟨fun b u q => (s.fh b u q).upd (fun z => by rw [z, fa] at q; cases q), by simp [s.len], s.nd, fun m sl b e1 e2 => ?_, fun b hb => ?_, s.xe⟩
  · by_cases hm : n = m
    · subst hm
      have hl : n < S.length := (List.getElem?_eq_some_iff.mp e).1
      rw [List.getElem?_set_self hl] at e1
      cases e1
      rw [ea] at e2; cases e2
      exact ⟨fa, o, upd_same, r⟩
    · rw [List.getElem?_set_ne hm] at e1
      have ne : b ≠ a := fun z => hm (nodup_get s.nd ea (z ▸ e2))
      have q := s.sl m sl b e1 e2
      cases sl with
      | live c =>
        obtain ⟨f, u, hu, r⟩ := q
        exact ⟨f, u, by rw [upd_ne ne]; exact hu, r⟩
      | dead d => exact q
  · by_cases z : b = a
    · rw [z, upd_same]; simp
    · rw [upd_ne z]; exact s.th b hb
/-- the data of a mutable thing, if it is data -/
def pures : List W → Option (List D)
  | [] => some []
  | .p d :: r => (pures r).map (d :: ·)
  | .c _ :: _ => none
theorem pures_map : ∀ ds : List D, pures (ds.map .p) = some ds
  | [] => rfl
  | d :: ds => by simp [pures, pures_map ds]
theorem pures_eq : ∀ {ws : List W} {ds : List D}, pures ws = some ds → ws = ds.map .p
  | [], _, h => by simp [pures] at h; subst h; rfl
  | .p d :: r, ds, h => by
    simp [pures] at h
    obtain ⟨es, h1, rfl⟩ := h
    simp [pures_eq h1]
  | .c _ :: _, _, h => by simp [pures] at h
def Ct.pure : Ct → Option D
  | .lst ws => (pures ws).map .lst
  | .dic ks ws => (pures ws).map (.dic ks)
  | .dicT ks ws => (pures ws).map (.dicT ks)
  | .ins c ks ws => (pures ws).map (.ins c ks)
/-- a dict -/
def Ct.isD : Ct → Bool
  | .dic _ _ => true
  | .dicT _ _ => true
  | _ => false
theorem RepCt.rep {c : Ct} {d : D} (h : c.pure = some d) (nd : c.isD = false) (r : RepCt C φ F c o) {F' : Hp} (g : Sub F F') (e : F' a = some o) : Rep C F' d (.ref a) := by
  cases c with
  | lst ws =>
    simp [Ct.pure] at h
    obtain ⟨ds, h1, rfl⟩ := h
    obtain ⟨vs, rfl, q⟩ := r
    rw [pures_eq h1, repWs_p] at q
    unfold Rep
    exact ⟨a, vs, rfl, e, Reps.mono g q⟩
  | dic ks ws => cases nd
  | dicT ks ws => cases nd
  | ins c ks ws =>
    simp [Ct.pure] at h
    obtain ⟨ds, h1, rfl⟩ := h
    obtain ⟨A, dx, vs, ec, rfl, q, l⟩ := r
    rw [pures_eq h1] at q l
    rw [repWs_p] at q
    unfold Rep
    exact ⟨a, A, dx, vs, rfl, ec, e, Reps.mono g q, by simpa using l⟩
/-- from now on it is data -/
theorem SR.freeze (s : SR C φ F S H) {c : Ct} {d : D} (e : S[n]? = some (.live c)) (ea : φ[n]? = some a) (h : c.pure = some d) (nd : c.isD = false) :
    ∃ F', Grow φ F φ F' ∧ SR C φ F' (S.set n (.dead d)) H ∧ Rep C F' d (.ref a) := by
  obtain ⟨fa, u, hu, r⟩ := s.sl n _ a e ea
  have g : Grow φ F φ (upd F a u) := ⟨Sub.new fa, List.prefix_rfl⟩
  have rd : Rep C (upd F a u) d (.ref a) := RepCt.rep h nd r g.f upd_same
  refine ⟨upd F a u, g, ⟨fun b v q => ?_, by simp [s.len], s.nd, fun m sl b e1 e2 => ?_, s.th, s.xe.trans g.f⟩, rd⟩
  · by_cases z : b = a
    · subst z
      rw [upd_same] at q
      cases q
      exact .inl hu
    · rw [upd_ne z] at q
      exact s.fh b v q
  · by_cases hm : n = m
    · subst hm
      have hl : n < S.length := (List.getElem?_eq_some_iff.mp e).1
      rw [List.getElem?_set_self hl] at e1
      cases e1
      rw [ea] at e2; cases e2
      exact rd
    · rw [List.getElem?_set_ne hm] at e1
      have ne : b ≠ a := fun z => hm (nodup_get s.nd ea (z ▸ e2))
      have q := s.sl m sl b e1 e2
      cases sl with
      | live c =>
        obtain ⟨f, u', hu', r'⟩ := q
        exact ⟨by rw [upd_ne ne]; exact f, u', hu', r'.mono g⟩
      | dead d => exact Rep.mono g.f q
end

/-! ### readings -/
abbrev EF := Env → Sto → Rs W
abbrev AF := Env → Sto → Rs (List W)
abbrev TF := Env → Sto → Rs Bool
def tE (C : Cl) (U : WX) (f : EF) : TE := fun σ H Q => ∃ φ F S ρ, SR C φ F S H ∧ EnvR C φ F ρ σ ∧ Ans C (RepW C) φ F (f ρ S) Q (fun c d H' => U c d σ H')
def tA (C : Cl) (U : WX) (f : AF) : TA := fun σ H Q => ∃ φ F S ρ, SR C φ F S H ∧ EnvR C φ F ρ σ ∧ Ans C (RepWs C) φ F (f ρ S) Q (fun c d H' => U c d σ H')
def tT (C : Cl) (U : WX) (f : TF) : TT := fun σ H Q => ∃ φ F S ρ, SR C φ F S H ∧ EnvR C φ F ρ σ ∧ Ans C (fun _ _ b b' => b = b') φ F (f ρ S) Q (fun c d H' => U c d σ H')
theorem PE.imp {X : Cx} {e : Expr} {t t' : TE} (h : PE X e t) (k : ∀ σ H Q, t' σ H Q → t σ H Q) : PE X e t' := ⟨fun pins s σ H Q I q => h.run pins s σ H Q I (k _ _ _ q)⟩
theorem PT.imp {X : Cx} {e : Expr} {t t' : TT} (h : PT X e t) (k : ∀ σ H Q, t' σ H Q → t σ H Q) : PT X e t' := ⟨fun pins s σ H Q I q => h.run pins s σ H Q I (k _ _ _ q)⟩
theorem PA.imp {X : Cx} {e : List Expr} {t t' : TA} (h : PA X e t) (k : ∀ σ H Q, t' σ H Q → t σ H Q) : PA X e t' := ⟨fun pos pins s σ H Q I q => h.run pos pins s σ H Q I (k _ _ _ q)⟩
section
variable {C : Cl} {U : WX}
/-- one after another -/
theorem tE.then {f : EF} {g : W → Sto → Rs W} {σ : L2.St} {H : Hp} {Q : VK} {R : V → Hp → Prop} {φ : List Addr} {F : Hp} {S : Sto} {ρ : Env} (s : SR C φ F S H) (r : EnvR C φ F ρ σ)
    (h : Ans C (RepW C) φ F ((f ρ S).bind g) Q (fun c d H' => U c d σ H'))
    (k : ∀ w S1 φ1 F1 v H1, SR C φ1 F1 S1 H1 → EnvR C φ1 F1 ρ σ → RepW C φ1 F1 w v → Grow φ F φ1 F1 → Ans C (RepW C) φ1 F1 (g w S1) Q (fun c d H' => U c d σ H') → R v H1) : tE C U f σ H R :=
  ⟨φ, F, S, ρ, s, r, (Ans.bind (Rel := RepW C) h).mono (fun v H1 ⟨w, S1, φ1, F1, g1, s1, q, z⟩ => k w S1 φ1 F1 v H1 s1 (r.mono g1) q g1 z) fun _ _ _ z => z⟩
end
end M
set_option Elab.async false
set_option linter.all false
namespace M
open PySem PySem.Spec PyProof.Rows L2 TL
/-! ### texts in ascending order -/
abbrev lt (a b : List Nat) : Bool := ltCps a b
theorem lt_asym : ∀ {a b : List Nat}, lt a b = true → lt b a = false
  | [], [], h => by simp [lt, ltCps] at h
  | [], y :: b, _ => by simp [lt, ltCps]
  | x :: a, [], h => by simp [lt, ltCps] at h
  | x :: a, y :: b, h => by
    have ih := lt_asym (a := a) (b := b)
    simp only [lt, ltCps] at h ih ⊢
    by_cases e : x < y
    · have : ¬ y < x := by omega
      have : ¬ y = x := by omega
      simp_all
    · by_cases e2 : x = y
      · subst e2; simp_all
      · simp_all
theorem lt_tri : ∀ {a b : List Nat}, lt a b = false → lt b a = false → a = b
  | [], [], _, _ => rfl
  | [], y :: b, h, _ => by simp [lt, ltCps] at h
  | x :: a, [], _, h => by simp [lt, ltCps] at h
  | x :: a, y :: b, h, h2 => by
    have ih := lt_tri (a := a) (b := b)
    simp only [lt, ltCps] at h h2 ih
    by_cases e : x < y
    · simp_all
    · by_cases e2 : x = y
      · subst e2; simp_all
      · have : y < x := by omega
        simp_all
theorem lt_trans : ∀ {a b c : List Nat}, lt b a = false → lt c b = false → lt c a = false
  | a, b, [], h1, h2 => by
    cases b with
    | nil => cases a with
      | nil => simp [lt, ltCps]
      | cons x a => simp [lt, ltCps] at h1
    | cons y b => simp [lt, ltCps] at h2
  | [], b, z :: c, h1, h2 => by simp [lt, ltCps]
  | x :: a, [], z :: c, h1, h2 => by simp [lt, ltCps] at h1
  | x :: a, y :: b, z :: c, h1, h2 => by
    have ih := lt_trans (a := a) (b := b) (c := c)
    simp only [lt, ltCps] at h1 h2 ih ⊢
    by_cases e : y < x
    · simp_all
    · by_cases e2 : z < y
      · simp_all
      · by_cases e3 : z < x
        · omega
        · by_cases e4 : z = x
          · subst e4
            have : y = z := by omega
            subst this
            simp_all
          · simp_all
/-- not behind -/
def leT (a b : Str) : Prop := lt (tl b) (tl a) = false
def insT (x : Str) : List Str → List Str
  | [] => [x]
  | y :: r => if lt (tl y) (tl x) = true then y :: insT x r else x :: y :: r
def srt : List Str → List Str
  | [] => []
  | x :: r => insT x (srt r)
theorem insT_perm (x : Str) : ∀ l, (insT x l).Perm (x :: l)
  | [] => .refl _
  | y :: r => by
    unfold insT
    split
    · exact ((insT_perm x r).cons y).trans (.swap x y r)
    · exact .refl _
theorem srt_perm : ∀ l, (srt l).Perm l
  | [] => .refl _
  | x :: r => (insT_perm x _).trans ((srt_perm r).cons x)
theorem leT_trans {a b c : Str} (h : leT a b) (k : leT b c) : leT a c := lt_trans h k
theorem leT_anti {a b : Str} (h : leT a b) (k : leT b a) : a = b := ext_tl (lt_tri k h)
theorem insT_pair (x : Str) : ∀ l : List Str, l.Pairwise leT → (insT x l).Pairwise leT
  | [], _ => by unfold insT; exact List.pairwise_singleton _ _
  | y :: r, h => by
    obtain ⟨h1, h2⟩ := List.pairwise_cons.mp h
    unfold insT
    split
    · rename_i e
      refine List.pairwise_cons.mpr ⟨fun z hz => ?_, insT_pair x r h2⟩
      rcases List.mem_cons.mp ((insT_perm x r).mem_iff.mp hz) with rfl | hz
      · exact lt_asym e
      · exact h1 z hz
    · rename_i e
      have e : leT x y := by simpa [leT] using e
      refine List.pairwise_cons.mpr ⟨fun z hz => ?_, h⟩
      rcases List.mem_cons.mp hz with rfl | hz
      · exact e
      · exact leT_trans e (h1 z hz)
theorem srt_pair : ∀ l : List Str, (srt l).Pairwise leT
  | [] => .nil
  | x :: r => insT_pair x _ (srt_pair r)
theorem pair_of_rising : ∀ {l : List Str} {p : Str}, risingS p l = true → (p :: l).Pairwise leT
  | [], p, _ => List.pairwise_singleton _ _
  | x :: r, p, h => by
    unfold risingS at h
    rw [Bool.and_eq_true] at h
    have e : leT p x := by have := h.1; simpa [leT] using this
    have ih := pair_of_rising h.2
    refine List.pairwise_cons.mpr ⟨fun z hz => ?_, ih⟩
    rcases List.mem_cons.mp hz with rfl | hz
    · exact e
    · exact leT_trans e ((List.pairwise_cons.mp ih).1 z hz)
theorem pair_of_sorted {l : List Str} (h : sortedS l = true) : l.Pairwise leT := by
  cases l with
  | nil => exact .nil
  | cons x r => exact pair_of_rising h
theorem eq_srt {l m : List Str} (p : l.Perm m) (h : sortedS l = true) : l = srt m :=
  List.Perm.eq_of_pairwise (le := leT) (fun _ _ _ _ a b => leT_anti a b) (pair_of_sorted h) (srt_pair m) (p.trans (srt_perm m).symm)
end M
set_option Elab.async false
set_option linter.all false
set_option maxRecDepth 100000
set_option maxHeartbeats 4000000
namespace M
open PySem PySem.Spec PyProof.Rows L2

/-! ### operations on values -/
mutual
def D.py : D → Option PyData
  | .non => some .none
  | .bl b => some (.bool b)
  | .int i => some (.int i)
  | .str x => some (.str x)
  | .lst xs => (D.pys xs).map .list
  | .tup xs => (D.pys xs).map .tuple
  | _ => none
def D.pys : List D → Option (List PyData)
  | [] => some []
  | d :: ds => match D.py d, D.pys ds with
    | some a, some r => some (a :: r)
    | _, _ => none
end
/-- == of data -/
def eqD (d e : D) : Option Bool := match d.py, e.py with
  | some a, some b => if SeqAt.shaped a = true ∧ SeqAt.shaped b = true then some (PyData.eqv a b) else none
  | _, _ => none
def okMul (i j : Int) : Prop := (-(2 ^ 64) < i ∧ i < 2 ^ 64) ∨ (-(2 ^ 64) < j ∧ j < 2 ^ 64) ∨ i.natAbs.log2 + j.natAbs.log2 < 1000000
instance (i j : Int) : Decidable (okMul i j) := by unfold okMul; infer_instance
def okDiv (j : Int) : Prop := j ≠ 0 ∧ j.natAbs.log2 < 9000
instance (j : Int) : Decidable (okDiv j) := by unfold okDiv; infer_instance
def okPow (i j : Int) : Prop := 0 ≤ j ∧ j ≤ 1000 ∧ i.natAbs.log2 < 1000
instance (i j : Int) : Decidable (okPow i j) := by unfold okPow; infer_instance
def binI (op : Operator) (i j : Int) : Option Int := match op with
  | .Add => some (i + j)
  | .Sub => some (i - j)
  | .Mult => if okMul i j then some (i * j) else none
  | .FloorDiv => if okDiv j then some (i.fdiv j) else none
  | .Mod => if j ≠ 0 then some (i.fmod j) else none
  | .Pow => if okPow i j then some (i ^ j.toNat) else none
  | _ => none
def cmpI (op : CmpOp) (i j : Int) : Option Bool := match op with
  | .Lt => some (decide (i < j))
  | .LtE => some (decide (i ≤ j))
  | .Gt => some (decide (j < i))
  | .GtE => some (decide (j ≤ i))
  | _ => none
def dunderB (op : Operator) : Option Str := match op with
  | .Add => some "__add__"
  | .Sub => some "__sub__"
  | .Mult => some "__mul__"
  | _ => none
def dunderC (op : CmpOp) : Option Str := match op with
  | .Lt => some "__lt__"
  | .LtE => some "__le__"
  | _ => none
/-- no error leaves -/
def Rs.noex {α : Type} : Rs α → Rs α
  | .ex _ _ _ _ => .no
  | r => r
@[simp] theorem Rs.noex_ok {α : Type} (a : α) (S : Sto) : (Rs.ok a S).noex = .ok a S := rfl
@[simp] theorem Rs.noex_no {α : Type} : (Rs.no : Rs α).noex = .no := rfl
@[simp] theorem Rs.noex_ex {α : Type} (c ks ds S) : (Rs.ex c ks ds S : Rs α).noex = .no := rfl
/-- the program's own calls: functions and classes by name; methods by class and name -/
structure Gt where
  fn : Str → List W → Sto → Rs W
  me : Str → Str → List W → Sto → Rs W
  /-- the defaults that may fill up -/
  df : Str → List (List Int)
  /-- is it a method -/
  dm : Str → Str → Bool
  /-- calls with keywords: how many values ahead, the keywords, which value each parameter gets -/
  kw : Str → List (Nat × List Str × List Nat) := fun _ => []
  kwm : Str → Str → List (Nat × List Str × List Nat) := fun _ _ => []
  /-- classmethods: which, what they answer, calls with keywords -/
  cm : Str → Str → Bool := fun _ _ => false
  cme : Str → Str → List W → Sto → Rs W := fun _ _ _ _ => .no
  kwcm : Str → Str → List (List Str × List Nat) := fun _ _ => []
  /-- constants of the module -/
  gc : Str → Option D := fun _ => none
  /-- is an error of this class below that one -/
  xs : Str → Option (Str → Bool) := fun _ => none
  /-- the fields of the error that is being handled -/
  xf : List (Str × D) := []
/-- a built-in type's name -/
def tyD : D → Option String
  | .non => some "NoneType"
  | .bl _ => some "bool"
  | .int _ => some "int"
  | .str _ => some "str"
  | .lst _ => some "list"
  | .fro _ => some "list"
  | .tup _ => some "tuple"
  | .dic _ _ => some "dict"
  | .dicT _ _ => some "dict"
  | _ => none
/-- what may stand on the right of an own operator -/
def rightA (c : Str) : W → Bool
  | .p (.int _) => true
  | .p (.ins d _ _) => decide (d = c)
  | _ => false
def rightC (c : Str) : W → Bool
  | .p (.ins d _ _) => decide (d = c)
  | .p d => (tyD d).isSome
  | _ => false
/-- an error made as a value: x its field, if it has one -/
def mkxF (c : Str) (x : Option (Option Str)) (ws : List W) (S : Sto) : Rs W := match x, ws with
  | some none, [] => .ok (.p (.err c [] [])) S
  | some (some f), [.p d] => .ok (.p (.err c [f] [d])) S
  | _, _ => .no
/-- what data a value shows -/
def rd (S : Sto) : W → Option D
  | .p d => some d
  | .c n => match S[n]? with
    | some (.live c) => c.pure
    | some (.dead d) => some d
    | none => none
/-- a value that stands for a thing below n -/
def W.below (n : Nat) : W → Bool
  | .p _ => true
  | .c k => decide (k < n)
def Cel.below (n : Nat) : Cel → Bool
  | .dead _ => true
  | .live (.lst ws) => ws.all (W.below n)
  | .live (.dic _ ws) => ws.all (W.below n)
  | .live (.dicT _ ws) => ws.all (W.below n)
  | .live (.ins _ _ ws) => ws.all (W.below n)
/-- behind a call: what was made and is not handed on is forgotten -/
def finF (n : Nat) (r : Rs W) : Rs W := match r with
  | .ok (.p d) S => if (S.take n).all (Cel.below n) = true then .ok (.p d) (S.take n) else .ok (.p d) S
  | .ex c ks ds S => if (S.take n).all (Cel.below n) = true then .ex c ks ds (S.take n) else .ex c ks ds S
  | r => r
/-- a list's items -/
def seqOf (S : Sto) : W → Option (List W)
  | .p (.lst xs) => some (xs.map .p)
  | .p (.fro xs) => some (xs.map .p)
  | .c n => match S[n]? with
    | some (.live (.lst ws)) => some ws
    | some (.dead (.lst xs)) => some (xs.map .p)
    | _ => none
  | _ => none
/-- .. of a list that is not the script -/
def lstOf (S : Sto) : W → Option (List W)
  | .p (.fro _) => none
  | w => seqOf S w
/-- a key of a dict -/
def keyW : W → Option Key
  | .p (.int i) => some (.inl i)
  | .p (.str x) => some (.inr x)
  | _ => none
/-- what a dict holds -/
def dicOf (S : Sto) : W → Option (List Key × List W)
  | .p (.dic ks ds) => some (ks, ds.map .p)
  | .c n => match S[n]? with
    | some (.live (.dic ks ws)) => some (ks, ws)
    | some (.dead (.dic ks ds)) => some (ks, ds.map .p)
    | _ => none
  | _ => none
def getW (k : Key) : List Key → List W → Option W
  | j :: ks, w :: ws => if j = k then some w else getW k ks ws
  | _, _ => none
/-- .. behind d[k] = u -/
def putW (k : Key) (u : W) (ks : List Key) (ws : List W) : List Key × List W := if (ks.any fun j => decide (j = k)) = true then (ks, List.zipWith (fun j w => if j = k then u else w) ks ws) else (ks ++ [k], ws ++ [u])
def hasK (k : W) (S : Sto) (u : W) : Option Bool := (keyW k).bind fun k => (dicOf S u).map fun e => (getW k e.1 e.2).isSome
def clsOf (S : Sto) : W → Option Str
  | .p (.ins c _ _) => some c
  | .c n => match S[n]? with
    | some (.live (.ins c _ _)) => some c
    | some (.dead (.ins c _ _)) => some c
    | _ => none
  | _ => none
def getF (f : Str) : List Str → List W → Option W
  | k :: ks, w :: ws => if f = k then some w else getF f ks ws
  | _, _ => none
def fldOf (S : Sto) (f : Str) : W → Option W
  | .p (.ins _ ks ds) => getF f ks (ds.map .p)
  | .c n => match S[n]? with
    | some (.live (.ins _ ks ws)) => getF f ks ws
    | some (.dead (.ins _ ks ds)) => getF f ks (ds.map .p)
    | _ => none
  | _ => none
/-- from now on it is data -/
def frz : W → Sto → Rs W
  | .p d, S => .ok (.p d) S
  | .c n, S => match S[n]? with
    | some (.dead d) => .ok (.p d) S
    | some (.live c) => if c.isD = true then .no else match c.pure with
      | some d => .ok (.p d) (S.set n (.dead d))
      | none => .no
    | none => .no
def ofO {α : Type} (o : Option α) (S : Sto) : Rs α := match o with
  | some a => .ok a S
  | none => .no
@[simp] theorem ofO_some {α : Type} (a : α) (S : Sto) : ofO (some a) S = .ok a S := rfl
@[simp] theorem ofO_none {α : Type} (S : Sto) : ofO (none : Option α) S = .no := rfl
abbrev int (i : Int) : W := .p (.int i)
abbrev bl (b : Bool) : W := .p (.bl b)
abbrev str (x : Str) : W := .p (.str x)
def sizeOk (n : Nat) : Prop := n ≤ 1000000
instance (n : Nat) : Decidable (sizeOk n) := by unfold sizeOk; infer_instance
def addSeq (S : Sto) (w u : W) : Rs W := match lstOf S w, lstOf S u with
  | some xs, some ys => match pures (xs ++ ys) with
    | some ds => if sizeOk ds.length then .ok (.p (.lst ds)) S else .no
    | none => .no
  | _, _ => .no
def binF (G : Gt) (op : Operator) (w u : W) (S : Sto) : Rs W := match w, u with
  | .p (.int i), .p (.int j) => ofO ((binI op i j).map int) S
  | .p (.str x), .p (.str y) => if op = .Add ∧ sizeOk (x.length + y.length) then .ok (str (x ++ y)) S else .no
  | .p (.ins c ks ds), u => match dunderB op with
    | some m => if rightA c u = true then G.me c m [.p (.ins c ks ds), u] S else .no
    | none => .no
  | w, u => if op = .Add then addSeq S w u else .no
/-- ==: own classes by their own, else data -/
def eqF (G : Gt) (w u : W) (S : Sto) : Rs Bool := match w with
  | .p (.ins c ks ds) => if rightC c u = true then (G.me c "__eq__" [.p (.ins c ks ds), u] S).noex.bind fun r S => match r with
    | .p (.bl b) => .ok b S
    | _ => .no
    else .no
  | w => match rd S w, rd S u with
    | some d, some e => ofO (eqD d e) S
    | _, _ => .no
def isStr : W → Bool
  | .p (.str _) => true
  | _ => false
def flatD : D → Bool
  | .non => true | .bl _ => true | .int _ => true | .str _ => true
  | _ => false
def eqFl : D → D → Bool
  | .non, .non => true
  | .bl a, .bl b => a == b
  | .bl a, .int b => (if a then 1 else 0) == b
  | .int a, .bl b => a == (if b then 1 else 0)
  | .int a, .int b => a == b
  | .str a, .str b => a == b
  | _, _ => false
/-- in: one sign in a text, a flat thing in a list of flat things -/
def inF (w u : W) (S : Sto) : Option Bool := match w, u with
  | .p (.str x), .p (.str y) => if x.length = 1 then some (decide (x.cps.getD 0 0 ∈ y.cps.toList)) else none
  | .p d, u => match seqOf S u with
    | some ws => match pures ws with
      | some ds => if flatD d = true ∧ ds.all flatD = true then some (ds.any fun e => eqFl e d) else none
      | none => none
    | none => hasK (.p d) S u
  | _, _ => none
def isNon : W → Option Bool
  | .p .non => some true
  | .p _ => some false
  | .c _ => some false
def cmpF (G : Gt) (op : CmpOp) (w u : W) (S : Sto) : Rs Bool := match op with
  | .Eq => eqF G w u S
  | .NotEq => (eqF G w u S).bind fun b S => .ok (!b) S
  | .Is => match u with | .p .non => ofO (isNon w) S | _ => .no
  | .IsNot => match u with | .p .non => ofO ((isNon w).map (!·)) S | _ => .no
  | .In => ofO (inF w u S) S
  | .NotIn => ofO ((inF w u S).map (!·)) S
  | op => match w, u with
    | .p (.int i), .p (.int j) => ofO (cmpI op i j) S
    | .p (.ins c ks ds), u => match dunderC op with
      | some m => if rightC c u = true then (G.me c m [.p (.ins c ks ds), u] S).noex.bind fun r S => match r with
        | .p (.bl b) => .ok b S
        | _ => .no
        else .no
      | none => .no
    | _, _ => .no
/-- an index into n things -/
def ixO (n : Nat) (i : Int) : Option Nat := if 0 ≤ i then (if i < n then some i.toNat else none) else if -(n : Int) ≤ i then some (i + n).toNat else none
def idxF (o i : W) (S : Sto) : Option W := match o, i with
  | .p (.tup xs), .p (.int k) => ((ixO xs.length k).bind fun j => xs[j]?).map .p
  | .p (.str x), .p (.int k) => if sizeOk x.length then ((ixO x.length k).bind fun j => x.cps.toList[j]?).map fun c => str ⟨#[c]⟩ else none
  | o, .p (.int k) => match seqOf S o with
    | some ws => (ixO ws.length k).bind fun j => ws[j]?
    | none => (dicOf S o).bind fun e => getW (.inl k) e.1 e.2
  | o, .p (.str k) => (dicOf S o).bind fun e => getW (.inr k) e.1 e.2
  | _, _ => none
inductive Ty where
  | int | str | bool | list | tuple | dict | own (c : Str)
  deriving DecidableEq
/-- is it of the type -/
def isiD : Ty → D → Option Bool
  | .int, .int _ => some true
  | .int, .bl _ => some true
  | .bool, .bl _ => some true
  | .str, .str _ => some true
  | .list, .lst _ => some true
  | .list, .fro _ => some true
  | .tuple, .tup _ => some true
  | .dict, .dic _ _ => some true
  | .own c, .ins d _ _ => some (decide (c = d))
  | _, .cls _ => none
  | _, .dicT _ _ => none
  | _, .err _ _ _ => none
  | _, _ => some false
def isiF (t : Ty) (w : W) (S : Sto) : Option Bool := match w with
  | .p d => isiD t d
  | .c n => match S[n]? with
    | some (.live (.lst _)) => isiD t (.lst [])
    | some (.live (.dic _ _)) => isiD t (.dic [] [])
    | some (.dead d) => isiD t d
    | _ => none
/-- built-in functions that are called -/
inductive BF where
  | abs | len | int | str | all | any | repr | max | min | sorted
  deriving DecidableEq
/-- a key as data -/
def keyPy : Key → PyData
  | .inl i => .int i
  | .inr x => .str x
/-- data that repr shows: as for ==, and dicts of flat values -/
def D.pd : D → Option PyData
  | .dic ks ds => if ds.all flatD = true ∧ ks.length = ds.length then (D.pys ds).map fun ps => .dict ((ks.map keyPy).zip ps) else none
  | d => d.py
def D.isDic : D → Bool
  | .dic _ _ => true
  | _ => false
/-- repr -/
def reprO (d : D) : Option Str := match d.pd with
  | some p => if p.showable = true ∧ (d.isDic = true ∨ p.hasDict = false) ∧ p.depth ≤ 60 ∧ sizeOk p.shown.length then some p.shown else none
  | none => none
def blsOf : List W → Option (List Bool)
  | [] => some []
  | .p (.bl b) :: r => (blsOf r).map (b :: ·)
  | _ :: _ => none
def lenF (S : Sto) : W → Option Nat
  | .p (.str x) => if sizeOk x.length then some x.length else none
  | .p (.tup xs) => some xs.length
  | w => match seqOf S w with
    | some ws => some ws.length
    | none => (dicOf S w).map fun e => e.1.length
def strsOf : List W → Option (List Str)
  | [] => some []
  | .p (.str x) :: r => (strsOf r).map (x :: ·)
  | _ :: _ => none
def bfF (f : BF) (ws : List W) (S : Sto) : Rs W := match f, ws with
  | .abs, [.p (.int i)] => .ok (int (if i < 0 then -i else i)) S
  | .len, [w] => ofO ((lenF S w).map fun (n : Nat) => int (n : Int)) S
  | .int, [.p (.int i)] => .ok (int i) S
  | .int, [.p (.str x)] => match PySem.intText? x with
    | some n => if x.length ≤ 640 then .ok (int n) S else .no
    | none => .no
  | .str, [.p (.str x)] => .ok (str x) S
  | .str, [.p (.int i)] => if i.natAbs.log2 < 1920 then .ok (str (toString i)) S else .no
  | .sorted, [w] => match (seqOf S w).bind strsOf with
    | some xs => if xs.length < 64 then .ok (.p (.lst ((srt xs).map .str))) S else .no
    | none => .no
  | .max, [.p (.int i), .p (.int j)] => .ok (int (if j > i then j else i)) S
  | .min, [.p (.int i), .p (.int j)] => .ok (int (if j < i then j else i)) S
  | .repr, [w] => ofO (((rd S w).bind reprO).map str) S
  | .all, [w] => ofO (((seqOf S w).bind blsOf).map fun bs => bl (bs.all id)) S
  | .any, [w] => ofO (((seqOf S w).bind blsOf).map fun bs => bl (bs.any id)) S
  | _, _ => .no
/-- methods of built-in types -/
inductive BM where
  | split | append
  deriving DecidableEq
def optI : W → Option (Option Int)
  | .p .non => some none
  | .p (.int i) => some (some i)
  | _ => none
def cutL {α : Type} (xs : List α) (lo hi : Option Int) : List α := (xs.drop (HT.sIx xs.length 0 lo)).take (HT.sIx xs.length xs.length hi - HT.sIx xs.length 0 lo)
end M
set_option Elab.async false
set_option linter.all false
set_option maxRecDepth 100000
set_option maxHeartbeats 4000000
namespace M
open PySem PySem.Spec PyProof.Rows L2
section
open PySem.W
variable {prog : Program} {w : World} {A A₀ : Around} {E : Value → Shared → Prop} {s : Shared} {K : Frag} {x C L f : Addr} {h₀ : Heap} {m : Str → Option Value} {ox : Obj} {od : Option Obj} {name : Str} {b tb : Value}
theorem ifBoundB_K {M : Model} {id : String} {B : String} {args : List Value} {Q : Option Value → Shared → Prop} (X : K.In s.heap) (I : InstAt s.heap x ox C od) (hs : findIn K (.ref C) name = some (some (.builtin id))) (sl : Slot B name id)
    (h : wpAny M A (call (.builtin id) (.ref x :: args)) (fun v => Q (some v)) E s) : wpAny M A (callSpecialIfBound? (.ref x) name args) Q E s := by
  simp only [callSpecialIfBound?, bindSpecialIfBound?]
  refine wpAny_holding (wpAny_bind (wpAny_bind (wpAny_bind (I.type.here ((looks_findIn X hs).here ?_)))))
  simp only [sl.bind]
  refine wpAny_bind (wpAny_askSetting (wpAny_ite ?_))
  have fin : wpAny M A (call (.builtin id) ([.ref x] ++ args) >>= fun v => pure (some v)) Q E s := wpAny_bind (wpAny_mono h (fun v s' h' => wpAny_pure h') fun _ _ h' => h')
  split
  · exact wpAny_bind (wpAny_pure (wpAny_pure (by exact fin)))
  · exact wpAny_tryCatch (wpAny_bind (wpAny_pure (wpAny_pure (by exact fin))))
/-- x != b, where the class has an own __eq__ and object's __ne__ -/
theorem ne_K {Q : Value → Shared → Prop} (hu : A.units + 1 < cLine) (F : Fr h₀ L s.heap m) (X₀ : K.In h₀) (I : InstAt s.heap x ox C od) (hb : Looks (model prog w) s.heap (typeOf b) tb) (hn : notFirst K C tb = true)
    (hne : findIn K (.ref C) "__ne__" = some (some (.builtin "object.__ne__"))) (hs : findIn K (.ref C) "__eq__" = some (some (.ref f))) (hf : isFn K (.ref f) = true) (hob : mroIn K C (.type "object") = some true)
    (h : wpAny (model prog w) A.in1 (call (.ref f) [.ref x, b]) (fun v s' => ∃ r, v = .bool r ∧ Q (.bool (!r)) s') E s) : wpAny (model prog w) A (richCompare .NotEq (.ref x) b) Q E s := by
  have X := X₀.keeps F.keep
  have S : PySem.Slot "object" "__ne__" "object.__ne__" := PySem.F.cmp_object.ne
  have sub : Looks (model prog w) s.heap (isInstance (.ref x) (.type "object")) true := I.type.andThen (looks_mroIn X hob)
  have one : wpAny (model prog w) A (tryCompare (.ref x) "__ne__" b) (fun r s' => ∃ v, r = some v ∧ Q v s') E s := by
    unfold tryCompare
    refine wpAny_bind (ifBoundB_K X I hne S ?_)
    obtain ⟨hh, g, d, t, os⟩ := s
    refine wpAny_call (codeAny_call_builtin S.plain PySem.F.cmpEntry_ne (@check_slot (model prog w) _ _ ⟨hh, g, d, t, os⟩ "object.__ne__" "object" "__ne__" (.ref x) [b] [] _ PySem.F.cmpKind_ne PySem.F.cmpSplit_ne sub (PySem.F.cmpArgs_ne _ _) ?_))
    unfold Builtin.«object.__ne__»
    refine wpAny_bind (wpAny_of_eq (a := ((Value.ref x : Value), [b])) (by first | rfl | (simp only [slotArgs]; rfl)) ?_)
    refine wpAny_bind (wpAny_cRoomFor hu ?_)
    refine wpAny_bind (ifBound_K X I hs hf (wpAny_mono h (fun v s' z => ?_) fun _ _ e => e))
    obtain ⟨r, rfl, q⟩ := z
    dsimp only
    refine wpAny_bind (wpAny_truthy_bool ?_)
    wp_walk
    exact ⟨_, rfl, q⟩
  unfold richCompare
  simp only [oneThing_ref]
  refine wpAny_holding (wpAny_bind (wpAny_cRoomFor (by omega) ?_))
  refine wpAny_bind (I.type.here (wpAny_bind (hb.here ?_)))
  split
  · rename_i q
    have e : subIn K tb (.ref C) = some false := by
      rcases Bool.or_eq_true_iff.mp hn with e | e
      · rw [beq_iff_eq.mp e] at q; simp at q
      · exact beq_iff_eq.mp e
    refine wpAny_bind ((looks_subIn X e).here ?_)
    simp only [Bool.false_eq_true, if_false]
    refine wpAny_bind (wpAny_mono one (fun r s' z => ?_) fun _ _ e => e)
    obtain ⟨v, rfl, hq⟩ := z
    exact wpAny_pure hq
  · refine wpAny_bind (wpAny_pure ?_)
    simp only [Bool.false_eq_true, if_false]
    refine wpAny_bind (wpAny_mono one (fun r s' z => ?_) fun _ _ e => e)
    obtain ⟨v, rfl, hq⟩ := z
    exact wpAny_pure hq
end
end M
set_option Elab.async false
set_option linter.all false
set_option maxRecDepth 100000
set_option maxHeartbeats 4000000
namespace M
open PySem PySem.Spec PyProof.Rows L2
/-! ### defs that are called where no repr is under way -/
structure RoomG (k : Nat) (A : Around) : Prop where
  r : Room k A
  g : A.guards = some []
theorem RoomG.mono {j k : Nat} {A : Around} (r : RoomG k A) (h : j ≤ k) : RoomG j A := ⟨r.r.mono h, r.g⟩
theorem RoomG.deeper {k : Nat} {A : Around} (r : RoomG (k + 1) A) (env : PySem.Env) : RoomG k (A.deeper env) := ⟨r.r.deeper env, r.g⟩
theorem RoomG.in1 {k : Nat} {A : Around} (r : RoomG (k + 1) A) : RoomG k A.in1 := ⟨r.r.in1, r.g⟩
theorem RoomG.make {k : Nat} {A : Around} (r : RoomG (k + 1) A) (C : Addr) (us : List Value) (kw : List (Str × Value)) : RoomG k (A.under (.builtin "type.__call__" ⟨.ref C :: us, kw⟩)) :=
  ⟨r.r.make C us kw, by
    unfold Around.under
    dsimp only
    rw [r.g]
    have h : (Code.builtin "type.__call__" ⟨.ref C :: us, kw⟩).isGuard = false := by first | rfl | decide | with_unfolding_all rfl
    unfold Code.guards
    rw [h]
    rfl⟩
structure FnG (P : Program) (w : World) (K : PySem.W.Frag) (mg : Str → Option Value) (base : Heap) (CX : CXT) (k : Nat) (f : Addr) (fd : FuncData) (ps : List Str) (sp : Sp) : Prop where
  len : ∀ vs H Q E, sp vs H Q E → vs.length = ps.length
  run : ∀ (A : Around) (outer : List PySem.Env) (s : Shared) (H : Hp) (args : Args) (us : List Value) (vs : List V) (Q : VK) (E : XK), RoomG k A → Env0 P w K mg base A outer s H → BindsTo s fd args (ps.zip us) → Vals vs us → sp vs H Q E →
    codeAny (model P w) A (.call (.ref f) args) (CR CX outer P w H s Q E) s
section
variable {X : Cx} {CX : CXT} {k : Nat} {f : Addr} {fd : FuncData} {ps : List Str} {sp : Sp} {dvs : List V} {ds : List Value} {x : Str}
theorem run_fnG {E : XK} {pins : List (Addr × Obj)} {σ : L2.St} {H : Hp} {s : Shared} {Q : VK} {us : List Value} {vs : List V} (F : FnG X.prog X.w X.K X.mg X.base CX k f fd ps sp) (hr : RoomG k X.A) (hb : Binds X.K fd ps ds) (hd : Vals dvs ds) (hx : PassesAt CX X σ E)
    (I : Inv X pins σ H s) (r : Vals vs us) (h : sp (vs ++ dvs) H Q E) : wpAny (model X.prog X.w) X.A (call (.ref f) us) (EP X pins σ Q) X.xe s := by
  have r2 : Vals (vs ++ dvs) (us ++ ds) := r.append hd
  have hl : (us ++ ds).length = ps.length := by rw [← r2.length]; exact F.len _ _ _ _ h
  refine wpAny_call (codeAny_mono (F.run X.A X.stack s H ⟨us, []⟩ (us ++ ds) (vs ++ dvs) Q E hr I.env0 (hb s us I.kIn hl) r2 h) fun r s' hq => ?_)
  cases r with
  | error e => exact hx pins H s e s' I hq
  | ok fl =>
    cases fl with
    | ret u => exact I.after hq
    | next => exact False.elim hq
    | brk => exact False.elim hq
    | cont => exact False.elim hq
end
end M
set_option Elab.async false
set_option linter.all false
set_option maxRecDepth 100000
set_option maxHeartbeats 4000000
namespace M
open PySem PySem.Spec PyProof.Rows L2

/-! ### what the operations do -/
/-- a def's promise by a function on values -/
def spG (C : Cl) (n : Nat) (g : List W → Sto → Rs W) : Sp := fun vs H Q E => vs.length = n ∧ ∃ φ F S ws, SR C φ F S H ∧ RepWs C φ F ws vs ∧ Ans C (RepW C) φ F (g ws S) Q E
section
variable {α β : Type} {C : Cl} {Rel : List Addr → Hp → α → β → Prop} {φ : List Addr} {F : Hp} {r : Rs α} {Q : β → Hp → Prop} {E E' : XK}
theorem Ans.noex (h : Ans C Rel φ F r.noex Q E) : Ans C Rel φ F r Q E' := by
  cases r with
  | no => exact h
  | ok a S => exact h
  | ex c ks ds S => exact (show False from h).elim
theorem Ans.noex' (h : Ans C Rel φ F r.noex Q E) : Ans C Rel φ F r.noex Q E' := by
  cases r with
  | no => exact h
  | ok a S => exact h
  | ex c ks ds S => exact (show False from h).elim
end
theorem RepW.int {C : Cl} {φ : List Addr} {F : Hp} {i : Int} {v : V} (h : RepW C φ F (.p (.int i)) v) : v = .int i := by
  simpa [RepW, Rep] using h
theorem RepW.str {C : Cl} {φ : List Addr} {F : Hp} {i : Str} {v : V} (h : RepW C φ F (.p (.str i)) v) : v = .str i := by
  simpa [RepW, Rep] using h
theorem RepW.bl {C : Cl} {φ : List Addr} {F : Hp} {i : Bool} {v : V} (h : RepW C φ F (.p (.bl i)) v) : v = .bl i := by
  simpa [RepW, Rep] using h
theorem RepW.non {C : Cl} {φ : List Addr} {F : Hp} {v : V} (h : RepW C φ F (.p .non) v) : v = .non := by
  simpa [RepW, Rep] using h
theorem repW_int {C : Cl} {φ : List Addr} {F : Hp} {i : Int} : RepW C φ F (.p (.int i)) (.int i) := by simp [RepW, Rep]
theorem repW_bl {C : Cl} {φ : List Addr} {F : Hp} {i : Bool} : RepW C φ F (.p (.bl i)) (.bl i) := by simp [RepW, Rep]
theorem repW_str {C : Cl} {φ : List Addr} {F : Hp} {i : Str} : RepW C φ F (.p (.str i)) (.str i) := by simp [RepW, Rep]
theorem repW_non {C : Cl} {φ : List Addr} {F : Hp} : RepW C φ F (.p .non) .non := by simp [RepW, Rep]
/-- where a list is read -/
theorem seq_of {C : Cl} {φ : List Addr} {F H : Hp} {S : Sto} {K : PySem.W.Frag} {w : W} {v : V} {ws : List W} (s : SR C φ F S H) (r : RepW C φ F w v) (h : seqOf S w = some ws) :
    ∃ a vs, v = .ref a ∧ SqL K H a vs ∧ RepWs C φ F ws vs := by
  cases w with
  | p d =>
    cases d <;> simp [seqOf] at h
    all_goals
      rename_i xs
      subst h
      unfold RepW Rep at r
    · obtain ⟨a, vs, e, f, q⟩ := r
      exact ⟨a, vs, e, .inl (s.fh _ _ f).rd, repWs_p.mpr q⟩
    · obtain ⟨a, vs, ob, e, f, q⟩ := r
      exact ⟨a, vs, e, .inl (.inr ⟨ob, (s.fh _ _ f).at (by simp [Lk])⟩), repWs_p.mpr q⟩
  | c n =>
    obtain ⟨a, ea, rfl⟩ := r
    cases e : S[n]? with
    | none => simp [seqOf, e] at h
    | some sl =>
      have q := s.sl n sl a e ea
      cases sl with
      | live c =>
        cases c <;> simp [seqOf, e] at h
        subst h
        obtain ⟨_, o, ho, vs, rfl, q⟩ := q
        exact ⟨a, vs, rfl, .inl (.inl ho), q⟩
      | dead d =>
        cases d <;> simp [seqOf, e] at h
        subst h
        have q : Rep C F _ _ := q
        unfold Rep at q
        obtain ⟨a', vs, e', f, q⟩ := q
        cases e'
        exact ⟨a, vs, rfl, .inl (s.fh _ _ f).rd, repWs_p.mpr q⟩
theorem lst_of {C : Cl} {φ : List Addr} {F H : Hp} {S : Sto} {w : W} {v : V} {ws : List W} (s : SR C φ F S H) (r : RepW C φ F w v) (h : lstOf S w = some ws) :
    ∃ a vs, v = .ref a ∧ H a = some (.lst vs) ∧ RepWs C φ F ws vs := by
  cases w with
  | p d =>
    cases d <;> simp [lstOf, seqOf] at h
    rename_i xs
    subst h
    unfold RepW Rep at r
    obtain ⟨a, vs, e, f, q⟩ := r
    exact ⟨a, vs, e, (s.fh _ _ f).at (by simp [Lk]), repWs_p.mpr q⟩
  | c n =>
    obtain ⟨a, ea, rfl⟩ := r
    cases e : S[n]? with
    | none => simp [lstOf, seqOf, e] at h
    | some sl =>
      have q := s.sl n sl a e ea
      cases sl with
      | live c =>
        cases c <;> simp [lstOf, seqOf, e] at h
        subst h
        obtain ⟨_, o, ho, vs, rfl, q⟩ := q
        exact ⟨a, vs, rfl, ho, q⟩
      | dead d =>
        cases d <;> simp [lstOf, seqOf, e] at h
        subst h
        have q : Rep C F _ _ := q
        unfold Rep at q
        obtain ⟨a', vs, e', f, q⟩ := q
        cases e'
        exact ⟨a, vs, rfl, (s.fh _ _ f).at (by simp [Lk]), repWs_p.mpr q⟩
theorem sizeOk_line {n : Nat} (h : sizeOk n) : n ≤ sizeLine := Nat.le_trans h (by decide)
/-- the data that a value shows, as the library's equality takes it -/
theorem map_some {α β : Type} {o : Option α} {f : α → β} {b : β} (h : o.map f = some b) : ∃ a, o = some a ∧ f a = b := by
  cases o with
  | none => simp at h
  | some a => exact ⟨a, rfl, by simpa using h⟩
mutual
theorem dp_of {C : Cl} {φ : List Addr} {F H : Hp} {S : Sto} {K : PySem.W.Frag} (s : SR C φ F S H) : ∀ {d : D} {v : V} {p : PyData}, Rep C F d v → d.py = some p → Dp K H v p
  | .non, v, p, r, h => by
    unfold Rep at r; subst r; simp [D.py] at h; subst h; exact .non
  | .bl b, v, p, r, h => by
    unfold Rep at r; subst r; simp [D.py] at h; subst h; exact .bl b
  | .int b, v, p, r, h => by
    unfold Rep at r; subst r; simp [D.py] at h; subst h; exact .int b
  | .str b, v, p, r, h => by
    unfold Rep at r; subst r; simp [D.py] at h; subst h; exact .str b
  | .lst xs, v, p, r, h => by
    unfold Rep at r
    obtain ⟨a, vs, rfl, f, q⟩ := r
    obtain ⟨ps, h1, rfl⟩ := map_some (show (D.pys xs).map .list = some p from by simpa [D.py] using h)
    exact .lst (.inl (s.fh _ _ f).rd) (dps_of s q h1)
  | .tup xs, v, p, r, h => by
    unfold Rep at r
    obtain ⟨a, vs, rfl, f, q⟩ := r
    obtain ⟨ps, h1, rfl⟩ := map_some (show (D.pys xs).map .tuple = some p from by simpa [D.py] using h)
    exact .tup (.inl (s.fh _ _ f).rd) (dps_of s q h1)
  | .dic _ _, _, _, _, h => by simp [D.py] at h
  | .dicT _ _, _, _, _, h => by simp [D.py] at h
  | .ins _ _ _, _, _, _, h => by simp [D.py] at h
  | .cls _, _, _, _, h => by simp [D.py] at h
  | .fro _, _, _, _, h => by simp [D.py] at h
theorem dps_of {C : Cl} {φ : List Addr} {F H : Hp} {S : Sto} {K : PySem.W.Frag} (s : SR C φ F S H) : ∀ {ds : List D} {vs : List V} {ps : List PyData}, Reps C F ds vs → D.pys ds = some ps → DpAll K H vs ps
  | [], vs, ps, r, h => by
    unfold Reps at r; subst r; simp [D.pys] at h; subst h; exact .nil
  | d :: ds, vs, ps, r, h => by
    unfold Reps at r
    obtain ⟨v, r', rfl, h1, h2⟩ := r
    cases e1 : d.py with
    | none => simp [D.pys, e1] at h
    | some a =>
      cases e2 : D.pys ds with
      | none => simp [D.pys, e1, e2] at h
      | some b =>
        simp [D.pys, e1, e2] at h
        subst h
        exact .cons (dp_of s h1 e1) (dps_of s h2 e2)
end
theorem dp_rd {C : Cl} {φ : List Addr} {F H : Hp} {S : Sto} {K : PySem.W.Frag} (s : SR C φ F S H) {w : W} {v : V} {d : D} {p : PyData} (r : RepW C φ F w v) (h : rd S w = some d) (hp : d.py = some p) : Dp K H v p := by
  cases w with
  | p d' =>
    simp [rd] at h
    subst h
    exact dp_of s r hp
  | c n =>
    obtain ⟨a, ea, rfl⟩ := r
    cases e : S[n]? with
    | none => simp [rd, e] at h
    | some sl =>
      have q := s.sl n sl a e ea
      cases sl with
      | dead d' =>
        simp [rd, e] at h
        subst h
        exact dp_of s q hp
      | live c =>
        simp [rd, e] at h
        obtain ⟨_, o, ho, q⟩ := q
        cases c with
        | lst ws =>
          simp [Ct.pure] at h
          obtain ⟨ds, h1, rfl⟩ := h
          obtain ⟨vs, rfl, q⟩ := q
          rw [pures_eq h1, repWs_p] at q
          obtain ⟨ps, h2, rfl⟩ := map_some (show (D.pys ds).map .list = some p from by simpa [D.py] using hp)
          exact .lst (.inl (.inl ho)) (dps_of s q h2)
        | dic ks ws => simp [Ct.pure] at h; obtain ⟨ds, h1, rfl⟩ := h; simp [D.py] at hp
        | dicT ks ws => simp [Ct.pure] at h; obtain ⟨ds, h1, rfl⟩ := h; simp [D.py] at hp
        | ins c ks ws => simp [Ct.pure] at h; obtain ⟨ds, h1, rfl⟩ := h; simp [D.py] at hp
theorem paired_append {α β : Type} {R : α → β → Prop} : ∀ {as cs : List α} {bs es : List β}, Paired R as bs → Paired R cs es → Paired R (as ++ cs) (bs ++ es)
  | _, _, _, _, .nil, h => h
  | _, _, _, _, .cons r t, h => .cons r (paired_append t h)
theorem RepWs.length {C : Cl} {φ : List Addr} {F : Hp} {ws : List W} {vs : List V} (h : RepWs C φ F ws vs) : ws.length = vs.length := Paired.length h

/-! ### dicts read -/
theorem key_V {C : Cl} {φ : List Addr} {F : Hp} {u : W} {y : V} {k : Key} (r : RepW C φ F u y) (h : keyW u = some k) : y = kV k := by
  cases u with
  | c n => cases h
  | p d =>
    cases d <;> first | cases h | skip
    · exact RepW.int r
    · exact RepW.str r
theorem dic_of {C : Cl} {φ : List Addr} {F H : Hp} {S : Sto} {w : W} {v : V} {ks : List Key} {ws : List W} (s : SR C φ F S H) (r : RepW C φ F w v) (h : dicOf S w = some (ks, ws)) : ∃ a vs, v = .ref a ∧ Rd H a (.dK (ks.zip vs)) ∧ RepWs C φ F ws vs ∧ ks.length = ws.length := by
  cases w with
  | p d =>
    cases d <;> simp [dicOf] at h
    rename_i js xs
    obtain ⟨rfl, rfl⟩ := h
    unfold RepW Rep at r
    obtain ⟨a, vs, ob, e, f, q, l⟩ := r
    exact ⟨a, vs, e, .inr ⟨ob, (s.fh _ _ f).at (by simp [Lk])⟩, repWs_p.mpr q, by simpa using l⟩
  | c n =>
    obtain ⟨a, ea, rfl⟩ := r
    cases e : S[n]? with
    | none => simp [dicOf, e] at h
    | some sl =>
      have q := s.sl n sl a e ea
      cases sl with
      | live c =>
        cases c <;> simp [dicOf, e] at h
        obtain ⟨rfl, rfl⟩ := h
        obtain ⟨_, o, ho, vs, rfl, q, l⟩ := q
        exact ⟨a, vs, rfl, .inl ho, q, l⟩
      | dead d =>
        cases d <;> simp [dicOf, e] at h
        obtain ⟨rfl, rfl⟩ := h
        have q : Rep C F _ _ := q
        unfold Rep at q
        obtain ⟨a', vs, ob, e', f, q, l⟩ := q
        cases e'
        exact ⟨a, vs, rfl, .inr ⟨ob, (s.fh _ _ f).at (by simp [Lk])⟩, repWs_p.mpr q, by simpa using l⟩
theorem getW_val {C : Cl} {φ : List Addr} {F : Hp} {k : Key} : ∀ {ks : List Key} {ws : List W} {vs : List V}, RepWs C φ F ws vs → ks.length = ws.length → (∀ w, getW k ks ws = some w → ∃ v, valV (ks.zip vs) k = some v ∧ RepW C φ F w v) ∧ (getW k ks ws).isSome = (valV (ks.zip vs) k).isSome
  | [], ws, vs, r, l => by
    cases ws with
    | nil => exact ⟨fun w h => (by cases h), rfl⟩
    | cons w ws => cases l
  | j :: ks, ws, vs, r, l => by
    cases r with
    | nil => cases l
    | @cons w v ws vs r t =>
      obtain ⟨h1, h2⟩ := getW_val (k := k) t (by simpa using l)
      rw [List.zip_cons_cons]
      unfold getW
      by_cases e : j = k
      · rw [if_pos e, valV_pos e]
        exact ⟨fun w' h => ⟨v, rfl, (Option.some.inj h) ▸ r⟩, rfl⟩
      · rw [if_neg e, valV_neg e]
        exact ⟨h1, h2⟩
theorem hasK_of {C : Cl} {φ : List Addr} {F H : Hp} {S : Sto} {w u : W} {x y : V} {b : Bool} (s : SR C φ F S H) (r : RepW C φ F w x) (r2 : RepW C φ F u y) (h : hasK w S u = some b) : ∃ a o, y = .ref a ∧ DGet H a x o ∧ o.isSome = b := by
  obtain ⟨k, h1, h2⟩ := Option.bind_eq_some_iff.mp h
  obtain ⟨⟨ks, ws⟩, h3, h4⟩ := map_some h2
  obtain ⟨a, vs, rfl, rd_, q, l⟩ := dic_of s r2 h3
  exact ⟨a, _, rfl, .inl ⟨_, k, rd_, key_V r h1, rfl⟩, by rw [← (getW_val q l).2]; exact h4⟩
/-! ### two values -/
def r2W (C : Cl) (f : W → W → Sto → Rs W) : R2 := fun x y H Q => ∃ φ F S w u, SR C φ F S H ∧ RepW C φ F w x ∧ RepW C φ F u y ∧ Ans C (RepW C) φ F (f w u S).noex Q (fun _ _ _ => False)
theorem Ans.ne_no {α β : Type} {C : Cl} {Rel : List Addr → Hp → α → β → Prop} {φ : List Addr} {F : Hp} {r : Rs α} {Q : β → Hp → Prop} {E : XK} (h : Ans C Rel φ F r Q E) : r ≠ .no := fun e => by
  subst e; exact h
/-- a method of one of the program's classes -/
structure MF (X : Cx) (C : Cl) (G : Gt) (c m : Str) (A f : Addr) (n : Nat) : Prop where
  cls : C.i c = some A
  ok : Cls X.K A
  me : Meth X.K A m f
  len : ∀ ws S, G.me c m ws S ≠ .no → ws.length = n
  run : ∃ fd ps k, FnG X.prog X.w X.K X.mg X.base (L2.CX X.prog X.w) k f fd ps (spG C n (G.me c m)) ∧ RoomG (k + 1) X.A ∧ Binds X.K fd ps []
/-- what the operators ask of a class -/
structure OF (K : PySem.W.Frag) (A : Addr) : Prop where
  sf : PySem.W.selfFirst K A = true
  rr : ∀ op m, dunderB op = some m → m = PySem.dunder op.info.2 ∧ PySem.W.findIn K (.ref A) (dunderR op.info.2) = some none ∧ ∃ fo ro, PySem.W.findIn K (.type "int") (PySem.dunder op.info.2) = some fo ∧ PySem.W.findIn K (.type "int") (dunderR op.info.2) = some ro
  su : PySem.W.subIn K (.type "int") (.ref A) = some false
  nf : ∀ T ∈ ["NoneType", "bool", "int", "str", "list", "tuple", "dict"], PySem.W.notFirst K A (.type T) = true
  no : PySem.W.notFirst K A (.ref A) = true
  ne : PySem.W.findIn K (.ref A) "__ne__" = some (some (.builtin "object.__ne__"))
  ob : PySem.W.mroIn K A (.type "object") = some true
/-- a def of the program -/
structure FnF (X : Cx) (C : Cl) (G : Gt) (f : Str) (ds : List Int) (fa : Addr) (n : Nat) : Prop where
  mg : X.mg f = some (.ref fa)
  kp : PySem.W.keepIn X.K (.ref fa) = true
  db : (f == ("__debug__" : Str)) = false
  len : ∀ ws S, G.fn f ws S ≠ .no → ws.length = n
  run : ∃ fd ps us k, FnG X.prog X.w X.K X.mg X.base (L2.CX X.prog X.w) k fa fd ps (spG C n (G.fn f)) ∧ RoomG (k + 1) X.A ∧ Binds X.K fd ps us ∧ Vals (ds.map V.int) us
/-- a class called: init its __init__; fz: it never changes behind -/
def mkF (init : List W → Sto → Rs W) (c : Str) (fz : Bool) (ws : List W) (S : Sto) : Rs W :=
  finF S.length ((init (.c S.length :: ws) (S ++ [.live (.ins c [] [])])).bind fun r S1 => match r with
    | .p .non => if fz = true then frz (.c S.length) S1 else .ok (.c S.length) S1
    | _ => .no)
/-- a class of the program -/
structure ClF (X : Cx) (C : Cl) (G : Gt) (f : Str) (ds : List Int) (A fi : Addr) (n : Nat) : Prop where
  mg : X.mg f = some (.ref A)
  cl : C.i f = some A
  mkk : Mk X.K A fi
  db : (f == ("__debug__" : Str)) = false
  len : ∀ ws S, G.me f "__init__" ws S ≠ .no → ws.length = n
  mkq : ∃ fz, ∀ ws S, G.fn f ws S = mkF (G.me f "__init__") f fz ws S
  run : ∃ fd ps us k, FnG X.prog X.w X.K X.mg X.base (L2.CX X.prog X.w) k fi fd ps (spG C n (G.me f "__init__")) ∧ RoomG (k + 1) X.A ∧ Binds X.K fd ps us ∧ Vals (ds.map V.int) us
/-- how a call with keywords binds -/
def KB (K : PySem.W.Frag) (fd : FuncData) (ps : List Str) (n : Nat) (ks : List Str) (ix : List Nat) : Prop := ∀ (s : Shared) (us ws zs : List Value), K.In s.heap → us.length = n → ws.length = ks.length → ix.mapM (fun j => (us ++ ws)[j]?) = some zs → BindsTo s fd ⟨us, ks.zip ws⟩ (ps.zip zs)
/-- a def called with keywords -/
structure FnK (X : Cx) (C : Cl) (G : Gt) (f : Str) (n : Nat) (ks : List Str) (ix : List Nat) (fa : Addr) (m : Nat) : Prop where
  mg : X.mg f = some (.ref fa)
  kp : PySem.W.keepIn X.K (.ref fa) = true
  db : (f == ("__debug__" : Str)) = false
  len : ∀ ws S, G.fn f ws S ≠ .no → ws.length = m
  run : ∃ fd ps k, FnG X.prog X.w X.K X.mg X.base (L2.CX X.prog X.w) k fa fd ps (spG C m (G.fn f)) ∧ RoomG (k + 1) X.A ∧ KB X.K fd ps n ks ix
/-- a class -/
structure ClK (X : Cx) (C : Cl) (G : Gt) (f : Str) (n : Nat) (ks : List Str) (ix : List Nat) (A fi : Addr) (m : Nat) : Prop where
  mg : X.mg f = some (.ref A)
  cl : C.i f = some A
  mkk : Mk X.K A fi
  db : (f == ("__debug__" : Str)) = false
  len : ∀ ws S, G.me f "__init__" ws S ≠ .no → ws.length = m
  mkq : ∃ fz, ∀ ws S, G.fn f ws S = mkF (G.me f "__init__") f fz ws S
  run : ∃ fd ps k, FnG X.prog X.w X.K X.mg X.base (L2.CX X.prog X.w) k fi fd ps (spG C m (G.me f "__init__")) ∧ RoomG (k + 1) X.A ∧ KB X.K fd ps (n + 1) ks (0 :: ix.map (· + 1))
/-- a classmethod -/
structure CmF (X : Cx) (C : Cl) (G : Gt) (c m : Str) (A : Addr) (mc : Value) (p g : Addr) (n : Nat) : Prop where
  cl : C.i c = some A
  mg : X.mg c = some (.ref A)
  db : (c == ("__debug__" : Str)) = false
  rd : ClX.CRead X.K A mc
  me : ClX.CMet X.K A mc m p g
  len : ∀ ws S, G.cme c m ws S ≠ .no → ws.length = n
  run : ∃ fd ps k, FnG X.prog X.w X.K X.mg X.base (L2.CX X.prog X.w) k g fd ps (spG C n (G.cme c m)) ∧ RoomG (k + 1) X.A ∧ Binds X.K fd ps [] ∧ ∀ ks ix, (ks, ix) ∈ G.kwcm c m → KB X.K fd ps 1 ks ix
/-- what __init__ of an error without a field keeps -/
def sp0 (K : PySem.W.Frag) : Sp := fun vs H Q E => ∃ (a A : Addr), vs = [.ref a] ∧ OexC K A ∧ H a = some (exo a A none) ∧ Q .non H
/-- .. with the field f -/
def sp1 (K : PySem.W.Frag) (f : Str) : Sp := fun vs H Q E => ∃ (a A : Addr) (y : V), vs = [.ref a, y] ∧ OexC K A ∧ PySem.W.findIn K (.ref A) f = some none ∧ H a = some (exo a A none) ∧ ∀ dx, H dx = none → dx ≠ a → Q .non (upd (upd H dx (exd dx [(f, y)])) a (exo a A (some dx)))
/-- .. by its field; kwp: the keyword it may be passed by -/
def xlR (X : Cx) (A : Addr) (k : Nat) (fI : Addr) (fd : FuncData) (ps : List Str) (kwp : Str → Prop) : Option Str → Prop
  | none => FnOk X.prog X.w X.K X.mg X.base (L2.CX X.prog X.w) k fI fd ps (sp0 X.K)
  | some f => FnOk X.prog X.w X.K X.mg X.base (L2.CX X.prog X.w) k fI fd ps (sp1 X.K f) ∧ PySem.W.findIn X.K (.ref A) f = some none ∧ ∀ nm, kwp nm → KB X.K fd ps 1 [nm] [0, 1]
/-- an error class, called for a value -/
structure XlF (X : Cx) (C : Cl) (G : Gt) (c : Str) (A : Addr) (x : Option Str) : Prop where
  mg : X.mg c = some (.ref A)
  db : (c == ("__debug__" : Str)) = false
  cl : C.x c = some A
  oex : OexC X.K A
  mkq : ∀ ws S, G.fn c ws S = mkxF c (some x) ws S
  run : ∃ fI k fd ps, PySem.W.findIn X.K (.ref A) "__init__" = some (some (.ref fI)) ∧ PySem.W.typeIn X.K (.ref fI) = some (.type "function") ∧ RoomG (k + 1) X.A ∧ Binds X.K fd ps [] ∧ xlR X A k fI fd ps (fun nm => (0, [nm], [0]) ∈ G.kw c) x
/-- what isinstance asks of an error's class -/
structure XiC (K : PySem.W.Frag) (A : Addr) : Prop where
  cl : (PySem.W.clsIn K A).isSome = true
  ga : PySem.W.findIn K (.ref A) "__getattribute__" = some (some (.builtin "BaseException.__getattribute__"))
  gg : PySem.W.findIn K (.ref A) "__getattr__" = some none
  be : PySem.W.subIn K (.ref A) (.type "BaseException") = some true
  ca : PySem.W.findIn K (.ref A) "__class__" = some (some (.builtin "object.__class__"))
  sg : PySem.W.specialIn K (.builtin "object.__class__") "__get__" = some (some (.builtin "getset_descriptor.__get__"))
  tk : PySem.W.takesIn K (.builtin "object.__class__") = some true
  mo : PySem.W.mroIn K A (.type "object") = some true
structure XsF (X : Cx) (C : Cl) (c : Str) (p : Str → Bool) : Prop where
  db : (c == ("__debug__" : Str)) = false
  ex : ∃ (v : V) (u : Value), ClsV v u ∧ ((∃ B, X.mg c = some (.ref B) ∧ v = .ref B) ∨ (X.mg c = none ∧ c ≠ "__name__" ∧ bootBuiltins c = some u ∧ RelV v u)) ∧ ∀ d A, C.x d = some A → XiC X.K A ∧ PySem.W.kitOne X.K (.ref A) u = some (p d)
structure Facts (X : Cx) (C : Cl) (G : Gt) : Prop where
  fn : ∀ f ds, ds ∈ G.df f → (∃ fa n, FnF X C G f ds fa n) ∨ (∃ A fi n, ClF X C G f ds A fi n) ∨ (ds = [] ∧ ∃ A x, XlF X C G f A x)
  meth : ∀ c m, (G.dm c m = true ∨ ∃ ws S, G.me c m ws S ≠ .no) → ∃ A f n, MF X C G c m A f n
  kw : ∀ f n ks ix, (n, ks, ix) ∈ G.kw f → (∃ fa m, FnK X C G f n ks ix fa m) ∨ (∃ A fi m, ClK X C G f n ks ix A fi m) ∨ ∃ A g nm, (n = 0 ∧ ks = [nm] ∧ ix = [0]) ∧ XlF X C G f A (some g)
  kwm : ∀ c m n ks ix, (n, ks, ix) ∈ G.kwm c m → ∃ A f j, MF X C G c m A f j ∧ ∃ fd ps k, FnG X.prog X.w X.K X.mg X.base (L2.CX X.prog X.w) k f fd ps (spG C j (G.me c m)) ∧ RoomG (k + 1) X.A ∧ KB X.K fd ps (n + 1) ks ix
  cm : ∀ c m, (G.cm c m = true ∨ ∃ e, e ∈ G.kwcm c m) → ∃ A mc p g n, CmF X C G c m A mc p g n
  gc : ∀ x d, G.gc x = some d → (x == ("__debug__" : Str)) = false ∧ ∃ u v, X.mg x = some u ∧ RelV v u ∧ ∀ F : Hp, Rep C F d v
  xs : ∀ c p, G.xs c = some p → XsF X C c p
  oper : ∀ c m A, (∃ ws S, G.me c m ws S ≠ .no) → C.i c = some A → (m = "__add__" ∨ m = "__sub__" ∨ m = "__mul__" ∨ m = "__eq__" ∨ m = "__lt__" ∨ m = "__le__") → OF X.K A
section
variable {X : Cx} {C : Cl} {G : Gt}
/-- a method runs -/
theorem run_m {c m : Str} {A f : Addr} {n : Nat} {pins : List (Addr × Obj)} {σ : L2.St} {H : Hp} {s : Shared} {vs : List V} {us : List Value} {Q : VK} {φ : List Addr} {F : Hp} {S : Sto} {ws : List W} (M : MF X C G c m A f n)
    (I : Inv X pins σ H s) (r : Vals vs us) (sr : SR C φ F S H) (rw : RepWs C φ F ws vs) (h : Ans C (RepW C) φ F (G.me c m ws S).noex Q (fun _ _ _ => False)) : wpAny (model X.prog X.w) X.A (call (.ref f) us) (EP X pins σ Q) X.xe s := by
  obtain ⟨fd, ps, k, F1, hr, hb⟩ := M.run
  have nn := M.len ws S (h.noex (E' := fun _ _ _ => False)).ne_no
  refine run_fnG (E := E0) (dvs := []) (ds := []) F1 (hr.mono (Nat.le_succ _)) hb .nil (fun pins H s e s' I c => passL pins σ H s e s' I c) I r ?_
  rw [List.append_nil]
  exact ⟨by rw [← rw.length, nn], φ, F, S, ws, sr, rw, h.noex⟩
theorem relV_ni {v : V} {u : Value} (r : RelV v u) : u ≠ .notImplemented := by
  rintro rfl
  cases v with
  | non => cases r
  | bl b => cases r
  | int i => obtain ⟨t, e⟩ := r; cases e
  | str i => obtain ⟨t, e⟩ := r; cases e
  | byt i => obtain ⟨t, e⟩ := r; cases e
  | flt i => obtain ⟨t, e⟩ := r; cases e
  | ref i => cases r
  | ty i => cases r
theorem cmpBack {Q : Value → Shared → Prop} {v : V} {u : Value} {s : Shared} (r : RelV v u) (h : Q u s) : PySem.W.CmpBack Q u s := by
  have n := relV_ni r
  cases u <;> first | exact absurd rfl n | exact h
theorem noex_eq {α : Type} {r : Rs α} {a : α} {S : Sto} (h : r.noex = .ok a S) : r = .ok a S := by
  cases r <;> simp_all
/-- an instance: where it stands -/
theorem ins_of {φ : List Addr} {F H : Hp} {S : Sto} {w : W} {v : V} {c : Str} (s : SR C φ F S H) (r : RepW C φ F w v) (h : clsOf S w = some c) : ∃ a A dx fs, v = .ref a ∧ C.i c = some A ∧ H a = some (.ins A dx fs) := by
  cases w with
  | p d =>
    cases d <;> simp [clsOf] at h
    subst h
    unfold RepW Rep at r
    obtain ⟨a, A, dx, vs, rfl, hc, f, _⟩ := r
    exact ⟨a, A, dx, _, rfl, hc, (s.fh _ _ f).at (by simp [Lk])⟩
  | c n =>
    obtain ⟨a, ea, rfl⟩ := r
    cases e : S[n]? with
    | none => simp [clsOf, e] at h
    | some sl =>
      have q := s.sl n sl a e ea
      cases sl with
      | live c =>
        cases c <;> simp [clsOf, e] at h
        subst h
        obtain ⟨_, o, ho, A, dx, vs, hc, rfl, _⟩ := q
        exact ⟨a, A, dx, _, rfl, hc, ho⟩
      | dead d =>
        cases d <;> simp [clsOf, e] at h
        subst h
        have q : Rep C F _ _ := q
        unfold Rep at q
        obtain ⟨a', A, dx, vs, e', hc, f, _⟩ := q
        cases e'
        exact ⟨a, A, dx, _, rfl, hc, (s.fh _ _ f).at (by simp [Lk])⟩
theorem inst_of {pins : List (Addr × Obj)} {σ : L2.St} {H : Hp} {s : Shared} {a A dx : Addr} {fs : List (Str × V)} (I : Inv X pins σ H s) (e : H a = some (.ins A dx fs)) : ∃ od, PySem.W.InstAt s.heap a (PySem.W.instObj A dx) A (some od) := by
  obtain ⟨mA, J, _⟩ := ins_get I.hok e
  obtain ⟨od, J, _⟩ := J.look
  exact ⟨od, J⟩
/-- a list's addition -/
theorem ans_ok {α β : Type} {Rel : List Addr → Hp → α → β → Prop} {φ : List Addr} {F : Hp} {a : α} {S' : Sto} {Q : β → Hp → Prop} {E : XK} {φ' : List Addr} {F' H' : Hp} {b : β} (h : Ans C Rel φ F (.ok a S') Q E) (g : Grow φ F φ' F') (s : SR C φ' F' S' H') (r : Rel φ' F' a b) : Q b H' := h b φ' F' H' g s r
theorem op_bin (T : Facts X C G) (op : Operator) : OpR X (binaryOp op) (r2W C (binF G op)) := by
  intro pins s σ H x y v u Q I rx ry hq
  obtain ⟨φ, F, S, w1, w2, sr, r1, r2, h⟩ := hq
  -- two lists
  have lists : Ans C (RepW C) φ F (if op = .Add then addSeq S w1 w2 else .no).noex Q (fun _ _ _ => False) → wpAny (model X.prog X.w) X.A (binaryOp op v u) (EP X pins σ Q) X.xe s := fun h => by
    by_cases ho : op = .Add
    · subst ho
      rw [if_pos rfl] at h
      unfold addSeq at h
      cases e1 : lstOf S w1 with
      | none => rw [e1] at h; exact (show False from h).elim
      | some xs =>
        cases e2 : lstOf S w2 with
        | none => rw [e1, e2] at h; exact (show False from h).elim
        | some ys =>
          rw [e1, e2] at h
          dsimp only at h
          cases e3 : pures (xs ++ ys) with
          | none => rw [e3] at h; exact (show False from h).elim
          | some ds =>
            rw [e3] at h
            dsimp only at h
            by_cases hz : sizeOk ds.length
            · rw [if_pos hz] at h
              obtain ⟨a, vs, rfl, qa, ra⟩ := lst_of sr r1 e1
              obtain ⟨b, us, rfl, qb, rb⟩ := lst_of sr r2 e2
              have rr : RepWs C φ F (xs ++ ys) (vs ++ us) := paired_append ra rb
              rw [pures_eq e3, repWs_p] at rr
              have hl := rr.length
              refine op_cat pins s σ H (.ref a) (.ref b) v u Q I rx ry ⟨_, _, _, _, rfl, rfl, qa, qb, ?_, fun p hp => ?_⟩
              · rw [← List.length_append, ← hl]; exact sizeOk_line hz
              · refine ans_ok h (sr.gpure hp) (sr.pure (o := .lst (vs ++ us)) hp) ?_
                unfold RepW Rep
                exact ⟨p, _, rfl, upd_same, Reps.mono (sr.gpure hp).f rr⟩
            · rw [if_neg hz] at h; exact (show False from h).elim
    · rw [if_neg ho] at h; exact (show False from h).elim
  cases w1 with
  | c n => exact lists h
  | p d =>
    cases d with
    | int i =>
      cases w2 with
      | c n => exact lists h
      | p e =>
        cases e with
        | int j =>
          cases (RepW.int r1)
          cases (RepW.int r2)
          have fin : ∀ k, binI op i j = some k → Q (.int k) H := fun k e => by
            have h : Ans C (RepW C) φ F (ofO ((binI op i j).map int) S).noex Q (fun _ _ _ => False) := h
            rw [e] at h
            exact ans_ok h (Grow.refl φ F) sr repW_int
          have nn : binI op i j ≠ none := fun e => by
            have h : Ans C (RepW C) φ F (ofO ((binI op i j).map int) S).noex Q (fun _ _ _ => False) := h
            rw [e] at h
            exact h
          cases op with
          | Add => exact op_add pins s σ H _ _ v u Q I rx ry ⟨i, j, rfl, rfl, fin _ rfl⟩
          | Sub => exact op_sub pins s σ H _ _ v u Q I rx ry ⟨i, j, rfl, rfl, fin _ rfl⟩
          | Mult =>
            by_cases hm : okMul i j
            · have q := fin (i * j) (by unfold binI; rw [if_pos hm])
              rcases hm with hm | hm | hm
              · exact op_mul pins s σ H _ _ v u Q I rx ry ⟨i, j, rfl, rfl, .inl hm, q⟩
              · exact op_mul pins s σ H _ _ v u Q I rx ry ⟨i, j, rfl, rfl, .inr hm, q⟩
              · exact op_mulW pins s σ H _ _ v u Q I rx ry ⟨i, j, rfl, rfl, hm, q⟩
            · exact absurd (by unfold binI; rw [if_neg hm]) nn
          | FloorDiv =>
            by_cases hm : okDiv j
            · have q := fin (i.fdiv j) (by unfold binI; rw [if_pos hm])
              obtain ⟨t, rfl⟩ := rx
              obtain ⟨t', rfl⟩ := ry
              exact PyProof.Rows.floordiv_int hm.1 ⟨.int _, H, I.tok _, ⟨_, rfl⟩, q⟩ (.inl (PyProof.noPylong_of_log2 hm.2))
            · exact absurd (by unfold binI; rw [if_neg hm]) nn
          | Mod =>
            by_cases hm : j ≠ 0
            · have q := fin (i.fmod j) (by unfold binI; rw [if_pos hm])
              exact op_modN pins s σ H _ _ v u Q I rx ry ⟨i, j, rfl, rfl, hm, q⟩
            · exact absurd (by unfold binI; rw [if_neg hm]) nn
          | Pow =>
            by_cases hm : okPow i j
            · have q := fin (i ^ j.toNat) (by unfold binI; rw [if_pos hm])
              obtain ⟨t, rfl⟩ := rx
              obtain ⟨t', rfl⟩ := ry
              obtain ⟨h0, h1, h2⟩ := hm
              refine PyProof.Rows.pow_int h0 ?_ ⟨.int _, H, I.tok _, ⟨_, rfl⟩, q⟩
              have b : Builtin.Int.intBits i ≤ i.natAbs.log2 + 1 := by
                unfold Builtin.Int.intBits
                split <;> omega
              have b2 : (Builtin.Int.intBits i : Int) ≤ 1000 := by omega
              calc (Builtin.Int.intBits i : Int) * j ≤ 1000 * j := Int.mul_le_mul_of_nonneg_right b2 h0
                _ ≤ 1000 * 1000 := Int.mul_le_mul_of_nonneg_left h1 (by decide)
                _ ≤ 2 ^ 27 := by decide
            · exact absurd (by unfold binI; rw [if_neg hm]) nn
          | _ => exact absurd rfl nn
        | _ => exact lists h
    | str i =>
      cases w2 with
      | c n => exact lists h
      | p e =>
        cases e with
        | str j =>
          cases (RepW.str r1)
          cases (RepW.str r2)
          have h' : Ans C (RepW C) φ F (if op = .Add ∧ sizeOk (i.length + j.length) then Rs.ok (str (i ++ j)) S else .no).noex Q (fun _ _ _ => False) := h
          clear h
          by_cases ho : op = .Add ∧ sizeOk (i.length + j.length)
          · rw [if_pos ho, Rs.noex_ok] at h'
            obtain ⟨rfl, hz⟩ := ho
            exact op_add_str pins s σ H _ _ v u Q I rx ry ⟨i, j, rfl, rfl, sizeOk_line hz, ans_ok h' (Grow.refl φ F) sr repW_str⟩
          · rw [if_neg ho] at h'
            exact (show False from h').elim
        | _ => exact lists h
    | ins c ks ds =>
      have h : Ans C (RepW C) φ F (match dunderB op with
        | some m => if rightA c w2 = true then G.me c m [.p (.ins c ks ds), w2] S else .no
        | none => .no).noex Q (fun _ _ _ => False) := h
      cases hm : dunderB op with
      | none => rw [hm] at h; exact (show False from h).elim
      | some m =>
        rw [hm] at h
        dsimp only at h
        by_cases hr : rightA c w2 = true
        · rw [if_pos hr] at h
          have nn : G.me c m [.p (.ins c ks ds), w2] S ≠ .no := (h.noex (E' := fun _ _ _ => False)).ne_no
          obtain ⟨a, A, dx, fs, rfl, hc, ha⟩ := ins_of sr r1 (c := c) rfl
          obtain ⟨A', f, n, M⟩ := T.meth c m (.inr ⟨_, _, nn⟩)
          have eA : A' = A := Option.some.inj (M.cls.symm.trans hc)
          subst eA
          have hmm : m = "__add__" ∨ m = "__sub__" ∨ m = "__mul__" ∨ m = "__eq__" ∨ m = "__lt__" ∨ m = "__le__" := by
            cases op <;> simp [dunderB] at hm <;> subst hm <;> simp
          have O := T.oper c m A' ⟨_, _, nn⟩ hc hmm
          obtain ⟨e1, e2, fo, ro, e3, e4⟩ := O.rr op m hm
          cases rx
          obtain ⟨od, J⟩ := inst_of I ha
          obtain ⟨mf, Fr⟩ := I.fr
          have rr : RepWs C φ F [.p (.ins c ks ds), w2] [.ref a, y] := .cons r1 (.cons r2 .nil)
          have go := run_m M I (us := [.ref a, u]) (.cons (show RelV (V.ref a) (Value.ref a) from rfl) (.cons ry .nil)) sr rr h
          have go' := wpAny_mono go (fun v' s' (z : EP X pins σ Q v' s') => by
            obtain ⟨v0, H', I', r0, q0⟩ := z
            exact cmpBack r0 (show EP X pins σ Q v' s' from ⟨v0, H', I', r0, q0⟩)) (fun _ _ z => z)
          cases w2 with
          | c k => simp [rightA] at hr
          | p d2 =>
            cases d2 <;> simp [rightA] at hr
            · cases (RepW.int r2)
              obtain ⟨t, rfl⟩ := ry
              exact PySem.W.ksp_binT (T := "int") Fr I.ok.mod.kin J rfl O.sf (e1 ▸ M.me.at_) M.me.fn e2 (.inl rfl) e3 e4 O.su go'
            · subst hr
              obtain ⟨b, B, dy, gs, rfl, hc2, hb⟩ := ins_of sr r2 rfl
              rw [hc] at hc2
              cases hc2
              cases ry
              obtain ⟨od2, J2⟩ := inst_of I hb
              exact PySem.W.binop_K Fr I.ok.mod.kin J J2.type O.sf (e1 ▸ M.me.at_) M.me.fn go'
        · rw [if_neg hr] at h; exact (show False from h).elim
    | _ => exact lists h
/-- .. within a built-in function -/
theorem run_m1 {c m : Str} {A f : Addr} {n : Nat} {pins : List (Addr × Obj)} {σ : L2.St} {H : Hp} {s : Shared} {vs : List V} {us : List Value} {Q : VK} {φ : List Addr} {F : Hp} {S : Sto} {ws : List W} (M : MF X C G c m A f n)
    (I : Inv X pins σ H s) (r : Vals vs us) (sr : SR C φ F S H) (rw : RepWs C φ F ws vs) (h : Ans C (RepW C) φ F (G.me c m ws S).noex Q (fun _ _ _ => False)) : wpAny (model X.prog X.w) X.A.in1 (call (.ref f) us) (EP X pins σ Q) X.xe s := by
  obtain ⟨fd, ps, k, F1, hr, hb⟩ := M.run
  have nn := M.len ws S (h.noex (E' := fun _ _ _ => False)).ne_no
  have hsp : spG C n (G.me c m) vs H Q E0 := ⟨by rw [← rw.length, nn], φ, F, S, ws, sr, rw, h.noex⟩
  have hl : us.length = ps.length := by rw [← r.length]; exact F1.len _ _ _ _ hsp
  have b := hb s us I.kIn (by simpa using hl)
  rw [List.append_nil] at b
  have e0 : Env0 X.prog X.w X.K X.mg X.base X.A.in1 X.stack s H := I.env0.in1
  refine wpAny_call (codeAny_mono (F1.run X.A.in1 X.stack s H ⟨us, []⟩ us vs Q E0 hr.in1 e0 b r hsp) fun r s' hq => ?_)
  cases r with
  | error e => exact passL pins σ H s e s' I hq
  | ok fl =>
    cases fl with
    | ret u => exact I.after hq
    | next => exact False.elim hq
    | brk => exact False.elim hq
    | cont => exact False.elim hq
theorem looks_ref {M : Model} {h : Heap} {a : Addr} {o : Obj} {t : Value} (e : h.get? a = some o) (hc : o.cls = t) : PySem.W.Looks M h (typeOf (.ref a)) t := fun A Q E s k q => wpAny_typeOf_ref (k _ _ e) (by rw [hc]; exact q)
/-- a value's type -/
theorem ty_looks {pins : List (Addr × Obj)} {σ : L2.St} {H : Hp} {s : Shared} {v : V} {u : Value} {φ : List Addr} {F : Hp} {S : Sto} {d : D} {T : String} (I : Inv X pins σ H s) (rx : RelV v u) (sr : SR C φ F S H) (r : Rep C F d v) (h : tyD d = some T) :
    PySem.W.Looks (model X.prog X.w) s.heap (typeOf u) (.type T) := by
  cases d <;> simp [tyD] at h <;> subst h <;> unfold Rep at r
  · subst r; cases rx; exact .of_pure rfl
  · subst r; cases rx; exact .of_pure rfl
  · subst r; obtain ⟨t, rfl⟩ := rx; exact .of_pure rfl
  · subst r; obtain ⟨t, rfl⟩ := rx; exact .of_pure rfl
  · obtain ⟨a, vs, rfl, f, q⟩ := r
    cases rx
    obtain ⟨its, rv, ⟨o, n, e, hc, _⟩, _⟩ := I.list (.inl (sr.fh _ _ f).rd)
    exact looks_ref e hc
  · obtain ⟨a, vs, rfl, f, q⟩ := r
    cases rx
    obtain ⟨its, rv, ⟨o, e, hc, _⟩, _⟩ := I.tuple (.inl (sr.fh _ _ f).rd)
    exact looks_ref e hc
  · obtain ⟨a, vs, ob, rfl, f, q, l⟩ := r
    cases rx
    obtain ⟨_, _, ws, _, o, es, ep, e, ex, _⟩ := (show ObjOk X.prog X.w H s.heap a (.dK _) from (show Rd H a (.dK _) from .inr ⟨ob, (sr.fh _ _ f).at (by simp [Lk])⟩).ok I.hok)
    exact looks_ref e ex.1
  · obtain ⟨a, vs, ob, rfl, f, q, l⟩ := r
    cases rx
    obtain ⟨_, _, ws, _, o, es, ep, e, ex, _⟩ := (show ObjOk X.prog X.w H s.heap a (.dT _) from (show Rd H a (.dT _) from .inr ⟨ob, (sr.fh _ _ f).at (by simp [Lk])⟩).ok I.hok)
    exact looks_ref e ex.1
  · obtain ⟨a, vs, ob, rfl, f, q⟩ := r
    cases rx
    obtain ⟨its, rv, ⟨o, n, e, hc, _⟩, _⟩ := I.list (.inl (.inr ⟨ob, (sr.fh _ _ f).at (by simp [Lk])⟩))
    exact looks_ref e hc
end
end M
set_option Elab.async false
set_option linter.all false
set_option maxRecDepth 100000
set_option maxHeartbeats 4000000
namespace M
open PySem PySem.Spec PyProof.Rows L2
/-- two values, a truth -/
def r2B (C : Cl) (f : W → W → Sto → Rs Bool) : R2 := fun x y H Q => ∃ φ F S w u, SR C φ F S H ∧ RepW C φ F w x ∧ RepW C φ F u y ∧ Ans C (fun _ _ b b' => V.bl b = b') φ F (f w u S).noex Q (fun _ _ _ => False)
section
variable {X : Cx} {C : Cl} {G : Gt}
/-- the answer of an own comparison -/
theorem bool_ans {φ : List Addr} {F : Hp} {r : Rs W} {Q : V → Hp → Prop}
    (h : Ans C (fun _ _ b b' => V.bl b = b') φ F (r.noex.bind fun r S => match r with | .p (.bl b) => .ok b S | _ => .no).noex Q (fun _ _ _ => False)) :
    Ans C (RepW C) φ F r.noex (fun v H => ∃ b, v = .bl b ∧ Q (.bl b) H) (fun _ _ _ => False) := by
  cases r with
  | no => exact h
  | ex c ks ds S => exact h
  | ok w S =>
    cases w with
    | c n => exact (show False from h).elim
    | p d =>
      cases d with
      | bl b =>
        intro v φ' F' H' g s q
        cases (RepW.bl q)
        exact ⟨b, rfl, h _ φ' F' H' g s rfl⟩
      | _ => exact (show False from h).elim
theorem own_cmp (T : Facts X C G) {op : CmpOp} {m c : Str} {ks : List Str} {ds : List D} {w2 : W} {pins : List (Addr × Obj)} {s : Shared} {σ : L2.St} {H : Hp} {x y : V} {v u : Value} {Q : VK} {φ : List Addr} {F : Hp} {S : Sto}
    (I : Inv X pins σ H s) (rx : RelV x v) (ry : RelV y u) (sr : SR C φ F S H) (r1 : RepW C φ F (.p (.ins c ks ds)) x) (r2 : RepW C φ F w2 y) (hm : (cmpInfo op).2.1 = m) (hmm : m = "__eq__" ∨ m = "__lt__" ∨ m = "__le__") (hr : rightC c w2 = true)
    (h : Ans C (RepW C) φ F (G.me c m [.p (.ins c ks ds), w2] S).noex Q (fun _ _ _ => False)) :
    wpAny (model X.prog X.w) X.A (richCompare op v u) (EP X pins σ Q) X.xe s := by
  have nn : G.me c m [.p (.ins c ks ds), w2] S ≠ .no := (h.noex (E' := fun _ _ _ => False)).ne_no
  obtain ⟨a, A, dx, fs, rfl, hc, ha⟩ := ins_of sr r1 (c := c) rfl
  obtain ⟨A', f, n, M⟩ := T.meth c m (.inr ⟨_, _, nn⟩)
  have eA : A' = A := Option.some.inj (M.cls.symm.trans hc)
  subst eA
  have O := T.oper c m A' ⟨_, _, nn⟩ hc (by rcases hmm with h | h | h <;> simp [h])
  cases rx
  obtain ⟨od, J⟩ := inst_of I ha
  obtain ⟨mf, Fr⟩ := I.fr
  have rr : RepWs C φ F [.p (.ins c ks ds), w2] [.ref a, y] := .cons r1 (.cons r2 .nil)
  have go := run_m M I (us := [.ref a, u]) (.cons (show RelV (V.ref a) (Value.ref a) from rfl) (.cons ry .nil)) sr rr h
  have go' := wpAny_mono go (fun v' s' (z : EP X pins σ Q v' s') => by
    obtain ⟨v0, H', I', r0, q0⟩ := z
    exact cmpBack r0 (show EP X pins σ Q v' s' from ⟨v0, H', I', r0, q0⟩)) (fun _ _ z => z)
  have hu : X.A.units < cLine := by
    obtain ⟨_, _, k, _, hr, _⟩ := M.run
    exact hr.r.units0
  have at_ := M.me.at_
  subst hm
  cases w2 with
  | c k => simp [rightC] at hr
  | p d2 =>
    by_cases hi : ∃ c' ks' ds', d2 = .ins c' ks' ds'
    · obtain ⟨c', ks', ds', rfl⟩ := hi
      have hr : c' = c := by simpa [rightC] using hr
      subst hr
      obtain ⟨b, B, dy, gs, rfl, hc2, hb⟩ := ins_of sr r2 rfl
      rw [hc] at hc2
      cases hc2
      cases ry
      obtain ⟨od2, J2⟩ := inst_of I hb
      exact PySem.W.cmp_K hu Fr I.ok.mod.kin J J2.type O.no at_ M.me.fn go'
    · have hr : (tyD d2).isSome = true := by
        cases d2 <;> first | exact hr | exact absurd ⟨_, _, _, rfl⟩ hi
      obtain ⟨Ty, ht⟩ := Option.isSome_iff_exists.mp hr
      have L := ty_looks I ry sr r2 ht
      have hT : PySem.W.notFirst X.K A' (.type Ty) = true := O.nf Ty (by cases d2 <;> simp [tyD] at ht <;> subst ht <;> simp)
      exact PySem.W.cmp_K hu Fr I.ok.mod.kin J L hT at_ M.me.fn go'
theorem own_ne (T : Facts X C G) {c : Str} {ks : List Str} {ds : List D} {w2 : W} {pins : List (Addr × Obj)} {s : Shared} {σ : L2.St} {H : Hp} {x y : V} {v u : Value} {Q : VK} {φ : List Addr} {F : Hp} {S : Sto}
    (I : Inv X pins σ H s) (rx : RelV x v) (ry : RelV y u) (sr : SR C φ F S H) (r1 : RepW C φ F (.p (.ins c ks ds)) x) (r2 : RepW C φ F w2 y) (hr : rightC c w2 = true)
    (h : Ans C (RepW C) φ F (G.me c "__eq__" [.p (.ins c ks ds), w2] S).noex (fun v H => ∃ b, v = .bl b ∧ Q (.bl (!b)) H) (fun _ _ _ => False)) :
    wpAny (model X.prog X.w) X.A (richCompare .NotEq v u) (EP X pins σ Q) X.xe s := by
  have nn : G.me c "__eq__" [.p (.ins c ks ds), w2] S ≠ .no := (h.noex (E' := fun _ _ _ => False)).ne_no
  obtain ⟨a, A, dx, fs, rfl, hc, ha⟩ := ins_of sr r1 (c := c) rfl
  obtain ⟨A', f, n, M⟩ := T.meth c _ (.inr ⟨_, _, nn⟩)
  have eA : A' = A := Option.some.inj (M.cls.symm.trans hc)
  subst eA
  have O := T.oper c _ A' ⟨_, _, nn⟩ hc (by simp)
  cases rx
  obtain ⟨od, J⟩ := inst_of I ha
  obtain ⟨mf, Fr⟩ := I.fr
  have rr : RepWs C φ F [.p (.ins c ks ds), w2] [.ref a, y] := .cons r1 (.cons r2 .nil)
  have go := run_m1 M I (us := [.ref a, u]) (.cons (show RelV (V.ref a) (Value.ref a) from rfl) (.cons ry .nil)) sr rr h
  have go' : wpAny (model X.prog X.w) X.A.in1 (call (.ref f) [.ref a, u]) (fun v s' => ∃ r, v = .bool r ∧ EP X pins σ Q (.bool (!r)) s') X.xe s := wpAny_mono go (fun v' s' (z : EP X pins σ _ v' s') => by
    obtain ⟨v0, H', I', r0, b, e0, q0⟩ := z
    subst e0
    cases r0
    exact ⟨b, rfl, .bl (!b), H', I', rfl, q0⟩) (fun _ _ z => z)
  have hu : X.A.units + 1 < cLine := by
    obtain ⟨_, _, k, _, hr, _⟩ := M.run
    have := hr.r.units
    omega
  cases w2 with
  | c k => simp [rightC] at hr
  | p d2 =>
    by_cases hi : ∃ c' ks' ds', d2 = .ins c' ks' ds'
    · obtain ⟨c', ks', ds', rfl⟩ := hi
      have hr : c' = c := by simpa [rightC] using hr
      subst hr
      obtain ⟨b, B, dy, gs, rfl, hc2, hb⟩ := ins_of sr r2 rfl
      rw [hc] at hc2
      cases hc2
      cases ry
      obtain ⟨od2, J2⟩ := inst_of I hb
      exact ne_K hu Fr I.ok.mod.kin J J2.type O.no O.ne M.me.at_ M.me.fn O.ob go'
    · have hr : (tyD d2).isSome = true := by
        cases d2 <;> first | exact hr | exact absurd ⟨_, _, _, rfl⟩ hi
      obtain ⟨Ty, ht⟩ := Option.isSome_iff_exists.mp hr
      have L := ty_looks I ry sr r2 ht
      have hT : PySem.W.notFirst X.K A' (.type Ty) = true := O.nf Ty (by cases d2 <;> simp [tyD] at ht <;> subst ht <;> simp)
      exact ne_K hu Fr I.ok.mod.kin J L hT O.ne M.me.at_ M.me.fn O.ob go'
theorem ofO_ne {α : Type} {o : Option α} {S : Sto} (h : (ofO o S).noex ≠ .no) : ∃ a, o = some a := by
  cases o with
  | none => exact absurd rfl h
  | some a => exact ⟨a, rfl⟩
/-- data compared -/
theorem data_eq {neg : Bool} {w1 w2 : W} {pins : List (Addr × Obj)} {s : Shared} {σ : L2.St} {H : Hp} {x y : V} {v u : Value} {Q : VK} {φ : List Addr} {F : Hp} {S : Sto} {d e : D} {b : Bool} (hu : X.A.units + 64 < cLine)
    (I : Inv X pins σ H s) (rx : RelV x v) (ry : RelV y u) (sr : SR C φ F S H) (r1 : RepW C φ F w1 x) (r2 : RepW C φ F w2 y) (e1 : rd S w1 = some d) (e2 : rd S w2 = some e) (hb : eqD d e = some b) :
    (Q (.bl b) H → wpAny (model X.prog X.w) X.A (compareOp .Eq v u) (EP X pins σ Q) X.xe s) ∧ (Q (.bl (!b)) H → wpAny (model X.prog X.w) X.A (compareOp .NotEq v u) (EP X pins σ Q) X.xe s) := by
  unfold eqD at hb
  cases h1 : d.py with
  | none => rw [h1] at hb; cases hb
  | some p =>
    cases h2 : e.py with
    | none => rw [h1, h2] at hb; cases hb
    | some q =>
      rw [h1, h2] at hb
      dsimp only at hb
      by_cases hs : SeqAt.shaped p = true ∧ SeqAt.shaped q = true
      · rw [if_pos hs] at hb
        cases hb
        have D1 := dp_rd (K := X.K) sr r1 e1 h1
        have D2 := dp_rd (K := X.K) sr r2 e2 h2
        exact ⟨fun z => op_eqD hu pins s σ H x y v u Q I rx ry ⟨p, q, D1, D2, hs.1, hs.2, z⟩, fun z => op_neD hu pins s σ H x y v u Q I rx ry ⟨p, q, D1, D2, hs.1, hs.2, z⟩⟩
      · rw [if_neg hs] at hb; cases hb
theorem flat_V {d : D} {v : V} {F : Hp} (r : Rep C F d v) (h : flatD d = true) : flatV v = true := by
  cases d <;> simp [flatD] at h <;> unfold Rep at r <;> subst r <;> rfl
theorem eqFl_V {d e : D} {v u : V} {F : Hp} (r : Rep C F d v) (q : Rep C F e u) (h : flatD d = true) (k : flatD e = true) : eqV v u = eqFl d e := by
  cases d <;> simp [flatD] at h <;> cases e <;> simp [flatD] at k <;> unfold Rep at r q <;> subst r <;> subst q <;> rfl
theorem inV_D {d : D} {v : V} {F : Hp} (r : Rep C F d v) (h : flatD d = true) : ∀ {es : List D} {vs : List V}, Reps C F es vs → es.all flatD = true → vs.all flatV = true ∧ inV v vs = es.any fun e => eqFl e d
  | [], vs, q, _ => by unfold Reps at q; subst q; exact ⟨rfl, rfl⟩
  | e :: es, vs, q, k => by
    unfold Reps at q
    obtain ⟨u, us, rfl, q1, q2⟩ := q
    rw [List.all_cons, Bool.and_eq_true] at k
    obtain ⟨z1, z2⟩ := inV_D r h q2 k.2
    refine ⟨by rw [List.all_cons, flat_V q1 k.1, z1] <;> rfl, ?_⟩
    unfold inV at z2 ⊢
    rw [List.any_cons, List.any_cons, z2, eqFl_V q1 r k.1 h]
theorem str_one {x : Str} (h : x.length = 1) : x = ⟨#[x.cps.getD 0 0]⟩ := by
  obtain ⟨⟨l⟩⟩ := x
  cases l with
  | nil => exact absurd h (by simp [PySem.Str.length])
  | cons a r =>
    cases r with
    | nil => simp
    | cons b r => exact absurd h (by simp [PySem.Str.length])
/-- in, not in -/
theorem op_ins (hu : X.A.units + 65 < cLine) {w1 w2 : W} {pins : List (Addr × Obj)} {s : Shared} {σ : L2.St} {H : Hp} {x y : V} {v u : Value} {Q : VK} {φ : List Addr} {F : Hp} {S : Sto} {b : Bool}
    (I : Inv X pins σ H s) (rx : RelV x v) (ry : RelV y u) (sr : SR C φ F S H) (r1 : RepW C φ F w1 x) (r2 : RepW C φ F w2 y) (h : inF w1 w2 S = some b) :
    (Q (.bl b) H → wpAny (model X.prog X.w) X.A (compareOp .In v u) (EP X pins σ Q) X.xe s) ∧ (Q (.bl (!b)) H → wpAny (model X.prog X.w) X.A (compareOp .NotIn v u) (EP X pins σ Q) X.xe s) := by
  cases w1 with
  | c n => simp [inF] at h
  | p d =>
    have lists : (match seqOf S w2 with
        | some ws => match pures ws with
          | some ds => if flatD d = true ∧ ds.all flatD = true then some (ds.any fun e => eqFl e d) else none
          | none => none
        | none => hasK (.p d) S w2) = some b → (Q (.bl b) H → wpAny (model X.prog X.w) X.A (compareOp .In v u) (EP X pins σ Q) X.xe s) ∧ (Q (.bl (!b)) H → wpAny (model X.prog X.w) X.A (compareOp .NotIn v u) (EP X pins σ Q) X.xe s) := fun h => by
      cases e1 : seqOf S w2 with
      | none =>
        rw [e1] at h
        obtain ⟨a, o, rfl, g, rfl⟩ := hasK_of sr r1 r2 h
        cases ry
        exact ⟨fun q => d_in (by omega) I g rx fun s' I' => ⟨.bl o.isSome, H, I', rfl, q⟩, fun q => d_notIn (by omega) I g rx fun s' I' => ⟨.bl (!o.isSome), H, I', rfl, q⟩⟩
      | some ws =>
        rw [e1] at h
        dsimp only at h
        cases e2 : pures ws with
        | none => rw [e2] at h; cases h
        | some ds =>
          rw [e2] at h
          dsimp only at h
          by_cases hf : flatD d = true ∧ ds.all flatD = true
          · rw [if_pos hf] at h
            cases h
            obtain ⟨a, vs, rfl, q, rr⟩ := seq_of (K := X.K) sr r2 e1
            rw [pures_eq e2, repWs_p] at rr
            obtain ⟨z1, z2⟩ := inV_D (C := C) r1 hf.1 rr hf.2
            have fx : flatV x = true := flat_V (C := C) r1 hf.1
            rw [← z2]
            exact ⟨fun z => op_in_seq pins s σ H x _ v u Q I rx ry ⟨a, vs, rfl, .inl q, fx, z1, z⟩, fun z => op_notIn_seq pins s σ H x _ v u Q I rx ry ⟨a, vs, rfl, .inl q, fx, z1, z⟩⟩
          · rw [if_neg hf] at h; cases h
    by_cases hs : ∃ a b, d = .str a ∧ w2 = .p (.str b)
    · obtain ⟨a, z, rfl, rfl⟩ := hs
      cases (RepW.str r1)
      cases (RepW.str r2)
      have h : (if a.length = 1 then some (decide (a.cps.getD 0 0 ∈ z.cps.toList)) else none) = some b := h
      by_cases hl : a.length = 1
      · rw [if_pos hl] at h
        cases h
        have ea : V.str a = .str ⟨#[a.cps.getD 0 0]⟩ := congrArg V.str (str_one hl)
        exact ⟨fun q => op_in_sign pins s σ H _ _ v u Q I rx ry ⟨_, z, ea, rfl, q⟩, fun q => op_notIn_sign pins s σ H _ _ v u Q I rx ry ⟨_, z, ea, rfl, q⟩⟩
      · rw [if_neg hl] at h; cases h
    · refine lists ?_
      rw [← h]
      cases d <;> first | rfl | (cases w2 with
        | c n => rfl
        | p e => cases e <;> first | rfl | exact absurd ⟨_, _, rfl, rfl⟩ hs)
theorem isNon_V {w : W} {v : V} {φ : List Addr} {F : Hp} (r : RepW C φ F w v) : isNon w = some (decide (v = .non)) := by
  cases w with
  | c n => obtain ⟨a, _, rfl⟩ := r; simp [isNon]
  | p d =>
    cases d <;> unfold RepW Rep at r <;> simp only [isNon]
    · subst r; simp
    · subst r; simp
    · subst r; simp
    · subst r; simp
    · obtain ⟨a, vs, rfl, _⟩ := r; simp
    · obtain ⟨a, vs, rfl, _⟩ := r; simp
    · obtain ⟨a, vs, ob, rfl, _⟩ := r; simp
    · obtain ⟨a, vs, ob, rfl, _⟩ := r; simp
    · obtain ⟨a, A, dx, vs, rfl, _⟩ := r; simp
    · obtain ⟨a, rfl, _⟩ := r; simp
    · obtain ⟨a, vs, ob, rfl, _⟩ := r; simp
    · obtain ⟨a, A, vs, rfl, _⟩ := r; simp
abbrev RB : List Addr → Hp → Bool → V → Prop := fun _ _ b b' => V.bl b = b'
theorem ofO_ans {φ : List Addr} {F H : Hp} {S : Sto} {o : Option Bool} {Q : VK} (sr : SR C φ F S H) (h : Ans C RB φ F (ofO o S).noex Q (fun _ _ _ => False)) : ∃ b, o = some b ∧ Q (.bl b) H := by
  cases o with
  | none => exact (show False from h).elim
  | some b => exact ⟨b, rfl, ans_ok h (Grow.refl φ F) sr rfl⟩
theorem eqF_data {w u : W} {S : Sto} (h : ∀ c ks ds, w ≠ .p (.ins c ks ds)) : eqF G w u S = (match rd S w, rd S u with
    | some d, some e => ofO (eqD d e) S
    | _, _ => .no) := by
  unfold eqF
  split
  · exact absurd rfl (h _ _ _)
  · rfl
theorem op_cmp (T : Facts X C G) (hu : X.A.units + 65 < cLine) (op : CmpOp) : OpR X (compareOp op) (r2B C (cmpF G op)) := by
  intro pins s σ H x y v u Q I rx ry hq
  obtain ⟨φ, F, S, w1, w2, sr, r1, r2, h⟩ := hq
  -- ordered comparisons
  have order : ∀ (op : CmpOp), op = .Lt ∨ op = .LtE ∨ op = .Gt ∨ op = .GtE → Ans C RB φ F (match w1, w2 with
    | .p (.int i), .p (.int j) => ofO (cmpI op i j) S
    | .p (.ins c ks ds), u => match dunderC op with
      | some m => if rightC c u = true then (G.me c m [.p (.ins c ks ds), u] S).noex.bind fun r S => match r with
        | .p (.bl b) => .ok b S
        | _ => .no
        else .no
      | none => .no
    | _, _ => .no).noex Q (fun _ _ _ => False) → wpAny (model X.prog X.w) X.A (compareOp op v u) (EP X pins σ Q) X.xe s := fun op ho h => by
    cases w1 with
    | c n => exact (show False from h).elim
    | p d =>
      cases d with
      | int i =>
        cases w2 with
        | c n => exact (show False from h).elim
        | p e =>
          cases e with
          | int j =>
            cases (RepW.int r1)
            cases (RepW.int r2)
            obtain ⟨b, hb, q⟩ := ofO_ans sr h
            rcases ho with rfl | rfl | rfl | rfl <;> cases hb
            · exact op_lt pins s σ H _ _ v u Q I rx ry ⟨i, j, rfl, rfl, q⟩
            · exact op_le pins s σ H _ _ v u Q I rx ry ⟨i, j, rfl, rfl, q⟩
            · exact op_gt pins s σ H _ _ v u Q I rx ry ⟨i, j, rfl, rfl, q⟩
            · exact op_ge pins s σ H _ _ v u Q I rx ry ⟨i, j, rfl, rfl, q⟩
          | _ => exact (show False from h).elim
      | ins c ks ds =>
        have h : Ans C RB φ F (match dunderC op with
          | some m => if rightC c w2 = true then (G.me c m [.p (.ins c ks ds), w2] S).noex.bind fun r S => match r with
            | .p (.bl b) => .ok b S
            | _ => .no
            else .no
          | none => .no).noex Q (fun _ _ _ => False) := h
        cases hm : dunderC op with
        | none => rw [hm] at h; exact (show False from h).elim
        | some m =>
          rw [hm] at h
          dsimp only at h
          by_cases hr : rightC c w2 = true
          · rw [if_pos hr] at h
            have z := (bool_ans h).mono (fun v H ⟨b, e, q⟩ => (show Q v H from e ▸ q)) fun _ _ _ z => z
            have e1 : (cmpInfo op).2.1 = m ∧ (m = "__eq__" ∨ m = "__lt__" ∨ m = "__le__") := by
              rcases ho with rfl | rfl | rfl | rfl <;> simp [dunderC] at hm <;> subst hm
              · exact ⟨by decide +kernel, by simp⟩
              · exact ⟨by decide +kernel, by simp⟩
            have go := own_cmp T I rx ry sr r1 r2 e1.1 e1.2 hr z
            rcases ho with rfl | rfl | rfl | rfl
            · exact go
            · exact go
            · exact go
            · exact go
          · rw [if_neg hr] at h; exact (show False from h).elim
      | _ => exact (show False from h).elim
  -- equality
  have eqs : ∀ neg : Bool, Ans C RB φ F ((eqF G w1 w2 S).bind fun b S => .ok (if neg = true then !b else b) S).noex Q (fun _ _ _ => False) →
      wpAny (model X.prog X.w) X.A (compareOp (if neg = true then .NotEq else .Eq) v u) (EP X pins σ Q) X.xe s := fun neg h => by
    by_cases hi : ∃ c ks ds, w1 = .p (.ins c ks ds)
    · obtain ⟨c, ks, ds, rfl⟩ := hi
      have h : Ans C RB φ F ((if rightC c w2 = true then (G.me c "__eq__" [.p (.ins c ks ds), w2] S).noex.bind fun r S => match r with
          | .p (.bl b) => .ok b S
          | _ => .no
        else .no).bind fun b S => .ok (if neg = true then !b else b) S).noex Q (fun _ _ _ => False) := h
      by_cases hr : rightC c w2 = true
      · rw [if_pos hr] at h
        have z : Ans C (RepW C) φ F (G.me c "__eq__" [.p (.ins c ks ds), w2] S).noex (fun v H => ∃ b, v = .bl b ∧ Q (.bl (if neg = true then !b else b)) H) (fun _ _ _ => False) := by
          revert h
          generalize G.me c "__eq__" [.p (.ins c ks ds), w2] S = r
          intro h
          cases r with
          | no => exact h
          | ex c ks ds S => exact h
          | ok w S =>
            cases w with
            | c n => exact (show False from h).elim
            | p d =>
              cases d with
              | bl b =>
                intro v φ' F' H' g s q
                cases (RepW.bl q)
                exact ⟨b, rfl, h _ φ' F' H' g s rfl⟩
              | _ => exact (show False from h).elim
        cases neg with
        | true => exact own_ne T I rx ry sr r1 r2 hr z
        | false => exact own_cmp (op := .Eq) T I rx ry sr r1 r2 (by decide +kernel) (by simp) hr (z.mono (fun v H ⟨b, e, q⟩ => (show Q v H from e ▸ q)) fun _ _ _ z => z)
      · rw [if_neg hr] at h; exact (show False from h).elim
    · rw [eqF_data (fun c ks ds e => hi ⟨c, ks, ds, e⟩)] at h
      cases e1 : rd S w1 with
      | none => rw [e1] at h; exact (show False from h).elim
      | some d =>
        cases e2 : rd S w2 with
        | none => rw [e1, e2] at h; exact (show False from h).elim
        | some e =>
          rw [e1, e2] at h
          dsimp only at h
          cases e3 : eqD d e with
          | none => rw [e3] at h; exact (show False from h).elim
          | some b =>
            rw [e3] at h
            have q := ans_ok h (Grow.refl φ F) sr rfl
            have z := data_eq (Q := Q) (neg := neg) (by omega) I rx ry sr r1 r2 e1 e2 e3
            cases neg with
            | true => exact z.2 q
            | false => exact z.1 q
  cases op with
  | Eq =>
    refine eqs false ?_
    have h : Ans C RB φ F (eqF G w1 w2 S).noex Q (fun _ _ _ => False) := h
    revert h
    generalize eqF G w1 w2 S = r
    intro h
    cases r <;> exact h
  | NotEq => exact eqs true h
  | Lt => exact order .Lt (by simp) h
  | LtE => exact order .LtE (by simp) h
  | Gt => exact order .Gt (by simp) h
  | GtE => exact order .GtE (by simp) h
  | Is =>
    have h : Ans C RB φ F (match w2 with | .p .non => ofO (isNon w1) S | _ => .no).noex Q (fun _ _ _ => False) := h
    split at h
    · cases (RepW.non r2)
      obtain ⟨b, hb, q⟩ := ofO_ans sr h
      rw [isNon_V r1] at hb
      cases hb
      exact op_isN pins s σ H _ _ v u Q I rx ry ⟨rfl, q⟩
    · exact (show False from h).elim
  | IsNot =>
    have h : Ans C RB φ F (match w2 with | .p .non => ofO ((isNon w1).map (!·)) S | _ => .no).noex Q (fun _ _ _ => False) := h
    split at h
    · cases (RepW.non r2)
      obtain ⟨b, hb, q⟩ := ofO_ans sr h
      rw [isNon_V r1] at hb
      cases hb
      exact op_notN pins s σ H _ _ v u Q I rx ry ⟨rfl, q⟩
    · exact (show False from h).elim
  | In =>
    obtain ⟨b, hb, q⟩ := ofO_ans sr (show Ans C RB φ F (ofO (inF w1 w2 S) S).noex Q (fun _ _ _ => False) from h)
    exact (op_ins hu (Q := Q) I rx ry sr r1 r2 hb).1 q
  | NotIn =>
    obtain ⟨b, hb, q⟩ := ofO_ans sr (show Ans C RB φ F (ofO ((inF w1 w2 S).map (!·)) S).noex Q (fun _ _ _ => False) from h)
    obtain ⟨b', hb', rfl⟩ := map_some hb
    exact (op_ins hu (Q := Q) I rx ry sr r1 r2 hb').2 q
end
end M
set_option Elab.async false
set_option linter.all false
set_option maxRecDepth 100000
set_option maxHeartbeats 4000000
namespace M
open PySem PySem.Spec PyProof.Rows L2
/-! ### expressions, as the evaluator reads them -/
/-- a loop's target -/
inductive Tg where
  | one (i : Nat) | all (is : List Nat)
inductive E where
  | var (i : Nat)
  | cst (c : Const)
  | bin (op : Operator) (a b : E)
  | neg (a : E)
  | no (a : E)
  | and (a b : E)
  | or (a b : E)
  | ite (c a b : E)
  | cmp (op : CmpOp) (a b : E)
  | cmp2 (o1 o2 : CmpOp) (a b c : E)
  /-- f(..), f a def or a class of the program's; ds: the defaults that fill up -/
  | call (f : Str) (as : E) (ds : List Int)
  /-- .. with keywords ks behind: ix tells for each parameter which value (of the positional ones and the keywords' in a row) it gets -/
  | callK (f : Str) (n : Nat) (as : E) (ks : List Str) (vs : E) (ix : List Nat)
  /-- a class that a name holds, called -/
  | callV (i : Nat) (as : E) (ds : List Int)
  | bf (f : BF) (as : E)
  | isi (a : E) (t : Ty)
  | isiT (a : E) (ts : List Ty)
  | meth (o : E) (m : Str) (as : E)
  | methK (o : E) (m : Str) (n : Nat) (as : E) (ks : List Str) (vs : E) (ix : List Nat)
  | cmeth (c m : Str) (as : E)
  | cmethK (c m : Str) (ks : List Str) (vs : E) (ix : List Nat)
  | bm (m : BM) (o : E) (as : E)
  | fld (o : E) (f : Str)
  | idx (o i : E)
  | slc (o lo hi : E)
  | lst (es : E) (mu : Bool)
  | tup (es : E)
  | dct0 (mu : Bool)
  /-- {k: v, ..}: es a key, its value, a key .. -/
  | dct (es : E) (mu : Bool)
  /-- isinstance(a, c), a an error that is held -/
  | isx (a : E) (c : Str)
  /-- a field of an error that is held -/
  | xfd (o : E) (f : Str)
  | comp (elt : E) (own : List (Str × Nat)) (g : Tg) (it : E) (c : E)
  /-- list(a) -/
  | lis (a : E) (mu : Bool)
  /-- a constant of the module -/
  | glo (x : Str)
  /-- a field of the error that is being handled -/
  | exf (i : Nat) (f : Str)
  | fstr (ps : E)
  | fmt (a : E)
  | rng (as : E)
  | frz (a : E)
  | nil | cons (a r : E) | star (a r : E) | omit
  /-- a part of a slice -/
  | prt (a : E)
  /-- an entry of a display -/
  | pair (k v r : E)

/-- truth -/
def truth (S : Sto) : W → Option Bool
  | .p (.bl b) => some b
  | .p .non => some false
  | .p (.int i) => some (i != 0)
  | .p (.str x) => if sizeOk x.length then some ((x.length : Int) != 0) else none
  | .p (.tup xs) => some (!xs.isEmpty)
  | w => (seqOf S w).map fun ws => !ws.isEmpty
def cstW : Const → Option W
  | .none => some (.p .non)
  | .bool b => some (bl b)
  | .int i => some (int i)
  | .str x => some (str x)
  | _ => none
def oneI : W → Option Int
  | .p (.int i) => some i
  | _ => none
def cutF (o lo hi : W) (S : Sto) : Rs W := match optI lo, optI hi with
  | some l, some h => match o with
    | .p (.str x) => if sizeOk x.length then .ok (str (cutS x l h)) S else .no
    | o => match seqOf S o with
      | some ws => match pures ws with
        | some ds => .ok (.p (.lst (cutL ds l h))) S
        | none => .no
      | none => .no
  | _, _ => .no
def bmF (m : BM) (w : W) (ws : List W) (S : Sto) : Rs W := match m, w, ws with
  | .split, .p (.str x), [.p (.str y)] => if (y.length == 0) = false ∧ sizeOk (x.length + 2) then .ok (.p (.lst ((Txt.split x y).map .str))) S else .no
  | .append, .c n, [u] => match S[n]? with
    | some (.live (.lst vs)) => if sizeOk (vs.length + 1) then .ok (.p .non) (S.set n (.live (.lst (vs ++ [u])))) else .no
    | _ => .no
  | _, _, _ => .no
/-- text of a part of an f-string -/
def partF (w : W) : Option Str := match w with
  | .p (.str x) => if sizeOk x.length then some x else none
  | .p (.int i) => if i.natAbs.log2 < 1920 then some (toString i) else none
  | _ => none
def isiAny (ts : List Ty) (w : W) (S : Sto) : Option Bool := match ts with
  | [] => some false
  | t :: ts => match isiF t w S with
    | some true => some true
    | some false => isiAny ts w S
    | none => none
def setAll (ρ : Env) : List Nat → List W → Env
  | i :: is, w :: ws => setAll (ρ.set i (some w)) is ws
  | _, _ => ρ
/-- a tuple's items -/
def tupOf : W → Option (List W)
  | .p (.tup xs) => some (xs.map .p)
  | _ => none
def Tg.set : Tg → Env → W → Option Env
  | .one i, ρ, w => some (ρ.set i (some w))
  | .all is, ρ, w => match tupOf w with
    | some ws => if ws.length = is.length then some (setAll ρ is ws) else none
    | none => none
/-- the turns of a comprehension, the new list being thing n -/
def compL (el : Env → Sto → Rs W) (ct : Env → Sto → Rs Bool) (g : Tg) (n : Nat) (ρ : Env) : List W → Sto → Rs Unit
  | [], S => .ok () S
  | w :: ws, S => match g.set ρ w with
    | some ρ' => (ct ρ' S).noex.bind fun b S1 =>
      if b = true then (el ρ' S1).noex.bind fun u S2 => match S2[n]? with
        | some (.live (.lst us)) => if sizeOk (us.length + 1) then compL el ct g n ρ ws (S2.set n (.live (.lst (us ++ [u])))) else .no
        | _ => .no
      else compL el ct g n ρ ws S1
    | none => .no
/-- a new list, filled: data if it can be -/
def sealF (n : Nat) (S : Sto) : Rs W := match S[n]? with
  | some (.live (.lst us)) => match pures us with
    | some ds => finF n (.ok (.p (.lst ds)) (S.set n (.dead (.lst ds))))
    | none => .ok (.c n) S
  | _ => .no
/-- the block's own names are forgotten -/
def wipeE (ρ : Env) : List Nat → Env
  | [] => ρ
  | v :: vs => (wipeE ρ vs).set v none
def permW (ix : List Nat) (ws : List W) : Option (List W) := ix.mapM fun j => ws[j]?
/-- what is walked: the items of a list that stays, of a tuple -/
def keyD : Key → W
  | .inl i => int i
  | .inr x => str x
def walkOf (_ : Sto) : W → Option (List W)
  | .p (.tup xs) => some (xs.map .p)
  | .p (.lst xs) => some (xs.map .p)
  | .p (.fro xs) => some (xs.map .p)
  | .p (.str x) => some (x.cps.toList.map fun c => str ⟨#[c]⟩)
  | .p (.dic ks _) => some (ks.map keyD)
  | _ => none
abbrev JF := Env → Str → Sto → Rs Str
/-- an expression's readings: as a value, a test, a list of expressions, what is walked, parts of an f-string -/
structure Pk where
  e : EF
  t : TF
  a : AF
  i : AF
  f : JF
def noA : AF := fun _ _ => .no
def noJ : JF := fun _ _ _ => .no
def tOf (e : EF) : TF := fun ρ S => (e ρ S).bind fun w S => ofO (truth S w) S
def iOf (e : EF) : AF := fun ρ S => (e ρ S).bind fun w S => ofO (walkOf S w) S
def mkP (e : EF) : Pk := ⟨e, tOf e, noA, iOf e, noJ⟩
def mkT (e : EF) (t : TF) : Pk := ⟨e, t, noA, iOf e, noJ⟩
def noE : EF := fun _ _ => .no
def noT : TF := fun _ _ => .no
def fVar (i : Nat) : EF := fun ρ S => match ρ[i]? with
  | some (some (.c n)) => match S[n]? with
    | some (.dead d) => .ok (.p d) S
    | some (.live _) => .ok (.c n) S
    | none => .no
  | some (some (.p d)) => .ok (.p d) S
  | _ => .no
def fCst (c : Const) : EF := fun _ S => ofO (cstW c) S
def fBin (G : Gt) (op : Operator) (a b : EF) : EF := fun ρ S => (a ρ S).bind fun w S => (b ρ S).bind fun u S => (binF G op w u S).noex
def negF (G : Gt) (w : W) (S : Sto) : Rs W := match w with
  | .p (.int i) => .ok (int (-i)) S
  | .p (.ins c ks ds) => G.me c "__neg__" [.p (.ins c ks ds)] S
  | _ => .no
def fNeg (G : Gt) (a : EF) : EF := fun ρ S => (a ρ S).bind fun w S => (negF G w S).noex
def fNo (a : EF) : EF := fun ρ S => (a ρ S).bind fun w S => match w with
  | .p (.bl b) => .ok (bl (!b)) S
  | _ => .no
def fAnd (a b : EF) : EF := fun ρ S => (a ρ S).bind fun w S => match w with
  | .p (.bl c) => if c = true then b ρ S else .ok (bl false) S
  | _ => .no
def fOr (a b : EF) : EF := fun ρ S => (a ρ S).bind fun w S => match w with
  | .p (.bl c) => if c = true then .ok (bl true) S else b ρ S
  | _ => .no
def fIte (c : TF) (a b : EF) : EF := fun ρ S => (c ρ S).bind fun k S => if k = true then a ρ S else b ρ S
def fCmp (G : Gt) (op : CmpOp) (a b : EF) : EF := fun ρ S => (a ρ S).bind fun w S => (b ρ S).bind fun u S => (cmpF G op w u S).noex.bind fun b S => .ok (bl b) S
def fCmp2 (G : Gt) (o1 o2 : CmpOp) (a b c : EF) : EF := fun ρ S => (a ρ S).bind fun w S => (b ρ S).bind fun u S => (cmpF G o1 w u S).noex.bind fun k S =>
  if k = true then (c ρ S).bind fun z S => (cmpF G o2 u z S).noex.bind fun b S => .ok (bl b) S else .ok (bl false) S
def fCall (G : Gt) (f : Str) (as : AF) (ds : List Int) : EF := fun ρ S => if ds ∈ G.df f then (as ρ S).bind fun ws S => G.fn f (ws ++ ds.map int) S else .no
def fCallK (G : Gt) (f : Str) (n : Nat) (as : AF) (ks : List Str) (vs : AF) (ix : List Nat) : EF := fun ρ S => if (n, ks, ix) ∈ G.kw f then (as ρ S).bind fun ws S => (vs ρ S).bind fun us S => if ws.length = n ∧ us.length = ks.length then (match permW ix (ws ++ us) with
  | some zs => G.fn f zs S
  | none => .no) else .no else .no
def fMethK (G : Gt) (o : EF) (m : Str) (n : Nat) (as : AF) (ks : List Str) (vs : AF) (ix : List Nat) : EF := fun ρ S => (o ρ S).bind fun w S => match clsOf S w with
  | some c => if ((n, ks, ix) ∈ G.kwm c m) ∧ (fldOf S m w).isNone = true then (as ρ S).bind fun ws S => (vs ρ S).bind fun us S => if ws.length = n ∧ us.length = ks.length then (match permW ix (w :: (ws ++ us)) with
    | some zs => G.me c m zs S
    | none => .no) else .no else .no
  | none => .no
def fCallV (G : Gt) (i : Nat) (as : AF) (ds : List Int) : EF := fun ρ S => match ρ[i]? with
  | some (some (.p (.cls c))) => if ds ∈ G.df c then (as ρ S).bind fun ws S => G.fn c (ws ++ ds.map int) S else .no
  | _ => .no
def fBf (f : BF) (as : AF) : EF := fun ρ S => (as ρ S).bind fun ws S => (bfF f ws S).noex
def fIsi (a : EF) (t : Ty) : EF := fun ρ S => (a ρ S).bind fun w S => ofO ((isiF t w S).map bl) S
def fIsiT (a : EF) (ts : List Ty) : EF := fun ρ S => (a ρ S).bind fun w S => ofO ((isiAny ts w S).map bl) S
def fMeth (G : Gt) (o : EF) (m : Str) (as : AF) : EF := fun ρ S => (o ρ S).bind fun w S => match clsOf S w with
  | some c => if G.dm c m = true ∧ (fldOf S m w).isNone = true then (as ρ S).bind fun ws S => G.me c m (w :: ws) S else .no
  | none => .no
def fCmeth (G : Gt) (c m : Str) (as : AF) : EF := fun ρ S => if G.cm c m = true then (as ρ S).bind fun ws S => G.cme c m (.p (.cls c) :: ws) S else .no
def fCmethK (G : Gt) (c m : Str) (ks : List Str) (vs : AF) (ix : List Nat) : EF := fun ρ S => if (ks, ix) ∈ G.kwcm c m then (vs ρ S).bind fun us S => if us.length = ks.length then (match permW ix (.p (.cls c) :: us) with
  | some zs => G.cme c m zs S
  | none => .no) else .no else .no
def bmOk (m : BM) (w : W) (S : Sto) : Bool := match m, w with
  | .split, .p (.str _) => true
  | .append, w => (lstOf S w).isSome
  | _, _ => false
def fBm (m : BM) (o : EF) (as : AF) : EF := fun ρ S => (o ρ S).bind fun w S => if bmOk m w S = true then (as ρ S).bind fun ws S => (bmF m w ws S).noex else .no
def fFld (o : EF) (f : Str) : EF := fun ρ S => (o ρ S).bind fun w S => ofO (fldOf S f w) S
def fIdx (o i : EF) : EF := fun ρ S => (o ρ S).bind fun w S => (i ρ S).bind fun u S => ofO (idxF w u S) S
def fSlc (o lo hi : EF) : EF := fun ρ S => (o ρ S).bind fun w S => (lo ρ S).bind fun l S => (hi ρ S).bind fun h S => (cutF w l h S).noex
def lstF (mu : Bool) (ws : List W) (S : Sto) : Rs W := if sizeOk ws.length then (if mu = true then .ok (.c S.length) (S ++ [.live (.lst ws)]) else match pures ws with
  | some ds => .ok (.p (.lst ds)) S
  | none => .no) else .no
def fLst (es : AF) (mu : Bool) : EF := fun ρ S => (es ρ S).bind fun ws S => lstF mu ws S
def tupF (ws : List W) (S : Sto) : Rs W := if sizeOk ws.length then (match pures ws with
  | some ds => .ok (.p (.tup ds)) S
  | none => .no) else .no
def fTup (es : AF) : EF := fun ρ S => (es ρ S).bind fun ws S => tupF ws S
def fDct0 (mu : Bool) : EF := fun _ S => if mu = true then .ok (.c S.length) (S ++ [.live (.dic [] [])]) else .ok (.p (.dic [] [])) S
/-- keys and values of a display -/
def pairsW : List W → Option (List Key × List W)
  | [] => some ([], [])
  | k :: v :: r => match keyW k, pairsW r with
    | some k, some (ks, ws) => some (k :: ks, v :: ws)
    | _, _ => none
  | _ => none
/-- one after another into a dict -/
def mergeW : List Key → List W → List Key × List W → List Key × List W
  | k :: ks, w :: ws, a => mergeW ks ws (putW k w a.1 a.2)
  | _, _, a => a
/-- thing n, which stands empty, gets them -/
def fillF (n : Nat) (mu : Bool) (ws : List W) (S : Sto) : Rs W := if ws.length ≤ 30 then match pairsW ws, S[n]? with
  | some (ks, us), some (.live (.dic [] [])) => if mu = true then .ok (.c n) (S.set n (.live (.dic (mergeW ks us ([], [])).1 (mergeW ks us ([], [])).2)))
    else (match pures (mergeW ks us ([], [])).2 with
      | some ds => finF n (.ok (.p (.dic (mergeW ks us ([], [])).1 ds)) (S.set n (.dead (.dic (mergeW ks us ([], [])).1 ds))))
      | none => .no)
  | _, _ => .no
  else .no
def fDct (es : AF) (mu : Bool) : EF := fun ρ S => (es ρ (S ++ [.live (.dic [] [])])).bind fun ws S1 => fillF S.length mu ws S1
def isxF (p : Str → Bool) (w : W) (S : Sto) : Rs W := match w with
  | .p (.err d _ _) => .ok (bl (p d)) S
  | _ => .no
def fIsx (G : Gt) (a : EF) (c : Str) : EF := fun ρ S => match G.xs c with
  | some p => (a ρ S).bind (isxF p)
  | none => .no
def xfdF (f : Str) (w : W) (S : Sto) : Rs W := match w with
  | .p (.err _ ks ds) => ofO (getF f ks (ds.map .p)) S
  | _ => .no
def fXfd (a : EF) (f : Str) : EF := fun ρ S => (a ρ S).bind (xfdF f)
def fComp (elt : EF) (own : List (Str × Nat)) (g : Tg) (it : AF) (c : TF) : EF := fun ρ S => (it ρ S).bind fun ws S => (compL elt c g S.length (wipeE ρ (own.map (·.2))) ws (S ++ [.live (.lst [])])).bind fun _ S1 => sealF S.length S1
def listOf (S : Sto) (w : W) : Option (List W) := match seqOf S w with
  | some ws => some ws
  | none => match w with
    | .p (.tup xs) => some (xs.map .p)
    | w => (dicOf S w).map fun e => e.1.map keyD
def lisF (mu : Bool) (w : W) (S : Sto) : Rs W := match listOf S w with
  | some ws => lstF mu ws S
  | none => .no
def fLis (a : EF) (mu : Bool) : EF := fun ρ S => (a ρ S).bind (lisF mu)
def fGlo (G : Gt) (x : Str) : EF := fun _ S => ofO ((G.gc x).map .p) S
def fExf (G : Gt) (f : Str) : EF := fun _ S => ofO ((G.xf.lookup f).map .p) S
def fFstr (ps : JF) : EF := fun ρ S => (ps ρ Str.empty S).bind fun x S => .ok (str x) S
def fFmt (a : EF) : EF := fun ρ S => (a ρ S).bind fun w S => ofO ((partF w).map str) S
/-- a mutable thing becomes data, a dict too -/
def frzA (w : W) (S : Sto) : Rs W := match w with
  | .c n => match S[n]? with
    | some (.live (.dic ks ws)) => match pures ws with
      | some ds => .ok (.p (.dic ks ds)) (S.set n (.dead (.dic ks ds)))
      | none => .no
    | _ => frz (.c n) S
  | w => frz w S
def fFrz (a : EF) : EF := fun ρ S => (a ρ S).bind fun w S => frzA w S
def fPrt (a : EF) : EF := fun ρ S => (a ρ S).bind fun w S => match oneI w with
  | some _ => .ok w S
  | none => .no
def fOmit : EF := fun _ S => .ok (.p .non) S
def aNil : AF := fun _ S => .ok [] S
def aCons (a : EF) (r : AF) : AF := fun ρ S => (a ρ S).bind fun w S => (r ρ S).bind fun ws S => .ok (w :: ws) S
def aStar (a : EF) (r : AF) : AF := fun ρ S => (a ρ S).bind fun w S => match walkOf S w with
  | some xs => (r ρ S).bind fun ws S => .ok (xs ++ ws) S
  | none => .no
def iRng (as : AF) : AF := fun ρ S => (as ρ S).bind fun ws S => match ws with
  | [.p (.int n)] => if -(2 ^ 62) ≤ n ∧ n < 2 ^ 62 then .ok ((List.range n.toNat).map fun (k : Nat) => int (k : Int)) S else .no
  | _ => .no
def jNil : JF := fun _ acc S => .ok acc S
def oneS : W → Option Str
  | .p (.str x) => some x
  | _ => none
def jCons (a : EF) (r : JF) : JF := fun ρ acc S => (a ρ S).bind fun w S => match oneS w with
  | some x => if sizeOk (acc ++ x).length then r ρ (acc ++ x) S else .no
  | none => .no
def tNo (a : TF) : TF := fun ρ S => (a ρ S).bind fun b S => .ok (!b) S
def tAnd (a b : TF) : TF := fun ρ S => (a ρ S).bind fun c S => if c = true then b ρ S else .ok false S
def tOr (a b : TF) : TF := fun ρ S => (a ρ S).bind fun c S => if c = true then .ok true S else b ρ S
def tCmp (G : Gt) (op : CmpOp) (a b : EF) : TF := fun ρ S => (a ρ S).bind fun w S => (b ρ S).bind fun u S => (cmpF G op w u S).noex
def tCmp2 (G : Gt) (o1 o2 : CmpOp) (a b c : EF) : TF := fun ρ S => (a ρ S).bind fun w S => (b ρ S).bind fun u S => (cmpF G o1 w u S).noex.bind fun k S =>
  if k = true then (c ρ S).bind fun z S => (cmpF G o2 u z S).noex else .ok false S
def tIte (c a b : TF) : TF := fun ρ S => (c ρ S).bind fun k S => if k = true then a ρ S else b ρ S
def tYes : TF := fun _ S => .ok true S
def ev (G : Gt) : E → Pk
  | .var i => mkP (fVar i)
  | .cst c => mkP (fCst c)
  | .bin op a b => mkP (fBin G op (ev G a).e (ev G b).e)
  | .neg a => mkP (fNeg G (ev G a).e)
  | .no a => mkT (fNo (ev G a).e) (tNo (ev G a).t)
  | .and a b => mkT (fAnd (ev G a).e (ev G b).e) (tAnd (ev G a).t (ev G b).t)
  | .or a b => mkT (fOr (ev G a).e (ev G b).e) (tOr (ev G a).t (ev G b).t)
  | .ite c a b => mkT (fIte (ev G c).t (ev G a).e (ev G b).e) noT
  | .cmp op a b => mkT (fCmp G op (ev G a).e (ev G b).e) (tCmp G op (ev G a).e (ev G b).e)
  | .cmp2 o1 o2 a b c => mkT (fCmp2 G o1 o2 (ev G a).e (ev G b).e (ev G c).e) (tCmp2 G o1 o2 (ev G a).e (ev G b).e (ev G c).e)
  | .call f as ds => mkP (fCall G f (ev G as).a ds)
  | .callK f n as ks vs ix => mkP (fCallK G f n (ev G as).a ks (ev G vs).a ix)
  | .callV i as ds => mkP (fCallV G i (ev G as).a ds)
  | .bf f as => mkP (fBf f (ev G as).a)
  | .isi a t => mkP (fIsi (ev G a).e t)
  | .isiT a ts => mkP (fIsiT (ev G a).e ts)
  | .meth o m as => mkP (fMeth G (ev G o).e m (ev G as).a)
  | .methK o m n as ks vs ix => mkP (fMethK G (ev G o).e m n (ev G as).a ks (ev G vs).a ix)
  | .cmeth c m as => mkP (fCmeth G c m (ev G as).a)
  | .cmethK c m ks vs ix => mkP (fCmethK G c m ks (ev G vs).a ix)
  | .bm m o as => mkP (fBm m (ev G o).e (ev G as).a)
  | .fld o f => mkP (fFld (ev G o).e f)
  | .idx o i => mkP (fIdx (ev G o).e (ev G i).e)
  | .slc o lo hi => mkP (fSlc (ev G o).e (ev G lo).e (ev G hi).e)
  | .lst es mu => mkP (fLst (ev G es).a mu)
  | .tup es => mkP (fTup (ev G es).a)
  | .dct0 mu => mkP (fDct0 mu)
  | .dct es mu => mkP (fDct (ev G es).a mu)
  | .isx a c => mkP (fIsx G (ev G a).e c)
  | .xfd o f => mkP (fXfd (ev G o).e f)
  | .comp elt own g it c => mkP (fComp (ev G elt).e own g (ev G it).i (ev G c).t)
  | .lis a mu => mkP (fLis (ev G a).e mu)
  | .glo x => mkP (fGlo G x)
  | .exf _ f => mkP (fExf G f)
  | .fstr ps => mkP (fFstr (ev G ps).f)
  | .fmt a => mkP (fFmt (ev G a).e)
  | .rng as => ⟨noE, noT, noA, iRng (ev G as).a, noJ⟩
  | .frz a => mkT (fFrz (ev G a).e) (ev G a).t
  | .nil => ⟨noE, noT, aNil, noA, jNil⟩
  | .cons a r => ⟨noE, noT, aCons (ev G a).e (ev G r).a, noA, jCons (ev G a).e (ev G r).f⟩
  | .star a r => ⟨noE, noT, aStar (ev G a).e (ev G r).a, noA, noJ⟩
  | .omit => ⟨fOmit, tYes, noA, noA, noJ⟩
  | .prt a => ⟨fPrt (ev G a).e, noT, noA, noA, noJ⟩
  | .pair k v r => ⟨noE, noT, aCons (ev G k).e (aCons (ev G v).e (ev G r).a), noA, noJ⟩
end M
set_option Elab.async false
set_option linter.all false
set_option maxRecDepth 100000
set_option maxHeartbeats 4000000
namespace M
open PySem PySem.Spec PyProof.Rows L2
section
variable {X : Cx} {C : Cl} {G : Gt} {U : WX} {a b c : Expr} {fa fb fc : EF} {ta tb tc : TF} {pos : Pos}
/-- an expression as a value; as a test -/
abbrev SE (X : Cx) (C : Cl) (U : WX) (e : Expr) (f : EF) : Prop := PE X e (tE C U f)
abbrev ST (X : Cx) (C : Cl) (U : WX) (e : Expr) (f : TF) : Prop := PT X e (tT C U f)
abbrev SA (X : Cx) (C : Cl) (U : WX) (e : List Expr) (f : AF) : Prop := PA X e (tA C U f)
theorem sVar {i : Nat} {x : Str} (hN : X.N[i]? = some x) (hv : Vis X.env.scope x) (hd : (x == ("__debug__" : Str)) = false) (hcd : (x == ("__classdict__" : Str)) = false) : SE X C U (.Name x pos) (fVar i) := by
  refine PE.imp (pe_var hN hv hd hcd) fun σ H Q ⟨φ, F, S, ρ, sr, re, h⟩ => ?_
  unfold fVar at h
  cases e : ρ[i]? with
  | none => rw [e] at h; exact (show False from h).elim
  | some o =>
    cases o with
    | none => rw [e] at h; exact (show False from h).elim
    | some w =>
      obtain ⟨v, hv, r⟩ := re.2 i w e
      refine ⟨v, hv, ?_⟩
      rw [e] at h
      cases w with
      | p d => exact h v φ F H (Grow.refl φ F) sr r
      | c n =>
        dsimp only at h
        cases e2 : S[n]? with
        | none => rw [e2] at h; exact (show False from h).elim
        | some sl =>
          rw [e2] at h
          cases sl with
          | live c => exact h v φ F H (Grow.refl φ F) sr r
          | dead d =>
            obtain ⟨a, ea, rfl⟩ := r
            exact h _ φ F H (Grow.refl φ F) sr (show Rep C F d (.ref a) from sr.sl n _ a e2 ea)
theorem sCst {k : Const} {j : Nat} : SE X C U (.Constant k j pos) (fCst k) := by
  have no : ∀ {t : TE}, (∀ ρ S, fCst k ρ S = .no) → ∀ σ H Q, tE C U (fCst k) σ H Q → t σ H Q := fun e σ H Q ⟨φ, F, S, ρ, _, _, h⟩ => by rw [e] at h; exact (show False from h).elim
  cases k with
  | none => exact PE.imp pe_non fun σ H Q ⟨φ, F, S, ρ, sr, _, h⟩ => ans_ok h (Grow.refl φ F) sr repW_non
  | bool b => exact PE.imp pe_bl fun σ H Q ⟨φ, F, S, ρ, sr, _, h⟩ => ans_ok h (Grow.refl φ F) sr repW_bl
  | int i => exact PE.imp pe_int fun σ H Q ⟨φ, F, S, ρ, sr, _, h⟩ => ans_ok h (Grow.refl φ F) sr repW_int
  | str x => exact PE.imp pe_str fun σ H Q ⟨φ, F, S, ρ, sr, _, h⟩ => ans_ok h (Grow.refl φ F) sr repW_str
  | _ => exact ⟨fun pins s σ H Q I ⟨φ, F, S, ρ, _, _, h⟩ => (show False from h).elim⟩
/-- two expressions, then an operation on values -/
theorem two {g : W → W → Sto → Rs W} {r : R2} (hr : ∀ x y H Q, r2W C g x y H Q → r x y H Q) : ∀ σ H Q, tE C U (fun ρ S => (fa ρ S).bind fun w S => (fb ρ S).bind fun u S => (g w u S).noex) σ H Q → tOp r (tE C U fa) (tE C U fb) σ H Q := by
  intro σ H Q ⟨φ, F, S, ρ, sr, re, h⟩
  refine tE.then sr re h fun w S1 φ1 F1 v H1 s1 e1 r1 g1 h1 => ?_
  refine tE.then s1 e1 h1 fun u S2 φ2 F2 y H2 s2 e2 r2 g2 h2 => ?_
  exact hr _ _ _ _ ⟨φ2, F2, S2, w, u, s2, r1.mono g2, r2, h2.noex'⟩
theorem sBin (T : Facts X C G) {op : Operator} (ha : SE X C U a fa) (hb : SE X C U b fb) : SE X C U (.BinOp a op b pos) (fBin G op fa fb) :=
  PE.imp (pe_op (op_bin T op) ha hb) (two fun _ _ _ _ h => h)
theorem op_neg (T : Facts X C G) : UnR X (unaryOp .USub) (fun x H Q => ∃ φ F S w, SR C φ F S H ∧ RepW C φ F w x ∧ Ans C (RepW C) φ F (negF G w S).noex Q (fun _ _ _ => False)) := by
  intro pins s σ H x v Q I rx ⟨φ, F, S, w, sr, r, h⟩
  cases w with
  | c n => exact (show False from h).elim
  | p d =>
    cases d with
    | int i =>
      cases (RepW.int r)
      exact un_neg pins s σ H _ v Q I rx ⟨i, rfl, ans_ok h (Grow.refl φ F) sr repW_int⟩
    | ins c ks ds =>
      have h : Ans C (RepW C) φ F (G.me c "__neg__" [.p (.ins c ks ds)] S).noex Q (fun _ _ _ => False) := h
      have nn : G.me c "__neg__" [.p (.ins c ks ds)] S ≠ .no := (h.noex (E' := fun _ _ _ => False)).ne_no
      obtain ⟨a, A, dx, fs, rfl, hc, ha⟩ := ins_of sr r (c := c) rfl
      obtain ⟨A', f, n, M⟩ := T.meth c _ (.inr ⟨_, _, nn⟩)
      have eA : A' = A := Option.some.inj (M.cls.symm.trans hc)
      subst eA
      cases rx
      obtain ⟨od, J⟩ := inst_of I ha
      obtain ⟨mf, Fr⟩ := I.fr
      have go := run_m M I (us := [.ref a]) (.cons (show RelV (V.ref a) (Value.ref a) from rfl) .nil) sr (.cons r .nil) h
      exact PySem.W.ksp_neg Fr I.ok.mod.kin J M.me.at_ M.me.fn go
    | _ => exact (show False from h).elim
theorem sNeg (T : Facts X C G) (ha : SE X C U a fa) : SE X C U (.UnaryOp .USub a pos) (fNeg G fa) := by
  refine PE.imp (pe_un (op_neg T) ha) fun σ H Q ⟨φ, F, S, ρ, sr, re, h⟩ => ?_
  refine tE.then sr re h fun w S1 φ1 F1 v H1 s1 e1 r1 g1 h1 => ?_
  exact ⟨φ1, F1, S1, w, s1, r1, h1.noex'⟩
theorem sNo (ha : SE X C U a fa) : SE X C U (.UnaryOp .Not a pos) (fNo fa) := by
  refine PE.imp (pe_not ha) fun σ H Q ⟨φ, F, S, ρ, sr, re, h⟩ => ?_
  refine tE.then sr re h fun w S1 φ1 F1 v H1 s1 e1 r1 g1 h1 => ?_
  cases w with
  | c n => exact (show False from h1).elim
  | p d =>
    cases d with
    | bl k => exact ⟨k, r1.bl, ans_ok h1 (Grow.refl _ _) s1 repW_bl⟩
    | _ => exact (show False from h1).elim
theorem sAnd {rest : List Expr} (ha : SE X C U a fa) (hb : SE X C U (.BoolOp .And (b :: rest) pos) fb) : SE X C U (.BoolOp .And (a :: b :: rest) pos) (fAnd fa fb) := by
  refine PE.imp (pe_and ha hb) fun σ H Q ⟨φ, F, S, ρ, sr, re, h⟩ => ?_
  refine tE.then sr re h fun w S1 φ1 F1 v H1 s1 e1 r1 g1 h1 => ?_
  cases w with
  | c n => exact (show False from h1).elim
  | p d =>
    cases d with
    | bl k =>
      refine ⟨k, r1.bl, ?_⟩
      cases k with
      | true => exact ⟨φ1, F1, S1, ρ, s1, e1, h1⟩
      | false => exact ans_ok h1 (Grow.refl _ _) s1 repW_bl
    | _ => exact (show False from h1).elim
theorem sOr {rest : List Expr} (ha : SE X C U a fa) (hb : SE X C U (.BoolOp .Or (b :: rest) pos) fb) : SE X C U (.BoolOp .Or (a :: b :: rest) pos) (fOr fa fb) := by
  refine PE.imp (pe_or ha hb) fun σ H Q ⟨φ, F, S, ρ, sr, re, h⟩ => ?_
  refine tE.then sr re h fun w S1 φ1 F1 v H1 s1 e1 r1 g1 h1 => ?_
  cases w with
  | c n => exact (show False from h1).elim
  | p d =>
    cases d with
    | bl k =>
      refine ⟨k, r1.bl, ?_⟩
      cases k with
      | false => exact ⟨φ1, F1, S1, ρ, s1, e1, h1⟩
      | true => exact ans_ok h1 (Grow.refl _ _) s1 repW_bl
    | _ => exact (show False from h1).elim
/-- a test, then .. -/
theorem tT.then {f : TF} {α β : Type} {Rel : List Addr → Hp → α → β → Prop} {g : Bool → Sto → Rs α} {σ : L2.St} {H : Hp} {Q : β → Hp → Prop} {R : Bool → Hp → Prop} {φ : List Addr} {F : Hp} {S : Sto} {ρ : Env} (s : SR C φ F S H) (r : EnvR C φ F ρ σ)
    (h : Ans C Rel φ F ((f ρ S).bind g) Q (fun c d H' => U c d σ H'))
    (k : ∀ b S1 φ1 F1 H1, SR C φ1 F1 S1 H1 → EnvR C φ1 F1 ρ σ → Grow φ F φ1 F1 → Ans C Rel φ1 F1 (g b S1) Q (fun c d H' => U c d σ H') → R b H1) : tT C U f σ H R :=
  ⟨φ, F, S, ρ, s, r, (Ans.bind (Rel := fun _ _ b b' => b = b') h).mono (fun v H1 ⟨w, S1, φ1, F1, g1, s1, q, z⟩ => by subst q; exact k w S1 φ1 F1 H1 s1 (r.mono g1) g1 z) fun _ _ _ z => z⟩
theorem tE.then' {f : EF} {α β : Type} {Rel : List Addr → Hp → α → β → Prop} {g : W → Sto → Rs α} {σ : L2.St} {H : Hp} {Q : β → Hp → Prop} {R : V → Hp → Prop} {φ : List Addr} {F : Hp} {S : Sto} {ρ : Env} (s : SR C φ F S H) (r : EnvR C φ F ρ σ)
    (h : Ans C Rel φ F ((f ρ S).bind g) Q (fun c d H' => U c d σ H'))
    (k : ∀ w S1 φ1 F1 v H1, SR C φ1 F1 S1 H1 → EnvR C φ1 F1 ρ σ → RepW C φ1 F1 w v → Grow φ F φ1 F1 → Ans C Rel φ1 F1 (g w S1) Q (fun c d H' => U c d σ H') → R v H1) : tE C U f σ H R :=
  ⟨φ, F, S, ρ, s, r, (Ans.bind (Rel := RepW C) h).mono (fun v H1 ⟨w, S1, φ1, F1, g1, s1, q, z⟩ => k w S1 φ1 F1 v H1 s1 (r.mono g1) q g1 z) fun _ _ _ z => z⟩
theorem tA.then' {f : AF} {α β : Type} {Rel : List Addr → Hp → α → β → Prop} {g : List W → Sto → Rs α} {σ : L2.St} {H : Hp} {Q : β → Hp → Prop} {R : List V → Hp → Prop} {φ : List Addr} {F : Hp} {S : Sto} {ρ : Env} (s : SR C φ F S H) (r : EnvR C φ F ρ σ)
    (h : Ans C Rel φ F ((f ρ S).bind g) Q (fun c d H' => U c d σ H'))
    (k : ∀ ws S1 φ1 F1 vs H1, SR C φ1 F1 S1 H1 → EnvR C φ1 F1 ρ σ → RepWs C φ1 F1 ws vs → Grow φ F φ1 F1 → Ans C Rel φ1 F1 (g ws S1) Q (fun c d H' => U c d σ H') → R vs H1) : tA C U f σ H R :=
  ⟨φ, F, S, ρ, s, r, (Ans.bind (Rel := RepWs C) h).mono (fun v H1 ⟨w, S1, φ1, F1, g1, s1, q, z⟩ => k w S1 φ1 F1 v H1 s1 (r.mono g1) q g1 z) fun _ _ _ z => z⟩
theorem sIte (hc : ST X C U c tc) (ha : SE X C U a fa) (hb : SE X C U b fb) : SE X C U (.IfExp c a b pos) (fIte tc fa fb) := by
  refine PE.imp (pe_ifExp hc ha hb) fun σ H Q ⟨φ, F, S, ρ, sr, re, h⟩ => ?_
  refine tT.then sr re h fun k S1 φ1 F1 H1 s1 e1 g1 h1 => ?_
  cases k with
  | true => exact ⟨φ1, F1, S1, ρ, s1, e1, h1⟩
  | false => exact ⟨φ1, F1, S1, ρ, s1, e1, h1⟩
/-- from a truth to a value -/
theorem ans_bl {φ : List Addr} {F : Hp} {r : Rs Bool} {Q : VK} {E : XK} (h : Ans C (RepW C) φ F (r.noex.bind fun b S => .ok (bl b) S) Q E) : Ans C RB φ F r.noex Q (fun _ _ _ => False) := by
  cases r with
  | no => exact h
  | ex c ks ds S => exact h
  | ok b S => exact fun v φ' F' H' g s q => q ▸ h _ φ' F' H' g s repW_bl
theorem ans_bl' {φ : List Addr} {F : Hp} {r : Rs Bool} {Q : Bool → Hp → Prop} {E : XK} (h : Ans C (fun _ _ b b' => b = b') φ F r.noex Q E) : Ans C RB φ F r.noex (fun v H => ∃ b, v = .bl b ∧ Q b H) (fun _ _ _ => False) := by
  cases r with
  | no => exact h
  | ex c ks ds S => exact h
  | ok b S => exact fun v φ' F' H' g s q => ⟨b, q.symm, h b φ' F' H' g s rfl⟩
theorem sCmp (T : Facts X C G) (hu : X.A.units + 65 < cLine) {op : CmpOp} (hm : behindInMarks op b = false) (ha : SE X C U a fa) (hb : SE X C U b fb) : SE X C U (.Compare a [op] [b] pos) (fCmp G op fa fb) := by
  refine PE.imp (pe_cmpR (op_cmp T hu op) ha hb hm) fun σ H Q ⟨φ, F, S, ρ, sr, re, h⟩ => ?_
  refine tE.then sr re h fun w S1 φ1 F1 v H1 s1 e1 r1 g1 h1 => ?_
  refine tE.then s1 e1 h1 fun u S2 φ2 F2 y H2 s2 e2 r2 g2 h2 => ?_
  exact ⟨φ2, F2, S2, w, u, s2, r1.mono g2, r2, ans_bl h2⟩
theorem sTCmp (T : Facts X C G) (hu : X.A.units + 65 < cLine) {op : CmpOp} (hm : behindInMarks op b = false) (ha : SE X C U a fa) (hb : SE X C U b fb) : ST X C U (.Compare a [op] [b] pos) (tCmp G op fa fb) := by
  refine PT.imp (pt_cmpR (op_cmp T hu op) ha hb hm) fun σ H Q ⟨φ, F, S, ρ, sr, re, h⟩ => ?_
  refine tE.then' (g := fun w S => (fb ρ S).bind fun u S => (cmpF G op w u S).noex) sr re h fun w S1 φ1 F1 v H1 s1 e1 r1 g1 h1 => ?_
  refine tE.then' s1 e1 h1 fun u S2 φ2 F2 y H2 s2 e2 r2 g2 h2 => ?_
  exact ⟨φ2, F2, S2, w, u, s2, r1.mono g2, r2, ans_bl' h2⟩
end
end M
set_option Elab.async false
set_option linter.all false
set_option maxRecDepth 100000
set_option maxHeartbeats 4000000
namespace M
open PySem PySem.Spec PyProof.Rows L2
section
variable {X : Cx} {C : Cl} {G : Gt} {U : WX} {a b c : Expr} {fa fb fc : EF} {ta tb tc : TF} {pos : Pos} {es : List Expr} {fs : AF}
theorem sCmp2 (T : Facts X C G) (hu : X.A.units + 65 < cLine) {o1 o2 : CmpOp} (hm : lastMarks [o1, o2] [b, c] = false) (ha : SE X C U a fa) (hb : SE X C U b fb) (hc : SE X C U c fc) : SE X C U (.Compare a [o1, o2] [b, c] pos) (fCmp2 G o1 o2 fa fb fc) := by
  refine PE.imp (pe_chain (op_cmp T hu o1) (op_cmp T hu o2) ha hb hc hm) fun σ H Q ⟨φ, F, S, ρ, sr, re, h⟩ => ?_
  refine tE.then sr re h fun w S1 φ1 F1 v H1 s1 e1 r1 g1 h1 => ?_
  refine tE.then s1 e1 h1 fun u S2 φ2 F2 y H2 s2 e2 r2 g2 h2 => ?_
  refine ⟨φ2, F2, S2, w, u, s2, r1.mono g2, r2, ?_⟩
  have k := Ans.bind (Rel := RB) (r := (cmpF G o1 w u S2).noex) h2
  refine (k.mono (fun z H3 ⟨kk, S3, φ3, F3, g3, s3, q3, h3⟩ => ?_) fun _ _ _ z => z).noex'
  subst q3
  refine ⟨kk, rfl, ?_⟩
  cases kk with
  | true =>
    refine tE.then (g := fun z S => (cmpF G o2 u z S).noex.bind fun b S => .ok (bl b) S) s3 (e2.mono g3) h3 fun z S4 φ4 F4 z' H4 s4 e4 r4 g4 h4 => ?_
    exact ⟨φ4, F4, S4, u, z, s4, (r2.mono g3).mono g4, r4, ans_bl h4⟩
  | false => exact ans_ok h3 (Grow.refl _ _) s3 repW_bl
theorem sTCmp2 (T : Facts X C G) (hu : X.A.units + 65 < cLine) {o1 o2 : CmpOp} (hm : lastMarks [o1, o2] [b, c] = false) (ha : SE X C U a fa) (hb : SE X C U b fb) (hc : SE X C U c fc) : ST X C U (.Compare a [o1, o2] [b, c] pos) (tCmp2 G o1 o2 fa fb fc) := by
  refine PT.imp (pt_chain (op_cmp T hu o1) (op_cmp T hu o2) ha hb hc hm) fun σ H Q ⟨φ, F, S, ρ, sr, re, h⟩ => ?_
  refine tE.then' (g := fun w S => (fb ρ S).bind fun u S => (cmpF G o1 w u S).noex.bind fun k S => if k = true then (fc ρ S).bind fun z S => (cmpF G o2 u z S).noex else .ok false S) sr re h fun w S1 φ1 F1 v H1 s1 e1 r1 g1 h1 => ?_
  refine tE.then' s1 e1 h1 fun u S2 φ2 F2 y H2 s2 e2 r2 g2 h2 => ?_
  refine ⟨φ2, F2, S2, w, u, s2, r1.mono g2, r2, ?_⟩
  have k := Ans.bind (Rel := RB) (r := (cmpF G o1 w u S2).noex) h2
  refine (k.mono (fun z H3 ⟨kk, S3, φ3, F3, g3, s3, q3, h3⟩ => ?_) fun _ _ _ z => z).noex'
  subst q3
  refine ⟨kk, rfl, ?_⟩
  cases kk with
  | true =>
    refine tE.then' (g := fun z S => (cmpF G o2 u z S).noex) s3 (e2.mono g3) h3 fun z S4 φ4 F4 z' H4 s4 e4 r4 g4 h4 => ?_
    exact ⟨φ4, F4, S4, u, z, s4, (r2.mono g3).mono g4, r4, ans_bl' h4⟩
  | false => exact ⟨false, rfl, ans_ok h3 (Grow.refl _ _) s3 rfl⟩
theorem sTNo (ha : ST X C U a ta) : ST X C U (.UnaryOp .Not a pos) (tNo ta) := by
  refine PT.imp (pt_not ha) fun σ H Q ⟨φ, F, S, ρ, sr, re, h⟩ => ?_
  refine tT.then sr re h fun k S1 φ1 F1 H1 s1 e1 g1 h1 => ?_
  exact ans_ok h1 (Grow.refl _ _) s1 rfl
/-- tests in a row, whatever the whole -/
abbrev SW (X : Cx) (C : Cl) (U : WX) (e : Expr) (f : TF) : Prop := PW X e (tT C U f)
theorem PW.imp {e : Expr} {t t' : TT} (h : PW X e t) (k : ∀ σ H Q, t' σ H Q → t σ H Q) : PW X e t' := ⟨fun wh pins s σ H Q I q => h.run wh pins s σ H Q I (k _ _ _ q)⟩
theorem sWAnd {rest : List Expr} (ha : ST X C U a ta) (hb : SW X C U (.BoolOp .And (b :: rest) pos) tb) : SW X C U (.BoolOp .And (a :: b :: rest) pos) (tAnd ta tb) := by
  refine PW.imp (pw_and ha hb) fun σ H Q ⟨φ, F, S, ρ, sr, re, h⟩ => ?_
  refine tT.then sr re h fun k S1 φ1 F1 H1 s1 e1 g1 h1 => ?_
  cases k with
  | true => exact ⟨φ1, F1, S1, ρ, s1, e1, h1⟩
  | false => exact ans_ok h1 (Grow.refl _ _) s1 rfl
theorem sWOr {rest : List Expr} (ha : ST X C U a ta) (hb : SW X C U (.BoolOp .Or (b :: rest) pos) tb) : SW X C U (.BoolOp .Or (a :: b :: rest) pos) (tOr ta tb) := by
  refine PW.imp (pw_or ha hb) fun σ H Q ⟨φ, F, S, ρ, sr, re, h⟩ => ?_
  refine tT.then sr re h fun k S1 φ1 F1 H1 s1 e1 g1 h1 => ?_
  cases k with
  | false => exact ⟨φ1, F1, S1, ρ, s1, e1, h1⟩
  | true => exact ans_ok h1 (Grow.refl _ _) s1 rfl
/-- a value's truth -/
theorem tru_V {φ : List Addr} {F H : Hp} {S : Sto} {w : W} {v : V} {k : Bool} (s : SR C φ F S H) (r : RepW C φ F w v) (h : truth S w = some k) : TruV X.K v H k := by
  have lists : (seqOf S w).map (fun ws => !ws.isEmpty) = some k → TruV X.K v H k := fun h => by
    obtain ⟨ws, h1, rfl⟩ := map_some h
    obtain ⟨a, vs, rfl, q, rr⟩ := seq_of (K := X.K) s r h1
    refine .inl ⟨vs, q, ?_⟩
    have := rr.length
    cases ws <;> cases vs <;> simp_all
  cases w with
  | c n => exact lists h
  | p d =>
    cases d <;> simp only [truth] at h
    · cases (RepW.non r); cases h; rfl
    · cases (RepW.bl r); cases h; rfl
    · cases (RepW.int r); cases h; rfl
    · cases (RepW.str r)
      split at h
      · rename_i hz; cases h; exact ⟨sizeOk_line hz, rfl⟩
      · cases h
    · exact lists h
    · cases h
      unfold RepW Rep at r
      obtain ⟨a, vs, rfl, f, q⟩ := r
      refine .inr (.inl ⟨vs, .inl (s.fh _ _ f).rd, ?_⟩)
      have := q.length
      rename_i xs
      cases xs <;> cases vs <;> simp_all
    · exact lists h
    · exact lists h
    · exact lists h
    · exact lists h
    · exact lists h
    · exact lists h
theorem sTOf (ha : SE X C U a fa) (he : ∀ whole, isTrue a X.env whole = (do let v ← whole; standAt a.pos; holding [v] (truthy v))) : ST X C U a (tOf fa) := by
  refine PT.imp (pt_truth ha he) fun σ H Q ⟨φ, F, S, ρ, sr, re, h⟩ => ?_
  refine tE.then' (g := fun w S => ofO (truth S w) S) sr re h fun w S1 φ1 F1 v H1 s1 e1 r1 g1 h1 => ?_
  cases e : truth S1 w with
  | none => rw [e] at h1; exact (show False from h1).elim
  | some k =>
    rw [e] at h1
    exact ⟨k, tru_V s1 r1 e, ans_ok h1 (Grow.refl _ _) s1 rfl⟩
/-! arguments -/
theorem sANil : SA X C U [] aNil := PA.imp pa_nil fun σ H Q ⟨φ, F, S, ρ, sr, re, h⟩ => ans_ok h (Grow.refl _ _) sr .nil
theorem sACons (ha : SE X C U a fa) (hr : SA X C U es fs) (hs : starEach (a :: es) X.env = (false, eval a X.env) :: starEach es X.env) : SA X C U (a :: es) (aCons fa fs) := by
  refine PA.imp (pa_cons ha hr hs) fun σ H Q ⟨φ, F, S, ρ, sr, re, h⟩ => ?_
  refine tE.then' (g := fun w S => (fs ρ S).bind fun ws S => .ok (w :: ws) S) sr re h fun w S1 φ1 F1 v H1 s1 e1 r1 g1 h1 => ?_
  refine tA.then' s1 e1 h1 fun ws S2 φ2 F2 vs H2 s2 e2 r2 g2 h2 => ?_
  exact ans_ok h2 (Grow.refl _ _) s2 (.cons (r1.mono g2) r2)
/-! displays -/
theorem repWs_pure {φ : List Addr} {F : Hp} {ws : List W} {vs : List V} {ds : List D} (r : RepWs C φ F ws vs) (h : pures ws = some ds) : Reps C F ds vs := by
  rw [pures_eq h] at r
  exact repWs_p.mp r
theorem lst_ans {φ : List Addr} {F H : Hp} {S : Sto} {mu : Bool} {ws : List W} {vs : List V} {Q : VK} {E : XK} (s : SR C φ F S H) (r : RepWs C φ F ws vs) (h : Ans C (RepW C) φ F (lstF mu ws S) Q E) :
    vs.length ≤ sizeLine ∧ ∀ p, H p = none → Q (.ref p) (upd H p (.lst vs)) := by
  unfold lstF at h
  by_cases hz : sizeOk ws.length
  · rw [if_pos hz] at h
    refine ⟨by rw [← r.length]; exact sizeOk_line hz, fun p hp => ?_⟩
    by_cases hm : mu = true
    · rw [if_pos hm] at h
      have g : Grow φ F (φ ++ [p]) F := SR.gcell
      refine ans_ok h g (s.cell hp (c := .lst ws) ⟨vs, rfl, r⟩) ⟨p, ?_, rfl⟩
      rw [← s.len]; simp
    · rw [if_neg hm] at h
      cases e : pures ws with
      | none => rw [e] at h; exact (show False from h).elim
      | some ds =>
        rw [e] at h
        refine ans_ok h (s.gpure hp) (s.pure (o := .lst vs) hp) ?_
        unfold RepW Rep
        exact ⟨p, vs, rfl, upd_same, Reps.mono (s.gpure hp).f (repWs_pure r e)⟩
  · rw [if_neg hz] at h; exact (show False from h).elim
theorem sLst {mu : Bool} (ha : SA X C U es fs) : SE X C U (.List es pos) (fLst fs mu) := by
  refine PE.imp (pe_lst ha) fun σ H Q ⟨φ, F, S, ρ, sr, re, h⟩ => ?_
  refine tA.then' sr re h fun ws S1 φ1 F1 vs H1 s1 e1 r1 g1 h1 => ?_
  exact lst_ans s1 r1 h1
theorem sTup {k : Nat} (ha : SA X C U es fs) : SE X C U (.Tuple es k pos) (fTup fs) := by
  refine PE.imp (pe_tup ha) fun σ H Q ⟨φ, F, S, ρ, sr, re, h⟩ => ?_
  refine tA.then' sr re h fun ws S1 φ1 F1 vs H1 s1 e1 r1 g1 h1 => ?_
  unfold tupF at h1
  by_cases hz : sizeOk ws.length
  · rw [if_pos hz] at h1
    refine ⟨by rw [← r1.length]; exact sizeOk_line hz, fun p hp => ?_⟩
    cases e : pures ws with
    | none => rw [e] at h1; exact (show False from h1).elim
    | some ds =>
      rw [e] at h1
      refine ans_ok h1 (s1.gpure hp) (s1.pure (o := .tup vs) hp) ?_
      unfold RepW Rep
      exact ⟨p, vs, rfl, upd_same, Reps.mono (s1.gpure hp).f (repWs_pure r1 e)⟩
  · rw [if_neg hz] at h1; exact (show False from h1).elim
/-- from now on data -/
theorem frz_ans {φ : List Addr} {F H : Hp} {S : Sto} {w : W} {v : V} {Q : VK} {E : XK} (s1 : SR C φ F S H) (r1 : RepW C φ F w v) (h1 : Ans C (RepW C) φ F (frz w S) Q E) : Q v H := by
  cases w with
  | p d => exact ans_ok h1 (Grow.refl _ _) s1 r1
  | c n =>
    obtain ⟨ad, ea, rfl⟩ := r1
    unfold frz at h1
    dsimp only at h1
    cases e : S[n]? with
    | none => rw [e] at h1; exact (show False from h1).elim
    | some sl =>
      rw [e] at h1
      cases sl with
      | dead d => exact ans_ok h1 (Grow.refl _ _) s1 (show Rep C F d (.ref ad) from s1.sl n _ ad e ea)
      | live c =>
        dsimp only at h1
        cases nd : c.isD with
        | true => rw [nd, if_pos rfl] at h1; exact (show False from h1).elim
        | false =>
        rw [nd, if_neg (by decide)] at h1
        cases e2 : c.pure with
        | none => rw [e2] at h1; exact (show False from h1).elim
        | some d =>
          rw [e2] at h1
          obtain ⟨F', g, s', r'⟩ := s1.freeze e ea e2 nd
          exact ans_ok h1 g s' r'
/-- what is handed on may be locked for good -/
theorem pe_lk {e : Expr} {t : TE} (he : PE X e t) : PE X e (fun σ H Q => t σ H fun v H1 => Q v H1 ∨ ∃ d u, v = .ref d ∧ H1 d = some u ∧ Mut (some u) ∧ ∀ od, Q v (upd H1 d (.frz od u))) := by
  refine ⟨fun pins s σ H Q I h => thn (he.run pins s σ H _ I h) fun u s1 ⟨v, H1, I1, rv, q⟩ => ?_⟩
  rcases q with q | ⟨d, u', ev, hd, mu, k⟩
  · exact ⟨v, H1, I1, rv, q⟩
  · obtain ⟨od, J⟩ := I1.lock hd mu
    exact ⟨v, _, J, rv, k od⟩
/-- a dict becomes data, locked -/
theorem SR.lockD {φ : List Addr} {F H : Hp} {S : Sto} {n : Nat} {a : Addr} {ks : List Key} {ws : List W} {ds : List D} (s : SR C φ F S H) (e : S[n]? = some (.live (.dic ks ws))) (ea : φ[n]? = some a) (h : pures ws = some ds) :
    ∃ u, H a = some u ∧ Mut (some u) ∧ ∀ od, Grow φ F φ (upd F a (.frz od u)) ∧ SR C φ (upd F a (.frz od u)) (S.set n (.dead (.dic ks ds))) (upd H a (.frz od u)) ∧ Rep C (upd F a (.frz od u)) (.dic ks ds) (.ref a) := by
  obtain ⟨fa, u, hu, vs, rfl, q, l⟩ := s.sl n _ a e ea
  refine ⟨_, hu, True.intro, fun od => ?_⟩
  have g : Grow φ F φ (upd F a (.frz od (.dK (ks.zip vs)))) := ⟨Sub.new fa, List.prefix_rfl⟩
  have rd : Rep C (upd F a (.frz od (.dK (ks.zip vs)))) (.dic ks ds) (.ref a) := by
    rw [pures_eq h] at q l
    rw [repWs_p] at q
    unfold Rep
    exact ⟨a, vs, od, rfl, upd_same, Reps.mono g.f q, by simpa using l⟩
  refine ⟨g, ⟨fun b v z => ?_, by simp [s.len], s.nd, fun m sl b e1 e2 => ?_, fun b hb => ?_, s.xe.trans g.f⟩, rd⟩
  · by_cases y : b = a
    · subst y
      rw [upd_same] at z
      cases z
      exact .inl upd_same
    · rw [upd_ne y] at z
      rcases s.fh b v z with k | ⟨k, ob, k2⟩
      · exact .inl (by rw [upd_ne y]; exact k)
      · exact .inr ⟨k, ob, by rw [upd_ne y]; exact k2⟩
  · by_cases hm : n = m
    · subst hm
      have hl : n < S.length := (List.getElem?_eq_some_iff.mp e).1
      rw [List.getElem?_set_self hl] at e1
      cases e1
      rw [ea] at e2; cases e2
      exact rd
    · rw [List.getElem?_set_ne hm] at e1
      have ne : b ≠ a := fun z => hm (nodup_get s.nd ea (z ▸ e2))
      have q := s.sl m sl b e1 e2
      cases sl with
      | live c =>
        obtain ⟨f, u', hu', r'⟩ := q
        exact ⟨by rw [upd_ne ne]; exact f, u', by rw [upd_ne ne]; exact hu', r'.mono g⟩
      | dead d => exact Rep.mono g.f q
  · by_cases y : b = a
    · rw [y, upd_same]; simp
    · rw [upd_ne y]; exact s.th b hb
theorem sFrz (ha : SE X C U a fa) : SE X C U a (fFrz fa) := by
  refine PE.imp (pe_lk ha) fun σ H Q ⟨φ, F, S, ρ, sr, re, h⟩ => ?_
  refine tE.then' (g := frzA) sr re h fun w S1 φ1 F1 v H1 s1 e1 r1 g1 h1 => ?_
  cases w with
  | p d => exact .inl (frz_ans s1 r1 h1)
  | c n =>
    have plain : frzA (.c n) S1 = frz (.c n) S1 → Q v H1 := fun e => by rw [e] at h1; exact frz_ans s1 r1 h1
    cases e : S1[n]? with
    | none => exact .inl (plain (by unfold frzA; dsimp only; rw [e]))
    | some sl =>
      cases sl with
      | dead d => exact .inl (plain (by unfold frzA; dsimp only; rw [e]))
      | live ct =>
        cases ct with
        | dic ks ws =>
          have ef : frzA (.c n) S1 = (match pures ws with
            | some ds => Rs.ok (.p (.dic ks ds)) (S1.set n (.dead (.dic ks ds)))
            | none => .no) := by unfold frzA; simp only [e]; try (cases pures ws <;> rfl)
          rw [ef] at h1
          cases ep : pures ws with
          | none => rw [ep] at h1; exact (show False from h1).elim
          | some ds =>
            rw [ep] at h1
            obtain ⟨ad, ea, rfl⟩ := r1
            obtain ⟨u, hu, mu, k⟩ := s1.lockD e ea ep
            refine .inr ⟨ad, u, rfl, hu, mu, fun od => ?_⟩
            obtain ⟨g, s', r'⟩ := k od
            exact ans_ok h1 g s' r'
        | _ => exact .inl (plain (by unfold frzA; simp only [e]))
/-! attributes, subscripts -/
theorem getF_zip {f : Str} : ∀ {ks : List Str} {ws : List W} {w : W} {vs : List V} {φ : List Addr} {F : Hp}, getF f ks ws = some w → RepWs C φ F ws vs → ∃ v, (ks.zip vs).lookup f = some v ∧ RepW C φ F w v
  | [], ws, w, _, _, _, h, _ => by simp [getF] at h
  | k :: ks, [], w, _, _, _, h, _ => by simp [getF] at h
  | k :: ks, u :: ws, w, _, _, _, h, .cons r t => by
    unfold getF at h
    rename_i v vs
    by_cases e : f = k
    · rw [if_pos e] at h
      cases h
      subst e
      exact ⟨v, by simp [List.lookup], r⟩
    · rw [if_neg e] at h
      obtain ⟨v', e1, r'⟩ := getF_zip h t
      have eb : (f == k) = false := beq_eq_false_iff_ne.mpr e
      exact ⟨v', by simp only [List.zip_cons_cons, List.lookup, eb]; exact e1, r'⟩
theorem fld_of {φ : List Addr} {F H : Hp} {S : Sto} {w u : W} {v : V} {f : Str} (s : SR C φ F S H) (r : RepW C φ F w v) (h : fldOf S f w = some u) : ∃ a c A dx fs v', v = .ref a ∧ C.i c = some A ∧ H a = some (.ins A dx fs) ∧ fs.lookup f = some v' ∧ RepW C φ F u v' := by
  cases w with
  | p d =>
    cases d <;> simp [fldOf] at h
    rename_i c ks ds
    unfold RepW Rep at r
    obtain ⟨a, A, dx, vs, rfl, hc, fh, q, l⟩ := r
    obtain ⟨v', e1, r'⟩ := getF_zip h (repWs_p.mpr q)
    exact ⟨a, c, A, dx, _, v', rfl, hc, (s.fh _ _ fh).at (by simp [Lk]), e1, r'⟩
  | c n =>
    obtain ⟨a, ea, rfl⟩ := r
    cases e : S[n]? with
    | none => simp [fldOf, e] at h
    | some sl =>
      have q := s.sl n sl a e ea
      cases sl with
      | live c =>
        cases c <;> simp [fldOf, e] at h
        obtain ⟨_, o, ho, A, dx, vs, hc, rfl, q, l⟩ := q
        obtain ⟨v', e1, r'⟩ := getF_zip h q
        exact ⟨a, _, A, dx, _, v', rfl, hc, ho, e1, r'⟩
      | dead d =>
        cases d <;> simp [fldOf, e] at h
        have q : Rep C F _ _ := q
        unfold Rep at q
        obtain ⟨a', A, dx, vs, e', hc, fh, q, l⟩ := q
        cases e'
        obtain ⟨v', e1, r'⟩ := getF_zip h (repWs_p.mpr q)
        exact ⟨a, _, A, dx, _, v', rfl, hc, (s.fh _ _ fh).at (by simp [Lk]), e1, r'⟩
/-- what attributes ask of the classes -/
def FldOk (X : Cx) (C : Cl) (f : Str) : Prop := ∀ c A, C.i c = some A → Cls X.K A ∧ NoAttr X.K A f
theorem sFld {f : Str} (hf : ∀ c A, C.i c = some A → Cls X.K A ∧ NoAttr X.K A f) (ha : SE X C U a fa) (hb : attributeBase a f X.env (eval a X.env) = eval a X.env) : SE X C U (.Attribute a f pos) (fFld fa f) := by
  refine PE.imp (pe_fld ha hb) fun σ H Q ⟨φ, F, S, ρ, sr, re, h⟩ => ?_
  refine tE.then' (g := fun w S => ofO (fldOf S f w) S) sr re h fun w S1 φ1 F1 v H1 s1 e1 r1 g1 h1 => ?_
  cases e : fldOf S1 f w with
  | none => rw [e] at h1; exact (show False from h1).elim
  | some u =>
    rw [e] at h1
    obtain ⟨ad, c, A, dx, fs, v', rfl, hc, hH, hl, r'⟩ := fld_of s1 r1 e
    obtain ⟨k1, k2⟩ := hf c A hc
    exact ⟨ad, A, dx, fs, v', rfl, hH, k1, k2, hl, ans_ok h1 (Grow.refl _ _) s1 r'⟩
theorem ixO_eq (n : Nat) (i : Int) : ixO n i = ixN n i := rfl
theorem paired_get {α β : Type} {R : α → β → Prop} : ∀ {as : List α} {bs : List β} {i : Nat} {x : α}, Paired R as bs → as[i]? = some x → ∃ y, bs[i]? = some y ∧ R x y
  | _, _, _, _, .nil, e => by simp at e
  | _, _, 0, _, .cons r _, e => by simp at e; subst e; exact ⟨_, rfl, r⟩
  | _, _, i + 1, x, .cons _ t, e => by
    obtain ⟨u, h1, h2⟩ := paired_get (i := i) (x := x) t (by simpa using e)
    exact ⟨u, by simpa using h1, h2⟩
/-- d[y] by values -/
theorem ix_dict (hu : X.A.units + 1 < cLine) : IxR X (fun x y H Q => ∃ a v, x = .ref a ∧ DGet H a y (some v) ∧ Q v H) := by
  intro value slice pins s σ H x y v u Q I rx ry ⟨a, z, ex, g, q⟩ hs
  subst ex; obtain rfl : v = Value.ref a := rx
  have tI := dict_typeIs I g
  have run : wpAny (model X.prog X.w) X.A (subscripted slice false (.ref a) u) (fun r s₃ => wpAny (model X.prog X.w) X.A (letTemporaryGo value (.ref a) r >>= fun _ => pure r) (EP X pins σ Q) X.xe s₃) X.xe s := by
    rw [hs]; exact wpAny_operating (wpAny_mono (d_getItem (E := X.xe) hu I g ry (Q := EP X pins σ Q) fun w' s' I' r' => ⟨z, H, I', r', q⟩) (fun r s3 k => wpAny_bind (wpAny_letTemporaryGo (wpAny_pure k))) fun _ _ k => k)
  unfold subscriptTail
  refine wpAny_bind ?_; rw [getitemInPython_of_ne tI.not_modules]; refine wpAny_bind (wpAny_specialOf tI PySem.F.slot_dict_getitem.lookup ?_)
  first | exact wpAny_pure (wpAny_bind run) | exact wpAny_bind (wpAny_pure (wpAny_bind run)) | exact wpAny_bind run
theorem ix_any (hu : X.A.units + 65 < cLine) : IxR X (fun x y H Q => ∃ φ F S w u z, SR C φ F S H ∧ RepW C φ F w x ∧ RepW C φ F u y ∧ idxF w u S = some z ∧ ∀ v, RepW C φ F z v → Q v H) := by
  intro value slice pins s σ H x y v u Q I rx ry ⟨φ, F, S, w, i, z, sr, r1, r2, h, hq⟩ hs
  have dict : ∀ k, keyW i = some k → ((dicOf S w).bind fun e => getW k e.1 e.2) = some z → wpAny (model X.prog X.w) X.A (subscriptTail value slice v u) (EP X pins σ Q) X.xe s := fun k hk h' => by
    obtain ⟨⟨ks, ws⟩, h1, h2⟩ := Option.bind_eq_some_iff.mp h'
    obtain ⟨a, vs, rfl, rd_, q, l⟩ := dic_of sr r1 h1
    obtain ⟨x', e1, r'⟩ := (getW_val q l).1 z h2
    exact ix_dict (by omega) value slice pins s σ H _ y v u Q I rx ry ⟨a, x', rfl, .inl ⟨_, k, rd_, key_V r2 hk, e1.symm⟩, hq _ r'⟩ hs
  have lists : ∀ k, i = .p (.int k) → (match seqOf S w with
    | some ws => (ixO ws.length k).bind fun j => ws[j]?
    | none => (dicOf S w).bind fun e => getW (.inl k) e.1 e.2) = some z → wpAny (model X.prog X.w) X.A (subscriptTail value slice v u) (EP X pins σ Q) X.xe s := fun k hk h' => by
    clear h
    subst hk
    cases (RepW.int r2)
    cases h1 : seqOf S w with
    | none => rw [h1] at h'; exact dict (.inl k) rfl h'
    | some ws =>
    rw [h1] at h'
    have h2 : ((ixO ws.length k).bind fun j => ws[j]?) = some z := h'
    obtain ⟨j, h3, h4⟩ := Option.bind_eq_some_iff.mp h2
    obtain ⟨a, vs, rfl, q, rr⟩ := seq_of (K := X.K) sr r1 h1
    obtain ⟨v', e1, r'⟩ := paired_get rr h4
    refine ix_list value slice pins s σ H (.ref a) (.int k) v u Q I rx ry ⟨a, vs, k, v', rfl, rfl, q, ?_, hq v' r'⟩ hs
    unfold atI
    rw [← rr.length, ← ixO_eq, h3]
    exact e1
  cases i with
  | c n => cases w with
    | p d => cases d <;> simp [idxF] at h
    | c n => simp [idxF] at h
  | p e =>
    cases e with
    | int k =>
      cases w with
      | c n => exact lists k rfl h
      | p d =>
        cases d with
        | tup xs =>
          cases (RepW.int r2)
          have h : ((ixO xs.length k).bind fun j => xs[j]?).map W.p = some z := h
          obtain ⟨d', h1, rfl⟩ := map_some h
          obtain ⟨j, h3, h4⟩ := Option.bind_eq_some_iff.mp h1
          unfold RepW Rep at r1
          obtain ⟨a, vs, rfl, f, q⟩ := r1
          obtain ⟨v', e1, r'⟩ := q.get h4
          refine ix_tup value slice pins s σ H (.ref a) (.int k) v u Q I rx ry ⟨a, vs, k, v', rfl, rfl, .inl (sr.fh _ _ f).rd, ?_, hq v' r'⟩ hs
          unfold atI
          rw [← q.length, ← ixO_eq, h3]
          exact e1
        | str x' =>
          cases (RepW.int r2)
          cases (RepW.str r1)
          have h : (if sizeOk x'.length then ((ixO x'.length k).bind fun j => x'.cps.toList[j]?).map fun c => str ⟨#[c]⟩ else none) = some z := h
          by_cases hz : sizeOk x'.length
          · rw [if_pos hz] at h
            obtain ⟨c', h1, rfl⟩ := map_some h
            refine ix_str value slice pins s σ H (.str x') (.int k) v u Q I rx ry ⟨x', k, c', rfl, rfl, sizeOk_line hz, ?_, hq _ repW_str⟩ hs
            unfold atI
            rw [← ixO_eq]
            have : x'.cps.toList.length = x'.length := by simp [PySem.Str.length]
            rw [this]
            exact h1
          · rw [if_neg hz] at h; cases h
        | _ => exact lists k rfl h
    | str k => exact dict (.inr k) rfl (by
        cases w with
        | c n => exact h
        | p d => cases d <;> exact h)
    | _ => cases w with
      | p d => cases d <;> simp [idxF] at h
      | c n => simp [idxF] at h
theorem sIdx (hu : X.A.units + 65 < cLine) (ha : SE X C U a fa) (hb : SE X C U b fb) (hp : PlainIx b) : SE X C U (.Subscript a b pos) (fIdx fa fb) := by
  refine PE.imp (pe_ix (ix_any hu (C := C)) ha hb hp) fun σ H Q ⟨φ, F, S, ρ, sr, re, h⟩ => ?_
  refine tE.then sr re h fun w S1 φ1 F1 v H1 s1 e1 r1 g1 h1 => ?_
  refine tE.then s1 e1 h1 fun u S2 φ2 F2 y H2 s2 e2 r2 g2 h2 => ?_
  cases e : idxF w u S2 with
  | none => rw [e] at h2; exact (show False from h2).elim
  | some z =>
    rw [e] at h2
    exact ⟨φ2, F2, S2, w, u, z, s2, r1.mono g2, r2, e, fun v' r' => ans_ok h2 (Grow.refl _ _) s2 r'⟩
end
end M
set_option Elab.async false
set_option linter.all false
set_option maxRecDepth 100000
set_option maxHeartbeats 4000000
/-! an own exception class called with keywords: Cls(a, .., k = v) -/
namespace PySem
namespace HandSPX
open Builtin Builtin.ObjectAttr PySem.W PySem.Calls PyProof.Rows
section
variable {A : Around} {E : Value → Shared → Prop} {R : Result → Shared → Prop} {h : Heap} {g : Array GenState} {d : Drawn} {t : Nat} {os : OsState} {kw : List (Str × Value)}
variable {nm q : Str} {C N : Addr} {bs bm bmB : List Value} {hdct : Bool} {sn : List Str} {sub : List Value} {ab : Bool} {col : Option Bool} {dd : Option Addr} {k0 k1 k2 k3 k5 : Option Value} {B newId initId : String} {rest : List Value}
abbrev Tl (bm bmB : List Value) : Prop := ∀ X : String, bm.contains (.type X) = bmB.contains (.type X)
theorem kcheck_new {M : Model} (F : ExcBaseFacts B newId initId bmB) (hT : Tl bm bmB) {Q : Unit → Shared → Prop} (hC : h.get? C = some (excClassObj nm q C N bs bm hdct sn sub ab col dd k0 k1 k2 k3 k5 newId))
    (hq : Q () ⟨h, g, d, t, os⟩) : wpAny M A (checkBuiltinCall newId ⟨.ref C :: rest, kw⟩) Q E ⟨h, g, d, t, os⟩ := by
  have cB : (Value.ref C :: bm).contains (.type B) = true := by rw [List.contains_cons, hT, F.hasB, Bool.or_true]
  have st := F.noStar
  simp only [checkBuiltinCall, F.newKind, F.newSplit, F.newRow]
  repeat (first | refine wpAny_loadPart_at hC ?_ | (refine wpAny_isSubtype_exc hC ?_; rw [cB]) | refine wpAny_staticBase_exc hC ?_ | refine wpAny_madeBy_exc hC ?_ | simp only [Bool.false_eq_true, bne_self_eq_false, if_false] | wp_step)
  exact hq
variable {prog : Program} {w : World}
theorem knew_own (F : ExcBaseFacts B newId initId bmB) (hT : Tl bm bmB) (hC : h.get? C = some (excClassObj nm q C N bs bm hdct sn sub ab col dd k0 k1 k2 k3 k5 newId))
    (hq : R (.ok (.ret (.ref (h.objs.size + 1)))) ⟨(h.push (W.kdv_tup rest)).push (excO C h.objs.size), g, d, t, os⟩) (hr : rest.length ≤ sizeLine) :
    codeAny (model prog w) A (.builtin newId ⟨.ref C :: rest, kw⟩) R ⟨h, g, d, t, os⟩ := by
  have ends_ := F.ends
  have cB : (Value.ref C :: bm).contains (.type B) = true := by rw [List.contains_cons, hT, F.hasB, Bool.or_true]
  have cA : (Value.ref C :: bm).contains (.type "AttributeError") = false := by rw [List.contains_cons, hT, F.noAttr] <;> rfl
  have cN : (Value.ref C :: bm).contains (.type "NameError") = false := by rw [List.contains_cons, hT, F.noName] <;> rfl
  refine codeAny_builtinAt F.entry ?_
  unfold Builtin.«BaseException.__new__»
  refine wpAt_bind ?_
  show wpAt _ _ _ (stack >>= _) _ _ _
  refine wpAt_bind (wpAt_stack fun p lower => wpAt_of_wpAny ?_)
  wp_walk
  refine wpAt_of_wpAny ?_
  rw [F.owner]
  repeat (first | with_reducible refine wpAny_madeHere_exc F.canon hC ?_ | with_reducible refine wpAny_loadPart_at hC ?_ | (with_reducible refine wpAny_isSubtype_exc hC ?_; first | rw [cA] | rw [cB] | rw [cN]) | wp_step)
  show R _ _
  rw [Heap.size_push]
  exact hq
theorem ktype_call (F : ExcBaseFacts B newId initId bmB) (hT : Tl bm bmB) {fI : Addr} {Q : Fin → Shared → Prop} (hC : h.get? C = some (excClassObj nm q C N bs bm hdct sn sub ab col dd k0 k1 k2 k3 k5 newId))
    (hi : W.Looks (model prog w) h (typeLookup (.ref C) "__init__") (some (.ref fI))) (hb : ∀ self, W.Looks (model prog w) h (bindSpecial (.ref fI) self) (.ref fI, [self])) (hr : rest.length ≤ sizeLine)
    (hq : codeAny (model prog w) A (.call (.ref fI) ⟨.ref (h.objs.size + 1) :: rest, kw⟩) (fun r s' => match r with | .ok (.ret v) => v = .none ∧ Q (.done (.ret (.ref (h.objs.size + 1)))) s' | .ok _ => False | .error e => E e s')
      ⟨(h.push (W.kdv_tup rest)).push (excO C h.objs.size), g, d, t, os⟩) : wpAny (model prog w) A (Builtin.«type.__call__» ⟨.ref C :: rest, kw⟩) Q E ⟨h, g, d, t, os⟩ := by
  repeat (first | with_reducible refine wpAny_loadPart_at hC ?_ | with_reducible refine wpAny_madeBy_exc hC ?_ | wp_step)
  refine codeAny_call_builtin_code (Code.quiet_builtin _ F.quiet) (kcheck_new F hT hC ?_)
  refine knew_own F hT hC ?_ hr
  show wpAny _ _ _ _ _ _
  have up : ∀ b o, h.get? b = some o → ((h.push (W.kdv_tup rest)).push (excO C h.objs.size)).get? b = some o := fun b o e => Heap.get?_push_of_some _ (Heap.get?_push_of_some _ e)
  have C1 := up _ _ hC
  have at1 : ((h.push (W.kdv_tup rest)).push (excO C h.objs.size)).get? (h.objs.size + 1) = some (excO C h.objs.size) := by heap_get
  have cC : (Value.ref C :: bm).contains (.ref C) = true := by simp
  have i1 := hi.keeps up
  have b1 := (hb (.ref (h.objs.size + 1))).keeps up
  unfold isInstance
  repeat (first | with_reducible refine wpAny_loadPart_at at1 ?_ | (with_reducible refine wpAny_isSubtype_exc C1 ?_; rw [cC]) | wp_step)
  show wpAny _ _ (typeLookup (.ref C) _) _ _ _
  refine i1.at ?_
  refine wpAny_holding (wpAny_bind (b1.at ?_))
  refine wpAny_bind (wpAny_call (codeAny_mono hq fun r s' z => ?_))
  rcases r with e | (v | _ | _ | _) <;> first | exact z | exact z.elim | skip
  obtain ⟨rfl, z⟩ := z
  first | exact wpAny_pure (wpAny_pure z) | (wp_walk; exact z)
theorem kcall_own (F : ExcBaseFacts B newId initId bmB) (hT : Tl bm bmB) {fI : Addr} (hC : h.get? C = some (excClassObj nm q C N bs bm hdct sn sub ab col dd k0 k1 k2 k3 k5 newId))
    (hi : W.Looks (model prog w) h (typeLookup (.ref C) "__init__") (some (.ref fI))) (hb : ∀ self, W.Looks (model prog w) h (bindSpecial (.ref fI) self) (.ref fI, [self])) (hr : rest.length ≤ sizeLine)
    (hq : codeAny (model prog w) (A.under (.builtin "type.__call__" ⟨.ref C :: rest, kw⟩)) (.call (.ref fI) ⟨.ref (h.objs.size + 1) :: rest, kw⟩) (W.InitBack (h.objs.size + 1) R) ⟨(h.push (W.kdv_tup rest)).push (excO C h.objs.size), g, d, t, os⟩) :
    codeAny (model prog w) A (.call (.ref C) ⟨rest, kw⟩) R ⟨h, g, d, t, os⟩ := by
  have f1 := tc_lookup
  have f2 := tc_bind (.ref C)
  have ty : (⟨h, g, d, t, os⟩ : Shared).TypeIs (.ref C) "type" := ⟨_, hC, rfl⟩
  refine codeAny_of_tree ?_
  show wpAny _ _ (callAny (.ref C) _) _ _ _
  repeat (any_goals (first | assumption | with_reducible refine wpAny_loadPart_at hC ?_ | wp_step))
  refine ⟨rfl, ?_⟩
  refine codeAny_call_builtin_at (Code.quiet_builtin _ (by decide +kernel)) entry_typeCall (wpAny_check_type_call_sub hC (ktype_call F hT hC hi hb hr ?_))
  refine codeAny_mono hq fun r s' z => ?_
  rcases r with e | (v | _ | _ | _) <;> exact z
end
end HandSPX
end PySem
namespace M
open PySem PySem.Spec PyProof.Rows L2
section
variable {X : Cx} {pos : Pos} {CX : CXT} {x : Str} {C fI : Addr} {k : Nat} {fd : FuncData} {ps : List Str} {sp : Sp} {E : XK} {kw : List (Str × Value)}
/-- C(..), an own error as a value: zs what __init__ gets behind self -/
theorem run_err {pins : List (Addr × Obj)} {σ : L2.St} {H : Hp} {s : Shared} {Q : VK} {us : List Value} {zs : List V} {ys : List Value} (T : OexC X.K C) (iC : PySem.W.findIn X.K (.ref C) "__init__" = some (some (.ref fI)))
    (tI : PySem.W.typeIn X.K (.ref fI) = some (.type "function")) (F1 : FnOk X.prog X.w X.K X.mg X.base CX k fI fd ps sp) (hr : Room (k + 1) X.A) (hx : Passes CX X (fun _ _ _ => False)) (I : Inv X pins σ H s) (hl : us.length ≤ 1000) (r : Vals zs ys)
    (hb : ∀ (s' : Shared) (a : Value), X.K.In s'.heap → BindsTo s' fd ⟨a :: us, kw⟩ (ps.zip (a :: ys)))
    (h : ∀ a, H a = none → sp (.ref a :: zs) (upd H a (exo a C none)) (fun v H2 => v = .non ∧ Q (.ref a) H2) (fun _ _ _ => False)) :
    wpAny (model X.prog X.w) X.A (call (.ref C) us kw) (EP X pins σ Q) X.xe s := by
  obtain ⟨nm, qn, N, bs, bm, sn, sub, ab, col, dd, k0, k1, k2, k3, k5, hC, hbm⟩ := T.cls
  obtain ⟨hp, g, dr, tk, os⟩ := s
  have n0 : H (hp.objs.size + 1) = none := I.hok.fresh (Nat.le_succ _)
  have hq := h _ n0
  have at1 : ((hp.push (PySem.W.kdv_tup us)).push (PySem.HandSPX.excO C hp.objs.size)).get? (hp.objs.size + 1) = some (PySem.HandSPX.excO C hp.objs.size) := by heap_get
  have I2 := I.laid (t' := tk) (a := hp.objs.size + 1) (o := exo (hp.objs.size + 1) C none) (h' := (hp.push (PySem.W.kdv_tup us)).push (PySem.HandSPX.excO C hp.objs.size)) (fun b o e => Heap.get?_push_of_some _ (Heap.get?_push_of_some _ e)) (Nat.le_succ _) (exo_ok at1)
  have r2 : Vals (V.ref (hp.objs.size + 1) :: zs) (Value.ref (hp.objs.size + 1) :: ys) := .cons rfl r
  refine wpAny_call (PySem.HandSPX.kcall_own F.excBase_ValueError (fun Y => PySem.HandSPX.refsVE_contains Y bm hbm) (I.kIn _ _ hC) (PySem.W.looks_findIn I.kIn iC) (fun self => PySem.W.bind_fn I.kIn self tI) (by rw [sizeLine_eq]; omega)
    (codeAny_mono (F1.run _ X.stack _ _ ⟨Value.ref (hp.objs.size + 1) :: us, kw⟩ (Value.ref (hp.objs.size + 1) :: ys) _ _ (fun _ _ _ => False) (hr.make C us kw) (I2.env0.make C us kw) (hb _ _ I2.kIn) r2 hq) fun r s' hq' => ?_))
  cases r with
  | error er => exact hx pins σ _ _ er s' I2 hq'
  | ok fl =>
    cases fl with
    | ret u =>
      obtain ⟨v, H', I3, rv, ev, q3⟩ := I2.after hq'
      subst ev
      exact ⟨rv, V.ref (hp.objs.size + 1), H', I3, rfl, q3⟩
    | next => exact False.elim hq'
    | brk => exact False.elim hq'
    | cont => exact False.elim hq'
end
end M
set_option Elab.async false
set_option linter.all false
set_option maxRecDepth 100000
set_option maxHeartbeats 4000000
namespace M
open PySem PySem.Spec PyProof.Rows L2
theorem meth_tree {o : Expr} {m : Str} {apos pos : Pos} {es : List Expr} {env : PySem.Env} (hb : attributeBase o m env (eval o env) = eval o env) (hf : methodCallForm (es.length + 0) (backTo pos (starEach es env)) (backToKw pos (keywordEach [] env)) = true) (hl : (apos.endLine == pos.line) = true) :
    eval (.Call (.Attribute o m apos) es [] pos) env = (do
      let ov ← eval o env
      standAt apos.atName
      let (f, first) ← holding [ov] (getMethod ov m (do return (← importBound o env).getD true))
      callWith pos f first (backTo pos (starEach es env)) (backToKw pos (keywordEach [] env))) := by
  have e : eval (.Call (.Attribute o m apos) es [] pos) env = (do
      let ov ← attributeBase o m env (eval o env)
      standAt apos.atName
      methodCall o m apos pos env ov (es.length + ([] : List Keyword).length) (backTo pos (starEach es env)) (backToKw pos (keywordEach [] env))) := by
    first | rfl | simp only [eval]
  rw [e, hb]
  unfold methodCall
  simp only [List.length_nil, hf, calleeOf, methodCallPos, hl, Bool.not_true, Bool.false_or, if_true]
  rfl
theorem few_of {es : List Expr} {env : PySem.Env} {pos : Pos} (h : (starEach es env).all (fun x => !x.1) = true) (hl : es.length < 30) : methodCallForm (es.length + 0) (backTo pos (starEach es env)) (backToKw pos (keywordEach [] env)) = true := by
  unfold methodCallForm backTo
  rw [List.all_map]
  have : (List.all (starEach es env) ((fun x => !x.1) ∘ fun x => match x with | (star, t) => (star, if star = true then do let v ← t; standAt pos; pure v else t))) = true := h
  rw [this]
  simp [keywordEach, backToKw]
  omega
/-- not a starred expression -/
def plainE : Expr → Bool
  | .Starred .. => false
  | _ => true
theorem star_cons {e : Expr} {es : List Expr} {env : PySem.Env} (h : plainE e = true) : starEach (e :: es) env = (false, eval e env) :: starEach es env := by
  cases e <;> first | (exact absurd (show false = true from h) Bool.false_ne_true) | rfl | simp [starEach]
theorem star_all : ∀ {es : List Expr} {env : PySem.Env}, es.all plainE = true → (starEach es env).all (fun x => !x.1) = true
  | [], _, _ => by simp [starEach]
  | e :: es, env, h => by
    rw [List.all_cons, Bool.and_eq_true] at h
    rw [star_cons h.1, List.all_cons, star_all h.2]
    rfl
theorem star_any : ∀ {es : List Expr} {env : PySem.Env} {pos : Pos}, es.all plainE = true → (backTo pos (starEach es env)).any (·.1) = false
  | [], _, _, _ => by simp [starEach, backTo]
  | e :: es, env, pos, h => by
    rw [List.all_cons, Bool.and_eq_true] at h
    have ih := star_any (env := env) (pos := pos) h.2
    rw [star_cons h.1]
    unfold backTo at ih ⊢
    rw [List.map_cons, List.any_cons, ih]
    rfl
/-- an expression whose test is its value's truth -/
def plainT : Expr → Bool
  | .UnaryOp .Not _ _ => false
  | .BoolOp .. => false
  | .IfExp .. => false
  | .Compare .. => false
  | _ => true
theorem plain_test {a : Expr} {env : PySem.Env} (h : plainT a = true) : ∀ whole, isTrue a env whole = (do let v ← whole; standAt a.pos; holding [v] (truthy v)) := by
  intro whole
  cases a with
  | UnaryOp op x p => cases op <;> first | (exact absurd (show false = true from h) Bool.false_ne_true) | rfl | simp [PySem.isTrue]
  | _ => first | (exact absurd (show false = true from h) Bool.false_ne_true) | rfl | simp [PySem.isTrue]
/-- not a call of super -/
def noSuper : Expr → Bool
  | .Call .. => false
  | _ => true
theorem base_of {o : Expr} {m : Str} {env : PySem.Env} (h : noSuper o = true) : attributeBase o m env (eval o env) = eval o env := by
  cases o <;> first | rfl | (exact absurd (show false = true from h) Bool.false_ne_true)
theorem base_call {o : Expr} {m : Str} {env : PySem.Env} {f : Expr} {as : List Expr} {ks : List Keyword} {p : Pos} (h : (match f with | .Name id _ => id != "super" | _ => true) = true) : attributeBase (.Call f as ks p) m env (eval (.Call f as ks p) env) = eval (.Call f as ks p) env := by
  cases f <;> first | rfl | skip
  rename_i id q
  cases as with
  | cons _ _ => rfl
  | nil =>
    cases ks with
    | cons _ _ => rfl
    | nil =>
      have h : (id != ("super" : Str)) = true := h
      show attributeBase (.Call (.Name id q) [] [] p) m env _ = _
      unfold attributeBase
      simp [h]

section
variable {C : Cl} {φ : List Addr} {F H : Hp} {S : Sto} {n : Nat}
theorem RepW.take {w : W} {v : V} (h : w.below n = true) (r : RepW C φ F w v) : RepW C (φ.take n) F w v := by
  cases w with
  | p d => exact r
  | c k =>
    obtain ⟨a, e, q⟩ := r
    have hk : k < n := by simpa [W.below] using h
    exact ⟨a, by rw [List.getElem?_take_of_lt hk]; exact e, q⟩
theorem RepWs.take : ∀ {ws : List W} {vs : List V}, ws.all (W.below n) = true → RepWs C φ F ws vs → RepWs C (φ.take n) F ws vs
  | _, _, _, .nil => .nil
  | _, _, h, .cons r t => by
    rw [List.all_cons, Bool.and_eq_true] at h
    exact .cons (r.take h.1) (RepWs.take h.2 t)
theorem RepCt.take {c : Ct} {o : HO} (h : Cel.below n (.live c) = true) (r : RepCt C φ F c o) : RepCt C (φ.take n) F c o := by
  cases c with
  | lst ws => obtain ⟨vs, e, q⟩ := r; exact ⟨vs, e, q.take h⟩
  | dic ks ws => obtain ⟨vs, e, q, l⟩ := r; exact ⟨vs, e, q.take h, l⟩
  | dicT ks ws => obtain ⟨vs, e, q, l⟩ := r; exact ⟨vs, e, q.take h, l⟩
  | ins c ks ws => obtain ⟨A, dx, vs, ec, e, q, l⟩ := r; exact ⟨A, dx, vs, ec, e, q.take h, l⟩
theorem SR.take (s : SR C φ F S H) (h : (S.take n).all (Cel.below n) = true) : SR C (φ.take n) F (S.take n) H where
  fh := s.fh
  len := by simp [s.len]
  nd := s.nd.sublist (List.take_sublist _ _)
  sl := fun m sl a e1 e2 => by
    have hm : m < n := by
      have := (List.getElem?_eq_some_iff.mp e1).1
      simp at this; omega
    have hb : sl.below n = true := List.all_eq_true.mp h sl (List.mem_of_getElem? e1)
    rw [List.getElem?_take_of_lt hm] at e1 e2
    have q := s.sl m sl a e1 e2
    cases sl with
    | live c =>
      obtain ⟨f, o, ho, r⟩ := q
      exact ⟨f, o, ho, r.take hb⟩
    | dead d => exact q
  th := fun a ha => s.th a (List.mem_of_mem_take ha)
  xe := s.xe
theorem Grow.take {φ' : List Addr} {F' : Hp} (g : Grow φ F φ' F') : Grow φ F (φ'.take φ.length) F' := by
  obtain ⟨t, rfl⟩ := g.p
  exact ⟨g.f, by rw [List.take_left]; exact List.prefix_rfl⟩
theorem Ans.fin {r : Rs W} {Q : VK} {E : XK} (hn : φ.length = n) (h : Ans C (RepW C) φ F (finF n r) Q E) : Ans C (RepW C) φ F r Q E := by
  subst hn
  cases r with
  | no => exact h
  | ex c ks ds S =>
    unfold finF at h
    dsimp only at h
    by_cases hb : (S.take φ.length).all (Cel.below φ.length) = true
    · rw [if_pos hb] at h
      exact fun cl d φ' F' H' g s q => h cl d _ F' H' g.take (s.take hb) q
    · rw [if_neg hb] at h; exact h
  | ok w S =>
    cases w with
    | c k => exact h
    | p d =>
      unfold finF at h
      dsimp only at h
      by_cases hb : (S.take φ.length).all (Cel.below φ.length) = true
      · rw [if_pos hb] at h
        exact fun v φ' F' H' g s q => h v _ F' H' g.take (s.take hb) q
      · rw [if_neg hb] at h; exact h
end
section
variable {X : Cx} {C : Cl} {G : Gt} {U : WX} {a b c : Expr} {fa fb fc : EF} {pos : Pos} {es : List Expr} {fs : AF}
/-- a method runs, errors and all -/
theorem run_mU {c m : Str} {A f : Addr} {n : Nat} {pins : List (Addr × Obj)} {σ : L2.St} {H : Hp} {s : Shared} {vs : List V} {us : List Value} {Q : VK} {φ : List Addr} {F : Hp} {S : Sto} {ws : List W} (M : MF X C G c m A f n) (tk : Takes X U)
    (I : Inv X pins σ H s) (r : Vals vs us) (sr : SR C φ F S H) (rw : RepWs C φ F ws vs) (h : Ans C (RepW C) φ F (G.me c m ws S) Q (fun c d H' => U c d σ H')) : wpAny (model X.prog X.w) X.A (call (.ref f) us) (EP X pins σ Q) X.xe s := by
  obtain ⟨fd, ps, k, F1, hr, hb⟩ := M.run
  have nn := M.len ws S h.ne_no
  refine run_fnG (E := WE U σ) (dvs := []) (ds := []) F1 (hr.mono (Nat.le_succ _)) hb .nil (passAt tk σ) I r ?_
  rw [List.append_nil]
  exact ⟨by rw [← rw.length, nn], φ, F, S, ws, sr, rw, h⟩
theorem vals_oneX {w : W} {φ : List Addr} {F : Hp} {xs : List V} (h : RepWs C φ F [w] xs) : ∃ x, xs = [x] ∧ RepW C φ F w x := by
  cases h with
  | cons r t => cases t; exact ⟨_, rfl, r⟩
theorem vals_ints {φ : List Addr} {F : Hp} : ∀ {ds : List Int}, RepWs C φ F (ds.map int) (ds.map V.int)
  | [] => .nil
  | d :: ds => .cons repW_int (vals_ints (ds := ds))
theorem run_makeSD {CX : CXT} {k : Nat} {f A : Addr} {fd : FuncData} {ps : List Str} {sp : Sp} {dvs : List V} {ds : List Value} {E : XK} {pins : List (Addr × Obj)} {σ : L2.St} {H : Hp} {s : Shared} {Q : VK} {us : List Value} {vs : List V} (M : Mk X.K A f) (F : FnG X.prog X.w X.K X.mg X.base CX k f fd ps sp) (hr : RoomG (k + 1) X.A) (hb : Binds X.K fd ps ds) (hd : Vals dvs ds)
    (hx : PassesAt CX X σ E) (I : Inv X pins σ H s) (r : Vals vs us)
    (h : ∀ x dx, H x = none → H dx = none → dx ≠ x → sp (.ref x :: (vs ++ dvs)) (upd (upd H dx (.own x)) x (.ins A dx [])) (fun v H2 => v = .non ∧ Q (.ref x) H2) E) :
    wpAny (model X.prog X.w) X.A (call (.ref A) us) (EP X pins σ Q) X.xe s := by
  have hq := h (s.heap.objs.size + 1) s.heap.objs.size (I.hok.fresh (Nat.le_succ _)) (I.hok.fresh (Nat.le_refl _)) (Nat.ne_of_lt (Nat.lt_succ_self _))
  have I2 := Inv.made (C := A) I
  have r2 : Vals (V.ref (s.heap.objs.size + 1) :: (vs ++ dvs)) (Value.ref (s.heap.objs.size + 1) :: (us ++ ds)) := .cons rfl (r.append hd)
  have hl : (Value.ref (s.heap.objs.size + 1) :: us ++ ds).length = ps.length := by
    have e := r2.length
    rw [F.len _ _ _ _ hq] at e
    exact e.symm
  refine wpAny_call (make_map (f := f) I.kIn M.makes M.init (beq_iff_eq.mp M.fn) (codeAny_mono (F.run _ X.stack _ _ ⟨Value.ref (s.heap.objs.size + 1) :: us, []⟩ (Value.ref (s.heap.objs.size + 1) :: (us ++ ds)) _ _ E (hr.make A us [])
    (I2.env0.make A us []) (hb _ (Value.ref (s.heap.objs.size + 1) :: us) I2.kIn hl) r2 hq) fun r s' hq' => ?_))
  cases r with
  | error e => exact hx pins _ _ e s' I2 hq'
  | ok fl =>
    cases fl with
    | ret u =>
      obtain ⟨v, H', I3, rv, ev, q3⟩ := I2.after hq'
      subst ev
      exact ⟨rv, ⟨V.ref (s.heap.objs.size + 1), H', I3, rfl, q3⟩⟩
    | next => exact False.elim hq'
    | brk => exact False.elim hq'
    | cont => exact False.elim hq'
/-- an error class, called for a value: its field gets u -/
theorem run_xl1 {c f : Str} {A fI : Addr} {k : Nat} {fd : FuncData} {ps : List Str} {E : XK} (hA : C.x c = some A) (T : OexC X.K A) (iC : PySem.W.findIn X.K (.ref A) "__init__" = some (some (.ref fI))) (tI : PySem.W.typeIn X.K (.ref fI) = some (.type "function")) (hr : Room (k + 1) X.A)
    (F1 : FnOk X.prog X.w X.K X.mg X.base (L2.CX X.prog X.w) k fI fd ps (sp1 X.K f)) (hno : PySem.W.findIn X.K (.ref A) f = some none)
    {pins : List (Addr × Obj)} {σ : L2.St} {H : Hp} {s : Shared} {us : List Value} {kw : List (Str × Value)} {y : V} {u : Value} {Q : VK} {φ : List Addr} {F : Hp} {S : Sto} {d : D} (I : Inv X pins σ H s) (hl : us.length ≤ 1000) (ru : RelV y u) (sr : SR C φ F S H) (ry : Rep C F d y)
    (hb : ∀ (s' : Shared) (a : Value), X.K.In s'.heap → ps.length = 2 → BindsTo s' fd ⟨a :: us, kw⟩ (ps.zip [a, u]))
    (h : Ans C (RepW C) φ F (.ok (.p (.err c [f] [d])) S) Q E) : wpAny (model X.prog X.w) X.A (call (.ref A) us kw) (EP X pins σ Q) X.xe s := by
  have px : Passes (L2.CX X.prog X.w) X (fun _ _ _ => False) := fun pins σ H s e s' I q => by obtain ⟨_, _, _, _, _, _, _, _, _, _, _, _, z⟩ := q; exact z.elim
  have hq : ∀ a, H a = none → sp1 X.K f (.ref a :: [y]) (upd H a (exo a A none)) (fun v H2 => v = .non ∧ Q (.ref a) H2) (fun _ _ _ => False) := fun a ha =>
    ⟨a, A, y, rfl, T, hno, upd_same, fun dx hdx hne => ⟨rfl, by
      rw [upd_ne hne] at hdx
      have e : upd (upd (upd H a (exo a A none)) dx (exd dx [(f, y)])) a (exo a A (some dx)) = upd (upd H dx (exd dx [(f, y)])) a (exo a A (some dx)) := by
        funext b
        by_cases hb : b = a
        · rw [hb, upd_same, upd_same]
        · rw [upd_ne hb, upd_ne hb]
          by_cases hd : b = dx
          · rw [hd, upd_same, upd_same]
          · rw [upd_ne hd, upd_ne hd, upd_ne hb]
      rw [e]
      have s1 := sr.pure (o := exd dx [(f, y)]) hdx
      have g1 := sr.gpure (o := exd dx [(f, y)]) hdx
      have ha1 : (upd H dx (exd dx [(f, y)])) a = none := by rw [upd_ne (Ne.symm hne)]; exact ha
      have s2 := s1.pure (o := exo a A (some dx)) ha1
      have g2 := s1.gpure (o := exo a A (some dx)) ha1
      refine ans_ok h (g1.trans g2) s2 ?_
      unfold RepW Rep
      exact ⟨a, A, [y], rfl, hA, Reps.cons (Rep.mono (g1.trans g2).f ry) Reps.nil, rfl, .inr ⟨dx, upd_same, by rw [upd_ne hne, upd_same]; rfl⟩⟩⟩⟩
  have hl2 : ps.length = 2 := (F1.len _ _ _ _ (hq _ (I.hok.fresh (Nat.le_refl s.heap.objs.size)))).symm
  exact run_err (kw := kw) (us := us) (zs := [y]) (ys := [u]) T iC tI F1 hr px I hl (.cons ru .nil) (fun s' a K' => hb s' a K' hl2) hq
/-- .. -/
theorem run_xl {c : Str} {x : Option Str} {A fI : Addr} {k : Nat} {fd : FuncData} {ps : List Str} {kwp : Str → Prop} {E : XK} (hA : C.x c = some A) (T : OexC X.K A) (iC : PySem.W.findIn X.K (.ref A) "__init__" = some (some (.ref fI))) (tI : PySem.W.typeIn X.K (.ref fI) = some (.type "function")) (hr : Room (k + 1) X.A) (hb : Binds X.K fd ps [])
    (hf : xlR X A k fI fd ps kwp x)
    {pins : List (Addr × Obj)} {σ : L2.St} {H : Hp} {s : Shared} {vs : List V} {us : List Value} {Q : VK} {φ : List Addr} {F : Hp} {S : Sto} {ws : List W} (I : Inv X pins σ H s) (r : Vals vs us) (sr : SR C φ F S H) (rw_ : RepWs C φ F ws vs)
    (h : Ans C (RepW C) φ F (mkxF c (some x) ws S) Q E) : wpAny (model X.prog X.w) X.A (call (.ref A) us) (EP X pins σ Q) X.xe s := by
  have px : Passes (L2.CX X.prog X.w) X (fun _ _ _ => False) := fun pins σ H s e s' I q => by obtain ⟨_, _, _, _, _, _, _, _, _, _, _, _, z⟩ := q; exact z.elim
  cases x with
  | none =>
    cases ws with
    | cons w ws => exact (show False from h).elim
    | nil =>
      cases rw_
      cases r
      have hq : ∀ a, H a = none → sp0 X.K (.ref a :: []) (upd H a (exo a A none)) (fun v H2 => v = .non ∧ Q (.ref a) H2) (fun _ _ _ => False) := fun a ha =>
        ⟨a, A, rfl, T, upd_same, rfl, ans_ok h (sr.gpure ha) (sr.pure ha) (by unfold RepW Rep; exact ⟨a, A, [], rfl, hA, Reps.nil, rfl, .inl ⟨rfl, upd_same⟩⟩)⟩
      refine run_err (kw := []) (us := []) (zs := []) (ys := []) T iC tI hf hr px I (by simp) .nil (fun s' a K' => ?_) hq
      have hl : [a].length = ps.length := (hf.len _ _ _ _ (hq _ (I.hok.fresh (Nat.le_refl s.heap.objs.size))))
      have b := hb s' [a] K' hl
      rw [List.append_nil] at b
      exact b
  | some f =>
    obtain ⟨F1, hno, _⟩ := hf
    match ws, rw_, h with
    | [.p d], rw_, h =>
      obtain ⟨y, rfl, ry⟩ := vals_oneX rw_
      cases r with
      | @cons _ u0 _ _ ru t =>
        cases t
        refine run_xl1 (kw := []) hA T iC tI hr F1 hno I (by simp) ru sr ry (fun s' a K' hl => ?_) h
        have b := hb s' [a, u0] K' (by rw [hl]; rfl)
        rw [List.append_nil] at b
        exact b
    | [], _, h => exact (show False from h).elim
    | [.c n], _, h => exact (show False from h).elim
    | .c n :: w2 :: ws, _, h => exact (show False from h).elim
    | .p d :: w2 :: ws, _, h => exact (show False from h).elim
/-- a def or a class of the program's, called -/
theorem run_any (T : Facts X C G) (tk : Takes X U) {f : Str} {ds : List Int} (hd : ds ∈ G.df f) : ∃ fa, X.mg f = some (.ref fa) ∧ PySem.W.keepIn X.K (.ref fa) = true ∧ (f == ("__debug__" : Str)) = false ∧
    ∀ (pins : List (Addr × Obj)) (σ : L2.St) (H : Hp) (s : Shared) (vs : List V) (us : List Value) (Q : VK) (φ : List Addr) (F : Hp) (S : Sto) (ws : List W), Inv X pins σ H s → Vals vs us → SR C φ F S H → RepWs C φ F ws vs →
      Ans C (RepW C) φ F (G.fn f (ws ++ ds.map int) S) Q (fun c d H' => U c d σ H') → wpAny (model X.prog X.w) X.A (call (.ref fa) us) (EP X pins σ Q) X.xe s := by
  rcases T.fn f ds hd with ⟨fa, n, M⟩ | ⟨A, fi, n, M⟩ | ⟨rfl, A, x, M⟩
  · refine ⟨fa, M.mg, M.kp, M.db, fun pins σ H s vs us Q φ F S ws I r sr rw h => ?_⟩
    · obtain ⟨fd, ps, ud, k, F1, hr, hb, hv⟩ := M.run
      have nn := M.len _ _ h.ne_no
      refine run_fnG (E := WE U σ) F1 (hr.mono (Nat.le_succ _)) hb hv (passAt tk σ) I r ?_
      have rr : RepWs C φ F (ws ++ ds.map int) (vs ++ ds.map V.int) := paired_append rw vals_ints
      exact ⟨by rw [← rr.length, nn], φ, F, S, _, sr, rr, h⟩
  · refine ⟨A, M.mg, M.mkk.kp, M.db, fun pins σ H s vs us Q φ F S ws I r sr rw h => ?_⟩
    obtain ⟨fd, ps, ud, k, F1, hr, hb, hv⟩ := M.run
    obtain ⟨fz, e⟩ := M.mkq
    rw [e] at h
    unfold mkF at h
    have h := h.fin (by rw [sr.len])
    refine run_makeSD (E := WE U σ) M.mkk F1 hr hb hv (passAt tk σ) I r fun x dx hx hdx hne => ?_
    have s1 := sr.other (o := .own x) hdx
    have hx1 : (upd H dx (.own x)) x = none := by rw [upd_ne (Ne.symm hne)]; exact hx
    have s2 := s1.cell hx1 (c := .ins f [] []) (o := .ins A dx []) ⟨A, dx, [], M.cl, rfl, .nil, rfl⟩
    have g2 : Grow φ F (φ ++ [x]) F := SR.gcell
    have rr : RepWs C (φ ++ [x]) F (.c S.length :: (ws ++ ds.map int)) (.ref x :: (vs ++ ds.map V.int)) := .cons ⟨x, by rw [← sr.len]; simp, rfl⟩ (RepWs.mono g2 (paired_append rw vals_ints))
    have h2 := Ans.bind (Rel := RepW C) (h.grow g2)
    have nn := M.len _ _ h2.ne_no
    refine ⟨by rw [← rr.length, nn], φ ++ [x], F, _, _, s2, rr, h2.mono (fun v H2 ⟨w, S3, φ3, F3, g3, s3, q3, h3⟩ => ?_) fun _ _ _ z => z⟩
    cases w with
    | c k => exact (show False from h3).elim
    | p d =>
      cases d with
      | non =>
        refine ⟨RepW.non q3, ?_⟩
        have rx : RepW C φ3 F3 (.c S.length) (.ref x) := ⟨x, g3.get (by rw [← sr.len]; simp), rfl⟩
        dsimp only at h3
        by_cases hz : fz = true
        · rw [if_pos hz] at h3
          exact frz_ans s3 rx h3
        · rw [if_neg hz] at h3
          exact ans_ok h3 (Grow.refl _ _) s3 rx
      | _ => exact (show False from h3).elim
  · refine ⟨A, M.mg, M.oex.kC, M.db, fun pins σ H s vs us Q φ F S ws I r sr rw h => ?_⟩
    rw [M.mkq] at h
    simp only [List.map_nil, List.append_nil] at h
    obtain ⟨fI, k, fd, ps, iC, tI, hr, hb, hf⟩ := M.run
    exact run_xl M.cl M.oex iC tI hr.r hb hf I r sr rw h
theorem starNil {env : PySem.Env} : starEach [] env = [] := by first | rfl | simp [starEach]
/-- f(..) -/
theorem sCall (T : Facts X C G) (tk : Takes X U) {f : Str} {ds : List Int} {p : Pos} {e : Expr} (hg : Gl X f) (hp : (e :: es).all plainE = true) (ha : SA X C U (e :: es) fs) : SE X C U (.Call (.Name f p) (e :: es) [] pos) (fCall G f fs ds) := by
  refine ⟨fun pins s σ H Q I ⟨φ, F, S, ρ, sr, re, h⟩ => ?_⟩
  unfold fCall at h
  by_cases hd : ds ∈ G.df f
  · rw [if_pos hd] at h
    obtain ⟨fa, mg, kp, db, run⟩ := run_any T tk hd
    refine wpAny_Call_Name_kw (ld_glob I hg mg ?_ db)
    rw [List.all_cons, Bool.and_eq_true] at hp
    refine PySem.W.callWith_K (h₀ := X.base) I.ok.mod.kin kp (thn (ha.run pos pins s σ H _ I (tA.then' sr re h fun ws S1 φ1 F1 vs H1 s1 e1 r1 g1 h1 => (show ∃ ws S1 φ1 F1, SR C φ1 F1 S1 H1 ∧ RepWs C φ1 F1 ws vs ∧ Ans C (RepW C) φ1 F1 (G.fn f (ws ++ ds.map int) S1) Q (fun c d H' => U c d σ H') from ⟨ws, S1, φ1, F1, s1, r1, h1⟩))) fun us s1 ⟨vs, H1, I1, r, ws, S1, φ1, F1, sr1, rr, h1⟩ => ⟨I1.kIn, ?_⟩) (star_cons hp.1) (star_any hp.2)
    exact run pins σ H1 s1 vs us Q φ1 F1 S1 ws I1 r sr1 rr h1
  · rw [if_neg hd] at h; exact (show False from h).elim
/-- f() -/
theorem sCall0 (T : Facts X C G) (tk : Takes X U) {f : Str} {ds : List Int} {p : Pos} (hg : Gl X f) : SE X C U (.Call (.Name f p) [] [] pos) (fCall G f aNil ds) := by
  refine ⟨fun pins s σ H Q I ⟨φ, F, S, ρ, sr, re, h⟩ => ?_⟩
  unfold fCall aNil at h
  by_cases hd : ds ∈ G.df f
  · rw [if_pos hd] at h
    obtain ⟨fa, mg, kp, db, run⟩ := run_any T tk hd
    refine wpAny_Call_Name_kw (ld_glob I hg mg ?_ db)
    refine PySem.W.callWith_K0 I.kIn kp ?_
    exact run pins σ H s [] [] Q φ F S [] I .nil sr .nil h
  · rw [if_neg hd] at h; exact (show False from h).elim
end
end M
set_option Elab.async false
set_option linter.all false
set_option maxRecDepth 100000
set_option maxHeartbeats 4000000
namespace M
open PySem PySem.Spec PyProof.Rows L2
section
variable {X : Cx} {C : Cl} {G : Gt} {U : WX} {a b c o : Expr} {fa fb fc fo : EF} {pos : Pos} {es : List Expr} {fs : AF}
theorem getF_none {f : Str} : ∀ {ks : List Str} {ws : List W} {vs : List V} {φ : List Addr} {F : Hp}, getF f ks ws = none → RepWs C φ F ws vs → (ks.zip vs).lookup f = none
  | [], ws, _, _, _, h, _ => by simp [List.lookup]
  | k :: ks, [], _, _, _, h, .nil => by simp [List.lookup]
  | k :: ks, u :: ws, _, _, _, h, .cons r t => by
    unfold getF at h
    rename_i v vs
    by_cases e : f = k
    · rw [if_pos e] at h; cases h
    · rw [if_neg e] at h
      have eb : (f == k) = false := beq_eq_false_iff_ne.mpr e
      simp only [List.zip_cons_cons, List.lookup, eb]
      exact getF_none h t
/-- an instance without a field of the name -/
theorem ins_ofN {φ : List Addr} {F H : Hp} {S : Sto} {w : W} {v : V} {c m : Str} (s : SR C φ F S H) (r : RepW C φ F w v) (h : clsOf S w = some c) (hn : fldOf S m w = none) : ∃ a A dx fs, v = .ref a ∧ C.i c = some A ∧ H a = some (.ins A dx fs) ∧ fs.lookup m = none := by
  cases w with
  | p d =>
    cases d <;> simp [clsOf] at h
    subst h
    unfold RepW Rep at r
    obtain ⟨a, A, dx, vs, rfl, hc, f, q, _⟩ := r
    exact ⟨a, A, dx, _, rfl, hc, (s.fh _ _ f).at (by simp [Lk]), getF_none (by simpa [fldOf] using hn) (repWs_p (φ := φ).mpr q)⟩
  | c n =>
    obtain ⟨a, ea, rfl⟩ := r
    cases e : S[n]? with
    | none => simp [clsOf, e] at h
    | some sl =>
      have q := s.sl n sl a e ea
      cases sl with
      | live c =>
        cases c <;> simp [clsOf, e] at h
        subst h
        obtain ⟨_, o, ho, A, dx, vs, hc, rfl, q, _⟩ := q
        exact ⟨a, A, dx, _, rfl, hc, ho, getF_none (by simpa [fldOf, e] using hn) q⟩
      | dead d =>
        cases d <;> simp [clsOf, e] at h
        subst h
        have q : Rep C F _ _ := q
        unfold Rep at q
        obtain ⟨a', A, dx, vs, e', hc, f, q, _⟩ := q
        cases e'
        exact ⟨a, A, dx, _, rfl, hc, (s.fh _ _ f).at (by simp [Lk]), getF_none (by simpa [fldOf, e] using hn) (repWs_p (φ := φ).mpr q)⟩
/-- o.m(..) -/
theorem sMeth (T : Facts X C G) (tk : Takes X U) {m : Str} {apos : Pos} {e : Expr} (hb : attributeBase o m X.env (eval o X.env) = eval o X.env) (hl : (e :: es).length < 30) (hp : (e :: es).all plainE = true) (hln : (apos.endLine == pos.line) = true)
    (ho : SE X C U o fo) (ha : SA X C U (e :: es) fs) : SE X C U (.Call (.Attribute o m apos) (e :: es) [] pos) (fMeth G fo m fs) := by
  refine ⟨fun pins s σ H Q I ⟨φ, F, S, ρ, sr, re, h⟩ => ?_⟩
  refine PySem.W.methodCall_KW (thn (ho.run pins s σ H _ I (tE.then' (g := fun w S => match clsOf S w with
  | some c => if G.dm c m = true ∧ (fldOf S m w).isNone = true then (fs ρ S).bind fun ws S => G.me c m (w :: ws) S else .no
  | none => .no) sr re h fun w S1 φ1 F1 v H1 s1 e1 r1 g1 h1 => (show ∃ w S1 φ1 F1, SR C φ1 F1 S1 H1 ∧ EnvR C φ1 F1 ρ σ ∧ RepW C φ1 F1 w v ∧ Ans C (RepW C) φ1 F1 (match clsOf S1 w with
  | some c => if G.dm c m = true ∧ (fldOf S1 m w).isNone = true then (fs ρ S1).bind fun ws S => G.me c m (w :: ws) S else .no
  | none => .no) Q (fun c d H' => U c d σ H') from ⟨w, S1, φ1, F1, s1, e1, r1, h1⟩))) fun u s1 ⟨v, H1, I1, rx, w, S1, φ1, F1, sr1, re1, r1, h1⟩ => ?_) (meth_tree hb (few_of (star_all hp) hl) hln)
  cases ec : clsOf S1 w with
  | none => rw [ec] at h1; exact (show False from h1).elim
  | some c =>
    rw [ec] at h1
    dsimp only at h1
    by_cases hd : G.dm c m = true ∧ (fldOf S1 m w).isNone = true
    · rw [if_pos hd] at h1
      obtain ⟨A, f, n, M⟩ := T.meth c m (.inl hd.1)
      obtain ⟨ad, A', dx, gs, rfl, hc, hH, hlk⟩ := ins_ofN sr1 r1 ec (Option.isNone_iff_eq_none.mp hd.2)
      have eA : A' = A := Option.some.inj (hc.symm.trans M.cls)
      subst eA
      cases rx
      refine getmeth_ok I1 hH M.ok M.me hlk ?_
      rw [List.all_cons, Bool.and_eq_true] at hp
      refine PySem.W.callWith_K (first := [.ref ad]) (h₀ := X.base) I.ok.mod.kin M.me.kp (thn (ha.run pos pins s1 σ H1 _ I1 (tA.then' (g := fun ws S => G.me c m (w :: ws) S) sr1 re1 h1 fun ws S2 φ2 F2 vs H2 s2 e2 r2 g2 h2 => (show ∃ ws S2 φ2 F2, SR C φ2 F2 S2 H2 ∧ RepWs C φ2 F2 (w :: ws) (.ref ad :: vs) ∧ Ans C (RepW C) φ2 F2 (G.me c m (w :: ws) S2) Q (fun c d H' => U c d σ H') from ⟨ws, S2, φ2, F2, s2, .cons (r1.mono g2) r2, h2⟩))) fun us s2 ⟨vs, H2, I2, r, ws, S2, φ2, F2, sr2, rr, h2⟩ => ⟨I2.kIn, ?_⟩) (star_cons hp.1) (star_any hp.2)
      exact run_mU M tk I2 (.cons (show RelV (V.ref ad) (Value.ref ad) from rfl) r) sr2 rr h2
    · rw [if_neg hd] at h1; exact (show False from h1).elim
/-- o.m() -/
theorem sMeth0 (T : Facts X C G) (tk : Takes X U) {m : Str} {apos : Pos} (hb : attributeBase o m X.env (eval o X.env) = eval o X.env) (hln : (apos.endLine == pos.line) = true)
    (ho : SE X C U o fo) : SE X C U (.Call (.Attribute o m apos) [] [] pos) (fMeth G fo m aNil) := by
  refine ⟨fun pins s σ H Q I ⟨φ, F, S, ρ, sr, re, h⟩ => ?_⟩
  refine PySem.W.methodCall_KW (thn (ho.run pins s σ H _ I (tE.then' (g := fun w S => match clsOf S w with
  | some c => if G.dm c m = true ∧ (fldOf S m w).isNone = true then G.me c m [w] S else .no
  | none => .no) sr re h fun w S1 φ1 F1 v H1 s1 e1 r1 g1 h1 => (show ∃ w S1 φ1 F1, SR C φ1 F1 S1 H1 ∧ EnvR C φ1 F1 ρ σ ∧ RepW C φ1 F1 w v ∧ Ans C (RepW C) φ1 F1 (match clsOf S1 w with
  | some c => if G.dm c m = true ∧ (fldOf S1 m w).isNone = true then G.me c m [w] S1 else .no
  | none => .no) Q (fun c d H' => U c d σ H') from ⟨w, S1, φ1, F1, s1, e1, r1, h1⟩))) fun u s1 ⟨v, H1, I1, rx, w, S1, φ1, F1, sr1, re1, r1, h1⟩ => ?_) (meth_tree hb (few_of (es := []) (by rw [starNil]; rfl) (by simp)) hln)
  cases ec : clsOf S1 w with
  | none => rw [ec] at h1; exact (show False from h1).elim
  | some c =>
    rw [ec] at h1
    dsimp only at h1
    by_cases hd : G.dm c m = true ∧ (fldOf S1 m w).isNone = true
    · rw [if_pos hd] at h1
      obtain ⟨A, f, n, M⟩ := T.meth c m (.inl hd.1)
      obtain ⟨ad, A', dx, gs, rfl, hc, hH, hlk⟩ := ins_ofN sr1 r1 ec (Option.isNone_iff_eq_none.mp hd.2)
      have eA : A' = A := Option.some.inj (hc.symm.trans M.cls)
      subst eA
      cases rx
      refine getmeth_ok I1 hH M.ok M.me hlk ?_
      exact PySem.W.callWith_K0 (first := [.ref ad]) I1.kIn M.me.kp (run_mU M tk I1 (.cons (show RelV (V.ref ad) (Value.ref ad) from rfl) .nil) sr1 (.cons r1 .nil) h1)
    · rw [if_neg hd] at h1; exact (show False from h1).elim
end
end M
set_option Elab.async false
set_option linter.all false
set_option maxRecDepth 100000
set_option maxHeartbeats 4000000
namespace M
open PySem PySem.Spec PyProof.Rows L2
section
variable {X : Cx} {C : Cl} {G : Gt} {U : WX} {a b c o : Expr} {fa fb fc fo : EF} {pos : Pos} {es : List Expr} {fs : AF}
/-- values in, a value out -/
def rA (C : Cl) (f : List W → Sto → Rs W) : List V → Hp → VK → Prop := fun xs H Q => ∃ φ F S ws, SR C φ F S H ∧ RepWs C φ F ws xs ∧ Ans C (RepW C) φ F (f ws S).noex Q (fun _ _ _ => False)
theorem vals_one {ws : List W} {w : W} {φ : List Addr} {F : Hp} {xs : List V} (h : RepWs C φ F [w] xs) : ∃ x, xs = [x] ∧ RepW C φ F w x := by
  cases h with
  | cons r t => cases t; exact ⟨_, rfl, r⟩
theorem ofO_inv {α β : Type} {Rel : List Addr → Hp → α → β → Prop} {φ : List Addr} {F : Hp} {o : Option α} {S : Sto} {Q : β → Hp → Prop} {E : XK} (h : Ans C Rel φ F (ofO o S) Q E) : ∃ a, o = some a ∧ Ans C Rel φ F (.ok a S) Q E := by
  cases o with
  | none => exact (show False from h).elim
  | some a => exact ⟨a, rfl, h⟩
theorem ofO_noex {α : Type} {o : Option α} {S : Sto} : (ofO o S).noex = ofO o S := by cases o <;> rfl
theorem len_V {φ : List Addr} {F H : Hp} {S : Sto} {w : W} {v : V} {n : Nat} {K : PySem.W.Frag} (s : SR C φ F S H) (r : RepW C φ F w v) (h : lenF S w = some n) : LenV K v H n ∨ ∃ a kvs, v = .ref a ∧ Rd H a (.dK kvs) ∧ n = kvs.length := by
  have lists : (match seqOf S w with
    | some ws => some ws.length
    | none => (dicOf S w).map fun e => e.1.length) = some n → LenV K v H n ∨ ∃ a kvs, v = .ref a ∧ Rd H a (.dK kvs) ∧ n = kvs.length := fun h => by
    cases h1 : seqOf S w with
    | none =>
      rw [h1] at h
      obtain ⟨⟨ks, ws⟩, h2, rfl⟩ := map_some h
      obtain ⟨a, vs, rfl, rd_, q, l⟩ := dic_of s r h2
      have := q.length
      exact .inr ⟨a, _, rfl, rd_, by rw [List.length_zip]; dsimp only; omega⟩
    | some ws =>
      rw [h1] at h
      cases h
      obtain ⟨a, vs, rfl, q, rr⟩ := seq_of (K := K) s r h1
      exact .inl (.inl ⟨vs, q, rr.length⟩)
  cases w with
  | c n => exact lists h
  | p d =>
    cases d <;> simp only [lenF] at h
    case str x =>
      cases (RepW.str r)
      split at h
      · rename_i hz; cases h; exact .inl ⟨sizeOk_line hz, rfl⟩
      · cases h
    case tup xs =>
      cases h
      unfold RepW Rep at r
      obtain ⟨a, vs, rfl, f, q⟩ := r
      exact .inl (.inr ⟨vs, .inl (s.fh _ _ f).rd, q.length⟩)
    all_goals exact lists h
theorem bls_of {φ : List Addr} {F : Hp} : ∀ {ws : List W} {vs : List V} {bs : List Bool}, RepWs C φ F ws vs → blsOf ws = some bs → vs = bs.map V.bl
  | [], _, _, .nil, h => by cases h; rfl
  | w :: ws, _, bs, .cons r t, h => by
    cases w with
    | c n => cases h
    | p d =>
      cases d <;> simp [blsOf] at h
      obtain ⟨bs', h1, rfl⟩ := h
      rw [bls_of t h1, r.bl]
      rfl
theorem bf_abs : CallR X (.builtin "abs") (rA C (bfF .abs)) := by
  intro pins s σ H xs us Q I r ⟨φ, F, S, ws, sr, rw_, h⟩
  match ws, rw_, h with
  | [.p (.int i)], rw_, h =>
    obtain ⟨x, rfl, rx⟩ := vals_one (ws := []) rw_
    cases rx.int
    exact call_abs pins s σ H _ us Q I r ⟨i, rfl, ans_ok h (Grow.refl _ _) sr repW_int⟩
theorem bf_len : CallR X (.builtin "len") (rA C (bfF .len)) := by
  intro pins s σ H xs us Q I r ⟨φ, F, S, ws, sr, rw_, h⟩
  match ws, rw_, h with
  | [w], rw_, h =>
    obtain ⟨x, rfl, rx⟩ := vals_one (ws := []) rw_
    have h : Ans C (RepW C) φ F (ofO ((lenF S w).map fun (n : Nat) => int (n : Int)) S).noex Q (fun _ _ _ => False) := h
    rw [ofO_noex] at h
    obtain ⟨w', e, h⟩ := ofO_inv h
    obtain ⟨n, e1, rfl⟩ := map_some e
    rcases len_V (K := X.K) sr rx e1 with hl | ⟨a, kvs, rfl, rd_, rfl⟩
    · exact call_len pins s σ H _ us Q I r ⟨x, n, rfl, hl, ans_ok h (Grow.refl _ _) sr repW_int⟩
    · obtain ⟨u, rfl, ru⟩ := vals1 r
      cases ru
      exact d_len I rd_ fun t s' I' => ⟨.int kvs.length, H, I', ⟨t, rfl⟩, ans_ok h (Grow.refl _ _) sr repW_int⟩
theorem bf_int : CallR X (.type "int") (rA C (bfF .int)) := by
  intro pins s σ H xs us Q I r ⟨φ, F, S, ws, sr, rw_, h⟩
  match ws, rw_, h with
  | [.p (.int i)], rw_, h =>
    obtain ⟨x, rfl, rx⟩ := vals_one (ws := []) rw_
    cases rx.int
    exact call_int1 pins s σ H _ us Q I r (.inl ⟨i, rfl, ans_ok h (Grow.refl _ _) sr repW_int⟩)
  | [.p (.str z)], rw_, h =>
    obtain ⟨x, rfl, rx⟩ := vals_one (ws := []) rw_
    cases rx.str
    have h : Ans C (RepW C) φ F (match PySem.intText? z with | some n => if z.length ≤ 640 then Rs.ok (int n) S else .no | none => .no).noex Q (fun _ _ _ => False) := h
    cases e : PySem.intText? z with
    | none => rw [e] at h; exact (show False from h).elim
    | some n =>
      rw [e] at h
      dsimp only at h
      by_cases hz : z.length ≤ 640
      · rw [if_pos hz] at h
        exact call_int_str pins s σ H _ us Q I r ⟨z, n, rfl, e, hz, ans_ok h (Grow.refl _ _) sr repW_int⟩
      · rw [if_neg hz] at h; exact (show False from h).elim
theorem bf_str : CallR X (.type "str") (rA C (bfF .str)) := by
  intro pins s σ H xs us Q I r ⟨φ, F, S, ws, sr, rw_, h⟩
  match ws, rw_, h with
  | [.p (.int i)], rw_, h =>
    obtain ⟨x, rfl, rx⟩ := vals_one (ws := []) rw_
    cases rx.int
    have h : Ans C (RepW C) φ F (if i.natAbs.log2 < 1920 then Rs.ok (str (toString i)) S else .no).noex Q (fun _ _ _ => False) := h
    by_cases hz : i.natAbs.log2 < 1920
    · rw [if_pos hz] at h
      exact call_str_int pins s σ H _ us Q I r ⟨i, rfl, hz, ans_ok h (Grow.refl _ _) sr repW_str⟩
    · rw [if_neg hz] at h; exact (show False from h).elim
  | [.p (.str z)], rw_, h =>
    obtain ⟨x, rfl, rx⟩ := vals_one (ws := []) rw_
    cases rx.str
    exact SkE.call_str_str pins s σ H _ us Q I r ⟨z, rfl, ans_ok h (Grow.refl _ _) sr repW_str⟩
theorem bf_all (hc : X.calm = true) : CallR X (.builtin "all") (rA C (bfF .all)) := by
  intro pins s σ H xs us Q I r ⟨φ, F, S, ws, sr, rw_, h⟩
  match ws, rw_, h with
  | [w], rw_, h =>
    obtain ⟨x, rfl, rx⟩ := vals_one (ws := []) rw_
    have h : Ans C (RepW C) φ F (ofO (((seqOf S w).bind blsOf).map fun bs => bl (bs.all id)) S).noex Q (fun _ _ _ => False) := h
    rw [ofO_noex] at h
    obtain ⟨w', e, h⟩ := ofO_inv h
    obtain ⟨bs, e1, rfl⟩ := map_some e
    obtain ⟨zs, e2, e3⟩ := Option.bind_eq_some_iff.mp e1
    obtain ⟨a, vs, rfl, q, rr⟩ := seq_of (K := X.K) sr rx e2
    rw [bls_of rr e3] at q
    exact cr_all hc pins s σ H _ us Q I r ⟨a, bs, rfl, q, ans_ok h (Grow.refl _ _) sr repW_bl⟩
theorem bf_any (hc : X.calm = true) : CallR X (.builtin "any") (rA C (bfF .any)) := by
  intro pins s σ H xs us Q I r ⟨φ, F, S, ws, sr, rw_, h⟩
  match ws, rw_, h with
  | [w], rw_, h =>
    obtain ⟨x, rfl, rx⟩ := vals_one (ws := []) rw_
    have h : Ans C (RepW C) φ F (ofO (((seqOf S w).bind blsOf).map fun bs => bl (bs.any id)) S).noex Q (fun _ _ _ => False) := h
    rw [ofO_noex] at h
    obtain ⟨w', e, h⟩ := ofO_inv h
    obtain ⟨bs, e1, rfl⟩ := map_some e
    obtain ⟨zs, e2, e3⟩ := Option.bind_eq_some_iff.mp e1
    obtain ⟨a, vs, rfl, q, rr⟩ := seq_of (K := X.K) sr rx e2
    rw [bls_of rr e3] at q
    exact cr_any hc pins s σ H _ us Q I r ⟨a, bs, rfl, q, ans_ok h (Grow.refl _ _) sr repW_bl⟩
theorem vals_two {w u : W} {φ : List Addr} {F : Hp} {xs : List V} (h : RepWs C φ F [w, u] xs) : ∃ x y, xs = [x, y] ∧ RepW C φ F w x ∧ RepW C φ F u y := by
  cases h with
  | cons r t => cases t with
    | cons r2 t2 => cases t2; exact ⟨_, _, rfl, r, r2⟩
theorem bf_max (hc : X.calm = true) : CallR X (.builtin "max") (rA C (bfF .max)) := by
  intro pins s σ H xs us Q I r ⟨φ, F, S, ws, sr, rw_, h⟩
  match ws, rw_, h with
  | [.p (.int i), .p (.int j)], rw_, h =>
    obtain ⟨x, y, rfl, rx, ry⟩ := vals_two rw_
    cases rx.int
    cases ry.int
    exact call_max2 hc pins s σ H _ us Q I r ⟨i, j, rfl, ans_ok h (Grow.refl _ _) sr repW_int⟩
theorem bf_min (hc : X.calm = true) : CallR X (.builtin "min") (rA C (bfF .min)) := by
  intro pins s σ H xs us Q I r ⟨φ, F, S, ws, sr, rw_, h⟩
  match ws, rw_, h with
  | [.p (.int i), .p (.int j)], rw_, h =>
    obtain ⟨x, y, rfl, rx, ry⟩ := vals_two rw_
    cases rx.int
    cases ry.int
    exact call_min2 hc pins s σ H _ us Q I r ⟨i, j, rfl, ans_ok h (Grow.refl _ _) sr repW_int⟩
theorem strs_V {φ : List Addr} {F : Hp} : ∀ {ws : List W} {vs : List V} {xs : List Str}, RepWs C φ F ws vs → strsOf ws = some xs → vs = xs.map V.str
  | [], _, xs, h, e => by cases h; cases e; rfl
  | .p d :: r, _, xs, h, e => by
    cases h with
    | cons a t =>
      cases d <;> simp [strsOf] at e
      obtain ⟨zs, e1, rfl⟩ := e
      cases (RepW.str a)
      rw [strs_V t e1]; rfl
  | .c n :: r, _, xs, h, e => by simp [strsOf] at e
theorem reps_str {F : Hp} : ∀ {xs : List Str}, Reps C F (xs.map .str) (xs.map V.str)
  | [] => Reps.nil
  | x :: xs => Reps.cons (by simp [Rep]) reps_str
theorem bf_sorted : CallR X (.builtin "sorted") (rA C (bfF .sorted)) := by
  intro pins s σ H xs us Q I r ⟨φ, F, S, ws, sr, rw_, h⟩
  match ws, rw_, h with
  | [w], rw_, h =>
    obtain ⟨x, rfl, rx⟩ := vals_one (ws := []) rw_
    have h : Ans C (RepW C) φ F (match (seqOf S w).bind strsOf with
      | some xs => if xs.length < 64 then Rs.ok (W.p (.lst ((srt xs).map .str))) S else .no
      | none => .no).noex Q (fun _ _ _ => False) := h
    cases e : (seqOf S w).bind strsOf with
    | none => rw [e] at h; exact (show False from h).elim
    | some ts =>
      rw [e] at h
      dsimp only at h
      obtain ⟨zs, e1, e2⟩ := Option.bind_eq_some_iff.mp e
      obtain ⟨a, vs, rfl, q, rr⟩ := seq_of (K := X.K) sr rx e1
      have hv := strs_V rr e2
      subst hv
      by_cases hl : ts.length < 64
      · rw [if_pos hl] at h
        refine cr_sortedS pins s σ H _ us Q I r ⟨a, ts, rfl, q, hl, fun ys p hp hs hn => ?_⟩
        have ey := eq_srt hp hs
        subst ey
        refine ans_ok h (sr.gpure hn) (sr.pure (o := .lst ((srt ts).map V.str)) hn) ?_
        unfold RepW Rep
        exact ⟨p, _, rfl, upd_same, reps_str⟩
      · rw [if_neg hl] at h; exact (show False from h).elim
def BF.nm : BF → Str
  | .abs => "abs" | .len => "len" | .int => "int" | .str => "str" | .all => "all" | .any => "any" | .repr => "repr" | .max => "max" | .min => "min" | .sorted => "sorted"
theorem sBf (hc : X.calm = true) {f : BF} (hf : f ≠ .repr) {p : Pos} {e : Expr} (hg : Gl X f.nm) (hm : X.mg f.nm = none) (hp : (e :: es).all plainE = true) (ha : SA X C U (e :: es) fs) : SE X C U (.Call (.Name f.nm p) (e :: es) [] pos) (fBf f fs) := by
  rw [List.all_cons, Bool.and_eq_true] at hp
  have imp : ∀ σ H Q, tE C U (fBf f fs) σ H Q → tCB (rA C (bfF f)) (tA C U fs) σ H Q := fun σ H Q ⟨φ, F, S, ρ, sr, re, h⟩ =>
    tA.then' sr re h fun ws S1 φ1 F1 vs H1 s1 e1 r1 g1 h1 => ⟨φ1, F1, S1, ws, s1, r1, h1.noex'⟩
  cases f with
  | abs => exact PE.imp (pe_callB bf_abs hg hm rfl ha (he := star_cons hp.1) (hpl := star_any hp.2)) imp
  | len => exact PE.imp (pe_callB bf_len hg hm rfl ha (he := star_cons hp.1) (hpl := star_any hp.2)) imp
  | int => exact PE.imp (pe_callTy bf_int hg hm rfl ha (he := star_cons hp.1) (hpl := star_any hp.2)) imp
  | str => exact PE.imp (pe_callTy bf_str hg hm rfl ha (he := star_cons hp.1) (hpl := star_any hp.2)) imp
  | all => exact PE.imp (pe_callB (bf_all hc) hg hm rfl ha (he := star_cons hp.1) (hpl := star_any hp.2)) imp
  | any => exact PE.imp (pe_callB (bf_any hc) hg hm rfl ha (he := star_cons hp.1) (hpl := star_any hp.2)) imp
  | sorted => exact PE.imp (pe_callB bf_sorted hg hm rfl ha (he := star_cons hp.1) (hpl := star_any hp.2)) imp
  | repr => exact absurd rfl hf
  | max => exact PE.imp (pe_callB (bf_max hc) hg hm rfl ha (he := star_cons hp.1) (hpl := star_any hp.2)) imp
  | min => exact PE.imp (pe_callB (bf_min hc) hg hm rfl ha (he := star_cons hp.1) (hpl := star_any hp.2)) imp

/-! isinstance -/
def Ty.v (C : Cl) : Ty → Option V
  | .int => some (.ty "int") | .str => some (.ty "str") | .bool => some (.ty "bool") | .list => some (.ty "list") | .tuple => some (.ty "tuple") | .dict => some (.ty "dict")
  | .own c => (C.i c).map .ref
def Ty.u (C : Cl) : Ty → Option Value
  | .int => some (.type "int") | .str => some (.type "str") | .bool => some (.type "bool") | .list => some (.type "list") | .tuple => some (.type "tuple") | .dict => some (.type "dict")
  | .own c => (C.i c).map .ref
def Ty.nm : Ty → Str
  | .int => "int" | .str => "str" | .bool => "bool" | .list => "list" | .tuple => "tuple" | .dict => "dict" | .own c => c
/-- what isinstance asks of the classes -/
structure IsF (K : PySem.W.Frag) (C : Cl) : Prop where
  b : ∀ c A, C.i c = some A → ∀ T ∈ ["NoneType", "bool", "int", "str", "list", "tuple", "dict"], PySem.W.kitOne K (.type T) (.ref A) = some false
  o : ∀ c A c' A', C.i c = some A → C.i c' = some A' → PySem.W.kitOne K (.ref A') (.ref A) = some (decide (c = c'))
  t : ∀ c A, C.i c = some A → ∀ T ∈ ["int", "str", "bool", "list", "tuple", "dict"], PySem.W.kitOne K (.ref A) (.type T) = some false
  y : ∀ c A, C.i c = some A → Cls K A ∧ PySem.W.findIn K (.ref A) "__class__" = some (some (.builtin "object.__class__")) ∧ PySem.W.specialIn K (.builtin "object.__class__") "__get__" = some (some (.builtin "getset_descriptor.__get__")) ∧ PySem.W.takesIn K (.builtin "object.__class__") = some true ∧ PySem.W.mroIn K A (.type "object") = some true
theorem TyX.lst_ {K : PySem.W.Frag} {H : Hp} {a : Addr} {vs : List V} (h : Rd H a (.lst vs)) : TyX K H (.ref a) (.type "list") := by
  rcases h with h | ⟨ob, h⟩
  · exact .base (.lst h)
  · exact .base (.frz h)
theorem hd_dK {K : PySem.W.Frag} {H : Hp} {a : Addr} {kvs : List (Key × V)} (h : Hd H a (.dK kvs)) : TyX K H (.ref a) (.type "dict") := by
  rcases h with h | ⟨_, ob, h⟩
  · exact .base (.dK h)
  · exact .fDict h
theorem isi_D {φ : List Addr} {F H : Hp} {S : Sto} {K : PySem.W.Frag} (N : IsF K C) {d : D} {v : V} {t : Ty} {b : Bool} (s : SR C φ F S H) (r : Rep C F d v) (h : isiD t d = some b) (hu : (t.u C).isSome = true) : ∃ tv u, TyX K H v tv ∧ t.u C = some u ∧ PySem.W.kitOne K tv u = some b := by
  have own : ∀ T, T ∈ ["NoneType", "bool", "int", "str", "list", "tuple", "dict"] → TyX K H v (.type T) → (∀ c, t = .own c → b = false) → (∀ T' , t.u C = some (.type T') → (∀ c, t ≠ .own c) → kitB T T' = some b) → ∃ tv u, TyX K H v tv ∧ t.u C = some u ∧ PySem.W.kitOne K tv u = some b := fun T hT q h1 h2 => by
    refine ⟨.type T, ?_⟩
    cases t with
    | own c =>
      cases e : C.i c with
      | none => simp [Ty.u, e] at hu
      | some A => exact ⟨.ref A, q, by simp [Ty.u, e], by rw [h1 c rfl]; exact N.b c A e T hT⟩
    | _ => exact ⟨_, q, rfl, kit_ty (h2 _ rfl (fun c z => by cases z))⟩
  cases d with
  | non =>
    unfold Rep at r; subst r
    refine own "NoneType" (by simp) (.base .non) (fun c e => by subst e; simpa [isiD] using h.symm) fun T' e hn => ?_
    cases t <;> cases h <;> first | (cases e; decide +kernel) | exact absurd rfl (hn _)
  | bl k =>
    unfold Rep at r; subst r
    refine own "bool" (by simp) (.base (.bl k)) (fun c e => by subst e; simpa [isiD] using h.symm) fun T' e hn => ?_
    cases t <;> cases h <;> first | (cases e; decide +kernel) | exact absurd rfl (hn _)
  | int i =>
    unfold Rep at r; subst r
    refine own "int" (by simp) (.base (.int i)) (fun c e => by subst e; simpa [isiD] using h.symm) fun T' e hn => ?_
    cases t <;> cases h <;> first | (cases e; decide +kernel) | exact absurd rfl (hn _)
  | str x =>
    unfold Rep at r; subst r
    refine own "str" (by simp) (.base (.str x)) (fun c e => by subst e; simpa [isiD] using h.symm) fun T' e hn => ?_
    cases t <;> cases h <;> first | (cases e; decide +kernel) | exact absurd rfl (hn _)
  | lst xs =>
    unfold Rep at r; obtain ⟨a, vs, rfl, f, q⟩ := r
    refine own "list" (by simp) (TyX.lst_ (s.fh _ _ f).rd) (fun c e => by subst e; simpa [isiD] using h.symm) fun T' e hn => ?_
    cases t <;> cases h <;> first | (cases e; decide +kernel) | exact absurd rfl (hn _)
  | fro xs =>
    unfold Rep at r; obtain ⟨a, vs, ob, rfl, f, q⟩ := r
    refine own "list" (by simp) (TyX.lst_ (.inr ⟨ob, (s.fh _ _ f).at (by simp [Lk])⟩)) (fun c e => by subst e; simpa [isiD] using h.symm) fun T' e hn => ?_
    cases t <;> cases h <;> first | (cases e; decide +kernel) | exact absurd rfl (hn _)
  | tup xs =>
    unfold Rep at r; obtain ⟨a, vs, rfl, f, q⟩ := r
    refine own "tuple" (by simp) (.base (.tup ((s.fh _ _ f).at (by simp [Lk])))) (fun c e => by subst e; simpa [isiD] using h.symm) fun T' e hn => ?_
    cases t <;> cases h <;> first | (cases e; decide +kernel) | exact absurd rfl (hn _)
  | dic ks ds =>
    unfold Rep at r; obtain ⟨a, vs, ob, rfl, f, q, l⟩ := r
    refine own "dict" (by simp) (.fDict ((s.fh _ _ f).at (by simp [Lk]))) (fun c e => by subst e; simpa [isiD] using h.symm) fun T' e hn => ?_
    cases t <;> cases h <;> first | (cases e; decide +kernel) | exact absurd rfl (hn _)
  | dicT ks ds => cases t <;> simp [isiD] at h
  | cls c => cases t <;> simp [isiD] at h
  | err c ks ds => cases t <;> simp [isiD] at h
  | ins c ks ds =>
    unfold Rep at r; obtain ⟨a, A, dx, vs, rfl, hc, f, q, l⟩ := r
    obtain ⟨y1, y2, y3, y4, y5⟩ := N.y c A hc
    have ty : TyX K H (.ref a) (.ref A) := .base (.ins ((s.fh _ _ f).at (by simp [Lk])) y1 y2 y3 y4 y5)
    refine ⟨.ref A, ?_⟩
    cases t with
    | own c' =>
      cases e : C.i c' with
      | none => simp [Ty.u, e] at hu
      | some A' =>
        simp [isiD] at h
        exact ⟨.ref A', ty, by simp [Ty.u, e], by rw [N.o c' A' c A e hc, ← h]⟩
    | _ => cases h; exact ⟨_, ty, rfl, N.t c A hc _ (by simp)⟩
theorem isi_W {φ : List Addr} {F H : Hp} {S : Sto} {K : PySem.W.Frag} (N : IsF K C) {w : W} {v : V} {t : Ty} {b : Bool} (s : SR C φ F S H) (r : RepW C φ F w v) (h : isiF t w S = some b) (hu : (t.u C).isSome = true) : ∃ tv u, TyX K H v tv ∧ t.u C = some u ∧ PySem.W.kitOne K tv u = some b := by
  cases w with
  | p d => exact isi_D N s r h hu
  | c n =>
    obtain ⟨a, ea, rfl⟩ := r
    cases e : S[n]? with
    | none => simp [isiF, e] at h
    | some sl =>
      have q := s.sl n sl a e ea
      cases sl with
      | dead d => exact isi_D N s q (by simpa [isiF, e] using h) hu
      | live c =>
        obtain ⟨_, o, ho, q⟩ := q
        cases c with
        | lst ws =>
          obtain ⟨vs, rfl, q⟩ := q
          have h : isiD t (.lst []) = some b := by simpa [isiF, e] using h
          refine ⟨.type "list", ?_⟩
          cases t with
          | own c =>
            cases e : C.i c with
            | none => simp [Ty.u, e] at hu
            | some A => cases h; exact ⟨.ref A, .base (.lst ho), by simp [Ty.u, e], N.b c A e _ (by simp)⟩
          | _ => exact ⟨_, .base (.lst ho), rfl, kit_ty (by cases h; decide +kernel)⟩
        | dic ks ws =>
          obtain ⟨vs, rfl, q, l⟩ := q
          have h : isiD t (.dic [] []) = some b := by simpa [isiF, e] using h
          refine ⟨.type "dict", ?_⟩
          cases t with
          | own c =>
            cases e : C.i c with
            | none => simp [Ty.u, e] at hu
            | some A => cases h; exact ⟨.ref A, .base (.dK ho), by simp [Ty.u, e], N.b c A e _ (by simp)⟩
          | _ => exact ⟨_, .base (.dK ho), rfl, kit_ty (by cases h; decide +kernel)⟩
        | dicT ks ws => simp [isiF, e] at h
        | ins c ks ws => simp [isiF, e] at h
theorem clsV {t : Ty} {u : Value} (h : t.u C = some u) : ∃ c, t.v C = some c ∧ ClsV c u := by
  cases t with
  | own c =>
    cases e : C.i c with
    | none => simp [Ty.u, e] at h
    | some A => simp [Ty.u, e] at h; subst h; exact ⟨.ref A, by simp [Ty.v, e], .own A⟩
  | _ => cases h; exact ⟨_, rfl, .ty _⟩
/-- a class's name -/
structure TyN (X : Cx) (C : Cl) (t : Ty) : Prop where
  gl : Gl X t.nm
  u : (t.u C).isSome = true
  mg : match t with
    | .own c => ∃ A, C.i c = some A ∧ X.mg c = some (.ref A)
    | t => X.mg t.nm = none
  db : (t.nm == ("__debug__" : Str)) = false
theorem pe_ty {t : Ty} {p : Pos} {v : V} (T : TyN X C t) (h : t.v C = some v) : PE X (.Name t.nm p) (tC v) := by
  cases t with
  | own c =>
    obtain ⟨A, e, hm⟩ := T.mg
    have : v = .ref A := by simpa [Ty.v, e] using h.symm
    subst this
    exact pe_glob (hd := T.db) T.gl hm (show RelV (.ref A) (.ref A) from rfl)
  | _ => cases h; exact pe_bltn (u := .type _) T.gl T.mg rfl rfl
theorem sIsi (N : IsF X.K C) {t : Ty} {p p2 : Pos} (T : TyN X C t) (hg : Gl X "isinstance") (hm : X.mg "isinstance" = none) (hp : plainE a = true) (ha : SE X C U a fa) : SE X C U (.Call (.Name "isinstance" p) [a, .Name t.nm p2] [] pos) (fIsi fa t) := by
  obtain ⟨u, hu⟩ := Option.isSome_iff_exists.mp T.u
  obtain ⟨c, hv, k⟩ := clsV hu
  refine PE.imp (pe_callB call_isi hg hm rfl (pa_cons ha (pa_cons (pe_ty T hv) pa_nil (by simp [starEach])) (star_cons hp)) (he := star_cons hp) (hpl := by simp [starEach, backTo])) fun σ H Q ⟨φ, F, S, ρ, sr, re, h⟩ => ?_
  refine tE.then' (g := fun w S => ofO ((isiF t w S).map bl) S) sr re h fun w S1 φ1 F1 v H1 s1 e1 r1 g1 h1 => ?_
  obtain ⟨w', e, h1⟩ := ofO_inv h1
  obtain ⟨b, e2, rfl⟩ := map_some e
  obtain ⟨tv, u', ty, hu', kk⟩ := isi_W N s1 r1 e2 T.u
  rw [hu] at hu'
  cases hu'
  exact ⟨v, c, tv, u, b, rfl, k, ty, kk, ans_ok h1 (Grow.refl _ _) s1 repW_bl⟩
theorem sFmt {p : Pos} (ha : SE X C U a fa) : SE X C U (.FormattedValue a (-1) none p) (fFmt fa) := by
  refine PE.imp (pe_fmt ha) fun σ H Q ⟨φ, F, S, ρ, sr, re, h⟩ => ?_
  refine tE.then' (g := fun w S => ofO ((partF w).map str) S) sr re h fun w S1 φ1 F1 v H1 s1 e1 r1 g1 h1 => ?_
  obtain ⟨w', e, h1⟩ := ofO_inv h1
  obtain ⟨x, e2, rfl⟩ := map_some e
  cases w with
  | c n => cases e2
  | p d =>
    cases d <;> simp [partF] at e2
    · cases r1.int
      obtain ⟨hz, rfl⟩ := e2
      exact .inr ⟨_, rfl, hz, ans_ok h1 (Grow.refl _ _) s1 repW_str⟩
    · cases r1.str
      obtain ⟨hz, rfl⟩ := e2
      exact .inl ⟨_, rfl, sizeOk_line hz, ans_ok h1 (Grow.refl _ _) s1 repW_str⟩
/-! f-strings -/
structure SJ (X : Cx) (C : Cl) (U : WX) (es : List Expr) (f : JF) : Prop where
  ex : ∃ ts, PJ X es ts ∧ ∀ acc σ H (Q : Str → Hp → Prop), (∃ φ F S ρ, SR C φ F S H ∧ EnvR C φ F ρ σ ∧ Ans C (fun _ _ b b' => b = b') φ F (f ρ acc S) Q (fun c d H' => U c d σ H')) → tJs ts acc σ H Q
theorem sJNil : SJ X C U [] jNil := ⟨[], .nil, fun acc σ H Q ⟨φ, F, S, ρ, sr, re, h⟩ => ans_ok h (Grow.refl _ _) sr rfl⟩
theorem sJCons {f : JF} (ha : SE X C U a fa) (hr : SJ X C U es f) : SJ X C U (a :: es) (jCons fa f) := by
  obtain ⟨ts, hj, hk⟩ := hr.ex
  refine ⟨_, .cons ha hj, fun acc σ H Q ⟨φ, F, S, ρ, sr, re, h⟩ => ?_⟩
  refine tE.then' (g := fun w S => match oneS w with
  | some x => if sizeOk (acc ++ x).length then f ρ (acc ++ x) S else .no
  | none => .no) sr re h fun w S1 φ1 F1 v H1 s1 e1 r1 g1 h1 => ?_
  cases w with
  | c n => exact (show False from h1).elim
  | p d =>
    cases d <;> try exact (show False from h1).elim
    rename_i x
    cases r1.str
    have h1 : Ans C (fun _ _ b b' => b = b') φ1 F1 (if sizeOk (acc ++ x).length then f ρ (acc ++ x) S1 else .no) Q (fun c d H' => U c d σ H') := h1
    by_cases hz : sizeOk (acc ++ x).length
    · rw [if_pos hz] at h1
      exact ⟨x, rfl, sizeOk_line hz, hk _ _ _ _ ⟨φ1, F1, S1, ρ, s1, e1, h1⟩⟩
    · rw [if_neg hz] at h1; exact (show False from h1).elim
theorem sFstr {f : JF} {e1 e2 : Expr} (hj : SJ X C U (e1 :: e2 :: es) f) : SE X C U (.JoinedStr (e1 :: e2 :: es) pos) (fFstr f) := by
  obtain ⟨ts, hp, hk⟩ := hj.ex
  refine PE.imp (pe_joined hp) fun σ H Q ⟨φ, F, S, ρ, sr, re, h⟩ => ?_
  refine hk _ _ _ _ ⟨φ, F, S, ρ, sr, re, ?_⟩
  have h : Ans C (RepW C) φ F ((f ρ Str.empty S).bind fun x S => .ok (str x) S) Q (fun c d H' => U c d σ H') := h
  cases e : f ρ Str.empty S with
  | no => rw [e] at h; exact h
  | ex c ks ds S' => rw [e] at h; exact h
  | ok x S' =>
    rw [e] at h
    exact fun b φ' F' H' g s q => q ▸ h _ φ' F' H' g s repW_str
/-! slices -/
structure SO (X : Cx) (C : Cl) (U : WX) (e : Option Expr) (f : EF) : Prop where
  ex : ∃ t, PO X e t ∧ ∀ σ H (Q : Option Int → Hp → Prop), (∃ φ F S ρ, SR C φ F S H ∧ EnvR C φ F ρ σ ∧ Ans C (fun _ _ w b => optI w = some b) φ F (f ρ S) Q (fun c d H' => U c d σ H')) → t σ H Q
theorem sOmit : SO X C U none fOmit := ⟨_, po_none, fun σ H Q ⟨φ, F, S, ρ, sr, re, h⟩ => ans_ok h (Grow.refl _ _) sr rfl⟩
theorem sPrt (ha : SE X C U a fa) : SO X C U (some a) (fPrt fa) := by
  refine ⟨_, po_some ha, fun σ H Q ⟨φ, F, S, ρ, sr, re, h⟩ => ?_⟩
  refine tE.then' (Rel := fun _ _ w b => optI w = some b) (g := fun w S => match oneI w with
  | some _ => .ok w S
  | none => .no) sr re h fun w S1 φ1 F1 v H1 s1 e1 r1 g1 h1 => ?_
  cases w with
  | c n => exact (show False from h1).elim
  | p d =>
    cases d <;> try exact (show False from h1).elim
    rename_i i
    cases r1.int
    exact ⟨i, rfl, ans_ok h1 (Grow.refl _ _) s1 rfl⟩
theorem sl_any : SlR X (fun x lo hi H Q => ∃ φ F S w l h, SR C φ F S H ∧ RepW C φ F w x ∧ optI l = some lo ∧ optI h = some hi ∧ Ans C (RepW C) φ F (cutF w l h S) Q (fun _ _ _ => False)) := by
  intro pins s σ H x v vl vu lo hi sl Q I rx hs pl pu ⟨φ, F, S, w, l, u, sr, r, e1, e2, h⟩
  unfold cutF at h
  rw [e1, e2] at h
  have lists : Ans C (RepW C) φ F (match seqOf S w with
      | some ws => match pures ws with
        | some ds => .ok (.p (.lst (cutL ds lo hi))) S
        | none => .no
      | none => .no) Q (fun _ _ _ => False) → ∃ T id, typeLookup (.type T) "__getitem__" = pure (some (.builtin id)) ∧ s.TypeIs v T ∧ wpAny (model X.prog X.w) X.A (getItem v (.ref sl)) (EP X pins σ Q) X.xe s := fun h => by
    cases e : seqOf S w with
    | none => rw [e] at h; exact (show False from h).elim
    | some ws =>
      rw [e] at h
      dsimp only at h
      cases e3 : pures ws with
      | none => rw [e3] at h; exact (show False from h).elim
      | some ds =>
        rw [e3] at h
        obtain ⟨a, vs, rfl, q, rr⟩ := seq_of (K := X.K) sr r e
        have rd := repWs_pure rr e3
        refine sl_list pins s σ H (.ref a) v vl vu lo hi sl Q I rx hs pl pu ⟨a, vs, rfl, q, fun p hp => ?_⟩
        refine ans_ok h (sr.gpure hp) (sr.pure (o := .lst (cutV vs lo hi)) hp) ?_
        unfold RepW Rep
        refine ⟨p, _, rfl, upd_same, Reps.mono (sr.gpure hp).f ?_⟩
        unfold cutL cutV
        rw [← rd.length]
        exact (rd.drop _).take _
  cases w with
  | c n => exact lists h
  | p d =>
    cases d with
    | str z =>
      cases r.str
      have h : Ans C (RepW C) φ F (if sizeOk z.length then Rs.ok (str (cutS z lo hi)) S else .no) Q (fun _ _ _ => False) := h
      by_cases hz : sizeOk z.length
      · rw [if_pos hz] at h
        exact sl_str pins s σ H _ v vl vu lo hi sl Q I rx hs pl pu ⟨z, rfl, sizeOk_line hz, ans_ok h (Grow.refl _ _) sr repW_str⟩
      · rw [if_neg hz] at h; exact (show False from h).elim
    | _ => exact lists h
theorem sSlc {lo hi : Option Expr} {fl fh : EF} {p2 : Pos} (ha : SE X C U a fa) (hl : SO X C U lo fl) (hh : SO X C U hi fh) : SE X C U (.Subscript a (.Slice lo hi none p2) pos) (fSlc fa fl fh) := by
  obtain ⟨tl, pl, kl⟩ := hl.ex
  obtain ⟨th, ph, kh⟩ := hh.ex
  refine PE.imp (pe_slice (sl_any (C := C)) ha pl ph) fun σ H Q ⟨φ, F, S, ρ, sr, re, h⟩ => ?_
  refine tE.then' (g := fun w S => (fl ρ S).bind fun l S => (fh ρ S).bind fun h S => (cutF w l h S).noex) sr re h fun w S1 φ1 F1 v H1 s1 e1 r1 g1 h1 => ?_
  refine kl _ _ _ ⟨φ1, F1, S1, ρ, s1, e1, (Ans.bind (Rel := fun _ _ w b => optI w = some b) h1).mono (fun lo H2 ⟨wl, S2, φ2, F2, g2, s2, q2, h2⟩ => ?_) fun _ _ _ z => z⟩
  refine kh _ _ _ ⟨φ2, F2, S2, ρ, s2, e1.mono g2, (Ans.bind (Rel := fun _ _ w b => optI w = some b) h2).mono (fun hi H3 ⟨wh, S3, φ3, F3, g3, s3, q3, h3⟩ => ?_) fun _ _ _ z => z⟩
  exact ⟨φ3, F3, S3, w, wl, wh, s3, (r1.mono g2).mono g3, q2, q3, h3.noex⟩
end
end M
set_option Elab.async false
set_option linter.all false
set_option maxRecDepth 100000
set_option maxHeartbeats 4000000
namespace M
open PySem PySem.Spec PyProof.Rows L2
/-! ### statements -/
inductive B where
  | nil
  | seq (s r : B)
  | set (i : Nat) (e : E)
  | par (i j : Nat) (es : E)
  | unp (is : List Nat) (e : E)
  | fld (o : E) (f : Str) (e : E)
  | put (o i e : E)
  | ret (e : E)
  | retN
  | ife (c : E) (a b : B)
  | whl (c : E) (b : B)
  | fori (g : Tg) (it : E) (b : B)
  | exp (e : E)
  | brk | cnt | pas
  | rse0 (c : Str)
  | rse1 (c : Str) (e : E)
  | tryO (b : B) (c : Str) (s : B)
  | tryA (b : B) (c : Str) (i : Nat) (s : B)
inductive Fl where
  | nx | bk | ct | rt (w : W)
inductive Rt where
  | no | ok (ρ : Env) (f : Fl) (S : Sto) | ex (c : Str) (ks : List Str) (ds : List D) (ρ : Env) (S : Sto)
abbrev SF := Env → Sto → Rt
/-- from an expression's answer to a statement's -/
def Rs.to {α : Type} (r : Rs α) (ρ : Env) (k : α → Sto → Rt) : Rt := match r with
  | .no => .no
  | .ok a S => k a S
  | .ex c ks ds S => .ex c ks ds ρ S
@[simp] theorem Rs.to_no {α : Type} {ρ : Env} {k : α → Sto → Rt} : (Rs.no : Rs α).to ρ k = .no := rfl
@[simp] theorem Rs.to_ok {α : Type} {a : α} {S : Sto} {ρ : Env} {k : α → Sto → Rt} : (Rs.ok a S).to ρ k = k a S := rfl
@[simp] theorem Rs.to_ex {α : Type} {c ks ds} {S : Sto} {ρ : Env} {k : α → Sto → Rt} : (Rs.ex c ks ds S : Rs α).to ρ k = .ex c ks ds ρ S := rfl
/-- behind a statement that goes on -/
def Rt.then (r : Rt) (k : Env → Sto → Rt) : Rt := match r with
  | .ok ρ .nx S => k ρ S
  | r => r
@[simp] theorem Rt.then_nx {ρ : Env} {S : Sto} {k : Env → Sto → Rt} : (Rt.ok ρ .nx S).then k = k ρ S := rfl
@[simp] theorem Rt.then_rt {ρ : Env} {S : Sto} {w : W} {k : Env → Sto → Rt} : (Rt.ok ρ (.rt w) S).then k = .ok ρ (.rt w) S := rfl
@[simp] theorem Rt.then_bk {ρ : Env} {S : Sto} {k : Env → Sto → Rt} : (Rt.ok ρ .bk S).then k = .ok ρ .bk S := rfl
@[simp] theorem Rt.then_ct {ρ : Env} {S : Sto} {k : Env → Sto → Rt} : (Rt.ok ρ .ct S).then k = .ok ρ .ct S := rfl
@[simp] theorem Rt.then_no {k : Env → Sto → Rt} : Rt.no.then k = .no := rfl
@[simp] theorem Rt.then_ex {c ks ds} {ρ : Env} {S : Sto} {k : Env → Sto → Rt} : (Rt.ex c ks ds ρ S).then k = .ex c ks ds ρ S := rfl
/-- behind a loop's body -/
def Rt.loop (r : Rt) (k : Env → Sto → Rt) : Rt := match r with
  | .ok ρ .nx S => k ρ S
  | .ok ρ .ct S => k ρ S
  | .ok ρ .bk S => .ok ρ .nx S
  | r => r
@[simp] theorem Rt.loop_nx {ρ : Env} {S : Sto} {k : Env → Sto → Rt} : (Rt.ok ρ .nx S).loop k = k ρ S := rfl
@[simp] theorem Rt.loop_ct {ρ : Env} {S : Sto} {k : Env → Sto → Rt} : (Rt.ok ρ .ct S).loop k = k ρ S := rfl
@[simp] theorem Rt.loop_bk {ρ : Env} {S : Sto} {k : Env → Sto → Rt} : (Rt.ok ρ .bk S).loop k = .ok ρ .nx S := rfl
@[simp] theorem Rt.loop_rt {ρ : Env} {S : Sto} {w : W} {k : Env → Sto → Rt} : (Rt.ok ρ (.rt w) S).loop k = .ok ρ (.rt w) S := rfl
@[simp] theorem Rt.loop_no {k : Env → Sto → Rt} : Rt.no.loop k = .no := rfl
@[simp] theorem Rt.loop_ex {c ks ds} {ρ : Env} {S : Sto} {k : Env → Sto → Rt} : (Rt.ex c ks ds ρ S).loop k = .ex c ks ds ρ S := rfl
def bNil : SF := fun ρ S => .ok ρ .nx S
def bSeq (s r : SF) : SF := fun ρ S => (s ρ S).then r
def bSet (i : Nat) (e : EF) : SF := fun ρ S => (e ρ S).to ρ fun w S => .ok (ρ.set i (some w)) .nx S
def bPar (i j : Nat) (es : AF) : SF := fun ρ S => (es ρ S).to ρ fun ws S => match ws with
  | [v, w] => .ok ((ρ.set i (some v)).set j (some w)) .nx S
  | _ => .no
def bUnp (is : List Nat) (e : EF) : SF := fun ρ S => (e ρ S).to ρ fun w S => match tupOf w with
  | some ws => if ws.length = is.length then .ok (setAll ρ is ws) .nx S else .no
  | none => .no
def putK (f : Str) (w : W) : List Str → List W → List Str × List W
  | k :: ks, u :: us => if k = f then (k :: ks, w :: us) else (k :: (putK f w ks us).1, u :: (putK f w ks us).2)
  | _, _ => ([f], [w])
def fldS (o u : W) (f : Str) (S : Sto) : Option Sto := match o with
  | .c n => match S[n]? with
    | some (.live (.ins c ks ws)) => if ks.length < 100 ∧ ks.length = ws.length then some (S.set n (.live (.ins c (putK f u ks ws).1 (putK f u ks ws).2))) else none
    | _ => none
  | _ => none
def bFld (o : EF) (f : Str) (e : EF) : SF := fun ρ S => (e ρ S).to ρ fun u S => (o ρ S).to ρ fun w S => match fldS w u f S with
  | some S => .ok ρ .nx S
  | none => .no
def putS (o i u : W) (S : Sto) : Option Sto := match o with
  | .c n => match S[n]? with
    | some (.live (.lst ws)) => match i with
      | .p (.int k) => (ixO ws.length k).map fun j => S.set n (.live (.lst (ws.set j u)))
      | _ => none
    | some (.live (.dic ks ws)) => (keyW i).bind fun k => if ks.length < 100000 ∧ ks.length = ws.length then some (S.set n (.live (.dic (putW k u ks ws).1 (putW k u ks ws).2))) else none
    | _ => none
  | _ => none
def bPut (o i e : EF) : SF := fun ρ S => (e ρ S).to ρ fun u S => (o ρ S).to ρ fun w S => (i ρ S).to ρ fun k S => match putS w k u S with
  | some S => .ok ρ .nx S
  | none => .no
def bRet (e : EF) : SF := fun ρ S => (e ρ S).to ρ fun w S => .ok ρ (.rt w) S
def bRetN : SF := fun ρ S => .ok ρ (.rt (.p .non)) S
def bIf (c : TF) (a b : SF) : SF := fun ρ S => (c ρ S).to ρ fun k S => if k = true then a ρ S else b ρ S
def bExp (e : EF) : SF := fun ρ S => (e ρ S).to ρ fun _ S => .ok ρ .nx S
def bBrk : SF := fun ρ S => .ok ρ .bk S
def bCnt : SF := fun ρ S => .ok ρ .ct S
/-- turns of a loop: n at most -/
def whlN (c : TF) (b : SF) : Nat → SF
  | 0, _, _ => .no
  | n + 1, ρ, S => (c ρ S).to ρ fun k S => if k = true then (b ρ S).loop (whlN c b n) else .ok ρ .nx S
/-- as many turns as it needs -/
noncomputable def bWhl (c : TF) (b : SF) : SF := fun ρ S => open Classical in if h : ∃ n, whlN c b n ρ S ≠ .no then whlN c b (Classical.choose h) ρ S else .no
def forL (g : Tg) (b : SF) : List W → SF
  | [], ρ, S => .ok ρ .nx S
  | w :: ws, ρ, S => match g.set ρ w with
    | some ρ' => (b ρ' S).loop (forL g b ws)
    | none => .no
def bFor (g : Tg) (it : AF) (b : SF) : SF := fun ρ S => (it ρ S).to ρ fun ws S => forL g b ws ρ S

/-! ### what a statement's answer asks -/
def AnsS (C : Cl) (φ : List Addr) (F : Hp) (r : Rt) (D : Ends) (U : WX) : Prop := match r with
  | .no => False
  | .ok ρ f S => ∀ σ φ' F' H', Grow φ F φ' F' → SR C φ' F' S H' → EnvR C φ' F' ρ σ → (match f with
    | .nx => D.nx σ H'
    | .bk => D.bk σ H'
    | .ct => D.ct σ H'
    | .rt w => ∀ v, RepW C φ' F' w v → D.rt v H')
  | .ex c ks ds ρ S => ∀ cls d σ φ' F' H', Grow φ F φ' F' → SR C φ' F' S H' → EnvR C φ' F' ρ σ → ExR C F' c ks ds cls d → U cls d σ H'
def tS (C : Cl) (U : WX) (f : SF) : TS := fun D σ H => ∃ φ F S ρ, SR C φ F S H ∧ EnvR C φ F ρ σ ∧ AnsS C φ F (f ρ S) D U
section
variable {C : Cl} {U : WX} {φ φ' : List Addr} {F F' : Hp} {D : Ends}
theorem AnsS.grow {r : Rt} (g : Grow φ F φ' F') (h : AnsS C φ F r D U) : AnsS C φ' F' r D U := by
  cases r with
  | no => exact h
  | ok ρ f S => exact fun σ φ2 F2 H' g2 s e => h σ φ2 F2 H' (g.trans g2) s e
  | ex c ks ds ρ S => exact fun cl d σ φ2 F2 H' g2 s e q => h cl d σ φ2 F2 H' (g.trans g2) s e q
/-- an expression first -/
theorem AnsS.to {α β : Type} {Rel : List Addr → Hp → α → β → Prop} {r : Rs α} {ρ : Env} {σ : L2.St} {k : α → Sto → Rt} (re : EnvR C φ F ρ σ) (h : AnsS C φ F (r.to ρ k) D U) :
    Ans C Rel φ F r (fun b H1 => ∃ a S1 φ1 F1, Grow φ F φ1 F1 ∧ SR C φ1 F1 S1 H1 ∧ EnvR C φ1 F1 ρ σ ∧ Rel φ1 F1 a b ∧ AnsS C φ1 F1 (k a S1) D U) (fun c d H' => U c d σ H') := by
  cases r with
  | no => exact h
  | ok a S => exact fun b φ' F' H' g' s q => ⟨a, S, φ', F', g', s, re.mono g', q, AnsS.grow g' h⟩
  | ex c ks ds S => exact fun cl d φ' F' H' g s q => h cl d σ φ' F' H' g s (re.mono g) q
theorem AnsS.nx {ρ : Env} {S : Sto} {σ : L2.St} {H : Hp} (h : AnsS C φ F (.ok ρ .nx S) D U) (s : SR C φ F S H) (e : EnvR C φ F ρ σ) : D.nx σ H := h σ φ F H (Grow.refl _ _) s e
end
end M
set_option Elab.async false
set_option linter.all false
set_option maxRecDepth 100000
set_option maxHeartbeats 4000000
namespace M
open PySem PySem.Spec PyProof.Rows L2
section
variable {X : Cx} {C : Cl} {G : Gt} {U : WX} {a b c o e : Expr} {fa fb fc fo fe : EF} {tc : TF} {pos : Pos} {es : List Expr} {fs : AF} {st : Stmt} {sts : List Stmt} {f g : SF}
abbrev SS (X : Cx) (C : Cl) (U : WX) (s : Stmt) (f : SF) : Prop := PS X s (tS C U f)
abbrev SSs (X : Cx) (C : Cl) (U : WX) (s : List Stmt) (f : SF) : Prop := PSs X s (tS C U f)
theorem PS.imp {s : Stmt} {t t' : TS} (h : PS X s t) (k : ∀ D σ H, t' D σ H → t D σ H) : PS X s t' := ⟨fun pins s σ H D I q => h.run pins s σ H D I (k _ _ _ q)⟩
theorem PSs.imp {s : List Stmt} {t t' : TS} (h : PSs X s t) (k : ∀ D σ H, t' D σ H → t D σ H) : PSs X s t' := ⟨fun pins s σ H D I q => h.run pins s σ H D I (k _ _ _ q)⟩
theorem bsNil : SSs X C U [] bNil := PSs.imp pss_nil fun D σ H ⟨φ, F, S, ρ, sr, re, h⟩ => AnsS.nx h sr re
/-- one after another -/
theorem AnsS.then {φ : List Addr} {F : Hp} {r : Rt} {k : SF} {D : Ends} (h : AnsS C φ F (r.then k) D U) : AnsS C φ F r { D with nx := fun σ H => tS C U k D σ H } U := by
  cases r with
  | no => exact h
  | ex c ks ds ρ S => exact h
  | ok ρ f S =>
    cases f with
    | nx => exact fun σ φ' F' H' g s e => ⟨φ', F', S, ρ, s, e, AnsS.grow g h⟩
    | bk => exact h
    | ct => exact h
    | rt w => exact h
theorem bsSeq (hs : SS X C U st f) (hr : SSs X C U sts g) : SSs X C U (st :: sts) (bSeq f g) := by
  refine PSs.imp (pss_cons hs hr) fun D σ H ⟨φ, F, S, ρ, sr, re, h⟩ => ?_
  exact ⟨φ, F, S, ρ, sr, re, AnsS.then h⟩
theorem tE.to {f : EF} {k : W → Sto → Rt} {σ : L2.St} {H : Hp} {D : Ends} {R : V → Hp → Prop} {φ : List Addr} {F : Hp} {S : Sto} {ρ : Env} (s : SR C φ F S H) (r : EnvR C φ F ρ σ) (h : AnsS C φ F ((f ρ S).to ρ k) D U)
    (kk : ∀ w S1 φ1 F1 v H1, SR C φ1 F1 S1 H1 → EnvR C φ1 F1 ρ σ → RepW C φ1 F1 w v → Grow φ F φ1 F1 → AnsS C φ1 F1 (k w S1) D U → R v H1) : tE C U f σ H R :=
  ⟨φ, F, S, ρ, s, r, (AnsS.to (Rel := RepW C) r h).mono (fun v H1 ⟨w, S1, φ1, F1, g1, s1, e1, q, z⟩ => kk w S1 φ1 F1 v H1 s1 e1 q g1 z) fun _ _ _ z => z⟩
theorem tA.to {f : AF} {k : List W → Sto → Rt} {σ : L2.St} {H : Hp} {D : Ends} {R : List V → Hp → Prop} {φ : List Addr} {F : Hp} {S : Sto} {ρ : Env} (s : SR C φ F S H) (r : EnvR C φ F ρ σ) (h : AnsS C φ F ((f ρ S).to ρ k) D U)
    (kk : ∀ w S1 φ1 F1 v H1, SR C φ1 F1 S1 H1 → EnvR C φ1 F1 ρ σ → RepWs C φ1 F1 w v → Grow φ F φ1 F1 → AnsS C φ1 F1 (k w S1) D U → R v H1) : tA C U f σ H R :=
  ⟨φ, F, S, ρ, s, r, (AnsS.to (Rel := RepWs C) r h).mono (fun v H1 ⟨w, S1, φ1, F1, g1, s1, e1, q, z⟩ => kk w S1 φ1 F1 v H1 s1 e1 q g1 z) fun _ _ _ z => z⟩
theorem tT.to {f : TF} {k : Bool → Sto → Rt} {σ : L2.St} {H : Hp} {D : Ends} {R : Bool → Hp → Prop} {φ : List Addr} {F : Hp} {S : Sto} {ρ : Env} (s : SR C φ F S H) (r : EnvR C φ F ρ σ) (h : AnsS C φ F ((f ρ S).to ρ k) D U)
    (kk : ∀ b S1 φ1 F1 H1, SR C φ1 F1 S1 H1 → EnvR C φ1 F1 ρ σ → Grow φ F φ1 F1 → AnsS C φ1 F1 (k b S1) D U → R b H1) : tT C U f σ H R :=
  ⟨φ, F, S, ρ, s, r, (AnsS.to (Rel := fun _ _ b b' => b = b') r h).mono (fun v H1 ⟨w, S1, φ1, F1, g1, s1, e1, q, z⟩ => by subst q; exact kk w S1 φ1 F1 H1 s1 e1 g1 z) fun _ _ _ z => z⟩
theorem bsSet {i : Nat} {x : Str} {p : Pos} (hh : Free C i) (hN : X.N.Nodup) (hi : X.N[i]? = some x) (hx : Loc X.env.scope x) (hs : swapsWith e (some (.Name x p)) pos.line X.env = pure false) (hf : X.fn x = true ∨ X.env.scope.names.lookup x = some .local) (he : SE X C U e fe) : SS X C U (.Assign [.Name x p] e pos) (bSet i fe) := by
  refine PS.imp (ps_set hN hi hx he hs hf) fun D σ H ⟨φ, F, S, ρ, sr, re, h⟩ => ?_
  refine tE.to sr re h fun w S1 φ1 F1 v H1 s1 e1 r1 g1 h1 => ?_
  exact AnsS.nx h1 s1 (e1.set i hh r1)
theorem bsPar {i j : Nat} {x y : Str} {px py pt : Pos} {kt k2 pt2} (hhi : Free C i) (hhj : Free C j) (hc : X.calm = true) (hN : X.N.Nodup) (hi : X.N[i]? = some x) (hj : X.N[j]? = some y) (hij : i ≠ j)
    (hx : X.env.scope.names.lookup x = some .local) (hy : X.env.scope.names.lookup y = some .local) (ha : SA X C U [a, b] fs)
    (hw : swappedStores [.Tuple [.Name x px, .Name y py] kt pt] (.Tuple [a, b] k2 pt2) X.env = pure (some [x, y])) : SS X C U (.Assign [.Tuple [.Name x px, .Name y py] kt pt] (.Tuple [a, b] k2 pt2) pos) (bPar i j fs) := by
  refine PS.imp (ps_par hc hN hi hj hij hx hy ha hw) fun D σ H ⟨φ, F, S, ρ, sr, re, h⟩ => ?_
  refine tA.to sr re h fun ws S1 φ1 F1 vs H1 s1 e1 r1 g1 h1 => ?_
  cases r1 with
  | nil => exact (show False from h1).elim
  | cons q1 t1 =>
    cases t1 with
    | nil => exact (show False from h1).elim
    | cons q2 t2 =>
      cases t2 with
      | nil => exact ⟨_, _, rfl, AnsS.nx h1 s1 ((e1.set i hhi q1).set j hhj q2)⟩
      | cons q3 t3 => exact (show False from h1).elim
theorem bsRet (he : SE X C U e fe) : SS X C U (.Return (some e) pos) (bRet fe) := by
  refine PS.imp (ps_ret he) fun D σ H ⟨φ, F, S, ρ, sr, re, h⟩ => ?_
  exact tE.to sr re h fun w S1 φ1 F1 v H1 s1 e1 r1 g1 h1 => h1 σ φ1 F1 H1 (Grow.refl _ _) s1 e1 v r1
theorem bsRetN : SS X C U (.Return none pos) bRetN := by
  refine PS.imp ps_retN fun D σ H ⟨φ, F, S, ρ, sr, re, h⟩ => h σ φ F H (Grow.refl _ _) sr re .non repW_non
theorem bsIf {sa sb : List Stmt} (hc : ST X C U c tc) (ha : SSs X C U sa f) (hb : SSs X C U sb g) : SS X C U (.If c sa sb pos) (bIf tc f g) := by
  refine PS.imp (ps_if hc ha hb) fun D σ H ⟨φ, F, S, ρ, sr, re, h⟩ => ?_
  refine tT.to sr re h fun k S1 φ1 F1 H1 s1 e1 g1 h1 => ?_
  cases k with
  | true => exact ⟨φ1, F1, S1, ρ, s1, e1, h1⟩
  | false => exact ⟨φ1, F1, S1, ρ, s1, e1, h1⟩
theorem bsExp (hs : swapsWith e none pos.line X.env = pure false) (he : SE X C U e fe) : SS X C U (.Expr e pos) (bExp fe) := by
  refine PS.imp (ps_expr he hs) fun D σ H ⟨φ, F, S, ρ, sr, re, h⟩ => ?_
  exact tE.to sr re h fun w S1 φ1 F1 v H1 s1 e1 r1 g1 h1 => AnsS.nx h1 s1 e1
theorem bsPas : SS X C U (.Pass pos) bNil := PS.imp ps_pass fun D σ H ⟨φ, F, S, ρ, sr, re, h⟩ => AnsS.nx h sr re
theorem bsDoc {x j p} : SS X C U (.Expr (.Constant (.str x) j p) pos) bNil := PS.imp ps_doc fun D σ H ⟨φ, F, S, ρ, sr, re, h⟩ => AnsS.nx h sr re
theorem bsBrk : SS X C U (.Break pos) bBrk := PS.imp ps_break fun D σ H ⟨φ, F, S, ρ, sr, re, h⟩ => h σ φ F H (Grow.refl _ _) sr re
theorem bsCnt : SS X C U (.Continue pos) bCnt := PS.imp ps_continue fun D σ H ⟨φ, F, S, ρ, sr, re, h⟩ => h σ φ F H (Grow.refl _ _) sr re
/-- a loop's body -/
theorem AnsS.loop {φ : List Addr} {F : Hp} {r : Rt} {k : SF} {D : Ends} (h : AnsS C φ F (r.loop k) D U) : AnsS C φ F r { D with nx := fun σ H => tS C U k D σ H, ct := fun σ H => tS C U k D σ H, bk := D.nx } U := by
  cases r with
  | no => exact h
  | ex c ks ds ρ S => exact h
  | ok ρ f S =>
    cases f with
    | nx => exact fun σ φ' F' H' g s e => ⟨φ', F', S, ρ, s, e, AnsS.grow g h⟩
    | bk => exact h
    | ct => exact fun σ φ' F' H' g s e => ⟨φ', F', S, ρ, s, e, AnsS.grow g h⟩
    | rt w => exact h
theorem bsWhl {sb : List Stmt} (hp : PassesOwn (model X.prog X.w) X.A X.env X.xe) (hc : ST X C U c tc) (hb : SSs X C U sb f) : SS X C U (.While c sb [] pos) (bWhl tc f) := by
  refine PS.imp (ps_while hp hc hb) fun D σ H ⟨φ, F, S, ρ, sr, re, h⟩ => ?_
  unfold bWhl at h
  by_cases hn : ∃ n, whlN tc f n ρ S ≠ .no
  · rw [dif_pos hn] at h
    refine ⟨fun m σ H => tS C U (whlN tc f m) D σ H, ⟨_, ⟨φ, F, S, ρ, sr, re, h⟩⟩, fun m σ H ⟨φ, F, S, ρ, sr, re, h⟩ => ?_⟩
    cases m with
    | zero => exact (show False from h).elim
    | succ m =>
      refine tT.to sr re (show AnsS C φ F ((tc ρ S).to ρ fun k S => if k = true then (f ρ S).loop (whlN tc f m) else .ok ρ .nx S) D U from h) fun k S1 φ1 F1 H1 s1 e1 g1 h1 => ?_
      cases k with
      | true => exact ⟨fun σ H => tS C U (whlN tc f m) D σ H, fun σ' H' z => ⟨m, Nat.lt_succ_self m, z⟩, φ1, F1, S1, ρ, s1, e1, AnsS.loop h1⟩
      | false => exact AnsS.nx h1 s1 e1
  · rw [dif_neg hn] at h; exact (show False from h).elim
end
end M
set_option Elab.async false
set_option linter.all false
set_option maxRecDepth 100000
set_option maxHeartbeats 4000000
namespace M
open PySem PySem.Spec PyProof.Rows L2
section
variable {X : Cx} {C : Cl} {G : Gt} {U : WX} {a b c o e : Expr} {fa fb fc fo fe : EF} {tc : TF} {pos : Pos} {es : List Expr} {fs fi : AF} {st : Stmt} {sts : List Stmt} {f g : SF}
/-- an iterator that gives these things -/
def Yl (C : Cl) (φ : List Addr) (F : Hp) (ws : List W) (J : It) : Prop := ∃ vs, RepWs C φ F ws vs ∧ ∀ H, (∀ a o, F a = some o → Hd H a o) →
  (∀ i, i < vs.length → J.go i H ∧ ∀ y H', J.yld i H y H' → vs[i]? = some y ∧ H' = H) ∧ J.stop vs.length H
theorem Yl.mono {φ φ' : List Addr} {F F' : Hp} {ws : List W} {J : It} (g : Grow φ F φ' F') (h : Yl C φ F ws J) : Yl C φ' F' ws J := by
  obtain ⟨vs, r, k⟩ := h
  exact ⟨vs, r.mono g, fun H hh => k H fun a o e => hh a o (g.f a o e)⟩
theorem yl_list {φ : List Addr} {F : Hp} {ws : List W} {vs : List V} {a : Addr} {K : PySem.W.Frag} (r : RepWs C φ F ws vs) (h : ∀ H, (∀ a o, F a = some o → Hd H a o) → SqL K H a vs) (inj : ∀ H ys, SqL K H a ys → SqL K H a vs → ys = vs) : Yl C φ F ws (Itl K a) := by
  refine ⟨vs, r, fun H hh => ⟨fun i hi => ⟨⟨vs, vs[i], h H hh, by simp [hi]⟩, fun y H' ⟨e, k⟩ => ⟨k vs (h H hh), e⟩⟩, ⟨vs, h H hh, Nat.le_refl _⟩⟩⟩
theorem yl_tup {φ : List Addr} {F : Hp} {ws : List W} {vs : List V} {a : Addr} {K : PySem.W.Frag} (r : RepWs C φ F ws vs) (h : ∀ H, (∀ a o, F a = some o → Hd H a o) → SqT K H a vs) : Yl C φ F ws (Itt K a) := by
  refine ⟨vs, r, fun H hh => ⟨fun i hi => ⟨⟨vs, vs[i], h H hh, by simp [hi]⟩, fun y H' ⟨e, k⟩ => ⟨k vs (h H hh), e⟩⟩, ⟨vs, h H hh, Nat.le_refl _⟩⟩⟩
/-- what a walk reads -/
structure SI (X : Cx) (C : Cl) (U : WX) (it : Expr) (f : AF) : Prop where
  ex : ∀ tg, ∃ wi, PI X tg it wi ∧ ∀ σ H (R : It → Hp → Prop), (∃ φ F S ρ, SR C φ F S H ∧ EnvR C φ F ρ σ ∧ Ans C (Yl C) φ F (f ρ S) R (fun c d H' => U c d σ H')) → wi σ H R
  fs : ∀ x, foldedSetIterable it X.env x = pure x
/-- not a set display -/
def noSet : Expr → Bool
  | .Set .. => false
  | _ => true
theorem folded_of (h : noSet e = true) : ∀ x, foldedSetIterable e X.env x = pure x := by
  intro x
  cases e <;> first | rfl | (exact absurd (show false = true from h) Bool.false_ne_true)
theorem pi_any {tg l : Expr} {tl : TE} (hl : PE X l tl) : PI X tg l (fun σ H R => tl σ H fun x H1 => (∃ a, x = .ref a ∧ (((∃ xs, SqL X.K H1 a xs) ∧ R (Itl X.K a) H1) ∨ ((∃ xs, SqT X.K H1 a xs) ∧ R (Itt X.K a) H1))) ∨ (∃ z, x = .str z ∧ R (Its z) H1) ∨ ∃ d ob kvs, x = .ref d ∧ H1 d = some (.frz ob (.dK kvs)) ∧ R (Itk d ob kvs) H1) := by
  refine ⟨fun pins s σ H R I h => ?_⟩
  refine thn (hl.run pins s σ H _ I h) fun v s1 ⟨x, H1, I1, r1, q1⟩ => ?_
  rcases q1 with ⟨a, e, q1⟩ | ⟨z, e, q1⟩ | ⟨d, ob, kvs, e, hl, q1⟩
  case inr.inr =>
    subst e
    cases r1
    obtain ⟨n1, n2, n3, es, ep, us, n4, n5, _⟩ := I1.frzK hl
    exact iter_keys n1 n2 n3 n4 (pi_one (tk := s1.toks) I1 _ (turn_keys _ n4) ⟨_, Heap.get?_push_size _ rfl, rfl, by rw [n5]; rfl⟩ q1)
  case inr.inl =>
    subst e
    obtain ⟨tk, rfl⟩ := r1
    cases hw : z.cps.all (· < 128) with
    | false => exact wpAny_pyIter_wide hw (pi_one (tk := s1.toks) I1 _ (turn_str _ z tk "str_iterator" (Or.inr rfl)) ⟨_, Heap.get?_push_size _ rfl, rfl, rfl⟩ q1)
    | true => exact wpAny_pyIter_ascii hw (pi_one (tk := s1.toks) I1 _ (turn_str _ z tk "str_ascii_iterator" (Or.inl rfl)) ⟨_, Heap.get?_push_size _ rfl, rfl, rfl⟩ q1)
  subst e
  cases r1
  rcases q1 with ⟨⟨xs, hq⟩, q⟩ | ⟨⟨xs, hq⟩, q⟩
  · obtain ⟨its, rv, p, hz⟩ := I1.list hq
    refine wpAny_pyIter_list p.isList ?_
    refine ⟨s1.heap.objs.size, [s1.heap.objs.size], _, _, H1, rfl, I1.kept (t' := s1.toks) fun b o e => Heap.get?_push_of_some _ e, turn_list a _, ⟨_, Heap.get?_push_size _ rfl, rfl, rfl⟩, fun b hb => ?_, q⟩
    have e : b = s1.heap.objs.size := by simpa using hb
    subst e
    exact I1.fpOk (Nat.le_refl _) (I1.hok.fresh (Nat.le_refl _))
  · obtain ⟨its, rv, p, hz⟩ := I1.tuple hq
    refine wpAny_pyIter_tuple (show s1.heap.IsTuple a its.toArray from p) ?_
    refine ⟨s1.heap.objs.size, [s1.heap.objs.size], _, _, H1, rfl, I1.kept (t' := s1.toks) fun b o e => Heap.get?_push_of_some _ e, turn_tuple a _, ⟨_, Heap.get?_push_size _ rfl, rfl, rfl⟩, fun b hb => ?_, q⟩
    have e : b = s1.heap.objs.size := by simpa using hb
    subst e
    exact I1.fpOk (Nat.le_refl _) (I1.hok.fresh (Nat.le_refl _))
theorem siOf (hs : noSet e = true) (he : SE X C U e fe) : SI X C U e (iOf fe) := by
  refine ⟨fun tg => ⟨_, pi_any he, fun σ H R ⟨φ, F, S, ρ, sr, re, h⟩ => ?_⟩, folded_of hs⟩
  refine tE.then' (g := fun w S => ofO (walkOf S w) S) sr re h fun w S1 φ1 F1 v H1 s1 e1 r1 g1 h1 => ?_
  obtain ⟨ws, ew, h1⟩ := ofO_inv h1
  cases w with
  | c n => cases ew
  | p d =>
    cases d <;> simp [walkOf] at ew
    · rename_i z
      subst ew
      cases r1.str
      refine .inr (.inl ⟨z, rfl, ans_ok h1 (Grow.refl _ _) s1 ?_⟩)
      refine ⟨z.cps.toList.map fun c => V.str ⟨#[c]⟩, ?_, fun H hh => ⟨fun i hi => ?_, ?_⟩⟩
      · have : ∀ l : List Nat, RepWs C φ1 F1 (l.map fun c => str ⟨#[c]⟩) (l.map fun c => V.str ⟨#[c]⟩) := fun l => by
          induction l with
          | nil => exact .nil
          | cons x l ih => exact .cons repW_str ih
        exact this _
      · have hi : i < z.cps.size := by simpa using hi
        refine ⟨hi, fun y H' ⟨e, c, hc, k⟩ => ⟨?_, e⟩⟩
        rw [k, List.getElem?_map, Array.getElem?_toList, hc]
        rfl
      · show z.cps.size ≤ _
        simp
    · subst ew
      unfold RepW Rep at r1
      obtain ⟨ad, vs, rfl, f, q⟩ := r1
      refine .inl ⟨ad, rfl, .inl ⟨⟨vs, .inl (s1.fh _ _ f).rd⟩, ans_ok h1 (Grow.refl _ _) s1 ?_⟩⟩
      refine ⟨vs, repWs_p.mpr q, fun H hh => ⟨fun i hi => ⟨⟨vs, vs[i], .inl (hh _ _ f).rd, by simp [hi]⟩, fun y H' ⟨e, k⟩ => ⟨k vs (.inl (hh _ _ f).rd), e⟩⟩, ⟨vs, .inl (hh _ _ f).rd, Nat.le_refl _⟩⟩⟩
    · subst ew
      unfold RepW Rep at r1
      obtain ⟨ad, vs, rfl, f, q⟩ := r1
      refine .inl ⟨ad, rfl, .inr ⟨⟨vs, .inl (s1.fh _ _ f).rd⟩, ans_ok h1 (Grow.refl _ _) s1 ?_⟩⟩
      refine ⟨vs, repWs_p.mpr q, fun H hh => ⟨fun i hi => ⟨⟨vs, vs[i], .inl (hh _ _ f).rd, by simp [hi]⟩, fun y H' ⟨e, k⟩ => ⟨k vs (.inl (hh _ _ f).rd), e⟩⟩, ⟨vs, .inl (hh _ _ f).rd, Nat.le_refl _⟩⟩⟩
    · subst ew
      unfold RepW Rep at r1
      obtain ⟨ad, vs, ob, rfl, f, q, l⟩ := r1
      rename_i ks ds _
      have lv : ks.length = vs.length := by rw [l]; exact q.length
      have at_ : ∀ {H : Hp}, (∀ a o, F1 a = some o → Hd H a o) → H ad = some (.frz ob (.dK (ks.zip vs))) := fun {H} hh => (hh _ _ f).at (by simp [Lk])
      have rk : ∀ ks : List Key, RepWs C φ1 F1 (ks.map keyD) (ks.map kV) := fun ks => by
        induction ks with
        | nil => exact .nil
        | cons k ks ih => exact .cons (by cases k <;> first | exact repW_int | exact repW_str) ih
      refine .inr (.inr ⟨ad, ob, _, rfl, at_ s1.fh, ans_ok h1 (Grow.refl _ _) s1 ?_⟩)
      refine ⟨ks.map kV, rk ks, fun H hh => ⟨fun i hi => ⟨⟨at_ hh, by rw [List.length_map] at hi; rw [List.length_zip]; omega⟩, fun y H' ⟨e, k, v, hk, hx⟩ => ⟨?_, e⟩⟩, at_ hh, by rw [List.length_map, List.length_zip]; omega⟩⟩
      rw [hx, List.getElem?_map]
      have hz := List.getElem?_zip_eq_some.mp hk
      rw [hz.1]; rfl
    · subst ew
      unfold RepW Rep at r1
      obtain ⟨ad, vs, ob, rfl, f, q⟩ := r1
      have sq : ∀ {H : Hp}, (∀ a o, F1 a = some o → Hd H a o) → SqL X.K H ad vs := fun {H} hh => .inl (.inr ⟨ob, (hh _ _ f).at (by simp [Lk])⟩)
      refine .inl ⟨ad, rfl, .inl ⟨⟨vs, sq s1.fh⟩, ans_ok h1 (Grow.refl _ _) s1 ?_⟩⟩
      refine ⟨vs, repWs_p.mpr q, fun H hh => ⟨fun i hi => ⟨⟨vs, vs[i], sq hh, by simp [hi]⟩, fun y H' ⟨e, k⟩ => ⟨k vs (sq hh), e⟩⟩, ⟨vs, sq hh, Nat.le_refl _⟩⟩⟩
theorem siRng {p : Pos} (hg : Gl X "range") (hm : X.mg "range" = none) (hp : plainE a = true) (ha : SA X C U [a] fs) : SI X C U (.Call (.Name "range" p) [a] [] pos) (iRng fs) := by
  refine ⟨fun tg => ⟨_, pi_range1 hg hm ha (by rw [star_cons hp, starNil]), fun σ H R ⟨φ, F, S, ρ, sr, re, h⟩ => ?_⟩, fun x => rfl⟩
  refine tA.then' (g := fun ws S => match ws with
  | [.p (.int n)] => if -(2 ^ 62) ≤ n ∧ n < 2 ^ 62 then .ok ((List.range n.toNat).map fun (k : Nat) => int (k : Int)) S else .no
  | _ => .no) sr re h fun ws S1 φ1 F1 vs H1 s1 e1 r1 g1 h1 => ?_
  match ws, r1, h1 with
  | [.p (.int n)], r1, h1 =>
    obtain ⟨x, rfl, rx⟩ := vals_one (ws := []) r1
    cases rx.int
    have h1 : Ans C (Yl C) φ1 F1 (if -(2 ^ 62) ≤ n ∧ n < 2 ^ 62 then Rs.ok ((List.range n.toNat).map fun (k : Nat) => int (k : Int)) S1 else .no) R (fun c d H' => U c d σ H') := h1
    by_cases hn : -(2 ^ 62) ≤ n ∧ n < 2 ^ 62
    · rw [if_pos hn] at h1
      refine ⟨n, rfl, hn.1, hn.2, ans_ok h1 (Grow.refl _ _) s1 ?_⟩
      refine ⟨(List.range n.toNat).map fun (k : Nat) => V.int (k : Int), ?_, fun H hh => ⟨fun i hi => ?_, ?_⟩⟩
      · have : ∀ l : List Nat, RepWs C φ1 F1 (l.map fun (k : Nat) => int (k : Int)) (l.map fun (k : Nat) => V.int (k : Int)) := fun l => by
          induction l with
          | nil => exact .nil
          | cons x l ih => exact .cons repW_int ih
        exact this _
      · have hi : i < n.toNat := by simpa using hi
        refine ⟨hi, fun y H' ⟨e, k⟩ => ⟨?_, e⟩⟩
        rw [k]
        simp [hi]
      · show n.toNat ≤ _
        simp
    · rw [if_neg hn] at h1; exact (show False from h1).elim
/-- targets -/
def tgs (N : List Str) (sc : Scope) (fn : Str → Bool) : List Expr → List Nat → Bool
  | [], [] => true
  | .Name x _ :: ts, i :: is => decide (N[i]? = some x) && decide (sc.names.lookup x = some .local) && tgs N sc fn ts is
  | _, _ => false
def Tg.slots : Tg → List Nat
  | .one i => [i]
  | .all is => is
theorem wipe_in {i : Nat} : ∀ {σ : L2.St} {vs : List Nat}, i ∈ vs → (L2.wipe σ vs)[i]? = if i < σ.length then some none else none := by
  intro σ vs
  induction vs with
  | nil => intro h; cases h
  | cons v vs ih =>
    intro h
    unfold L2.wipe
    by_cases hv : v = i
    · subst hv
      by_cases hl : v < σ.length
      · rw [List.getElem?_set_self (by rw [L2.wipe_length]; exact hl), if_pos hl]
      · rw [List.getElem?_eq_none (by rw [List.length_set, L2.wipe_length]; omega), if_neg hl]
    · rw [List.getElem?_set_ne hv]
      exact ih ((List.mem_cons.mp h).resolve_left fun e => hv e.symm)
theorem wipe_ext {σ σ' : L2.St} {vs : List Nat} (hl : σ.length = σ'.length) (h : ∀ j, j ∉ vs → σ[j]? = σ'[j]?) : L2.wipe σ vs = L2.wipe σ' vs := by
  apply List.ext_getElem?
  intro i
  by_cases hi : i ∈ vs
  · rw [wipe_in hi, wipe_in hi, hl]
  · rw [L2.wipe_out hi, L2.wipe_out hi, h i hi]
/-- alike but for these slots -/
def Alike (is : List Nat) (σ' σ : L2.St) : Prop := σ'.length = σ.length ∧ ∀ j, j ∉ is → σ'[j]? = σ[j]?
theorem Alike.wipe {is vs : List Nat} {σ σ' : L2.St} (h : Alike is σ' σ) (k : ∀ i ∈ is, i ∈ vs) : L2.wipe σ' vs = L2.wipe σ vs := wipe_ext h.1 fun j hj => h.2 j fun z => hj (k j z)
/-- a target fits -/
structure ST_ (X : Cx) (C : Cl) (tg : Expr) (g : Tg) : Prop where
  ex : ∃ t, PG X tg t ∧ ∀ v σ H (Q : L2.St → Hp → Prop), (∃ φ F S ρ ρ' w, SR C φ F S H ∧ EnvR C φ F ρ σ ∧ RepW C φ F w v ∧ g.set ρ w = some ρ' ∧ ∀ σ', Alike g.slots σ' σ → EnvR C φ F ρ' σ' → Q σ' H) → t v σ H Q
theorem stOne {i : Nat} {x : Str} {p : Pos} (hh : Free C i) (hN : X.N.Nodup) (hi : X.N[i]? = some x) (hx : Loc X.env.scope x) (hf : X.fn x = true ∨ X.env.scope.names.lookup x = some .local) : ST_ X C (.Name x p) (.one i) :=
  ⟨_, pg_name hN hi hx hf, fun v σ H Q ⟨φ, F, S, ρ, ρ', w, sr, re, r, e, k⟩ => by
    cases e
    exact k _ ⟨by simp, fun j hj => by rw [List.getElem?_set_ne (fun z => hj (by simp [Tg.slots, z]))]⟩ (re.set i hh r)⟩
structure STs (X : Cx) (C : Cl) (ts : List Expr) (is : List Nat) : Prop where
  ex : ∃ t, PGs X ts t ∧ ∀ vs σ H (Q : L2.St → Hp → Prop), (∃ φ F ρ ws, EnvR C φ F ρ σ ∧ RepWs C φ F ws vs ∧ ws.length = is.length ∧ ∀ σ', Alike is σ' σ → EnvR C φ F (setAll ρ is ws) σ' → Q σ' H) → t vs σ H Q
  len : (assignEach ts X.env).length = is.length
  st : (assignEach ts X.env).findIdx? (·.1) = none
theorem stsNil : STs X C [] [] := ⟨⟨_, pgs_nil, fun vs σ H Q ⟨φ, F, ρ, ws, re, r, e, k⟩ => by
  cases ws with
  | cons w ws => cases e
  | nil => cases r; exact ⟨rfl, k _ ⟨rfl, fun _ _ => rfl⟩ re⟩⟩, by simp [assignEach], by simp [assignEach]⟩
theorem stsCons {ts : List Expr} {is : List Nat} {i : Nat} {x : Str} {p : Pos} (hh : Free C i) (hN : X.N.Nodup) (hi : X.N[i]? = some x) (hx : Loc X.env.scope x) (hf : X.fn x = true ∨ X.env.scope.names.lookup x = some .local) (h : STs X C ts is) : STs X C (.Name x p :: ts) (i :: is) := by
  obtain ⟨⟨t, h1, h2⟩, h3, h4⟩ := h
  have e : assignEach (.Name x p :: ts) X.env = (false, assign (.Name x p) X.env) :: assignEach ts X.env := by simp [assignEach]
  refine ⟨⟨_, pgs_cons (pg_name hN hi hx hf) h1 (by rw [e]; rfl), fun vs σ H Q ⟨φ, F, ρ, ws, re, r, el, k⟩ => ?_⟩, by rw [e, List.length_cons, h3]; rfl, by rw [e, List.findIdx?_cons]; simp [h4]⟩
  cases r with
  | nil => cases el
  | cons q t => exact ⟨_, _, rfl, h2 _ _ _ _ ⟨φ, F, ρ.set i (some _), _, re.set i hh q, t, by simpa using el, fun σ' al => k σ' ⟨by rw [al.1]; simp, fun j hj => by
      rw [al.2 j (fun z => hj (List.mem_cons_of_mem _ z)), List.getElem?_set_ne (fun z => hj (by rw [z]; exact List.mem_cons_self))]⟩⟩⟩
theorem stAll {ts : List Expr} {is : List Nat} {k : Nat} {p : Pos} (hc : X.calm = true) (h : STs X C ts is) : ST_ X C (.Tuple ts k p) (.all is) := by
  obtain ⟨⟨t, h1, h2⟩, h3, h4⟩ := h
  refine ⟨_, pg_tup hc h1 h3 h4, fun v σ H Q ⟨φ, F, S, ρ, ρ', w, sr, re, r, e, k⟩ => ?_⟩
  have e : (match tupOf w with
      | some ws => if ws.length = is.length then some (setAll ρ is ws) else none
      | none => none) = some ρ' := e
  cases et : tupOf w with
  | none => rw [et] at e; cases e
  | some ws =>
    rw [et] at e
    dsimp only at e
    by_cases hl : ws.length = is.length
    · rw [if_pos hl] at e
      cases e
      cases w with
      | c n => cases et
      | p d =>
        cases d <;> simp [tupOf] at et
        subst et
        unfold RepW Rep at r
        obtain ⟨a, vs, rfl, f, q⟩ := r
        refine ⟨a, vs, rfl, .inl (sr.fh _ _ f).rd, ?_, h2 _ _ _ _ ⟨φ, F, ρ, _, re, repWs_p.mpr q, hl, k⟩⟩
        rw [← q.length, ← hl, List.length_map]
    · rw [if_neg hl] at e; cases e
theorem bsUnp {ts : List Expr} {is : List Nat} {k : Nat} {p : Pos} (hc : X.calm = true) (he : SE X C U e fe) (h : STs X C ts is) (hs : swapsWithSole [.Tuple ts k p] e pos.line X.env = pure false) (hw : swappedStores [.Tuple ts k p] e X.env = pure none) : SS X C U (.Assign [.Tuple ts k p] e pos) (bUnp is fe) := by
  obtain ⟨t, h1, h2⟩ := (stAll (k := k) (p := p) hc h).ex
  refine PS.imp (ps_asg he h1 hs hw (by simp [assignEach])) fun D σ H ⟨φ, F, S, ρ, sr, re, hh⟩ => ?_
  refine tE.to sr re hh fun w S1 φ1 F1 v H1 s1 e1 r1 g1 q1 => ?_
  cases et : tupOf w with
  | none => rw [et] at q1; exact (show False from q1).elim
  | some ws =>
    rw [et] at q1
    dsimp only at q1
    by_cases hl : ws.length = is.length
    · rw [if_pos hl] at q1
      exact h2 _ _ _ _ ⟨φ1, F1, S1, ρ, setAll ρ is ws, w, s1, e1, r1, by simp [Tg.set, et, hl], fun σ' _ e' => AnsS.nx q1 s1 e'⟩
    · rw [if_neg hl] at q1; exact (show False from q1).elim
theorem bsFor {tg it : Expr} {sb : List Stmt} {gt : Tg} (hp : PassesOwn (model X.prog X.w) X.A X.env X.xe) (hc : X.calm = true) (hi : SI X C U it fi) (hg : ST_ X C tg gt) (hb : SSs X C U sb f) : SS X C U (.For tg it sb [] pos) (bFor gt fi f) := by
  obtain ⟨wi, p1, k1⟩ := hi.ex tg
  obtain ⟨t, p2, k2⟩ := hg.ex
  refine PS.imp (ps_for hp hc p1 p2 hb hi.fs) fun D σ H ⟨φ, F, S, ρ, sr, re, h⟩ => ?_
  refine k1 _ _ _ ⟨φ, F, S, ρ, sr, re, (AnsS.to (Rel := Yl C) re h).mono (fun J H1 ⟨ws, S1, φ1, F1, g1, s1, e1, y1, h1⟩ => ?_) fun _ _ _ z => z⟩
  obtain ⟨vs, rv, ky⟩ := y1
  refine ⟨fun i m σ H => m = vs.length - i ∧ i ≤ vs.length ∧ ∃ φ' F' S' ρ', Grow φ1 F1 φ' F' ∧ SR C φ' F' S' H ∧ EnvR C φ' F' ρ' σ ∧ AnsS C φ' F' (forL gt f (ws.drop i) ρ' S') D U, ⟨_, rfl, Nat.zero_le _, φ1, F1, S1, ρ, Grow.refl _ _, s1, e1, h1⟩, fun i m σ H ⟨em, hi, φ', F', S', ρ', g', s', e', h'⟩ => ?_⟩
  obtain ⟨kk, ks⟩ := ky H fun a o e => s'.fh a o (g'.f a o e)
  by_cases hlt : i < vs.length
  · obtain ⟨go, yd⟩ := kk i hlt
    refine .inr ⟨go, fun σ H => ∃ φ' F' S' ρ', Grow φ1 F1 φ' F' ∧ SR C φ' F' S' H ∧ EnvR C φ' F' ρ' σ ∧ AnsS C φ' F' (forL gt f (ws.drop (i + 1)) ρ' S') D U, fun σ' H' z => ⟨vs.length - (i + 1), by omega, rfl, hlt, z⟩, fun x H' y => ?_⟩
    obtain ⟨ex, eh⟩ := yd x H' y
    subst eh
    have hlw : i < ws.length := by rw [rv.length]; exact hlt
    have ew : ws.drop i = ws[i] :: ws.drop (i + 1) := List.drop_eq_getElem_cons hlw
    rw [ew] at h'
    obtain ⟨x', ex', rx⟩ := paired_get rv (List.getElem?_eq_getElem hlw)
    rw [ex] at ex'
    cases ex'
    unfold forL at h'
    cases eg : gt.set ρ' ws[i] with
    | none => rw [eg] at h'; exact (show False from h').elim
    | some ρ2 =>
      rw [eg] at h'
      refine k2 _ _ _ _ ⟨φ', F', S', ρ', ρ2, ws[i], s', e', rx.mono g', eg, fun σ' _ e2 => ?_⟩
      have h' : AnsS C φ' F' ((f ρ2 S').loop (forL gt f (ws.drop (i + 1)))) D U := h'
      have z := AnsS.loop (k := forL gt f (ws.drop (i + 1))) h'
      refine ⟨φ', F', S', ρ2, s', e2, ?_⟩
      -- the growth so far is kept
      cases er : f ρ2 S' with
      | no => rw [er] at z; exact z
      | ex c ks ds ρ S => rw [er] at z; exact z
      | ok ρ3 fl S3 =>
        rw [er] at h'
        cases fl with
        | nx => exact fun σ φ'' F'' H'' g s e => ⟨φ'', F'', S3, ρ3, g'.trans g, s, e, AnsS.grow g h'⟩
        | bk => exact h'
        | ct => exact fun σ φ'' F'' H'' g s e => ⟨φ'', F'', S3, ρ3, g'.trans g, s, e, AnsS.grow g h'⟩
        | rt w => exact h'
  · have ei : i = vs.length := by omega
    subst ei
    refine .inl ⟨ks, ?_⟩
    have : ws.drop vs.length = [] := List.drop_eq_nil_of_le (by rw [rv.length]; exact Nat.le_refl _)
    rw [this] at h'
    exact AnsS.nx h' s' e'
end
end M
set_option Elab.async false
set_option linter.all false
set_option maxRecDepth 100000
set_option maxHeartbeats 4000000
namespace M
open PySem PySem.Spec PyProof.Rows L2
section
variable {X : Cx} {C : Cl} {G : Gt} {U : WX} {a b c o e i : Expr} {fa fb fc fo fe fx : EF} {tc : TF} {pos : Pos} {es : List Expr} {fs fi : AF} {st : Stmt} {sts : List Stmt} {f g : SF}
theorem putK_zip {f : Str} {w : W} {v : V} {φ : List Addr} {F : Hp} (r : RepW C φ F w v) : ∀ {ks : List Str} {ws : List W} {vs : List V}, RepWs C φ F ws vs → ks.length = ws.length → ∃ vs', putF f v (ks.zip vs) = (putK f w ks ws).1.zip vs' ∧ RepWs C φ F (putK f w ks ws).2 vs' ∧ (putK f w ks ws).1.length = (putK f w ks ws).2.length
  | [], ws, vs, h, l => ⟨[v], by simp [putK, putF], by simp [putK]; exact .cons r .nil, by simp [putK]⟩
  | k :: ks, [], vs, h, l => by simp at l
  | k :: ks, u :: us, _, .cons q t, l => by
    rename_i x vs
    by_cases e : k = f
    · exact ⟨v :: vs, by simp [putK, putF, e], by simp [putK, e]; exact .cons r t, by simpa [putK, e] using l⟩
    · obtain ⟨vs', h1, h2, h3⟩ := putK_zip (f := f) r t (by simpa using l)
      refine ⟨x :: vs', ?_, ?_, ?_⟩
      · simp only [List.zip_cons_cons, putF, if_neg e, putK, h1]
      · simp only [putK, if_neg e]; exact .cons q h2
      · simp only [putK, if_neg e, List.length_cons, h3]
theorem bsFld {f : Str} {p' : Pos} (hf : ∀ c A, C.i c = some A → Cls X.K A ∧ NoAttr X.K A f) (ho : SE X C U o fo) (he : SE X C U e fe) (hs : swapsWith e (some (.Attribute o f p')) pos.line X.env = pure false) : SS X C U (.Assign [.Attribute o f p'] e pos) (bFld fo f fe) := by
  refine PS.imp (ps_fld ho he hs) fun D σ H ⟨φ, F, S, ρ, sr, re, h⟩ => ?_
  refine tE.to sr re h fun u S1 φ1 F1 y H1 s1 e1 r1 g1 h1 => ?_
  refine tE.to s1 e1 h1 fun w S2 φ2 F2 x H2 s2 e2 r2 g2 h2 => ?_
  cases ef : fldS w u f S2 with
  | none => rw [ef] at h2; exact (show False from h2).elim
  | some S3 =>
    rw [ef] at h2
    cases w with
    | p d => cases ef
    | c n =>
      obtain ⟨ad, ea, rfl⟩ := r2
      cases es : S2[n]? with
      | none => simp [fldS, es] at ef
      | some sl =>
        cases sl with
        | dead d => simp [fldS, es] at ef
        | live ct =>
          cases ct with
          | ins c ks ws =>
            simp [fldS, es] at ef
            obtain ⟨⟨l1, l2⟩, rfl⟩ := ef
            obtain ⟨_, ob, ho, A, dx, vs, hc, rfl, q, _⟩ := s2.sl n _ ad es ea
            obtain ⟨k1, k2⟩ := hf c A hc
            obtain ⟨vs', z1, z2, z3⟩ := putK_zip (f := f) (r1.mono g2) q l2
            refine ⟨ad, A, dx, _, rfl, ho, k1, k2, ?_, AnsS.nx h2 (s2.mut es ea (o := .ins A dx (putF f y (ks.zip vs))) ⟨A, dx, vs', hc, by rw [z1], z2, z3⟩) e2⟩
            rw [List.length_zip]; omega
          | _ => simp [fldS, es] at ef
theorem paired_set {α β : Type} {R : α → β → Prop} : ∀ {as : List α} {bs : List β} (j : Nat) {x : α} {y : β}, Paired R as bs → R x y → Paired R (as.set j x) (bs.set j y)
  | _, _, _, _, _, .nil, _ => .nil
  | _, _, 0, _, _, .cons _ t, r => .cons r t
  | _, _, j + 1, _, _, .cons q t, r => .cons q (paired_set j t r)
theorem in_keys {k : Key} : ∀ {ks : List Key} {vs : List V}, ks.length = vs.length → ((ks.zip vs).any fun kv => decide (kv.1 = k)) = ks.any fun j => decide (j = k)
  | [], vs, _ => by simp
  | j :: ks, [], h => by cases h
  | j :: ks, v :: vs, h => by
    have ih := in_keys (k := k) (ks := ks) (vs := vs) (by simpa using h)
    rw [List.zip_cons_cons, List.any_cons, List.any_cons, ih]
theorem putW_zip {φ : List Addr} {F : Hp} {k : Key} {u : W} {y : V} {ks : List Key} {ws : List W} {vs : List V} (r : RepW C φ F u y) (q : RepWs C φ F ws vs) (l : ks.length = ws.length) :
    ∃ vs', L2.putK (ks.zip vs) k y = (putW k u ks ws).1.zip vs' ∧ RepWs C φ F (putW k u ks ws).2 vs' ∧ (putW k u ks ws).1.length = (putW k u ks ws).2.length := by
  have lv : ks.length = vs.length := by rw [l]; exact q.length
  have a := in_keys (k := k) lv
  unfold L2.putK putW
  rw [a]
  by_cases h : (ks.any fun j => decide (j = k)) = true
  · rw [if_pos h, if_pos h]
    have z : ∀ (ks : List Key) (ws : List W) (vs : List V), RepWs C φ F ws vs → ks.length = ws.length → ∃ vs', ((ks.zip vs).map fun kv => if kv.1 = k then (kv.1, y) else kv) = ks.zip vs' ∧ RepWs C φ F (List.zipWith (fun j w => if j = k then u else w) ks ws) vs' := by
      intro ks
      induction ks with
      | nil => exact fun ws vs _ _ => ⟨[], by simp, by simp; exact .nil⟩
      | cons j ks ih =>
        intro ws vs q l
        cases q with
        | nil => cases l
        | @cons w v ws vs rr t =>
          obtain ⟨vs', e1, e2⟩ := ih ws vs t (by simpa using l)
          by_cases e : j = k
          · exact ⟨y :: vs', by simp [e, e1], by simp only [List.zipWith_cons_cons, if_pos e]; exact .cons r e2⟩
          · exact ⟨v :: vs', by simp [e, e1], by simp only [List.zipWith_cons_cons, if_neg e]; exact .cons rr e2⟩
    obtain ⟨vs', e1, e2⟩ := z ks ws vs q l
    exact ⟨vs', e1, e2, by simp [l]⟩
  · rw [if_neg h, if_neg h]
    exact ⟨vs ++ [y], by rw [List.zip_append lv]; rfl, paired_append q (.cons r .nil), by simp [l]⟩
/-- a[i] = v, a list or a dict -/
def rSetA : TSet := fun o i v H Q => rSetL o i v H Q ∨ ∃ a H', o = .ref a ∧ DPut H a i v H' ∧ Q H'
theorem set_any (hu : X.A.units + 1 < cLine) : PSet X rSetA := by
  intro pins s σ H o i v ov iv u Q I ro ri rv h
  rcases h with h | ⟨a, H', rfl, g, q⟩
  · exact set_list pins s σ H o i v ov iv u Q I ro ri rv h
  · cases ro
    exact d_setItem hu I g ri rv fun s' I' => ⟨H', I', q⟩
theorem bsPut (hu : X.A.units + 65 < cLine) {p' : Pos} (ho : SE X C U o fo) (hi : SE X C U i fx) (he : SE X C U e fe) (hx : PlainIx i) (hs : swapsWithSole [.Subscript o i p'] e pos.line X.env = pure false) (hw : swappedStores [.Subscript o i p'] e X.env = pure none)
    (ha : ∀ v, assign (.Subscript o i p') X.env v = (do
      let ov ← holding [v] (eval o X.env)
      let iv ← holding [v, ov] (eval i X.env)
      standAt p'
      holding [v, ov, iv] (setItem ov iv v)
      release [v, ov, iv] [])) : SS X C U (.Assign [.Subscript o i p'] e pos) (bPut fo fx fe) := by
  refine PS.imp (ps_asg he (pg_sub ho hi (set_any (by omega)) ha) hs hw (by simp [assignEach])) fun D σ H ⟨φ, F, S, ρ, sr, re, h⟩ => ?_
  refine tE.to sr re h fun u S1 φ1 F1 y H1 s1 e1 r1 g1 h1 => ?_
  refine tE.to s1 e1 h1 fun w S2 φ2 F2 x H2 s2 e2 r2 g2 h2 => ?_
  refine tE.to s2 e2 h2 fun k S3 φ3 F3 z H3 s3 e3 r3 g3 h3 => ?_
  cases ef : putS w k u S3 with
  | none => rw [ef] at h3; exact (show False from h3).elim
  | some S4 =>
    rw [ef] at h3
    cases w with
    | p d => cases ef
    | c n =>
      obtain ⟨ad, ea, rfl⟩ := r2.mono g3
      cases es : S3[n]? with
      | none => simp [putS, es] at ef
      | some sl =>
        cases sl with
        | dead d => simp [putS, es] at ef
        | live ct =>
          cases ct with
          | lst ws =>
            cases k with
            | c m => simp [putS, es] at ef
            | p d =>
              cases d with
              | int kk =>
                cases r3.int
                have ef : (ixO ws.length kk).map (fun j => S3.set n (.live (.lst (ws.set j u)))) = some S4 := by simpa [putS, es] using ef
                obtain ⟨j, ej, rfl⟩ := map_some ef
                obtain ⟨_, ob, hob, vs, rfl, q⟩ := s3.sl n _ ad es ea
                refine .inl ⟨ad, vs, kk, j, rfl, rfl, hob, ?_, AnsS.nx h3 (s3.mut es ea (o := .lst (vs.set j y)) ⟨_, rfl, paired_set j q ((r1.mono g2).mono g3)⟩) e3⟩
                rw [← q.length, ← ixO_eq]; exact ej
              | _ => simp [putS, es] at ef
          | dic ks ws =>
            have ef : ((keyW k).bind fun k => if ks.length < 100000 ∧ ks.length = ws.length then some (S3.set n (.live (.dic (putW k u ks ws).1 (putW k u ks ws).2))) else none) = some S4 := by
              have : putS (.c n) k u S3 = (keyW k).bind fun k => if ks.length < 100000 ∧ ks.length = ws.length then some (S3.set n (.live (.dic (putW k u ks ws).1 (putW k u ks ws).2))) else none := by
                unfold putS; dsimp only; rw [es]
              rw [← this]; exact ef
            obtain ⟨kk, ek, ef⟩ := Option.bind_eq_some_iff.mp ef
            split at ef
            · rename_i hl
              cases ef
              obtain ⟨_, ob, hob, vs, rfl, q, l⟩ := s3.sl n _ ad es ea
              obtain ⟨vs', z1, z2, z3⟩ := putW_zip (k := kk) ((r1.mono g2).mono g3) q l
              refine .inr ⟨ad, _, rfl, .inl ⟨_, kk, hob, key_V r3 ek, ?_, rfl⟩, AnsS.nx h3 (s3.mut es ea (o := .dK (L2.putK (ks.zip vs) kk y)) ⟨vs', by rw [z1], z2, z3⟩) e3⟩
              rw [List.length_zip, sizeLine_eq]; omega
            · cases ef
          | _ => simp [putS, es] at ef
/-! comprehensions -/
theorem EnvR.wipe {φ : List Addr} {F : Hp} {ρ : Env} {σ : L2.St} (hh : C.h = none) (h : EnvR C φ F ρ σ) : ∀ vs : List Nat, EnvR C φ F (wipeE ρ vs) (L2.wipe σ vs)
  | [] => h
  | v :: vs => (EnvR.wipe hh h vs).unset v (free_none hh v) none
theorem seal_ans {φ φ1 : List Addr} {F F1 H : Hp} {S : Sto} {n : Nat} {a : Addr} {Q : VK} {E : XK} (hn : φ1.length = n) (g0 : Grow φ1 F1 φ F) (s : SR C φ F S H) (ea : φ[n]? = some a) (h : Ans C (RepW C) φ1 F1 (sealF n S) Q E) : Q (.ref a) H := by
  unfold sealF at h
  cases es : S[n]? with
  | none => rw [es] at h; exact (show False from h).elim
  | some sl =>
    rw [es] at h
    cases sl with
    | dead d => exact (show False from h).elim
    | live ct =>
      cases ct with
      | lst us =>
        dsimp only at h
        cases ep : pures us with
        | none => rw [ep] at h; exact ans_ok h g0 s ⟨a, ea, rfl⟩
        | some ds =>
          rw [ep] at h
          dsimp only at h
          obtain ⟨F', g, s', r'⟩ := s.freeze (d := .lst ds) es ea (by simp [Ct.pure, ep]) rfl
          exact ans_ok (h.fin hn) (g0.trans g) s' r'
      | _ => exact (show False from h).elim
theorem Ans.noexb {α β γ δ : Type} {Rel : List Addr → Hp → α → β → Prop} {Rel' : List Addr → Hp → γ → δ → Prop} {φ : List Addr} {F : Hp} {r : Rs α} {k : α → Sto → Rs γ} {Q : δ → Hp → Prop} {E E' : XK} (h : Ans C Rel' φ F (r.noex.bind k) Q E) :
    Ans C Rel φ F r (fun b H1 => ∃ a S1 φ1 F1, Grow φ F φ1 F1 ∧ SR C φ1 F1 S1 H1 ∧ Rel φ1 F1 a b ∧ Ans C Rel' φ1 F1 (k a S1) Q E) E' := (Ans.bind (Rel := Rel) (r := r.noex) h).noex
/-- no error leaves a block -/
abbrev U0 : WX := fun _ _ _ _ => False
structure STb (X : Cx) (C : Cl) (ifs : List Expr) (f : TF) : Prop where
  ex : PTs X ifs (tT C U0 f)
theorem stbNil : STb X C [] M.tYes := ⟨⟨fun pins s σ H Q I ⟨φ, F, S, ρ, sr, re, h⟩ => pts_nil.run pins s σ H Q I (ans_ok h (Grow.refl _ _) sr rfl)⟩⟩
theorem stbOne (h : ST X C U0 c tc) : STb X C [c] tc := ⟨⟨fun pins s σ H Q I q => (pts_one h).run pins s σ H Q I q⟩⟩
/-- what a comprehension's parts keep -/
structure CompOk (X : Cx) (C : Cl) (elt tg it : Expr) (ifs : List Expr) (scope : Scope) (own : List (Str × Nat)) (gt : Tg) (fe : EF) (ft : TF) : Prop where
  g : ∃ t, (∀ s H D cl fp, PG (X.blk s H scope (compEnvC scope cl D X.env) fp) tg t) ∧ ∀ v σ H (Q : L2.St → Hp → Prop), (∃ φ F S ρ ρ' w, SR C φ F S H ∧ EnvR C φ F ρ σ ∧ RepW C φ F w v ∧ gt.set ρ w = some ρ' ∧ ∀ σ', L2.wipe σ' (own.map (·.2)) = L2.wipe σ (own.map (·.2)) → EnvR C φ F ρ' σ' → Q σ' H) → t v σ H Q
  t : ∀ s H D cl fp, STb (X.blk s H scope (compEnvC scope cl D X.env) fp) C ifs ft
  e : ∀ s H D cl fp, SE (X.blk s H scope (compEnvC scope cl D X.env) fp) C U0 elt fe
theorem wipe_wipe {σ : L2.St} {vs : List Nat} : L2.wipe (L2.wipe σ vs) vs = L2.wipe σ vs := wipe_ext (L2.wipe_length _ _) fun j hj => L2.wipe_out hj
theorem lc_imp {own : List (Str × Nat)} {gt : Tg} {ft : TF} {wi : TI} {t : TG} (hh : C.h = none)
    (k1 : ∀ σ H (R : It → Hp → Prop), (∃ φ F S ρ, SR C φ F S H ∧ EnvR C φ F ρ σ ∧ Ans C (Yl C) φ F (fi ρ S) R (fun c d H' => U c d σ H')) → wi σ H R)
    (k2 : ∀ v σ H (Q : L2.St → Hp → Prop), (∃ φ F S ρ ρ' w, SR C φ F S H ∧ EnvR C φ F ρ σ ∧ RepW C φ F w v ∧ gt.set ρ w = some ρ' ∧ ∀ σ', L2.wipe σ' (own.map (·.2)) = L2.wipe σ (own.map (·.2)) → EnvR C φ F ρ' σ' → Q σ' H) → t v σ H Q) :
    ∀ σ H Q, tE C U (fComp fe own gt fi ft) σ H Q → tLc wi t (tT C U0 ft) (tE C U0 fe) (own.map (·.2)) σ H Q := by
  intro σ H Q ⟨φ, F, S, ρ, sr, re, h⟩
  refine k1 _ _ _ ⟨φ, F, S, ρ, sr, re, (Ans.bind (Rel := Yl C) h).mono (fun J H1 ⟨ws, S1, φ1, F1, g1, s1, y1, h1⟩ => ?_) fun _ _ _ z => z⟩
  intro D hD
  have h1 : Ans C (RepW C) φ1 F1 ((compL fe ft gt S1.length (wipeE ρ (own.map (·.2))) ws (S1 ++ [.live (.lst [])])).bind fun _ S2 => sealF S1.length S2) Q (fun c d H' => U c d σ H') := h1
  obtain ⟨vs, rv, ky⟩ := y1
  have e1 := (re.mono g1).wipe hh (own.map (·.2))
  have s2 := s1.cell hD (c := .lst []) (o := .lst []) ⟨[], rfl, .nil⟩
  have hD1 : (φ1 ++ [D])[S1.length]? = some D := by rw [← s1.len]; simp
  refine ⟨fun i m H => m = vs.length - i ∧ i ≤ vs.length ∧ ∃ φ' F' S', Grow φ1 F1 φ' F' ∧ φ'[S1.length]? = some D ∧ SR C φ' F' S' H ∧
    Ans C (RepW C) φ1 F1 ((compL fe ft gt S1.length (wipeE ρ (own.map (·.2))) (ws.drop i) S').bind fun _ S2 => sealF S1.length S2) Q (fun c d H' => U c d σ H'), ⟨_, rfl, Nat.zero_le _, φ1 ++ [D], F1, _, SR.gcell, hD1, s2, h1⟩, fun i m H2 ⟨em, hi, φ', F', S', g', ed, s', h'⟩ => ?_⟩
  obtain ⟨kk, ks⟩ := ky H2 fun a o e => s'.fh a o (g'.f a o e)
  by_cases hlt : i < vs.length
  · obtain ⟨go, yd⟩ := kk i hlt
    refine .inr ⟨go, fun H => ∃ φ' F' S', Grow φ1 F1 φ' F' ∧ φ'[S1.length]? = some D ∧ SR C φ' F' S' H ∧
      Ans C (RepW C) φ1 F1 ((compL fe ft gt S1.length (wipeE ρ (own.map (·.2))) (ws.drop (i + 1)) S').bind fun _ S2 => sealF S1.length S2) Q (fun c d H' => U c d σ H'), fun H' z => ⟨vs.length - (i + 1), by omega, rfl, hlt, z⟩, fun x H' y => ?_⟩
    obtain ⟨ex, eh⟩ := yd x H' y
    subst eh
    have hlw : i < ws.length := by rw [rv.length]; exact hlt
    have ew : ws.drop i = ws[i] :: ws.drop (i + 1) := List.drop_eq_getElem_cons hlw
    rw [ew] at h'
    obtain ⟨x', ex', rx⟩ := paired_get rv (List.getElem?_eq_getElem hlw)
    rw [ex] at ex'
    cases ex'
    unfold compL at h'
    cases eg : gt.set (wipeE ρ (own.map (·.2))) ws[i] with
    | none => rw [eg] at h'; exact (show False from h').elim
    | some ρ2 =>
      rw [eg] at h'
      refine k2 _ _ _ _ ⟨φ', F', S', _, ρ2, ws[i], s', (re.mono (g1.trans g')).wipe hh _, rx.mono g', eg, fun σ' ww e2 => ⟨by rw [ww, wipe_wipe], ?_⟩⟩
      have h' : Ans C (RepW C) φ1 F1 (((ft ρ2 S').noex.bind fun b S1' => if b = true then (fe ρ2 S1').noex.bind fun u S2 => match S2[S1.length]? with
        | some (.live (.lst us)) => if sizeOk (us.length + 1) then compL fe ft gt S1.length (wipeE ρ (own.map (·.2))) (ws.drop (i + 1)) (S2.set S1.length (.live (.lst (us ++ [u])))) else .no
        | _ => .no else compL fe ft gt S1.length (wipeE ρ (own.map (·.2))) (ws.drop (i + 1)) S1').bind fun _ S2 => sealF S1.length S2) Q (fun c d H' => U c d σ H') := h'
      refine ⟨φ', F', S', ρ2, s', e2, ?_⟩
      cases et : ft ρ2 S' with
      | no => rw [et] at h'; exact (show False from h').elim
      | ex c ks ds S => rw [et] at h'; exact (show False from h').elim
      | ok b S3 =>
        rw [et] at h'
        intro b' φ3 F3 H3 g3 s3 eb
        subst eb
        have e3 := e2.mono g3
        cases b with
        | false => exact ⟨φ3, F3, S3, g'.trans g3, g3.get ed, s3, h'⟩
        | true =>
          refine ⟨φ3, F3, S3, ρ2, s3, e3, ?_⟩
          have h' : Ans C (RepW C) φ1 F1 (((fe ρ2 S3).noex.bind fun u S2 => match S2[S1.length]? with
            | some (.live (.lst us)) => if sizeOk (us.length + 1) then compL fe ft gt S1.length (wipeE ρ (own.map (·.2))) (ws.drop (i + 1)) (S2.set S1.length (.live (.lst (us ++ [u])))) else .no
            | _ => .no).bind fun _ S2 => sealF S1.length S2) Q (fun c d H' => U c d σ H') := h'
          cases ee : fe ρ2 S3 with
          | no => rw [ee] at h'; exact (show False from h').elim
          | ex c ks ds S => rw [ee] at h'; exact (show False from h').elim
          | ok u S4 =>
            rw [ee] at h'
            intro y4 φ4 F4 H4 g4 s4 r4
            have h' : Ans C (RepW C) φ1 F1 ((match S4[S1.length]? with
              | some (.live (.lst us)) => if sizeOk (us.length + 1) then compL fe ft gt S1.length (wipeE ρ (List.map (fun (p : Str × Nat) => p.2) own)) (ws.drop (i + 1)) (S4.set S1.length (.live (.lst (us ++ [u])))) else .no
              | _ => .no).bind fun _ S2 => sealF S1.length S2) Q (fun c d H' => U c d σ H') := h'
            have ed4 : φ4[S1.length]? = some D := g4.get (g3.get ed)
            cases es : S4[S1.length]? with
            | none => rw [es] at h'; exact (show False from h').elim
            | some sl =>
              rw [es] at h'
              cases sl with
              | dead d => exact (show False from h').elim
              | live ct =>
                cases ct with
                | lst us =>
                  dsimp only at h'
                  by_cases hz : sizeOk (us.length + 1)
                  · rw [if_pos hz] at h'
                    obtain ⟨_, ob, hob, zs, rfl, q⟩ := s4.sl _ _ D es ed4
                    refine ⟨zs, hob, ?_, φ4, F4, _, (g'.trans g3).trans g4, ed4, s4.mut es ed4 (c' := .lst (us ++ [u])) (o := .lst (zs ++ [y4])) ⟨_, rfl, paired_append q (.cons r4 .nil)⟩, h'⟩
                    have := sizeOk_line hz
                    rw [← q.length]; omega
                  · rw [if_neg hz] at h'; exact (show False from h').elim
                | _ => exact (show False from h').elim
  · have ei : i = vs.length := by omega
    subst ei
    refine .inl ⟨ks, ?_⟩
    have : ws.drop vs.length = [] := List.drop_eq_nil_of_le (by rw [rv.length]; exact Nat.le_refl _)
    rw [this] at h'
    exact seal_ans s1.len g' s' ed h'
theorem sComp {elt tg it : Expr} {ifs : List Expr} {scope : Scope} {own : List (Str × Nat)} {gt : Tg} {ft : TF} (hh : C.h = none) (hc : X.calm = true) (hN : X.N.Nodup) (hi : SI X C U it fi) (ok : BlkOk X.N X.env.scope scope own) (K : CompOk X C elt tg it ifs scope own gt fe ft) :
    SE X C U (.ListComp elt [⟨tg, it, ifs, 0⟩] scope pos) (fComp fe own gt fi ft) := by
  obtain ⟨wi, p1, k1⟩ := hi.ex tg
  obtain ⟨t, p2, k2⟩ := K.g
  exact PE.imp (pe_lc hc hN p1 ok p2 (fun s H D cl fp => (K.t s H D cl fp).ex) K.e hi.fs) (lc_imp hh k1 k2)
theorem bsSetLc {i : Nat} {y : Str} {py : Pos} {elt tg it : Expr} {ifs : List Expr} {scope : Scope} {own : List (Str × Nat)} {gt : Tg} {ft : TF} {spos : Pos} (hh : C.h = none) (hc : X.calm = true) (hN : X.N.Nodup) (hy : X.N[i]? = some y) (hyl : X.env.scope.names.lookup y = some .local)
    (hsw : swapsWith (.ListComp elt [⟨tg, it, ifs, 0⟩] scope pos) (some (.Name y py)) spos.line X.env = pure true) (hi : SI X C U it fi) (ok : BlkOk X.N X.env.scope scope own) (K : CompOk X C elt tg it ifs scope own gt fe ft) :
    SS X C U (.Assign [.Name y py] (.ListComp elt [⟨tg, it, ifs, 0⟩] scope pos) spos) (bSet i (fComp fe own gt fi ft)) := by
  obtain ⟨wi, p1, k1⟩ := hi.ex tg
  obtain ⟨t, p2, k2⟩ := K.g
  refine PS.imp (ps_setLc hc hN hy hyl hsw p1 ok p2 (fun s H D cl fp => (K.t s H D cl fp).ex) K.e hi.fs) fun D σ H ⟨φ, F, S, ρ, sr, re, h⟩ => ?_
  refine lc_imp hh k1 k2 _ _ _ (tE.to sr re h fun w S1 φ1 F1 v H1 s1 e1 r1 g1 h1 => ?_)
  exact AnsS.nx h1 s1 (e1.set i (free_none hh i) r1)
end
end M
set_option Elab.async false
set_option linter.all false
set_option maxRecDepth 100000
set_option maxHeartbeats 4000000
namespace M
open PySem PySem.Spec PyProof.Rows L2
/-! ### errors -/
mutual
theorem Rep.to {C C' : Cl} (k : C.i = C'.i ∧ C.x = C'.x) {F : Hp} : ∀ {d : D} {v : V}, Rep C F d v → Rep C' F d v
  | .non, _, h => by simpa [Rep] using h
  | .bl _, _, h => by simpa [Rep] using h
  | .int _, _, h => by simpa [Rep] using h
  | .str _, _, h => by simpa [Rep] using h
  | .lst _, _, h => by
    unfold Rep at h ⊢
    obtain ⟨a, vs, e, f, r⟩ := h
    exact ⟨a, vs, e, f, Reps.to k r⟩
  | .tup _, _, h => by
    unfold Rep at h ⊢
    obtain ⟨a, vs, e, f, r⟩ := h
    exact ⟨a, vs, e, f, Reps.to k r⟩
  | .dic _ _, _, h => by
    unfold Rep at h ⊢
    obtain ⟨a, vs, ob, e, f, r, l⟩ := h
    exact ⟨a, vs, ob, e, f, Reps.to k r, l⟩
  | .dicT _ _, _, h => by
    unfold Rep at h ⊢
    obtain ⟨a, vs, ob, e, f, r, l⟩ := h
    exact ⟨a, vs, ob, e, f, Reps.to k r, l⟩
  | .ins _ _ _, _, h => by
    unfold Rep at h ⊢
    obtain ⟨a, A, dx, vs, e, c, f, r, l⟩ := h
    exact ⟨a, A, dx, vs, e, k.1 ▸ c, f, Reps.to k r, l⟩
  | .cls _, _, h => by
    unfold Rep at h ⊢
    obtain ⟨A, e, c⟩ := h
    exact ⟨A, e, k.1 ▸ c⟩
  | .fro _, _, h => by
    unfold Rep at h ⊢
    obtain ⟨a, vs, ob, e, f, r⟩ := h
    exact ⟨a, vs, ob, e, f, Reps.to k r⟩
  | .err _ _ _, _, h => by
    unfold Rep at h ⊢
    obtain ⟨a, A, vs, e, c, r, l, f⟩ := h
    exact ⟨a, A, vs, e, k.2 ▸ c, Reps.to k r, l, f⟩
theorem Reps.to {C C' : Cl} (k : C.i = C'.i ∧ C.x = C'.x) {F : Hp} : ∀ {ds : List D} {vs : List V}, Reps C F ds vs → Reps C' F ds vs
  | [], _, h => by simpa [Reps] using h
  | d :: ds, _, h => by
    unfold Reps at h ⊢
    obtain ⟨v, r, e, h1, h2⟩ := h
    exact ⟨v, r, e, Rep.to k h1, Reps.to k h2⟩
end
section
variable {C C' : Cl} {φ : List Addr} {F H : Hp} {S : Sto}
theorem RepW.to (k : C.i = C'.i ∧ C.x = C'.x) {w : W} {v : V} (r : RepW C φ F w v) : RepW C' φ F w v := by
  cases w with
  | p d => exact Rep.to k r
  | c n => exact r
theorem RepWs.to (k : C.i = C'.i ∧ C.x = C'.x) {ws : List W} {vs : List V} (r : RepWs C φ F ws vs) : RepWs C' φ F ws vs := Paired.imp (fun _ _ => RepW.to k) r
theorem RepCt.to (k : C.i = C'.i ∧ C.x = C'.x) {c : Ct} {o : HO} (r : RepCt C φ F c o) : RepCt C' φ F c o := by
  cases c with
  | lst ws => obtain ⟨vs, e, r⟩ := r; exact ⟨vs, e, r.to k⟩
  | dic ks ws => obtain ⟨vs, e, r, l⟩ := r; exact ⟨vs, e, r.to k, l⟩
  | dicT ks ws => obtain ⟨vs, e, r, l⟩ := r; exact ⟨vs, e, r.to k, l⟩
  | ins c ks ws => obtain ⟨A, dx, vs, ec, e, r, l⟩ := r; exact ⟨A, dx, vs, k.1 ▸ ec, e, r.to k, l⟩
theorem SR.to (k : C.i = C'.i ∧ C.x = C'.x) (x : Sub C'.e F) (s : SR C φ F S H) : SR C' φ F S H where
  fh := s.fh
  len := s.len
  nd := s.nd
  sl := fun n sl a e1 e2 => by
    have q := s.sl n sl a e1 e2
    cases sl with
    | live c => obtain ⟨f, o, ho, r⟩ := q; exact ⟨f, o, ho, r.to k⟩
    | dead d => exact Rep.to k q
  th := s.th
  xe := x
theorem EnvR.to (k : C.i = C'.i ∧ C.x = C'.x) (x : C'.h = none) {ρ : Env} {σ : L2.St} (e : EnvR C φ F ρ σ) : EnvR C' φ F ρ σ :=
  ⟨⟨e.1.1, fun p z => by rw [x] at z; cases z⟩, fun i w q => let ⟨v, h1, h2⟩ := e.2 i w q; ⟨v, h1, h2.to k⟩⟩
end
/-- what errors ask of the classes -/
structure XcF (X : Cx) (C : Cl) (sub : Str → Str → Bool) : Prop where
  nm : ∀ c A, C.x c = some A → X.mg c = some (.ref A) ∧ (c == ("__debug__" : Str)) = false
  sub : ∀ c A c' A', C.x c = some A → C.x c' = some A' → PySem.W.exmOne X.K (.ref A') (.ref A) = some (sub c' c)
  xf : ∀ c A, C.x c = some A → XfC X.K A
def noRt (r : Rt) : Rt := match r with
  | .ex _ _ _ _ _ => .no
  | r => r
/-- try: .. except c: .. -/
def bTryO (sub : Str → Str → Bool) (b : SF) (c : Str) (g : SF) : SF := fun ρ S => match b ρ S with
  | .ex c' ks ds ρ' S' => if sub c' c = true then noRt (g ρ' S') else .ex c' ks ds ρ' S'
  | r => r
section
variable {X : Cx} {C : Cl} {U : WX} {pos : Pos} {f g : SF} {sub : Str → Str → Bool}
theorem AnsS.noRt {φ : List Addr} {F : Hp} {r : Rt} {D : Ends} (h : AnsS C φ F (M.noRt r) D U) : AnsS C φ F r D U0 := by
  cases r with
  | no => exact h
  | ok ρ f S => exact h
  | ex c ks ds ρ S => exact (show False from h).elim
theorem bsTryO {c : Str} {A : Addr} {body suite : List Stmt} {b₀ : Stmt} {np p' : Pos} (N : XcF X C sub) (hA : C.x c = some A) (hg : Gl X c) (hs : X.stack = X.env :: X.outer) (hf : X.env.frame = some X.env.locals) (tk : Takes X U)
    (hb : ∀ (W : WX) (pn : List (Addr × Obj)) (xe : Value → Shared → Prop), Takes (X.tr pn xe) W → PassesOwn (model X.prog X.w) X.A X.env xe → SSs (X.tr pn xe) C W body f)
    (hsu : ∀ (a : Addr) (oe : Obj) (pn : List (Addr × Obj)), SSs (X.suite a ((a, oe) :: pn)) C U0 (b₀ :: suite) g) :
    SS X C U (.Try body [.ExceptHandler (some (.Name c np)) none (b₀ :: suite) p'] [] [] pos) (bTryO sub f c g) := by
  obtain ⟨n1, n2⟩ := N.nm c A hA
  refine PS.imp (ps_try_only (ts := fun _ _ _ => tS C U0 g) hs hf (show Names X c (.ref A) from ⟨hg, n2, .inl n1⟩) tk hb fun a oe cls d pn hz hv => hsu a oe pn) fun D σ H ⟨φ, F, S, ρ, sr, re, h⟩ => ?_
  refine ⟨φ, F, S, ρ, sr, re, ?_⟩
  unfold bTryO at h
  cases e : f ρ S with
  | no => rw [e] at h; exact h
  | ok ρ' fl S' => rw [e] at h; exact h
  | ex c' ks ds ρ' S' =>
    rw [e] at h
    dsimp only at h
    intro cls d σ' φ' F' H' g' s' e' q'
    obtain ⟨A', hc', rfl, hl, hd⟩ := q'
    refine ⟨sub c' c, N.sub c A c' A' hA hc', fun hy a ha => ?_, fun hn => ?_⟩
    · rw [if_pos hy] at h
      exact ⟨φ', F', S', ρ', s', e', (AnsS.grow g' h).noRt⟩
    · rw [if_neg (by rw [hn]; decide)] at h
      exact h (.ref A') d σ' φ' F' H' g' s' e' ⟨A', hc', rfl, hl, hd⟩
/-- the error that is handled, as the evaluator knows it -/
structure Hdl (C : Cl) (i : Nat) (a : Addr) (cls : Value) (d : Option Addr) (C' : Cl) (ks : List Str) (ds : List D) : Prop where
  ci : C'.i = C.i
  cx : C'.x = C.x
  ch : C'.h = some (i, a)
  cl : ∃ c A, C.x c = some A ∧ cls = .ref A
  fs : (ks = [] ∧ d = none) ∨ ∃ dd vs, d = some dd ∧ C'.e dd = some (.xd (ks.zip vs)) ∧ Reps C' C'.e ds vs
def Rt.leave (i : Nat) (r : Rt) : Rt := match r with
  | .ok ρ f S => .ok (ρ.set i none) f S
  | r => r
def bTryA (sub : Str → Str → Bool) (b : SF) (c : Str) (i : Nat) (g : List (Str × D) → SF) : SF := fun ρ S => match b ρ S with
  | .ex c' ks ds ρ' S' => if sub c' c = true then (if i < ρ'.length then (noRt (g (ks.zip ds) (ρ'.set i none) S')).leave i else .no) else .ex c' ks ds ρ' S'
  | r => r
theorem bsTryA {c n : Str} {i : Nat} {A : Addr} {body suite : List Stmt} {b₀ : Stmt} {np p' : Pos} {g : List (Str × D) → SF} (N : XcF X C sub) (hh : C.h = none) (hA : C.x c = some A) (hg : Gl X c) (hs : X.stack = X.env :: X.outer) (hf : X.env.frame = some X.env.locals)
    (hN : X.N.Nodup) (hi : X.N[i]? = some n) (hln : X.env.kindOf n = some .local) (tk : Takes X U)
    (hb : ∀ (W : WX) (pn : List (Addr × Obj)) (xe : Value → Shared → Prop), Takes (X.tr pn xe) W → PassesOwn (model X.prog X.w) X.A X.env xe → SSs (X.tr pn xe) C W body f)
    (hsu : ∀ (a : Addr) (oe : Obj) (cls : Value) (d : Option Addr) (pn : List (Addr × Obj)) (C' : Cl) (ks : List Str) (ds : List D), Zc cls d oe → (∃ vs, oe.data = .fields vs) → Hdl C i a cls d C' ks ds → SSs (X.suite a ((a, oe) :: pn)) C' U0 (b₀ :: suite) (g (ks.zip ds))) :
    SS X C U (.Try body [.ExceptHandler (some (.Name c np)) (some n) (b₀ :: suite) p'] [] [] pos) (bTryA sub f c i g) := by
  obtain ⟨n1, n2⟩ := N.nm c A hA
  refine PS.imp (ps_try_as (ts := fun a cls d D σ H => ∃ (C' : Cl) (ks : List Str) (ds : List M.D), Hdl C i a cls d C' ks ds ∧ tS C' U0 (g (ks.zip ds)) D σ H) hs hf hN hi hln (show Names X c (.ref A) from ⟨hg, n2, .inl n1⟩) tk hb
    fun a oe cls d pn hz hv => ⟨fun pins s σ H D I ⟨C', ks, ds, hd, q⟩ => (hsu a oe cls d pn C' ks ds hz hv hd).run pins s σ H D I q⟩) fun D σ H ⟨φ, F, S, ρ, sr, re, h⟩ => ?_
  refine ⟨φ, F, S, ρ, sr, re, ?_⟩
  unfold bTryA at h
  cases e : f ρ S with
  | no => rw [e] at h; exact h
  | ok ρ' fl S' => rw [e] at h; exact h
  | ex c' ks ds ρ' S' =>
    rw [e] at h
    dsimp only at h
    intro cls d σ' φ' F' H' g' s' e' q'
    obtain ⟨A', hc', rfl, hl, hd⟩ := q'
    refine ⟨sub c' c, N.sub c A c' A' hA hc', fun hy a ha => ?_, fun hn => ?_⟩
    · rw [if_pos hy] at h
      by_cases hil : i < ρ'.length
      · rw [if_pos hil] at h
        obtain ⟨C', ec⟩ : ∃ C' : Cl, C' = ⟨C.i, C.x, F', some (i, a)⟩ := ⟨_, rfl⟩
        have kI : C.i = C'.i := by rw [ec]
        have kX : C.x = C'.x := by rw [ec]
        have kB : C.i = C'.i ∧ C.x = C'.x := ⟨kI, kX⟩
        have kC : C'.i = C.i ∧ C'.x = C.x := ⟨kI.symm, kX.symm⟩
        have kE : C'.e = F' := by rw [ec]
        have kH : C'.h = some (i, a) := by rw [ec]
        refine ⟨C', ks, ds, ⟨kI.symm, kX.symm, kH, ⟨c', A', hc', rfl⟩, ?_⟩, φ', F', S', ρ'.set i none, s'.to kB (by rw [kE]; exact Sub.refl _), ?_, ?_⟩
        · rcases hd with hd | ⟨dd, vs, h1, h2, h3⟩
          · exact .inl hd
          · exact .inr ⟨dd, vs, h1, by rw [kE]; exact h2, by rw [kE]; exact Reps.to kB h3⟩
        · have z := e'.unset i (free_none hh i) (some (.ref a))
          refine ⟨⟨z.1.1, fun p hp => ?_⟩, fun j w q => let ⟨v, h1, h2⟩ := z.2 j w q; ⟨v, h1, h2.to kB⟩⟩
          rw [kH] at hp
          cases hp
          exact List.getElem?_set_self (by rw [← e'.1.1]; exact hil)
        · have h := AnsS.grow g' h
          show AnsS C' φ' F' (g (ks.zip ds) (ρ'.set i none) S') _ U0
          cases eg : g (ks.zip ds) (ρ'.set i none) S' with
          | no => rw [eg] at h; exact h
          | ex c ks ds ρ S => rw [eg] at h; exact (show False from h).elim
          | ok ρ2 fl S2 =>
            rw [eg] at h
            have h : AnsS C φ' F' (.ok (ρ2.set i none) fl S2) D U := h
            intro σ2 φ2 F2 H2 g2 s2 e2
            have k := h (σ2.set i none) φ2 F2 H2 g2 (s2.to kC (s'.xe.trans g2.f)) ((e2.to kC hh).unset i (free_none hh i) none)
            cases fl with
            | nx => exact k
            | bk => exact k
            | ct => exact k
            | rt w => exact fun v r => k v (r.to kC)
      · rw [if_neg hil] at h; exact (show False from h).elim
    · rw [if_neg (by rw [hn]; decide)] at h
      exact h (.ref A') d σ' φ' F' H' g' s' e' ⟨A', hc', rfl, hl, hd⟩
/-- e.f in the suite -/
theorem sExf {a : Addr} {oe : Obj} {cls : Value} {d : Option Addr} {pn : List (Addr × Obj)} {C' : Cl} {ks : List Str} {ds : List D} {i : Nat} {n f : Str} {p p2 : Pos} {G : Gt} (N : XcF X C sub) (hz : Zc cls d oe) (hv : ∃ vs, oe.data = .fields vs) (hd : Hdl C i a cls d C' ks ds)
    (hf : ∀ c A, C.x c = some A → PySem.W.findIn X.K (.ref A) f = some none) (hN : X.N[i]? = some n) (hvis : Vis X.env.scope n) (hdb : (n == ("__debug__" : Str)) = false) (hcd : (n == ("__classdict__" : Str)) = false) (hx : G.xf = ks.zip ds) : SE (X.suite a ((a, oe) :: pn)) C' U0 (.Attribute (.Name n p) f p2) (fExf G f) := by
  obtain ⟨c, A, hc, rfl⟩ := hd.cl
  refine PE.imp (pe_xf (N.xf c A hc) (hf c A hc) hz hv (pe_var (X := X.suite a ((a, oe) :: pn)) hN hvis hdb hcd)) fun σ H Q ⟨φ, F, S, ρ, sr, re, h⟩ => ?_
  have h : Ans C' (RepW C') φ F (ofO ((G.xf.lookup f).map .p) S) Q (fun c d H' => U0 c d σ H') := h
  obtain ⟨w, e, h⟩ := ofO_inv h
  obtain ⟨dv, e1, rfl⟩ := map_some e
  rw [hx] at e1
  rcases hd.fs with ⟨rfl, _⟩ | ⟨dd, vs, e2, e3, e4⟩
  · simp [List.lookup] at e1
  · have lk : ∀ {ks : List Str} {ds : List D} {vs : List V}, Reps C' C'.e ds vs → (ks.zip ds).lookup f = some dv → ∃ v, (ks.zip vs).lookup f = some v ∧ Rep C' C'.e dv v := by
      intro ks
      induction ks with
      | nil => intro ds vs _ h; simp [List.lookup] at h
      | cons k ks ih =>
        intro ds vs r h
        cases ds with
        | nil => simp [List.lookup] at h
        | cons d0 ds =>
          unfold Reps at r
          obtain ⟨v0, r0, rfl, h1, h2⟩ := r
          rw [List.zip_cons_cons, List.lookup] at h
          rw [List.zip_cons_cons]
          by_cases ek : (f == k) = true
          · rw [ek] at h
            dsimp only at h
            cases h
            exact ⟨v0, by simp [List.lookup, ek], h1⟩
          · have ek : (f == k) = false := by simpa using ek
            rw [ek] at h
            dsimp only at h
            obtain ⟨v, z1, z2⟩ := ih h2 h
            exact ⟨v, by simp only [List.lookup, ek]; exact z1, z2⟩
    obtain ⟨v, l1, l2⟩ := lk e4 e1
    refine ⟨.ref a, re.1.2 (i, a) hd.ch, rfl, rfl, dd, _, v, e2, ?_, l1, ans_ok h (Grow.refl _ _) sr (Rep.mono sr.xe l2)⟩
    exact (sr.fh _ _ (sr.xe _ _ e3)).at (by simp [Lk])
end
end M
set_option Elab.async false
set_option linter.all false
set_option maxRecDepth 100000
set_option maxHeartbeats 4000000
namespace M
open PySem PySem.Spec PyProof.Rows L2
/-! ### errors are made -/
section
variable {X : Cx} {σ : L2.St} {pos : Pos}
/-- the end of C(), no field set -/
theorem mk_end0n {pins : List (Addr × Obj)} {H1 : Hp} {hp hp2 h2 : Heap} {g1 g2 : Array GenState} {d1 d2 : Drawn} {t1 t2 : Nat} {os1 os2 : OsState} {a C : Addr} (I1 : Inv X pins σ H1 ⟨hp, g1, d1, t1, os1⟩)
    (ha : hp.objs.size ≤ a) (k : ∀ b o, hp.get? b = some o → hp2.get? b = some o) (un : Un (frs X.stack) [] (upd H1 a (exo a C none)) (upd H1 a (exo a C none)) hp2 h2) (hok : HOk X.prog X.w (upd H1 a (exo a C none)) h2) (ho : os2 = os1) (hb : AllBare g2) :
    ∃ (t0 : Addr) (G : Heap), Inv X pins σ H1 ⟨G, g2, d2, t2, os2⟩ ∧ (∀ b o, G.get? b = some o → h2.get? b = some o) ∧ G.get? a = none ∧
      h2.get? a = some ({ cls := .ref C, dict := none, data := .fields #[.ref t0, .none, .none, .none, .bool false, .none] } : Obj) ∧ H1 a = none := by
  have hn : H1 a = none := I1.hok.fresh ha
  have ea : (upd H1 a (exo a C none)) a = some (exo a C none) := upd_same
  obtain ⟨t0, hoe⟩ := exo_at hok ea
  obtain ⟨G, g1', g2'⟩ := restrict h2 fun b => decide (b ≠ a)
  have gk : ∀ b, b ≠ a → G.get? b = h2.get? b := fun b hb => g1' b (decide_eq_true hb)
  have ge : G.get? a = none := g2' a (by simp)
  have nha : ∀ {b : Addr} {o : Obj}, hp.get? b = some o → b ≠ a := fun {b o} z => Nat.ne_of_lt (Nat.lt_of_lt_of_le (Heap.lt_size z) ha)
  have up : ∀ {b : Addr}, b ≠ a → H1 b = none → upd H1 a (exo a C none) b = none := fun {b} hb n => by rw [upd_ne hb]; exact n
  have U : Un (frs X.stack) [] H1 H1 hp G := {
    keep := fun b o z n hf hx => by
      rw [gk b (nha z)]
      exact un.keep b o (k b o z) (up (nha z) n) hf hx
    slot := fun b o z n hf hx => by
      rw [gk b (nha z)]
      exact un.slot b o (k b o z) (up (nha z) n) hf hx
    free := fun b o z n hx => n
    there := fun b o z hx => by
      rw [gk b (nha z)]
      exact un.there b o (k b o z) hx
    tups := fun b xs z => z
    frzs := fun b o v z => z
    tbls := fun b ps z => ⟨#[], by rw [z]; simp⟩ }
  have hok3 : HOk X.prog X.w H1 G := fun b o z => by
    have hba : b ≠ a := fun e => by
      rw [e, hn] at z
      cases z
    have noa : ∀ {c : Addr}, H1 c = some (.own b) → c ≠ a := fun {c} hc e => by
      rw [e, hn] at hc
      cases hc
    exact (hok b o (by rw [upd_ne hba]; exact z)).stay (fun c v hc y => by
        have hca : c ≠ a := by
          rcases hc with hc | hc
          · rw [hc]; exact hba
          · intro e
            rw [e, upd_same] at hc
            exact exo_own (Option.some.inj hc)
        rw [gk c hca]
        exact y)
      (fun c hc => by
        have : c ≠ a := fun e => by
          rw [e, upd_same] at hc
          exact exo_own (Option.some.inj hc)
        rw [upd_ne this] at hc; exact hc)
      fun c xs hc => by
        have : c ≠ a := fun e => by
          rw [e, upd_same] at hc
          exact exo_tup (Option.some.inj hc)
        rw [upd_ne this] at hc; exact hc
  have J : Inv X pins σ H1 ⟨G, g2, d2, t2, os2⟩ := I1.call' (ch := []) ho U hok3 hb (fun b z => absurd z (by simp))
  refine ⟨t0, G, J, fun b o z => ?_, ge, hoe, hn⟩
  by_cases hba : b = a
  · rw [hba, ge] at z
    cases z
  · exact (gk b hba).symm.trans z
theorem pmk_x0 {CX : CXT} {x : Str} {C fI : Addr} {k : Nat} {fd : FuncData} {ps : List Str} {p : Pos} (T : OexC X.K C) (iC : PySem.W.findIn X.K (.ref C) "__init__" = some (some (.ref fI))) (tI : PySem.W.typeIn X.K (.ref fI) = some (.type "function"))
    (F1 : FnOk X.prog X.w X.K X.mg X.base CX k fI fd ps (sp0 X.K)) (hr : Room (k + 1) X.A) (hb : Binds X.K fd ps []) (hx : Passes CX X (fun _ _ _ => False)) (hg : Gl X x) (hm : X.mg x = some (.ref C)) (hdb : (x == ("__debug__" : Str)) = false) :
    PMk X (.Call (.Name x p) [] [] pos) (fun σ H Q => Q (.ref C) none H) := by
  intro pins s σ H Q I q
  obtain ⟨nm, qn, N, bs, bm, sn, sub, ab, col, dd, k0, k1, k2, k3, k5, hC, hbm⟩ := T.cls
  refine wpAny_Call_Name_kw (ld_glob I hg hm ?_ hdb)
  refine PySem.W.callWith_K0 I.kIn T.kC ?_
  show wpAny _ _ (call (.ref C) []) _ _ _
  obtain ⟨hp, g, dr, tk, os⟩ := s
  have hsz : hp.objs.size ≤ hp.objs.size + 1 := Nat.le_succ _
  have hn : H (hp.objs.size + 1) = none := I.hok.fresh hsz
  have kk : ∀ b o, hp.get? b = some o → ((hp.push (PySem.W.kdv_tup [])).push (PySem.HandSPX.excO C hp.objs.size)).get? b = some o := fun b o e => Heap.get?_push_of_some _ (Heap.get?_push_of_some _ e)
  have hget : ((hp.push (PySem.W.kdv_tup [])).push (PySem.HandSPX.excO C hp.objs.size)).get? (hp.objs.size + 1) = some (PySem.HandSPX.excO C hp.objs.size) := by heap_get
  have I2 : Inv X pins σ (upd H (hp.objs.size + 1) (exo (hp.objs.size + 1) C none)) ⟨(hp.push (PySem.W.kdv_tup [])).push (PySem.HandSPX.excO C hp.objs.size), g, dr, tk, os⟩ :=
    I.laid (t' := tk) (a := hp.objs.size + 1) (o := exo (hp.objs.size + 1) C none) (h' := (hp.push (PySem.W.kdv_tup [])).push (PySem.HandSPX.excO C hp.objs.size)) kk hsz (exo_ok hget)
  have r2 : Vals [V.ref (hp.objs.size + 1)] [Value.ref (hp.objs.size + 1)] := .cons rfl .nil
  have hq : sp0 X.K [V.ref (hp.objs.size + 1)] (upd H (hp.objs.size + 1) (exo (hp.objs.size + 1) C none)) (fun v H2 => v = .non ∧ H2 = upd H (hp.objs.size + 1) (exo (hp.objs.size + 1) C none)) (fun _ _ _ => False) := ⟨_, _, rfl, T, upd_same, rfl, rfl⟩
  have hl : [Value.ref (hp.objs.size + 1)].length = ps.length := by
    have e := r2.length
    rw [F1.len _ _ _ _ hq] at e
    exact e.symm
  have b2 := hb _ [Value.ref (hp.objs.size + 1)] I2.kIn (by simpa using hl)
  rw [List.append_nil] at b2
  refine wpAny_call (PySem.HandSPX.call_own F.excBase_ValueError (fun Y => PySem.HandSPX.refsVE_contains Y bm hbm) (I.kIn _ _ hC) (PySem.W.looks_findIn I.kIn iC) (fun self => PySem.W.bind_fn I.kIn self tI) (by simp)
    (codeAny_mono (F1.run _ X.stack _ _ ⟨[Value.ref (hp.objs.size + 1)], []⟩ [Value.ref (hp.objs.size + 1)] _ _ (fun _ _ _ => False) (hr.make C [] []) (I2.env0.make C [] []) b2 r2 hq) fun r s' hq' => ?_))
  cases r with
  | error er => exact hx pins σ _ _ er s' I2 hq'
  | ok fl =>
    cases fl with
    | ret u =>
      obtain ⟨v, H2, os2, bare2, un2, hok2, rv, ev, eh⟩ := hq'
      subst ev
      subst eh
      obtain ⟨h2, g2, d2, t2, os'⟩ := s'
      obtain ⟨t0, G, J, kG, ge, hoe, na⟩ := mk_end0n (d2 := d2) (t2 := t2) I hsz kk un2 hok2 os2 bare2
      exact ⟨rv, _, _, _, ⟨G, g2, d2, t2, os'⟩, _, .ref C, none, rfl, J, kG, ge, hoe, ⟨rfl, rfl⟩, rfl, rfl, na, rfl, bare2, raises_own T.exC T.tyC, q⟩
    | next => exact False.elim hq'
    | brk => exact False.elim hq'
    | cont => exact False.elim hq'
end
/-- what an error class must have -/
structure XkF (X : Cx) (C : Cl) (xk : Str → Option (Option Str)) : Prop where
  no : ∀ c, xk c = some none → ∃ A fI k fd ps, C.x c = some A ∧ OexC X.K A ∧ PySem.W.findIn X.K (.ref A) "__init__" = some (some (.ref fI)) ∧ PySem.W.typeIn X.K (.ref fI) = some (.type "function") ∧ FnOk X.prog X.w X.K X.mg X.base (L2.CX X.prog X.w) k fI fd ps (sp0 X.K) ∧ Room (k + 1) X.A ∧ Binds X.K fd ps []
  one : ∀ c f, xk c = some (some f) → ∃ A fI k fd ps, C.x c = some A ∧ OexC X.K A ∧ PySem.W.findIn X.K (.ref A) "__init__" = some (some (.ref fI)) ∧ PySem.W.typeIn X.K (.ref fI) = some (.type "function") ∧ FnOk X.prog X.w X.K X.mg X.base (L2.CX X.prog X.w) k fI fd ps (sp1 X.K f) ∧ Room (k + 1) X.A ∧ Binds X.K fd ps [] ∧ PySem.W.findIn X.K (.ref A) f = some none
def bRse0 (xk : Str → Option (Option Str)) (c : Str) : SF := fun ρ S => if xk c = some none then .ex c [] [] ρ S else .no
def bRse1 (xk : Str → Option (Option Str)) (c : Str) (e : EF) : SF := fun ρ S => match xk c with
  | some (some f) => (e ρ S).to ρ fun w S => (frz w S).to ρ fun w S => match w with
    | .p d => .ex c [f] [d] ρ S
    | _ => .no
  | _ => .no
section
variable {X : Cx} {C : Cl} {U : WX} {pos : Pos} {sub : Str → Str → Bool} {xk : Str → Option (Option Str)} {fe : EF} {e : Expr}
theorem passFalse {CX : CXT} (h : ∀ outer H s u s', ¬ CX outer H s (fun _ _ _ => False) u s') : Passes CX X (fun _ _ _ => False) := fun pins σ H s e s' I q => (h _ _ _ _ _ q).elim
theorem cx_false {P : Program} {w : World} {outer : List PySem.Env} {H : Hp} {s : Shared} {u : Value} {s' : Shared} : ¬ L2.CX P w outer H s (fun _ _ _ => False) u s' := fun ⟨_, _, _, _, _, _, _, _, _, _, _, _, z⟩ => z
theorem bsRse0 {c : Str} {p p2 : Pos} (N : XcF X C sub) (Y : XkF X C xk) (hc : X.calm = true) (tk : Takes X U) (hg : Gl X c) : SS X C U (.Raise (some (.Call (.Name c p) [] [] p2)) none pos) (bRse0 xk c) := by
  by_cases hk : xk c = some none
  · obtain ⟨A, fI, k, fd, ps, hA, T, iC, tI, F1, hr, hb⟩ := Y.no c hk
    obtain ⟨n1, n2⟩ := N.nm c A hA
    refine PS.imp (ps_raise hc tk (pmk_x0 T iC tI F1 hr hb (fun pins σ H s e s' I q => (cx_false q).elim) hg n1 n2)) fun D σ H ⟨φ, F, S, ρ, sr, re, h⟩ => ?_
    unfold bRse0 at h
    rw [if_pos hk] at h
    exact h (.ref A) none σ φ F H (Grow.refl _ _) sr re ⟨A, hA, rfl, rfl, .inl ⟨rfl, rfl⟩⟩
  · refine ⟨fun pins s σ H D I ⟨φ, F, S, ρ, sr, re, h⟩ => ?_⟩
    unfold bRse0 at h
    rw [if_neg hk] at h
    exact (show False from h).elim
theorem bsRse1 {c : Str} {p p2 : Pos} (N : XcF X C sub) (Y : XkF X C xk) (hc : X.calm = true) (tk : Takes X U) (hg : Gl X c) (hp : plainE e = true) (he : SE X C U e fe) : SS X C U (.Raise (some (.Call (.Name c p) [e] [] p2)) none pos) (bRse1 xk c fe) := by
  have no : ∀ {D : Ends} {σ H}, (∀ f, xk c ≠ some (some f)) → tS C U (bRse1 xk c fe) D σ H → False := fun hk ⟨φ, F, S, ρ, sr, re, h⟩ => by
    unfold bRse1 at h
    split at h
    · rename_i f hf; exact hk f hf
    · exact h
  by_cases hk : ∃ f, xk c = some (some f)
  · obtain ⟨f, hk⟩ := hk
    obtain ⟨A, fI, k, fd, ps, hA, T, iC, tI, F1, hr, hb, hf⟩ := Y.one c f hk
    obtain ⟨n1, n2⟩ := N.nm c A hA
    refine PS.imp (ps_raise hc tk (pmk_oex (dvs := []) T iC tI F1 hr hb .nil (fun pins σ H s e s' I q => (cx_false q).elim) hg n1 (sACons he sANil (star_cons hp)) (hdb := n2) (he := star_cons hp) (hpl := by simp [starEach, backTo]))) fun D σ H ⟨φ, F, S, ρ, sr, re, h⟩ => ?_
    have h : AnsS C φ F ((fe ρ S).to ρ fun w S => (frz w S).to ρ fun w S => match w with
      | .p d => .ex c [f] [d] ρ S
      | _ => .no) D U := by
      unfold bRse1 at h
      rw [hk] at h
      exact h
    have z : tE C U fe σ H (fun y H1 => ∀ a, H1 a = none → ∀ dx, H1 dx = none → dx ≠ a → U (.ref A) (some dx) σ (upd H1 dx (.xd [(f, y)]))) := by
      refine tE.to (f := fe) sr re h fun w S1 φ1 F1 y H1 s1 e1 r1 g1 h1 => ?_
      intro a ha dx hdx hne
      cases ew : frz w S1 with
      | no => rw [ew] at h1; exact (show False from h1).elim
      | ex c ks ds S => cases w with
        | p d => cases ew
        | c n =>
          unfold frz at ew
          dsimp only at ew
          split at ew
          · cases ew
          · split at ew
            · cases ew
            · split at ew <;> cases ew
          · cases ew
      | ok w2 S2 =>
        rw [ew] at h1
        cases w2 with
        | c n => exact (show False from h1).elim
        | p d =>
          have h1 : AnsS C φ1 F1 (.ex c [f] [d] ρ S2) D U := h1
          -- it is data now
          have : ∃ F2, Grow φ1 F1 φ1 F2 ∧ SR C φ1 F2 S2 H1 ∧ Rep C F2 d y := by
            cases w with
            | p d' =>
              have ew : (Rs.ok (W.p d') S1 : Rs W) = Rs.ok (W.p d) S2 := ew
              cases ew
              exact ⟨F1, Grow.refl _ _, s1, r1⟩
            | c n =>
              obtain ⟨ad, ea, rfl⟩ := r1
              unfold frz at ew
              dsimp only at ew
              cases es : S1[n]? with
              | none => rw [es] at ew; cases ew
              | some sl =>
                rw [es] at ew
                cases sl with
                | dead d' => cases ew; exact ⟨F1, Grow.refl _ _, s1, show Rep C F1 d (.ref ad) from s1.sl n _ ad es ea⟩
                | live ct =>
                  dsimp only at ew
                  cases nd : ct.isD with
                  | true => rw [nd, if_pos rfl] at ew; cases ew
                  | false =>
                  rw [nd, if_neg (by decide)] at ew
                  cases e2 : ct.pure with
                  | none => rw [e2] at ew; cases ew
                  | some d' =>
                    rw [e2] at ew
                    cases ew
                    obtain ⟨F', g, s', r'⟩ := s1.freeze es ea e2 nd
                    exact ⟨F', g, s', r'⟩
          obtain ⟨F2, g2, s2, r2⟩ := this
          have g3 := s2.gpure (o := .xd [(f, y)]) hdx
          refine h1 (.ref A) (some dx) σ φ1 _ _ (g2.trans g3) (s2.pure hdx) (e1.mono (g2.trans g3)) ⟨A, hA, rfl, rfl, .inr ⟨dx, [y], rfl, upd_same, Reps.cons (Rep.mono g3.f r2) Reps.nil⟩⟩
    obtain ⟨φ, F, S, ρ, sr, re, z⟩ := z
    refine ⟨φ, F, S, ρ, sr, re, ?_⟩
    show Ans C (RepWs C) φ F (aCons fe aNil ρ S) _ _
    unfold aCons aNil
    cases ee : fe ρ S with
    | no => rw [ee] at z; exact z
    | ex c ks ds S' => rw [ee] at z; exact z
    | ok w S' =>
      rw [ee] at z
      intro vs φ' F' H' g' s' r'
      obtain ⟨y, rfl, ry⟩ := vals_one (ws := []) r'
      refine ⟨by simp, fun a ha => ⟨a, A, y, rfl, T, hf, upd_same, fun dx hdx hne => ⟨rfl, dx, [(f, y)], ?_, ?_, ?_, ?_⟩⟩⟩
      · rw [upd_same]
      · rw [upd_ne hne, upd_same]
      · rw [upd_ne hne] at hdx; exact hdx
      · rw [upd_ne hne] at hdx
        have k := z y φ' F' H' g' s' ry a ha dx hdx hne
        have eq : upd (L2.del (upd (upd (upd H' a (exo a A none)) dx (exd dx [(f, y)])) a (exo a A (some dx))) a) dx (.xd [(f, y)]) = upd H' dx (.xd [(f, y)]) := by
          funext b
          by_cases hb : b = dx
          · rw [hb, upd_same, upd_same]
          · rw [upd_ne hb, upd_ne hb]
            by_cases hba : b = a
            · rw [hba, L2.del_same, ha]
            · rw [L2.del_ne hba, upd_ne hba, upd_ne hb, upd_ne hba]
        rw [eq]
        exact k
  · refine ⟨fun pins s σ H D I z => ?_⟩
    exact (no (fun f hf => hk ⟨f, hf⟩) z).elim
end
end M
set_option Elab.async false
set_option linter.all false
set_option maxRecDepth 100000
set_option maxHeartbeats 4000000
namespace M
open PySem PySem.Spec PyProof.Rows L2
section
variable {X : Cx} {C : Cl} {G : Gt} {U : WX} {a b c o e : Expr} {fa fb fc fo fe : EF} {pos : Pos} {es : List Expr} {fs vs_ : AF} {kws : List Keyword}
/-- the keywords' values -/
abbrev SK (X : Cx) (C : Cl) (U : WX) (kws : List Keyword) (f : AF) : Prop := PK X kws (tA C U f)
theorem skNil : SK X C U [] aNil := ⟨fun pos pins s σ H Q I ⟨φ, F, S, ρ, sr, re, h⟩ => pk_nil.run pos pins s σ H Q I (ans_ok h (Grow.refl _ _) sr .nil)⟩
theorem skCons {nm : Option Str} {kp : Pos} (ha : SE X C U a fa) (hr : SK X C U kws fs) : SK X C U (⟨nm, a, kp⟩ :: kws) (aCons fa fs) := by
  refine ⟨fun pos pins s σ H Q I ⟨φ, F, S, ρ, sr, re, h⟩ => (pk_cons ha hr).run pos pins s σ H Q I ?_⟩
  refine tE.then' (g := fun w S => (fs ρ S).bind fun ws S => .ok (w :: ws) S) sr re h fun w S1 φ1 F1 v H1 s1 e1 r1 g1 h1 => ?_
  refine tA.then' s1 e1 h1 fun ws S2 φ2 F2 vs H2 s2 e2 r2 g2 h2 => ?_
  exact ans_ok h2 (Grow.refl _ _) s2 (.cons (r1.mono g2) r2)
theorem perm_paired {α β : Type} {R : α → β → Prop} {as : List α} {bs : List β} (h : Paired R as bs) : ∀ {ix : List Nat} {cs : List α}, ix.mapM (fun j => as[j]?) = some cs → ∃ ds, ix.mapM (fun j => bs[j]?) = some ds ∧ Paired R cs ds
  | [], cs, e => by
    simp at e
    subst e
    exact ⟨[], by simp, .nil⟩
  | i :: ix, cs, e => by
    simp only [List.mapM_cons, Option.bind_eq_bind, Option.bind_eq_some_iff, Option.pure_def, Option.some.injEq] at e
    obtain ⟨x, e1, xs, e2, rfl⟩ := e
    obtain ⟨y, f1, r1⟩ := paired_get h e1
    obtain ⟨ys, f2, r2⟩ := perm_paired h e2
    exact ⟨y :: ys, by simp [f1, f2], .cons r1 r2⟩
theorem vals_perm {vs zs : List V} {us : List Value} {ix : List Nat} (h : Vals vs us) (e : ix.mapM (fun j => vs[j]?) = some zs) : ∃ ys, ix.mapM (fun j => us[j]?) = some ys ∧ Vals zs ys := perm_paired h e
theorem run_fnK {f : Addr} {k : Nat} {fd : FuncData} {ps : List Str} {n m : Nat} {ks : List Str} {ix : List Nat} {g : List W → Sto → Rs W} {pins : List (Addr × Obj)} {σ : L2.St} {H : Hp} {s : Shared} {Q : VK} {us us2 : List Value} {vs vs2 : List V} {φ : List Addr} {F : Hp} {S : Sto} {ws ws2 zs : List W}
    (Fn : FnG X.prog X.w X.K X.mg X.base (L2.CX X.prog X.w) k f fd ps (spG C m g)) (hr : RoomG (k + 1) X.A) (hb : KB X.K fd ps n ks ix) (tk : Takes X U) (I : Inv X pins σ H s) (r : Vals vs us) (r2 : Vals vs2 us2) (sr : SR C φ F S H) (rw : RepWs C φ F ws vs) (rw2 : RepWs C φ F ws2 vs2)
    (hn : ws.length = n) (hk : ws2.length = ks.length) (hz : permW ix (ws ++ ws2) = some zs) (hl : zs.length = m) (h : Ans C (RepW C) φ F (g zs S) Q (fun c d H' => U c d σ H')) : wpAny (model X.prog X.w) X.A (call (.ref f) us (ks.zip us2)) (EP X pins σ Q) X.xe s := by
  obtain ⟨vz, e1, p1⟩ := perm_paired (paired_append rw rw2) hz
  obtain ⟨uz, e2, p2⟩ := vals_perm (r.append r2) e1
  have hsp : spG C m g vz H Q (WE U σ) := ⟨by rw [← hl, p1.length], φ, F, S, zs, sr, p1, h⟩
  have b := hb s us us2 uz I.kIn (by rw [← r.length, ← rw.length, hn]) (by rw [← r2.length, ← rw2.length, hk]) e2
  refine wpAny_call (codeAny_mono (Fn.run X.A X.stack s H ⟨us, ks.zip us2⟩ uz vz Q (WE U σ) (hr.mono (Nat.le_succ _)) I.env0 b p2 hsp) fun r s' hq => ?_)
  cases r with
  | error e => exact passAt tk σ pins H s e s' I hq
  | ok fl =>
    cases fl with
    | ret u => exact I.after hq
    | next => exact False.elim hq
    | brk => exact False.elim hq
    | cont => exact False.elim hq
theorem run_makeK {c : Str} {f A : Addr} {k : Nat} {fd : FuncData} {ps : List Str} {n m : Nat} {ks : List Str} {ix : List Nat} {fz : Bool} {g : List W → Sto → Rs W} {pins : List (Addr × Obj)} {σ : L2.St} {H : Hp} {s : Shared} {Q : VK} {us us2 : List Value} {vs vs2 : List V} {φ : List Addr} {F : Hp} {S : Sto} {ws ws2 zs : List W}
    (M : Mk X.K A f) (hc : C.i c = some A) (Fn : FnG X.prog X.w X.K X.mg X.base (L2.CX X.prog X.w) k f fd ps (spG C m g)) (hr : RoomG (k + 1) X.A) (hb : KB X.K fd ps (n + 1) ks (0 :: ix.map (· + 1))) (tk : Takes X U) (I : Inv X pins σ H s) (r : Vals vs us) (r2 : Vals vs2 us2) (sr : SR C φ F S H) (rw_ : RepWs C φ F ws vs) (rw2 : RepWs C φ F ws2 vs2)
    (hn : ws.length = n) (hk : ws2.length = ks.length) (hz : permW ix (ws ++ ws2) = some zs) (hlen : ∀ ws S, g ws S ≠ .no → ws.length = m) (h : Ans C (RepW C) φ F (mkF g c fz zs S) Q (fun c d H' => U c d σ H')) : wpAny (model X.prog X.w) X.A (call (.ref A) us (ks.zip us2)) (EP X pins σ Q) X.xe s := by
  obtain ⟨vz, e1, p1⟩ := perm_paired (paired_append rw_ rw2) hz
  obtain ⟨uz, e2, p2⟩ := vals_perm (r.append r2) e1
  unfold mkF at h
  have h := h.fin (by rw [sr.len])
  have hx1 : H (s.heap.objs.size + 1) = none := I.hok.fresh (Nat.le_succ _)
  have hdx : H s.heap.objs.size = none := I.hok.fresh (Nat.le_refl _)
  have hne : s.heap.objs.size ≠ s.heap.objs.size + 1 := Nat.ne_of_lt (Nat.lt_succ_self _)
  have I2 := Inv.made (C := A) I
  have s1 := sr.other (o := .own (s.heap.objs.size + 1)) hdx
  have hx2 : (upd H s.heap.objs.size (.own (s.heap.objs.size + 1))) (s.heap.objs.size + 1) = none := by rw [upd_ne (Ne.symm hne)]; exact hx1
  have s2 := s1.cell hx2 (c := .ins c [] []) (o := .ins A s.heap.objs.size []) ⟨A, s.heap.objs.size, [], hc, rfl, .nil, rfl⟩
  have g2 : Grow φ F (φ ++ [s.heap.objs.size + 1]) F := SR.gcell
  have rr : RepWs C (φ ++ [s.heap.objs.size + 1]) F (.c S.length :: zs) (.ref (s.heap.objs.size + 1) :: vz) := .cons ⟨s.heap.objs.size + 1, by rw [← sr.len]; simp, rfl⟩ (RepWs.mono g2 p1)
  have h2 := Ans.bind (Rel := RepW C) (h.grow g2)
  have nn := hlen _ _ h2.ne_no
  have hsp : spG C m g (.ref (s.heap.objs.size + 1) :: vz) (upd (upd H s.heap.objs.size (.own (s.heap.objs.size + 1))) (s.heap.objs.size + 1) (.ins A s.heap.objs.size [])) (fun v H2 => v = .non ∧ Q (.ref (s.heap.objs.size + 1)) H2) (WE U σ) := by
    refine ⟨by rw [← rr.length, nn], φ ++ [s.heap.objs.size + 1], F, _, _, s2, rr, h2.mono (fun v H2 ⟨w, S3, φ3, F3, g3, s3, q3, h3⟩ => ?_) fun _ _ _ z => z⟩
    cases w with
    | c k => exact (show False from h3).elim
    | p d =>
      cases d with
      | non =>
        refine ⟨RepW.non q3, ?_⟩
        have rx : RepW C φ3 F3 (.c S.length) (.ref (s.heap.objs.size + 1)) := ⟨s.heap.objs.size + 1, g3.get (by rw [← sr.len]; simp), rfl⟩
        dsimp only at h3
        by_cases hz : fz = true
        · rw [if_pos hz] at h3
          exact frz_ans s3 rx h3
        · rw [if_neg hz] at h3
          exact ans_ok h3 (Grow.refl _ _) s3 rx
      | _ => exact (show False from h3).elim
  have rv2 : Vals (V.ref (s.heap.objs.size + 1) :: vz) (Value.ref (s.heap.objs.size + 1) :: uz) := .cons rfl p2
  have ez : (0 :: ix.map (· + 1)).mapM (fun j => (Value.ref (s.heap.objs.size + 1) :: us ++ us2)[j]?) = some (Value.ref (s.heap.objs.size + 1) :: uz) := by
    have : ∀ (ix : List Nat) (x : Value) (l : List Value), (ix.map (· + 1)).mapM (fun j => (x :: l)[j]?) = ix.mapM (fun j => l[j]?) := by
      intro ix x l
      induction ix with
      | nil => rfl
      | cons i ix ih => simp only [List.map_cons, List.mapM_cons, ih]; rfl
    rw [List.mapM_cons]
    show (some (Value.ref (s.heap.objs.size + 1)) >>= fun a => _) = _
    rw [List.cons_append, this ix, e2]
    rfl
  have b := hb _ (Value.ref (s.heap.objs.size + 1) :: us) us2 _ I2.kIn (by rw [List.length_cons, ← r.length, ← rw_.length, hn]) (by rw [← r2.length, ← rw2.length, hk]) ez
  refine wpAny_call (make_map (f := f) I.kIn M.makes M.init (beq_iff_eq.mp M.fn) (codeAny_mono (Fn.run _ X.stack _ _ ⟨Value.ref (s.heap.objs.size + 1) :: us, ks.zip us2⟩ (Value.ref (s.heap.objs.size + 1) :: uz) _ _ (WE U σ) (hr.make A us (ks.zip us2))
    (I2.env0.make A us (ks.zip us2)) b rv2 hsp) fun r s' hq' => ?_))
  cases r with
  | error e => exact passAt tk σ pins _ _ e s' I2 hq'
  | ok fl =>
    cases fl with
    | ret u =>
      obtain ⟨v, H', I3, rv, ev, q3⟩ := I2.after hq'
      subst ev
      exact ⟨rv, ⟨V.ref (s.heap.objs.size + 1), H', I3, rfl, q3⟩⟩
    | next => exact False.elim hq'
    | brk => exact False.elim hq'
    | cont => exact False.elim hq'
/-- the form of keywords -/
def kwOk : List Keyword → List Str → Bool
  | [], [] => true
  | ⟨some n, _, _⟩ :: kws, k :: ks => decide (n = k) && kwOk kws ks
  | _, _ => false
theorem kw_all : ∀ {kws : List Keyword} {ks : List Str} {env : PySem.Env} {pos : Pos}, kwOk kws ks = true → (backToKw pos (keywordEach kws env)).all (·.1.isSome) = true ∧ (backToKw pos (keywordEach kws env)).filterMap (·.1) = ks ∧ (backToKw pos (keywordEach kws env)).any (·.1.isNone) = false
  | [], [], env, pos, _ => by simp [keywordEach, backToKw]
  | [], k :: ks, _, _, h => by cases h
  | ⟨none, _, _⟩ :: kws, ks, _, _, h => by cases ks <;> cases h
  | ⟨some n, v, p⟩ :: kws, [], _, _, h => by cases h
  | ⟨some n, v, p⟩ :: kws, k :: ks, env, pos, h => by
    have h : (decide (n = k) && kwOk kws ks) = true := h
    rw [Bool.and_eq_true] at h
    obtain ⟨h1, h2, h3⟩ := kw_all (env := env) (pos := pos) h.2
    have e := of_decide_eq_true h.1
    subst e
    have eq : backToKw pos (keywordEach (⟨some n, v, p⟩ :: kws) env) = (some n, (do let w ← eval v env; standAt pos; pure w)) :: backToKw pos (keywordEach kws env) := by simp [keywordEach, backToKw]
    rw [eq]
    exact ⟨by simp [h1], by simp [h2], by simp [h3]⟩
theorem star_any2 {es : List Expr} {env : PySem.Env} {pos : Pos} {kws : List Keyword} (h : es.all plainE = true) (h2 : (backToKw pos (keywordEach kws env)).any (·.1.isNone) = false) : ((backTo pos (starEach es env)).any (·.1) || (backToKw pos (keywordEach kws env)).any (·.1.isNone)) = false := by
  rw [star_any h, h2] <;> rfl
/-- after the arguments -/
theorem run_anyK (T : Facts X C G) (tk : Takes X U) {f : Str} {n : Nat} {ks : List Str} {ix : List Nat} (hd : (n, ks, ix) ∈ G.kw f) : ∃ fa, X.mg f = some (.ref fa) ∧ PySem.W.keepIn X.K (.ref fa) = true ∧ (f == ("__debug__" : Str)) = false ∧
    ∀ (pins : List (Addr × Obj)) (σ : L2.St) (H : Hp) (s : Shared) (vs vs2 : List V) (us us2 : List Value) (Q : VK) (φ : List Addr) (F : Hp) (S : Sto) (ws ws2 zs : List W), Inv X pins σ H s → Vals vs us → Vals vs2 us2 → SR C φ F S H → RepWs C φ F ws vs → RepWs C φ F ws2 vs2 → ws.length = n → ws2.length = ks.length →
      permW ix (ws ++ ws2) = some zs → Ans C (RepW C) φ F (G.fn f zs S) Q (fun c d H' => U c d σ H') → wpAny (model X.prog X.w) X.A (call (.ref fa) us (ks.zip us2)) (EP X pins σ Q) X.xe s := by
  rcases T.kw f n ks ix hd with ⟨fa, m, M⟩ | ⟨A, fi, m, M⟩ | ⟨A, g, nm, ⟨rfl, rfl, rfl⟩, M⟩
  · refine ⟨fa, M.mg, M.kp, M.db, fun pins σ H s vs vs2 us us2 Q φ F S ws ws2 zs I r r2 sr rw rw2 hn hk hz h => ?_⟩
    obtain ⟨fd, ps, k, F1, hr, hb⟩ := M.run
    exact run_fnK F1 hr hb tk I r r2 sr rw rw2 hn hk hz (M.len _ _ h.ne_no) h
  · refine ⟨A, M.mg, M.mkk.kp, M.db, fun pins σ H s vs vs2 us us2 Q φ F S ws ws2 zs I r r2 sr rw_ rw2 hn hk hz h => ?_⟩
    obtain ⟨fd, ps, k, F1, hr, hb⟩ := M.run
    obtain ⟨fz, e⟩ := M.mkq
    rw [e] at h
    exact run_makeK M.mkk M.cl F1 hr hb tk I r r2 sr rw_ rw2 hn hk hz M.len h
  · refine ⟨A, M.mg, M.oex.kC, M.db, fun pins σ H s vs vs2 us us2 Q φ F S ws ws2 zs I r r2 sr rw_ rw2 hn hk hz h => ?_⟩
    rw [M.mkq] at h
    obtain ⟨fI, k, fd, ps, iC, tI, hr, hb, F1, hno, hkb⟩ := M.run
    have hkb := hkb nm hd
    cases ws with
    | cons w ws => cases hn
    | nil =>
      cases rw_
      cases r
      match ws2, rw2, hk, hz with
      | [w], rw2, _, hz =>
        have ez : zs = [w] := (Option.some.inj hz).symm
        subst ez
        cases w with
        | c m => exact (show False from h).elim
        | p d =>
          obtain ⟨y, rfl, ry⟩ := vals_oneX rw2
          cases r2 with
          | @cons _ u0 _ _ ru t =>
            cases t
            exact run_xl1 (us := []) M.cl M.oex iC tI hr.r F1 hno I (by simp) ru sr ry (fun s' a K' hl => hkb s' [a] [u0] [a, u0] K' rfl rfl rfl) h
/-- f(.., k = v) -/
theorem sCallK (T : Facts X C G) (tk : Takes X U) {f : Str} {n : Nat} {ks : List Str} {ix : List Nat} {p : Pos} (hg : Gl X f) (hp : (e :: es).all plainE = true) (hkw : kwOk kws ks = true) (ha : SA X C U (e :: es) fs) (hv : SK X C U kws vs_) : SE X C U (.Call (.Name f p) (e :: es) kws pos) (fCallK G f n fs ks vs_ ix) := by
  refine ⟨fun pins s σ H Q I ⟨φ, F, S, ρ, sr, re, h⟩ => ?_⟩
  unfold fCallK at h
  by_cases hd : (n, ks, ix) ∈ G.kw f
  · rw [if_pos hd] at h
    obtain ⟨fa, mg, kp, db, run⟩ := run_anyK T tk hd
    obtain ⟨k1, k2, k3⟩ := kw_all (env := X.env) (pos := pos) hkw
    refine wpAny_Call_Name_kw (ld_glob I hg mg ?_ db)
    have hp' := hp
    rw [List.all_cons, Bool.and_eq_true] at hp
    refine PySem.W.callWith_KW (h₀ := X.base) I.ok.mod.kin kp k1 (thn (ha.run pos pins s σ H _ I (tA.then' sr re h fun ws S1 φ1 F1 vs H1 s1 e1 r1 g1 h1 => (show ∃ ws S1 φ1 F1, SR C φ1 F1 S1 H1 ∧ EnvR C φ1 F1 ρ σ ∧ RepWs C φ1 F1 ws vs ∧ Ans C (RepW C) φ1 F1 ((vs_ ρ S1).bind fun us S => if ws.length = n ∧ us.length = ks.length then (match permW ix (ws ++ us) with
        | some zs => G.fn f zs S
        | none => .no) else .no) Q (fun c d H' => U c d σ H') from ⟨ws, S1, φ1, F1, s1, e1, r1, h1⟩))) fun us s1 ⟨vs, H1, I1, r, ws, S1, φ1, F1, sr1, re1, rr, h1⟩ => ?_) (star_any2 hp' k3) (star_cons hp.1)
    refine thn (hv.run pos pins s1 σ H1 _ I1 (tA.then' sr1 re1 h1 fun ws2 S2 φ2 F2 vs2 H2 s2 e2 r2 g2 h2 => (show ∃ ws2 S2 φ2 F2, SR C φ2 F2 S2 H2 ∧ RepWs C φ2 F2 ws vs ∧ RepWs C φ2 F2 ws2 vs2 ∧ Ans C (RepW C) φ2 F2 (if ws.length = n ∧ ws2.length = ks.length then (match permW ix (ws ++ ws2) with
        | some zs => G.fn f zs S2
        | none => .no) else .no) Q (fun c d H' => U c d σ H') from ⟨ws2, S2, φ2, F2, s2, rr.mono g2, r2, h2⟩))) fun us2 s2 ⟨vs2, H2, I2, rz, ws2, S2, φ2, F2, sr2, rr1, rr2, h2⟩ => ⟨I2.kIn, ?_⟩
    rw [k2]
    by_cases hl : ws.length = n ∧ ws2.length = ks.length
    · rw [if_pos hl] at h2
      cases ez : permW ix (ws ++ ws2) with
      | none => rw [ez] at h2; exact (show False from h2).elim
      | some zs =>
        rw [ez] at h2
        exact run pins σ H2 s2 vs vs2 us us2 Q φ2 F2 S2 ws ws2 zs I2 r rz sr2 rr1 rr2 hl.1 hl.2 ez h2
    · rw [if_neg hl] at h2; exact (show False from h2).elim
  · rw [if_neg hd] at h; exact (show False from h).elim
theorem sCallK0 (T : Facts X C G) (tk : Takes X U) {f : Str} {n : Nat} {ks : List Str} {ix : List Nat} {p : Pos} (hg : Gl X f) (hkw : kwOk kws ks = true) (hv : SK X C U kws vs_) : SE X C U (.Call (.Name f p) [] kws pos) (fCallK G f n aNil ks vs_ ix) := by
  refine ⟨fun pins s σ H Q I ⟨φ, F, S, ρ, sr, re, h⟩ => ?_⟩
  unfold fCallK aNil at h
  by_cases hd : (n, ks, ix) ∈ G.kw f
  · rw [if_pos hd] at h
    obtain ⟨fa, mg, kp, db, run⟩ := run_anyK T tk hd
    obtain ⟨k1, k2, k3⟩ := kw_all (env := X.env) (pos := pos) hkw
    refine wpAny_Call_Name_kw (ld_glob I hg mg ?_ db)
    have h : Ans C (RepW C) φ F ((vs_ ρ S).bind fun us S => if ([] : List W).length = n ∧ us.length = ks.length then (match permW ix ([] ++ us) with
        | some zs => G.fn f zs S
        | none => .no) else .no) Q (fun c d H' => U c d σ H') := h
    refine PySem.W.callWith_KW0 (h₀ := X.base) I.ok.mod.kin kp k1 ?_ (star_any2 (es := []) rfl k3)
    refine thn (hv.run pos pins s σ H _ I (tA.then' sr re h fun ws2 S2 φ2 F2 vs2 H2 s2 e2 r2 g2 h2 => (show ∃ ws2 S2 φ2 F2, SR C φ2 F2 S2 H2 ∧ RepWs C φ2 F2 ws2 vs2 ∧ Ans C (RepW C) φ2 F2 (if ([] : List W).length = n ∧ ws2.length = ks.length then (match permW ix ([] ++ ws2) with
        | some zs => G.fn f zs S2
        | none => .no) else .no) Q (fun c d H' => U c d σ H') from ⟨ws2, S2, φ2, F2, s2, r2, h2⟩))) fun us2 s2 ⟨vs2, H2, I2, rz, ws2, S2, φ2, F2, sr2, rr2, h2⟩ => ⟨I2.kIn, ?_⟩
    rw [k2]
    by_cases hl : ([] : List W).length = n ∧ ws2.length = ks.length
    · rw [if_pos hl] at h2
      cases ez : permW ix ([] ++ ws2) with
      | none => rw [ez] at h2; exact (show False from h2).elim
      | some zs =>
        rw [ez] at h2
        exact run pins σ H2 s2 [] vs2 [] us2 Q φ2 F2 S2 [] ws2 zs I2 .nil rz sr2 .nil rr2 hl.1 hl.2 ez h2
    · rw [if_neg hl] at h2; exact (show False from h2).elim
  · rw [if_neg hd] at h; exact (show False from h).elim
end
end M
set_option Elab.async false
set_option linter.all false
set_option maxRecDepth 100000
set_option maxHeartbeats 4000000
namespace M
open PySem PySem.Spec PyProof.Rows L2
theorem meth_treeK {o : Expr} {m : Str} {apos pos : Pos} {es : List Expr} {kws : List Keyword} {env : PySem.Env} (hb : attributeBase o m env (eval o env) = eval o env) (hf : methodCallForm (es.length + kws.length) (backTo pos (starEach es env)) (backToKw pos (keywordEach kws env)) = true) (hl : (apos.endLine == pos.line) = true) :
    eval (.Call (.Attribute o m apos) es kws pos) env = (do
      let ov ← eval o env
      standAt apos.atName
      let (f, first) ← holding [ov] (getMethod ov m (do return (← importBound o env).getD true))
      callWith pos f first (backTo pos (starEach es env)) (backToKw pos (keywordEach kws env))) := by
  have e : eval (.Call (.Attribute o m apos) es kws pos) env = (do
      let ov ← attributeBase o m env (eval o env)
      standAt apos.atName
      methodCall o m apos pos env ov (es.length + kws.length) (backTo pos (starEach es env)) (backToKw pos (keywordEach kws env))) := by
    first | rfl | simp only [eval]
  rw [e, hb]
  unfold methodCall
  simp only [hf, calleeOf, methodCallPos, hl, Bool.not_true, Bool.false_or, if_true]
  rfl
theorem few_ofK {es : List Expr} {kws : List Keyword} {ks : List Str} {env : PySem.Env} {pos : Pos} (h : (starEach es env).all (fun x => !x.1) = true) (hk : (backToKw pos (keywordEach kws env)).all (·.1.isSome) = true) (hl : es.length + kws.length < 29) : methodCallForm (es.length + kws.length) (backTo pos (starEach es env)) (backToKw pos (keywordEach kws env)) = true := by
  unfold methodCallForm
  have : (backTo pos (starEach es env)).all (fun x => !x.1) = true := by
    unfold backTo
    rw [List.all_map]
    exact h
  rw [this, hk]
  simp
  split <;> omega
section
variable {X : Cx} {C : Cl} {G : Gt} {U : WX} {a b c o e : Expr} {fa fb fc fo fe : EF} {pos : Pos} {es : List Expr} {fs vs_ : AF} {kws : List Keyword}
/-- o.m(k = v) -/
theorem sMethK0 (T : Facts X C G) (tk : Takes X U) {m : Str} {n : Nat} {ks : List Str} {ix : List Nat} {apos : Pos} (hb : attributeBase o m X.env (eval o X.env) = eval o X.env) (hl : kws.length < 29) (hln : (apos.endLine == pos.line) = true) (hkw : kwOk kws ks = true)
    (ho : SE X C U o fo) (hv : SK X C U kws vs_) : SE X C U (.Call (.Attribute o m apos) [] kws pos) (fMethK G fo m n aNil ks vs_ ix) := by
  obtain ⟨k1, k2, k3⟩ := kw_all (env := X.env) (pos := pos) hkw
  refine ⟨fun pins s σ H Q I ⟨φ, F, S, ρ, sr, re, h⟩ => ?_⟩
  refine PySem.W.methodCall_KW (thn (ho.run pins s σ H _ I (tE.then' (g := fun w S => match clsOf S w with
  | some c => if ((n, ks, ix) ∈ G.kwm c m) ∧ (fldOf S m w).isNone = true then (vs_ ρ S).bind fun us S => if ([] : List W).length = n ∧ us.length = ks.length then (match permW ix (w :: ([] ++ us)) with
    | some zs => G.me c m zs S
    | none => .no) else .no else .no
  | none => .no) sr re h fun w S1 φ1 F1 v H1 s1 e1 r1 g1 h1 => (show ∃ w S1 φ1 F1, SR C φ1 F1 S1 H1 ∧ EnvR C φ1 F1 ρ σ ∧ RepW C φ1 F1 w v ∧ Ans C (RepW C) φ1 F1 (match clsOf S1 w with
  | some c => if ((n, ks, ix) ∈ G.kwm c m) ∧ (fldOf S1 m w).isNone = true then (vs_ ρ S1).bind fun us S => if ([] : List W).length = n ∧ us.length = ks.length then (match permW ix (w :: ([] ++ us)) with
    | some zs => G.me c m zs S
    | none => .no) else .no else .no
  | none => .no) Q (fun c d H' => U c d σ H') from ⟨w, S1, φ1, F1, s1, e1, r1, h1⟩))) fun u s1 ⟨v, H1, I1, rx, w, S1, φ1, F1, sr1, re1, r1, h1⟩ => ?_) (meth_treeK hb (few_ofK (es := []) (ks := ks) (by rw [starNil]; rfl) k1 (by simpa using hl)) hln)
  cases ec : clsOf S1 w with
  | none => rw [ec] at h1; exact (show False from h1).elim
  | some c =>
    rw [ec] at h1
    dsimp only at h1
    by_cases hd : ((n, ks, ix) ∈ G.kwm c m) ∧ (fldOf S1 m w).isNone = true
    · rw [if_pos hd] at h1
      obtain ⟨A, f, j, M, fd, ps, k, F1', hr, hkb⟩ := T.kwm c m n ks ix hd.1
      obtain ⟨ad, A', dx, gs, rfl, hc, hH, hlk⟩ := ins_ofN sr1 r1 ec (Option.isNone_iff_eq_none.mp hd.2)
      have eA : A' = A := Option.some.inj (hc.symm.trans M.cls)
      subst eA
      cases rx
      refine getmeth_ok I1 hH M.ok M.me hlk ?_
      refine PySem.W.callWith_KW0 (first := [.ref ad]) (h₀ := X.base) I.ok.mod.kin M.me.kp k1 ?_ (star_any2 (es := []) rfl k3)
      refine thn (hv.run pos pins s1 σ H1 _ I1 (tA.then' sr1 re1 h1 fun ws2 S2 φ2 F2 vs2 H2 s2 e2 r2 g2 h2 => (show ∃ ws2 S2 φ2 F2, SR C φ2 F2 S2 H2 ∧ RepW C φ2 F2 w (.ref ad) ∧ RepWs C φ2 F2 ws2 vs2 ∧ Ans C (RepW C) φ2 F2 (if ([] : List W).length = n ∧ ws2.length = ks.length then (match permW ix (w :: ([] ++ ws2)) with
          | some zs => G.me c m zs S2
          | none => .no) else .no) Q (fun c d H' => U c d σ H') from ⟨ws2, S2, φ2, F2, s2, r1.mono g2, r2, h2⟩))) fun us2 s2 ⟨vs2, H2, I2, rz, ws2, S2, φ2, F2, sr2, rr1, rr2, h2⟩ => ⟨I2.kIn, ?_⟩
      rw [k2]
      by_cases hl : ([] : List W).length = n ∧ ws2.length = ks.length
      · rw [if_pos hl] at h2
        cases ez : permW ix (w :: ([] ++ ws2)) with
        | none => rw [ez] at h2; exact (show False from h2).elim
        | some zs =>
          rw [ez] at h2
          have hn : n = 0 := by simpa using hl.1.symm
          subst hn
          exact run_fnK F1' hr hkb tk I2 (vs := [.ref ad]) (us := [.ref ad]) (.cons (show RelV (V.ref ad) (Value.ref ad) from rfl) .nil) rz sr2 (.cons rr1 .nil) rr2 rfl hl.2 ez (M.len _ _ h2.ne_no) h2
      · rw [if_neg hl] at h2; exact (show False from h2).elim
    · rw [if_neg hd] at h1; exact (show False from h1).elim
end
end M
set_option Elab.async false
set_option linter.all false
set_option maxRecDepth 100000
set_option maxHeartbeats 4000000
namespace M
open PySem PySem.Spec PyProof.Rows L2
section
variable {X : Cx} {C : Cl} {G : Gt} {U : WX} {a b c o e : Expr} {fa fb fc fo fe : EF} {ta tb : TF} {pos : Pos} {es : List Expr} {fs vs_ : AF}
theorem sDct0 {mu : Bool} : SE X C U (.Dict [] [] pos) (fDct0 mu) := by
  refine PE.imp (pe_lk pe_dnewK) fun σ H Q ⟨φ, F, S, ρ, sr, re, h⟩ => ?_
  intro p hp
  unfold fDct0 at h
  cases mu with
  | true => exact .inl <| ans_ok h SR.gcell (sr.cell hp (c := .dic [] []) (o := .dK []) ⟨[], rfl, .nil, rfl⟩) ⟨p, by rw [← sr.len]; simp, rfl⟩
  | false =>
    refine .inr ⟨p, .dK [], rfl, upd_same, True.intro, fun od => ?_⟩
    rw [upd_upd]
    refine ans_ok h (sr.gpure hp) (sr.pure (o := .frz od (.dK [])) hp) ?_
    unfold RepW Rep
    exact ⟨p, [], od, rfl, upd_same, Reps.nil, rfl⟩
theorem sSplit {apos : Pos} (hb : attributeBase o "split" X.env (eval o X.env) = eval o X.env) (hl : (apos.endLine == pos.line) = true) (hp : plainE a = true) (ho : SE X C U o fo) (ha : SE X C U a fa) : SE X C U (.Call (.Attribute o "split" apos) [a] [] pos) (fBm .split fo (aCons fa aNil)) := by
  refine PE.imp (pe_split ho ha (by rw [star_cons hp, starNil]) hb hl) fun σ H Q ⟨φ, F, S, ρ, sr, re, h⟩ => ?_
  refine tE.then' (g := fun w S => if bmOk .split w S = true then (aCons fa aNil ρ S).bind fun ws S => (bmF .split w ws S).noex else .no) sr re h fun w S1 φ1 F1 v H1 s1 e1 r1 g1 h1 => ?_
  cases w with
  | c n => exact (show False from h1).elim
  | p d =>
    cases d <;> try exact (show False from h1).elim
    rename_i x
    cases r1.str
    refine ⟨⟨x, rfl⟩, ?_⟩
    have h1 : Ans C (RepW C) φ1 F1 ((fa ρ S1).bind fun w S => (bmF .split (.p (.str x)) [w] S).noex) Q (fun c d H' => U c d σ H') := by
      have h2 : Ans C (RepW C) φ1 F1 ((aCons fa aNil ρ S1).bind fun ws S => (bmF .split (.p (.str x)) ws S).noex) Q (fun c d H' => U c d σ H') := h1
      unfold aCons aNil at h2
      cases ef : fa ρ S1 with
      | no => rw [ef] at h2; exact h2
      | ex c ks ds S => rw [ef] at h2; exact h2
      | ok w S => rw [ef] at h2; exact h2
    refine tE.then' s1 e1 h1 fun u S2 φ2 F2 y H2 s2 e2 r2 g2 h2 => ?_
    cases u with
    | c n => exact (show False from h2).elim
    | p d =>
      cases d <;> try exact (show False from h2).elim
      rename_i z
      cases r2.str
      have h2 : Ans C (RepW C) φ2 F2 (if (z.length == 0) = false ∧ sizeOk (x.length + 2) then Rs.ok (.p (.lst ((Txt.split x z).map .str))) S2 else .no).noex Q (fun c d H' => U c d σ H') := h2
      by_cases hz : (z.length == 0) = false ∧ sizeOk (x.length + 2)
      · rw [if_pos hz] at h2
        refine ⟨x, z, rfl, rfl, hz.1, sizeOk_line hz.2, fun p hp => ?_⟩
        refine ans_ok h2 (s2.gpure hp) (s2.pure (o := .lst ((Txt.split x z).map V.str)) hp) ?_
        unfold RepW Rep
        refine ⟨p, _, rfl, upd_same, ?_⟩
        have : ∀ (l : List Str) (F : Hp), Reps C F (l.map .str) (l.map V.str) := fun l F => by
          induction l with
          | nil => exact Reps.nil
          | cons x l ih => exact Reps.cons (by simp [Rep]) ih
        exact this _ _
      · rw [if_neg hz] at h2; exact (show False from h2).elim
/-- one in a row -/
def strip : Expr → Expr
  | .BoolOp _ [x] _ => x
  | e => e
theorem se_strip (h : SE X C U (strip e) fe) : SE X C U e fe := by
  unfold strip at h
  split at h
  · exact pe_one h
  · exact h
theorem sw_one {op : BoolOp} (h : ST X C U a ta) : SW X C U (.BoolOp op [a] pos) ta := by
  cases op with
  | And => exact pw_and1 h
  | Or => exact pw_or1 h
theorem st_strip (h : ST X C U (strip e) ta) : ST X C U e ta := by
  unfold strip at h
  split at h
  · exact (sw_one h).pt
  · exact h
def plainIxB : Expr → Bool
  | .Slice .. => false
  | .Tuple .. => false
  | .Name .. => true
  | .Constant .. => true
  | .BinOp .. => true
  | .UnaryOp .. => true
  | .Call .. => true
  | .Subscript .. => true
  | .Attribute .. => true
  | .Compare .. => true
  | _ => false
theorem plainIx_of (h : plainIxB b = true) : PlainIx b := by
  intro o i
  cases b <;> first | (exact absurd (show false = true from h) Bool.false_ne_true) | rfl
def cstB : Const → Const → Bool
  | .none, .none => true
  | .bool a, .bool b => a == b
  | .int a, .int b => a == b
  | .str a, .str b => decide (a = b)
  | _, _ => false
theorem cst_of : ∀ {a b : Const}, cstB a b = true → a = b := by
  intro a b h
  cases a <;> cases b <;> first | (exact absurd (show false = true from h) Bool.false_ne_true) | skip
  · rfl
  · rw [beq_iff_eq.mp (show (_ == _) = true from h)]
  · rw [beq_iff_eq.mp (show (_ == _) = true from h)]
  · rw [of_decide_eq_true (show decide (_ = _) = true from h)]
/-- may its methods be asked plainly -/
def baseB : Expr → Bool
  | .Call (.Name f _) _ _ _ => f != "super"
  | .Call .. => true
  | _ => true
theorem base_ok {m : Str} (h : baseB o = true) : attributeBase o m X.env (eval o X.env) = eval o X.env := by
  cases o with
  | Call f as ks p => exact base_call (o := f) (by cases f <;> first | exact h | rfl)
  | _ => exact base_of rfl
/-- the reading of a target -/
def tGen (C : Cl) (g : Tg) : TG := fun v σ H Q => ∃ φ F S ρ ρ' w, SR C φ F S H ∧ EnvR C φ F ρ σ ∧ RepW C φ F w v ∧ g.set ρ w = some ρ' ∧ ∀ σ', Alike g.slots σ' σ → EnvR C φ F ρ' σ' → Q σ' H
theorem ST_.pg {tg : Expr} {g : Tg} (h : ST_ X C tg g) : PG X tg (tGen C g) := by
  obtain ⟨t, h1, h2⟩ := h.ex
  exact ⟨fun pins s σ H v u Q I r q => h1.run pins s σ H v u Q I r (h2 v σ H Q q)⟩
theorem sBmS {apos : Pos} (hb : attributeBase o "split" X.env (eval o X.env) = eval o X.env) (hl : (e :: es).length < 30) (hp : (e :: es).all plainE = true) (hln : (apos.endLine == pos.line) = true) (ho : SE X C U o fo) (ha : SA X C U (e :: es) fs) :
    SE X C U (.Call (.Attribute o "split" apos) (e :: es) [] pos) (fBm .split fo fs) := by
  have hp' := hp
  rw [List.all_cons, Bool.and_eq_true] at hp
  refine PE.imp (pe_bm F.plainAttrs_str F.slot_str_split F.type_str_split mt_split ho ha hb (few_of (star_all hp') hl) hln (star_cons hp.1) (star_any hp.2)) fun σ H Q ⟨φ, F, S, ρ, sr, re, h⟩ => ?_
  refine tE.then' (g := fun w S => if bmOk .split w S = true then (fs ρ S).bind fun ws S => (bmF .split w ws S).noex else .no) sr re h fun w S1 φ1 F1 v H1 s1 e1 r1 g1 h1 => ?_
  cases w with
  | c n => exact (show False from h1).elim
  | p d =>
    cases d <;> try exact (show False from h1).elim
    rename_i x
    cases r1.str
    refine ⟨rfl, tA.then' (g := fun ws S => (bmF .split (.p (.str x)) ws S).noex) s1 e1 h1 fun ws S2 φ2 F2 vs H2 s2 e2 r2 g2 h2 => ?_⟩
    match ws, r2, h2 with
    | [.p (.str z)], r2, h2 =>
      obtain ⟨y, rfl, ry⟩ := vals_one (ws := []) r2
      cases ry.str
      have h2 : Ans C (RepW C) φ2 F2 (if (z.length == 0) = false ∧ sizeOk (x.length + 2) then Rs.ok (.p (.lst ((Txt.split x z).map .str))) S2 else .no).noex Q (fun c d H' => U c d σ H') := h2
      by_cases hz : (z.length == 0) = false ∧ sizeOk (x.length + 2)
      · rw [if_pos hz] at h2
        refine ⟨x, z, rfl, rfl, hz.1, sizeOk_line hz.2, fun p hp => ?_⟩
        refine ans_ok h2 (s2.gpure hp) (s2.pure (o := .lst ((Txt.split x z).map V.str)) hp) ?_
        unfold RepW Rep
        refine ⟨p, _, rfl, upd_same, ?_⟩
        have : ∀ (l : List Str) (F : Hp), Reps C F (l.map .str) (l.map V.str) := fun l F => by
          induction l with
          | nil => exact Reps.nil
          | cons x l ih => exact Reps.cons (by simp [Rep]) ih
        exact this _ _
      · rw [if_neg hz] at h2; exact (show False from h2).elim
theorem sBmA {apos : Pos} (hb : attributeBase o "append" X.env (eval o X.env) = eval o X.env) (hl : (e :: es).length < 30) (hp : (e :: es).all plainE = true) (hln : (apos.endLine == pos.line) = true) (ho : SE X C U o fo) (ha : SA X C U (e :: es) fs) :
    SE X C U (.Call (.Attribute o "append" apos) (e :: es) [] pos) (fBm .append fo fs) := by
  have hp' := hp
  rw [List.all_cons, Bool.and_eq_true] at hp
  refine PE.imp (pe_bm F.plainAttrs_list F.slot_list_append F.type_list_append mt_append ho ha hb (few_of (star_all hp') hl) hln (star_cons hp.1) (star_any hp.2)) fun σ H Q ⟨φ, F, S, ρ, sr, re, h⟩ => ?_
  refine tE.then' (g := fun w S => if bmOk .append w S = true then (fs ρ S).bind fun ws S => (bmF .append w ws S).noex else .no) sr re h fun w S1 φ1 F1 v H1 s1 e1 r1 g1 h1 => ?_
  by_cases hk : bmOk .append w S1 = true
  · rw [if_pos hk] at h1
    have hk' : (lstOf S1 w).isSome = true := by cases w <;> exact hk
    obtain ⟨us, eu⟩ := Option.isSome_iff_exists.mp hk'
    obtain ⟨a0, vs0, rfl, q0, _⟩ := lst_of s1 r1 eu
    refine ⟨.inl ⟨rfl, vs0, .inl (.inl q0)⟩, tA.then' (g := fun ws S => (bmF .append w ws S).noex) s1 e1 h1 fun ws S2 φ2 F2 vs H2 s2 e2 r2 g2 h2 => ?_⟩
    cases w with
    | p d => cases ws <;> exact (show False from h2).elim
    | c n =>
      match ws, r2, h2 with
      | [u], r2, h2 =>
        obtain ⟨y, rfl, ry⟩ := vals_one (ws := []) r2
        obtain ⟨ad, ea, er⟩ := r1.mono g2
        cases er
        cases es2 : S2[n]? with
        | none =>
          have : bmF .append (.c n) [u] S2 = .no := by simp [bmF, es2]
          rw [this] at h2; exact (show False from h2).elim
        | some sl =>
          cases sl with
          | dead d =>
            have : bmF .append (.c n) [u] S2 = .no := by simp [bmF, es2]
            rw [this] at h2; exact (show False from h2).elim
          | live ct =>
            cases ct with
            | lst ws2 =>
              have eb : bmF .append (.c n) [u] S2 = if sizeOk (ws2.length + 1) then .ok (.p .non) (S2.set n (.live (.lst (ws2 ++ [u])))) else .no := by simp [bmF, es2]
              rw [eb] at h2
              by_cases hz : sizeOk (ws2.length + 1)
              · rw [if_pos hz] at h2
                obtain ⟨_, ob, hob, zs, rfl, q⟩ := s2.sl n _ _ es2 ea
                refine ⟨_, zs, y, rfl, rfl, hob, ?_, ans_ok h2 (Grow.refl _ _) (s2.mut es2 ea (c' := .lst (ws2 ++ [u])) (o := .lst (zs ++ [y])) ⟨_, rfl, paired_append q (.cons ry .nil)⟩) repW_non⟩
                have := sizeOk_line hz
                rw [← q.length]; omega
              · rw [if_neg hz] at h2; exact (show False from h2).elim
            | _ =>
              have : bmF .append (.c n) [u] S2 = .no := by simp [bmF, es2]
              rw [this] at h2; exact (show False from h2).elim
  · rw [if_neg hk] at h1; exact (show False from h1).elim
end
end M
set_option Elab.async false
set_option linter.all false
set_option maxRecDepth 100000
set_option maxHeartbeats 4000000
namespace M
open PySem PySem.Spec PyProof.Rows L2
section
variable {X : Cx} {C : Cl} {G : Gt} {U : WX} {a b c o e : Expr} {fa fb fc fo fe : EF} {pos : Pos} {es : List Expr} {fs vs_ : AF} {kws : List Keyword}
/-- a bound classmethod runs -/
theorem run_cmU {q g A : Addr} {c m : Str} {mc : Value} {p : Addr} {n : Nat} {pins : List (Addr × Obj)} {σ : L2.St} {H : Hp} {s : Shared} {vs : List V} {us : List Value} {Q : VK} {φ : List Addr} {F : Hp} {S : Sto} {ws : List W} (M : CmF X C G c m A mc p g n) (tk : Takes X U)
    (I : Inv X ((q, PySem.W.methodObj (.ref g) (.ref A)) :: pins) σ H s) (r : Vals vs us) (sr : SR C φ F S H) (rw : RepWs C φ F ws vs) (h : Ans C (RepW C) φ F (G.cme c m (.p (.cls c) :: ws) S) Q (fun c d H' => U c d σ H')) :
    wpAny (model X.prog X.w) X.A (call (.ref q) us) (EP X pins σ Q) X.xe s := by
  obtain ⟨fd, ps, k, F1, hr, hb, _⟩ := M.run
  have nn := M.len _ _ h.ne_no
  have hr := hr.mono (Nat.le_succ k)
  have rr : RepWs C φ F (.p (.cls c) :: ws) (.ref A :: vs) := .cons (by unfold RepW Rep; exact ⟨A, rfl, M.cl⟩) rw
  have hsp : spG C n (G.cme c m) (.ref A :: vs) H Q (WE U σ) := ⟨by rw [← rr.length, nn], φ, F, S, _, sr, rr, h⟩
  have hl : (Value.ref A :: us).length = ps.length := by rw [← (show Vals (V.ref A :: vs) (Value.ref A :: us) from .cons rfl r).length]; exact F1.len _ _ _ _ hsp
  have b := hb s (.ref A :: us) I.kIn (by simpa using hl)
  rw [List.append_nil] at b
  have z : wpAny (model X.prog X.w) X.A (call (.ref q) us) (EP X ((q, PySem.W.methodObj (.ref g) (.ref A)) :: pins) σ Q) X.xe s := by
    refine wpAny_call (PySem.W.method_call (ClX.pin_at I) (codeAny_mono (F1.run X.A X.stack s H ⟨.ref A :: us, []⟩ (.ref A :: us) (.ref A :: vs) Q (WE U σ) hr I.env0 b (.cons rfl r) hsp) fun r s' hq => ?_))
    cases r with
    | error e => exact passAt tk σ _ H s e s' I hq
    | ok fl =>
      cases fl with
      | ret u => exact I.after hq
      | next => exact False.elim hq
      | brk => exact False.elim hq
      | cont => exact False.elim hq
  exact thn z fun _ _ y => ClX.unpinE y
/-- C.m(..) -/
theorem sCmeth (T : Facts X C G) (tk : Takes X U) {c m : Str} {apos p : Pos} {e : Expr} (hg : Gl X c) (hl : (e :: es).length < 30) (hp : (e :: es).all plainE = true) (hln : (apos.endLine == pos.line) = true)
    (ha : SA X C U (e :: es) fs) : SE X C U (.Call (.Attribute (.Name c p) m apos) (e :: es) [] pos) (fCmeth G c m fs) := by
  refine ⟨fun pins s σ H Q I ⟨φ, F, S, ρ, sr, re, h⟩ => ?_⟩
  unfold fCmeth at h
  by_cases hd : G.cm c m = true
  · rw [if_pos hd] at h
    obtain ⟨A, mc, pa, g, n, M⟩ := T.cm c m (.inl hd)
    refine PySem.W.methodCall_KW (ld_glob I hg M.mg ?_ M.db) (meth_tree (base_of rfl) (few_of (star_all hp) hl) hln)
    refine ClX.getmethcm_ok I M.rd M.me fun s2 I2 => ?_
    rw [List.all_cons, Bool.and_eq_true] at hp
    refine ClX.callwith_cm I2 (ClX.base_none I (Nat.le_refl _)) M.me.fi (thn (ha.run pos _ s2 σ H _ I2 (tA.then' (g := fun ws S => G.cme c m (.p (.cls c) :: ws) S) sr re h fun ws S2 φ2 F2 vs H2 s2 e2 r2 g2 h2 => (show ∃ ws S2 φ2 F2, SR C φ2 F2 S2 H2 ∧ RepWs C φ2 F2 ws vs ∧ Ans C (RepW C) φ2 F2 (G.cme c m (.p (.cls c) :: ws) S2) Q (fun c d H' => U c d σ H') from ⟨ws, S2, φ2, F2, s2, r2, h2⟩))) fun us s3 ⟨vs, H2, I3, rv, ws, S2, φ2, F2, sr2, rr, h2⟩ => ⟨⟨ClX.pin_at I3, I3.kIn⟩, ?_⟩) (star_cons hp.1) (star_any hp.2)
    exact run_cmU M tk I3 rv sr2 rr h2
  · rw [if_neg hd] at h; exact (show False from h).elim
/-- C.m(k = v) -/
theorem sCmethK (T : Facts X C G) (tk : Takes X U) {c m : Str} {ks : List Str} {ix : List Nat} {apos p : Pos} (hg : Gl X c) (hl : kws.length < 29) (hln : (apos.endLine == pos.line) = true) (hkw : kwOk kws ks = true)
    (hv : SK X C U kws vs_) : SE X C U (.Call (.Attribute (.Name c p) m apos) [] kws pos) (fCmethK G c m ks vs_ ix) := by
  obtain ⟨k1, k2, k3⟩ := kw_all (env := X.env) (pos := pos) hkw
  refine ⟨fun pins s σ H Q I ⟨φ, F, S, ρ, sr, re, h⟩ => ?_⟩
  unfold fCmethK at h
  by_cases hd : (ks, ix) ∈ G.kwcm c m
  · rw [if_pos hd] at h
    obtain ⟨A, mc, pa, g, n, M⟩ := T.cm c m (.inr ⟨_, hd⟩)
    refine PySem.W.methodCall_KW (ld_glob I hg M.mg ?_ M.db) (meth_treeK (base_of rfl) (few_ofK (es := []) (ks := ks) (by rw [starNil]; rfl) k1 (by simpa using hl)) hln)
    refine ClX.getmethcm_ok I M.rd M.me fun s2 I2 => ?_
    refine PySem.W.callWith_of (P := PySem.W.MethP X.K s.heap.objs.size g (.ref A)) (star_any2 (es := []) rfl k3) (PySem.W.keeps_M M.me.fi) (evalArgs_kw2_nil k1 ?_)
    refine thn (hv.run pos _ s2 σ H _ I2 (tA.then' sr re h fun ws2 S2 φ2 F2 vs2 H2 s2 e2 r2 g2 h2 => (show ∃ ws2 S2 φ2 F2, SR C φ2 F2 S2 H2 ∧ RepWs C φ2 F2 ws2 vs2 ∧ Ans C (RepW C) φ2 F2 (if ws2.length = ks.length then (match permW ix (.p (.cls c) :: ws2) with
          | some zs => G.cme c m zs S2
          | none => .no) else .no) Q (fun c d H' => U c d σ H') from ⟨ws2, S2, φ2, F2, s2, r2, h2⟩))) fun us2 s3 ⟨vs2, H2, I3, rz, ws2, S2, φ2, F2, sr2, rr2, h2⟩ => ⟨⟨ClX.pin_at I3, I3.kIn⟩, ?_⟩
    rw [k2]
    by_cases hl : ws2.length = ks.length
    · rw [if_pos hl] at h2
      cases ez : permW ix (.p (.cls c) :: ws2) with
      | none => rw [ez] at h2; exact (show False from h2).elim
      | some zs =>
        rw [ez] at h2
        obtain ⟨fd, ps, k, F1, hr, _, hb⟩ := M.run
        have nn := M.len _ _ h2.ne_no
        have hr := hr.mono (Nat.le_succ k)
        have rc : RepW C φ2 F2 (.p (.cls c)) (.ref A) := by unfold RepW Rep; exact ⟨A, rfl, M.cl⟩
        obtain ⟨vz, e1, p1⟩ := perm_paired (show RepWs C φ2 F2 (.p (.cls c) :: ws2) (.ref A :: vs2) from .cons rc rr2) ez
        obtain ⟨uz, e2, p2⟩ := vals_perm (show Vals (V.ref A :: vs2) (Value.ref A :: us2) from .cons rfl rz) e1
        have hsp : spG C n (G.cme c m) vz H2 Q (WE U σ) := ⟨by rw [← nn, p1.length], φ2, F2, S2, zs, sr2, p1, h2⟩
        have b := hb ks ix hd s3 [.ref A] us2 uz I3.kIn rfl (by rw [← rz.length, ← rr2.length, hl]) e2
        have z : wpAny (model X.prog X.w) X.A (call (.ref s.heap.objs.size) [] (ks.zip us2)) (EP X ((s.heap.objs.size, PySem.W.methodObj (.ref g) (.ref A)) :: pins) σ Q) X.xe s3 := by
          refine wpAny_call (PySem.W.method_call (ClX.pin_at I3) (codeAny_mono (F1.run X.A X.stack s3 H2 ⟨[.ref A], ks.zip us2⟩ uz vz Q (WE U σ) hr I3.env0 b p2 hsp) fun r s' hq => ?_))
          cases r with
          | error e => exact passAt tk σ _ H2 s3 e s' I3 hq
          | ok fl =>
            cases fl with
            | ret u => exact I3.after hq
            | next => exact False.elim hq
            | brk => exact False.elim hq
            | cont => exact False.elim hq
        exact thn z fun _ _ y => ClX.unpinE y
    · rw [if_neg hl] at h2; exact (show False from h2).elim
  · rw [if_neg hd] at h; exact (show False from h).elim
/-- list(d), d a dict -/
theorem lis_dict (hc : X.calm = true) {p : Addr} {kvs : List (Key × V)} {pins : List (Addr × Obj)} {σ : L2.St} {H : Hp} {s : Shared} {Q : VK} (I : Inv X pins σ H s) (hk : Rd H p (.dK kvs)) (q : ∀ l, H l = none → Q (.ref l) (upd H l (.lst (kvs.map fun kv => kV kv.1)))) :
    wpAny (model X.prog X.w) X.A (call (.type "list") [.ref p]) (EP X pins σ Q) X.xe s := by
  obtain ⟨z, lo, vs, rk, hd⟩ := dk_rd I.hok hk; obtain ⟨ep, hat⟩ := hd.dictAt
  have len : kvs.length = vs.length := KV.length rk
  refine PySem.W.kdl_call (PySem.W.kdl_dict (knd := mixKind X.prog X.w) (kvs := vs) (ep := ep) lo) (I.ok.hd hc) hat (by omega) fun h' tk acc c' keep made got => ?_
  have rel : Vals (kvs.map fun kv => kV kv.1) acc.toList := by
    refine vals_of_at (by simp [got.1, len]) fun j x w h1 h2 => ?_
    obtain ⟨k, y, ky, ki⟩ := got.2 j w (by rw [← Array.getElem?_toList]; exact h2)
    have kk := congrArg (fun l : List Key => l[j]?) (KV.keys rk)
    simp only [List.getElem?_map, ky, Option.map_some] at kk h1
    cases e : kvs[j]? with
    | none => rw [e] at kk; cases kk
    | some kv =>
      rw [e] at kk h1
      have k1 : kv.1 = k := Option.some.inj kk
      have k2 : kV kv.1 = x := Option.some.inj h1
      rw [← k2, k1]; exact keyIs_rel ki
  have laid := I.laid (t' := tk) (o := .lst (kvs.map fun kv => kV kv.1)) keep (Nat.le_refl _) ⟨by rw [List.length_map]; exact z, acc.toList, c', rel, by rw [Array.toArray_toList]; exact made⟩
  exact ⟨.ref s.heap.objs.size, _, laid, rfl, q _ (I.hok.fresh (Nat.le_refl _))⟩
theorem keys_rep {φ : List Addr} {F : Hp} : ∀ {ks : List Key} {vs : List V}, ks.length = vs.length → RepWs C φ F (ks.map keyD) ((ks.zip vs).map fun kv => kV kv.1)
  | [], _, _ => by simp; exact .nil
  | k :: ks, [], h => by cases h
  | k :: ks, v :: vs, h => .cons (by cases k <;> first | exact repW_int | exact repW_str) (keys_rep (by simpa using h))
theorem bf_lis (hc : X.calm = true) {mu : Bool} : CallR X (.type "list") (fun xs H Q => ∃ φ F S w x, xs = [x] ∧ SR C φ F S H ∧ RepW C φ F w x ∧ Ans C (RepW C) φ F (lisF mu w S) Q (fun _ _ _ => False)) := by
  intro pins s σ H xs us Q I r ⟨φ, F, S, w, x, ex, sr, rw_, h⟩
  subst ex
  unfold lisF at h
  cases e : listOf S w with
  | none => rw [e] at h; exact (show False from h).elim
  | some ws =>
    rw [e] at h
    have h : Ans C (RepW C) φ F (lstF mu ws S) Q (fun _ _ _ => False) := h
    unfold listOf at e
    cases e1 : seqOf S w with
    | some ws' =>
      rw [e1] at e
      cases e
      obtain ⟨a, vs, rfl, q, rr⟩ := seq_of (K := X.K) sr rw_ e1
      exact call_list_of pins s σ H _ us Q I r ⟨a, vs, rfl, .inl q, (lst_ans sr rr h).2⟩
    | none =>
      rw [e1] at e
      have dict : (dicOf S w).map (fun e => e.1.map keyD) = some ws → wpAny (model X.prog X.w) X.A (call (.type "list") us) (EP X pins σ Q) X.xe s := fun e => by
        obtain ⟨⟨ks, zs⟩, e2, rfl⟩ := map_some e
        obtain ⟨a, vs, rfl, rd_, q, l⟩ := dic_of sr rw_ e2
        obtain ⟨u, rfl, ru⟩ := vals1 r
        cases ru
        exact lis_dict hc I rd_ (lst_ans sr (keys_rep (by rw [l]; exact q.length)) h).2
      cases w with
      | c n => exact dict e
      | p d =>
        cases d with
        | tup xs =>
          cases e
          unfold RepW Rep at rw_
          obtain ⟨a, vs, rfl, f, q⟩ := rw_
          exact call_list_of pins s σ H _ us Q I r ⟨a, vs, rfl, .inr (.inl (sr.fh _ _ f).rd), (lst_ans sr (repWs_p.mpr q) h).2⟩
        | _ => exact dict e
/-- list(a) -/
theorem sLis (hc : X.calm = true) {mu : Bool} {p : Pos} (hg : Gl X "list") (hm : X.mg "list" = none) (hp : plainE a = true) (ha : SE X C U a fa) : SE X C U (.Call (.Name "list" p) [a] [] pos) (fLis fa mu) := by
  refine PE.imp (pe_callTy (bf_lis hc (C := C) (mu := mu)) hg hm rfl (pa_cons ha pa_nil (star_cons hp)) (he := star_cons hp) (hpl := by simp [starEach, backTo])) fun σ H Q ⟨φ, F, S, ρ, sr, re, h⟩ => ?_
  refine tE.then' (g := lisF mu) sr re h fun w S1 φ1 F1 v H1 s1 e1 r1 g1 h1 => ?_
  refine ⟨φ1, F1, S1, w, v, rfl, s1, r1, ?_⟩
  cases q : lisF mu w S1 with
  | no => rw [q] at h1; exact h1
  | ok a S2 => rw [q] at h1; exact h1
  | ex c ks ds S2 =>
    unfold lisF lstF at q
    repeat' split at q
    all_goals cases q
/-- a constant of the module -/
theorem sGlo (T : Facts X C G) {x : Str} {p : Pos} (hg : Gl X x) : SE X C U (.Name x p) (fGlo G x) := by
  refine ⟨fun pins s σ H Q I ⟨φ, F, S, ρ, sr, re, h⟩ => ?_⟩
  unfold fGlo at h
  cases e : G.gc x with
  | none => rw [e] at h; exact (show False from h).elim
  | some d =>
    rw [e] at h
    obtain ⟨db, u, v, hm, r, hr⟩ := T.gc x d e
    exact (pe_glob (hd := db) hg hm r).run pins s σ H Q I (ans_ok h (Grow.refl _ _) sr (show RepW C φ F (.p d) v from hr F))
/-- cls(..), cls a parameter -/
theorem sCallV (T : Facts X C G) (tk : Takes X U) (hci : ∀ c A, C.i c = some A → X.mg c = some (.ref A)) {i : Nat} {x : Str} {ds : List Int} {p : Pos} {e : Expr} (ho : SE X C U (.Name x p) (fVar i)) (hp : (e :: es).all plainE = true) (ha : SA X C U (e :: es) fs) : SE X C U (.Call (.Name x p) (e :: es) [] pos) (fCallV G i fs ds) := by
  refine ⟨fun pins s σ H Q I ⟨φ, F, S, ρ, sr, re, h⟩ => ?_⟩
  unfold fCallV at h
  split at h
  next c er =>
    by_cases hd : ds ∈ G.df c
    · rw [if_pos hd] at h
      obtain ⟨fa, mg, kp, db, run⟩ := run_any T tk hd
      have ev : fVar i ρ S = .ok (.p (.cls c)) S := by unfold fVar; rw [er]
      refine wpAny_Call_Name_kw (thn (ho.run pins s σ H (fun v H' => ∃ φ' F', v = .ref fa ∧ SR C φ' F' S H' ∧ EnvR C φ' F' ρ σ ∧ Grow φ F φ' F') I ⟨φ, F, S, ρ, sr, re, by
        rw [ev]
        exact fun v φ' F' H' g s' r => (show ∃ φ' F', v = .ref fa ∧ SR C φ' F' S H' ∧ EnvR C φ' F' ρ σ ∧ Grow φ F φ' F' from ⟨φ', F', by
          unfold RepW Rep at r
          obtain ⟨A, rfl, hA⟩ := r
          have := (hci c A hA).symm.trans mg
          cases this; rfl, s', re.mono g, g⟩)⟩) fun u s1 ⟨v, H1, I1, ru, φ1, F1, ev1, sr1, re1, g1⟩ => ?_)
      subst ev1
      cases ru
      rw [List.all_cons, Bool.and_eq_true] at hp
      refine PySem.W.callWith_K (h₀ := X.base) I.ok.mod.kin kp (thn (ha.run pos pins s1 σ H1 _ I1 (tA.then' sr1 re1 (h.grow g1) fun ws S1 φ1 F1 vs H1 s1 e1 r1 g1 h1 => (show ∃ ws S1 φ1 F1, SR C φ1 F1 S1 H1 ∧ RepWs C φ1 F1 ws vs ∧ Ans C (RepW C) φ1 F1 (G.fn c (ws ++ ds.map int) S1) Q (fun c d H' => U c d σ H') from ⟨ws, S1, φ1, F1, s1, r1, h1⟩))) fun us s1 ⟨vs, H1, I1, r, ws, S1, φ1, F1, sr1, rr, h1⟩ => ⟨I1.kIn, ?_⟩) (star_cons hp.1) (star_any hp.2)
      exact run pins σ H1 s1 vs us Q φ1 F1 S1 ws I1 r sr1 rr h1
    · rw [if_neg hd] at h; exact (show False from h).elim
  next => exact (show False from h).elim
end
end M
set_option Elab.async false
set_option linter.all false
set_option maxRecDepth 100000
set_option maxHeartbeats 4000000
namespace M
open PySem PySem.Spec PyProof.Rows L2
/-! ### isinstance with a tuple of built-in types -/
def Ty.tn : Ty → Option String
  | .int => some "int" | .str => some "str" | .bool => some "bool" | .list => some "list" | .tuple => some "tuple" | .dict => some "dict"
  | .own _ => none
section
variable {X : Cx} {C : Cl} {G : Gt} {U : WX} {a : Expr} {fa : EF} {pos : Pos}
theorem isi_bD {φ : List Addr} {F H : Hp} {S : Sto} {K : PySem.W.Frag} (N : IsF K C) {d : D} {v : V} (s : SR C φ F S H) (r : Rep C F d v) {t0 : Ty} {b0 : Bool} (h : isiD t0 d = some b0) :
    ∃ tv, TyX K H v tv ∧ ∀ t b n, t.tn = some n → isiD t d = some b → PySem.W.kitOne K tv (.type n) = some b := by
  have fin : ∀ T, (∀ t b n, t.tn = some n → isiD t d = some b → kitB T n = some b) → ∀ t b n, t.tn = some n → isiD t d = some b → PySem.W.kitOne K (.type T) (.type n) = some b := fun T k t b n h1 h2 => kit_ty (k t b n h1 h2)
  cases d with
  | non => unfold Rep at r; subst r; exact ⟨_, .base .non, fin _ fun t b n h1 h2 => by cases t <;> cases h1 <;> cases h2 <;> decide +kernel⟩
  | bl k => unfold Rep at r; subst r; exact ⟨_, .base (.bl k), fin _ fun t b n h1 h2 => by cases t <;> cases h1 <;> cases h2 <;> decide +kernel⟩
  | int i => unfold Rep at r; subst r; exact ⟨_, .base (.int i), fin _ fun t b n h1 h2 => by cases t <;> cases h1 <;> cases h2 <;> decide +kernel⟩
  | str x => unfold Rep at r; subst r; exact ⟨_, .base (.str x), fin _ fun t b n h1 h2 => by cases t <;> cases h1 <;> cases h2 <;> decide +kernel⟩
  | lst xs =>
    unfold Rep at r; obtain ⟨a, vs, rfl, f, q⟩ := r
    exact ⟨_, TyX.lst_ (s.fh _ _ f).rd, fin _ fun t b n h1 h2 => by cases t <;> cases h1 <;> cases h2 <;> decide +kernel⟩
  | fro xs =>
    unfold Rep at r; obtain ⟨a, vs, ob, rfl, f, q⟩ := r
    exact ⟨_, TyX.lst_ (.inr ⟨ob, (s.fh _ _ f).at (by simp [Lk])⟩), fin _ fun t b n h1 h2 => by cases t <;> cases h1 <;> cases h2 <;> decide +kernel⟩
  | tup xs =>
    unfold Rep at r; obtain ⟨a, vs, rfl, f, q⟩ := r
    exact ⟨_, .base (.tup ((s.fh _ _ f).at (by simp [Lk]))), fin _ fun t b n h1 h2 => by cases t <;> cases h1 <;> cases h2 <;> decide +kernel⟩
  | dic ks ds =>
    unfold Rep at r; obtain ⟨a, vs, ob, rfl, f, q, l⟩ := r
    exact ⟨_, .fDict ((s.fh _ _ f).at (by simp [Lk])), fin _ fun t b n h1 h2 => by cases t <;> cases h1 <;> cases h2 <;> decide +kernel⟩
  | dicT ks ds => cases t0 <;> cases h
  | cls c => cases t0 <;> cases h
  | err c ks ds => cases t0 <;> cases h
  | ins c ks ds =>
    unfold Rep at r; obtain ⟨a, A, dx, vs, rfl, hc, f, q, l⟩ := r
    obtain ⟨y1, y2, y3, y4, y5⟩ := N.y c A hc
    refine ⟨.ref A, .base (.ins ((s.fh _ _ f).at (by simp [Lk])) y1 y2 y3 y4 y5), fun t b n h1 h2 => ?_⟩
    cases t <;> cases h1 <;> cases h2 <;> exact N.t c A hc _ (by simp)
theorem isi_bW {φ : List Addr} {F H : Hp} {S : Sto} {K : PySem.W.Frag} (N : IsF K C) {w : W} {v : V} (s : SR C φ F S H) (r : RepW C φ F w v) {t0 : Ty} {b0 : Bool} (h : isiF t0 w S = some b0) :
    ∃ tv, TyX K H v tv ∧ ∀ t b n, t.tn = some n → isiF t w S = some b → PySem.W.kitOne K tv (.type n) = some b := by
  cases w with
  | p d => exact isi_bD N s r h
  | c n =>
    obtain ⟨a, ea, rfl⟩ := r
    cases e : S[n]? with
    | none => simp [isiF, e] at h
    | some sl =>
      have q := s.sl n sl a e ea
      have er : ∀ t, isiF t (.c n) S = match sl with
        | .live (.lst _) => isiD t (.lst [])
        | .live (.dic _ _) => isiD t (.dic [] [])
        | .dead d => isiD t d
        | _ => none := fun t => by unfold isiF; simp only [e]; cases sl with
          | dead d => rfl
          | live c => cases c <;> rfl
      cases sl with
      | dead d =>
        rw [er] at h
        obtain ⟨tv, h1, h2⟩ := isi_bD N s q h
        exact ⟨tv, h1, fun t b n k1 k2 => h2 t b n k1 (by rw [er] at k2; exact k2)⟩
      | live c =>
        obtain ⟨_, o, ho, q⟩ := q
        cases c with
        | lst ws =>
          obtain ⟨vs, rfl, q⟩ := q
          exact ⟨_, .base (.lst ho), fun t b n k1 k2 => by rw [er] at k2; refine kit_ty ?_; cases t <;> cases k1 <;> cases k2 <;> decide +kernel⟩
        | dic ks ws =>
          obtain ⟨vs, rfl, q, l⟩ := q
          exact ⟨_, .base (.dK ho), fun t b n k1 k2 => by rw [er] at k2; refine kit_ty ?_; cases t <;> cases k1 <;> cases k2 <;> decide +kernel⟩
        | dicT ks ws => rw [er] at h; cases h
        | ins c ks ws => rw [er] at h; cases h
def tnsOf : List Ty → Option (List String)
  | [] => some []
  | t :: ts => match t.tn, tnsOf ts with
    | some n, some r => some (n :: r)
    | _, _ => none
theorem kit_any {S : Sto} {K : PySem.W.Frag} {w : W} {tv : Value} (k : ∀ t b n, t.tn = some n → isiF t w S = some b → PySem.W.kitOne K tv (.type n) = some b) : ∀ {ts : List Ty} {ns : List String} {b : Bool}, tnsOf ts = some ns → isiAny ts w S = some b → PySem.W.kitAny K tv (ns.map .type) = some b
  | [], ns, b, h, e => by cases h; cases e; exact kitAny_nil
  | t :: ts, ns, b, h, e => by
    unfold tnsOf at h
    split at h
    · rename_i n r e1 e2
      cases h
      unfold isiAny at e
      cases e3 : isiF t w S with
      | none => rw [e3] at e; cases e
      | some c =>
        rw [e3] at e
        cases c with
        | true => cases e; exact kitAny_cons (k t true n e1 e3) (fun z => by cases z) fun _ => rfl
        | false => exact kitAny_cons (k t false n e1 e3) (fun _ => kit_any k e2 e) fun z => by cases z
    · cases h
/-- the names of built-in types -/
structure TysN (X : Cx) (es : List Expr) (ns : List String) : Prop where
  pa : PA X es (fun _ H Q => Q (ns.map V.ty) H)
theorem tysNil : TysN X [] [] := ⟨PA.imp pa_nil fun σ H Q h => h⟩
theorem tysCons {n : String} {p : Pos} {x : Str} {es : List Expr} {ns : List String} (hg : Gl X x) (hm : X.mg x = none) (hv : bootBuiltins x = some (.type n)) (hn : x ≠ "__name__") (hd : (x == ("__debug__" : Str)) = false) (h : TysN X es ns) : TysN X (.Name x p :: es) (n :: ns) :=
  ⟨PA.imp (pa_cons (pe_bltn hg hm hv (show RelV (.ty n) (.type n) from rfl) hn hd) h.pa (star_cons rfl)) fun σ H Q h => h⟩
theorem clsVs : ∀ ns : List String, Paired ClsV (ns.map V.ty) (ns.map Value.type)
  | [] => .nil
  | n :: ns => .cons (.ty n) (clsVs ns)
/-- isinstance(a, (T, ..)) -/
theorem sIsiT (N : IsF X.K C) {ts : List Ty} {ns : List String} {es : List Expr} {k : Nat} {p p2 : Pos} (ht : tnsOf ts = some ns) (h0 : ts ≠ []) (hl : ns.length ≤ 100) (T : TysN X es ns) (hg : Gl X "isinstance") (hm : X.mg "isinstance" = none) (hp : plainE a = true) (ha : SE X C U a fa) :
    SE X C U (.Call (.Name "isinstance" p) [a, .Tuple es k p2] [] pos) (fIsiT fa ts) := by
  refine PE.imp (pe_callB call_isiT hg hm rfl (pa_cons ha (pa_cons (pe_tup T.pa) pa_nil (by simp [starEach])) (star_cons hp)) (he := star_cons hp) (hpl := by simp [starEach, backTo])) fun σ H Q ⟨φ, F, S, ρ, sr, re, h⟩ => ?_
  refine tE.then' (g := fun w S => ofO ((isiAny ts w S).map bl) S) sr re h fun w S1 φ1 F1 v H1 s1 e1 r1 g1 h1 => ?_
  obtain ⟨w', e, h1⟩ := ofO_inv h1
  obtain ⟨b, e2, rfl⟩ := map_some e
  refine ⟨by rw [List.length_map, sizeLine_eq]; omega, fun tp hp => ?_⟩
  have s2 := s1.pure (o := .tup (ns.map V.ty)) hp
  have g2 := s1.gpure (o := .tup (ns.map V.ty)) hp
  obtain ⟨t0, b0, e3⟩ : ∃ t b, isiF t w S1 = some b := by
    cases ts with
    | nil => exact absurd rfl h0
    | cons t ts =>
      unfold isiAny at e2
      cases e4 : isiF t w S1 with
      | none => rw [e4] at e2; cases e2
      | some b => exact ⟨t, b, e4⟩
  obtain ⟨tv, ty, kk⟩ := isi_bW N s2 (r1.mono g2) e3
  exact ⟨v, tp, ns.map V.ty, tv, ns.map Value.type, b, rfl, upd_same, clsVs ns, ty, kit_any kk ht e2, ans_ok h1 g2 s2 repW_bl⟩
end
end M
set_option Elab.async false
set_option linter.all false
set_option maxRecDepth 100000
set_option maxHeartbeats 4000000
namespace M
open PySem PySem.Spec PyProof.Rows L2
/-! ### errors that are held: isinstance, fields -/
section
variable {X : Cx} {C : Cl} {G : Gt} {U : WX} {a : Expr} {fa : EF} {pos : Pos} {es : List Expr} {fs : AF}
/-- an error object as an instance -/
theorem err_inst {pins : List (Addr × Obj)} {σ : L2.St} {H : Hp} {s : Shared} {b A : Addr} {d : Option Addr} {fs : List (Str × V)} (I : Inv X pins σ H s) (e : H b = some (exo b A d)) (k : ∀ dx, d = some dx → H dx = some (exd dx fs)) :
    ∃ ox od, PySem.W.InstAt s.heap b ox A od ∧ ∀ dx, d = some dx → ∃ (mA : Str → Option Value) (o : Obj), od = some o ∧ (∀ f, PySem.W.lookIn f o = some (mA f)) ∧ ∀ f, RelO (fs.lookup f) (mA f) := by
  obtain ⟨t1, h1⟩ := exo_at I.hok e
  cases d with
  | none => exact ⟨_, none, ⟨h1, rfl, rfl, trivial⟩, fun dx z => by cases z⟩
  | some dx =>
    obtain ⟨mA, hn, rel⟩ := exd_at I.hok (k dx rfl)
    obtain ⟨od, ho, hl⟩ := lookIn_ns hn
    exact ⟨_, some od, ⟨h1, rfl, rfl, ho⟩, fun dx' z => by cases z; exact ⟨mA, od, rfl, hl, rel⟩⟩
theorem call_isV : CallR X (.builtin "isinstance") (fun xs H Q => ∃ (b A : Addr) (d : Option Addr) (fs : List (Str × V)) (v : V) (u : Value) (r : Bool), xs = [.ref b, v] ∧ H b = some (exo b A d) ∧ (∀ dx, d = some dx → H dx = some (exd dx fs)) ∧ XiC X.K A ∧ ClsV v u ∧ PySem.W.kitOne X.K (.ref A) u = some r ∧ Q (.bl r) H) := by
  intro pins s σ H xs us Q I r ⟨b, A, d, fs, v, u, rr, ex, e, k, T, cv, hk, q⟩
  subst ex
  obtain ⟨u1, u2, rfl, r1, r2⟩ := vals2 r
  have e2 := cv.eq r2
  subst e2
  cases (show u1 = Value.ref b from r1)
  obtain ⟨ox, od, J, _⟩ := err_inst I e k
  exact PySem.W.kia_one (PySem.W.kitx_exc T.cl T.ga T.gg T.be T.ca T.sg T.tk T.mo) I.kIn J hk (fun z => nomatch z) fun tk => ⟨.bl rr, H, I.tok tk, rfl, q⟩
theorem err_of {φ : List Addr} {F H : Hp} {S : Sto} {c : Str} {ks : List Str} {ds : List D} {v : V} (s : SR C φ F S H) (r : RepW C φ F (.p (.err c ks ds)) v) : ∃ b A d vs, v = .ref b ∧ C.x c = some A ∧ H b = some (exo b A d) ∧ (∀ dx, d = some dx → H dx = some (exd dx (ks.zip vs))) ∧ Reps C F ds vs ∧ (d = none → ks = []) := by
  unfold RepW Rep at r
  obtain ⟨b, A, vs, rfl, hc, rr, hl, h | ⟨dx, h1, h2⟩⟩ := r
  · exact ⟨b, A, none, vs, rfl, hc, (s.fh _ _ h.2).at (by simp [Lk, exo]), (fun dx z => by cases z), rr, fun _ => h.1⟩
  · exact ⟨b, A, some dx, vs, rfl, hc, (s.fh _ _ h1).at (by simp [Lk, exo]), (fun dx' z => by cases z; exact (s.fh _ _ h2).at (by simp [Lk, exd])), rr, fun z => by cases z⟩
theorem sIsx (T : Facts X C G) {c : Str} {p p2 : Pos} (hgc : Gl X c) (hg : Gl X "isinstance") (hm : X.mg "isinstance" = none) (hp : plainE a = true) (ha : SE X C U a fa) : SE X C U (.Call (.Name "isinstance" p) [a, .Name c p2] [] pos) (fIsx G fa c) := by
  cases hx : G.xs c with
  | none =>
    refine ⟨fun pins s σ H Q I ⟨φ, F, S, ρ, sr, re, h⟩ => ?_⟩
    unfold fIsx at h
    rw [hx] at h
    exact (show False from h).elim
  | some q =>
    obtain ⟨v, u, cv, nm, hd⟩ := (T.xs c q hx).ex
    have hv : PE X (.Name c p2) (tC v) := by
      rcases nm with ⟨B, hB, rfl⟩ | ⟨h1, h2, h3, h4⟩
      · exact pe_glob (hd := (T.xs c q hx).db) hgc hB (show RelV (.ref B) (.ref B) from rfl)
      · exact pe_bltn hgc h1 h3 h4 h2 (T.xs c q hx).db
    refine PE.imp (pe_callB call_isV hg hm rfl (pa_cons ha (pa_cons hv pa_nil (by simp [starEach])) (star_cons hp)) (he := star_cons hp) (hpl := by simp [starEach, backTo])) fun σ H Q ⟨φ, F, S, ρ, sr, re, h⟩ => ?_
    unfold fIsx at h
    rw [hx] at h
    refine tE.then' (g := isxF q) sr re h fun w S1 φ1 F1 x H1 s1 e1 r1 g1 h1 => ?_
    cases w with
    | c n => exact (show False from h1).elim
    | p d =>
      cases d <;> try exact (show False from h1).elim
      obtain ⟨ba, A', dd, vs, rfl, hc, q1, q2, q3, q4⟩ := err_of s1 r1
      obtain ⟨XI, kk⟩ := hd _ _ hc
      exact ⟨ba, A', dd, _, v, u, _, rfl, q1, q2, XI, cv, kk, ans_ok h1 (Grow.refl _ _) s1 repW_bl⟩
theorem sXfd {f : Str} (N : ∀ c A, C.x c = some A → XfC X.K A) (hno : ∀ c A, C.x c = some A → PySem.W.findIn X.K (.ref A) f = some none) (ha : SE X C U a fa) (hb : attributeBase a f X.env (eval a X.env) = eval a X.env) : SE X C U (.Attribute a f pos) (fXfd fa f) := by
  refine ⟨fun pins s σ H Q I ⟨φ, F, S, ρ, sr, re, h⟩ => ?_⟩
  refine attr_of hb (thn (ha.run pins s σ H _ I (tE.then' (g := xfdF f) sr re h fun w S1 φ1 F1 v H1 s1 e1 r1 g1 h1 => (show ∃ w S1 φ1 F1, SR C φ1 F1 S1 H1 ∧ RepW C φ1 F1 w v ∧ Ans C (RepW C) φ1 F1 (xfdF f w S1) Q (fun c d H' => U c d σ H') from ⟨w, S1, φ1, F1, s1, r1, h1⟩))) fun u s1 ⟨v, H1, I1, rx, w, S1, φ1, F1, sr1, r1, h1⟩ => ?_)
  cases w with
  | c n => exact (show False from h1).elim
  | p d =>
    cases d <;> try exact (show False from h1).elim
    rename_i c ks ds
    obtain ⟨w', e, h1⟩ := ofO_inv h1
    obtain ⟨ba, A, dd, vs, rfl, hc, q1, q2, q3, q4⟩ := err_of sr1 r1
    cases (show u = Value.ref ba from rx)
    have T := N c A hc
    obtain ⟨v', l1, l2⟩ := getF_zip (C := C) (φ := φ1) (F := F1) (vs := vs) e (repWs_p.mpr q3)
    cases dd with
    | none =>
      rw [q4 rfl] at l1
      simp [List.lookup] at l1
    | some dx =>
      obtain ⟨ox, od, J, k⟩ := err_inst I1 q1 q2
      obtain ⟨mA, o, rfl, hl, rel⟩ := k dx rfl
      obtain ⟨u', hu, ru⟩ := RelO.some_of (v := v') (o := mA f) (by rw [← l1]; exact rel f)
      exact PySem.HandSPX.exc_get I1.kIn J T.ga T.gg T.exC (PySem.W.findObj_own T.hdC (hno c A hc) rfl (by rw [hl, hu])) (handed_of ru) ⟨v', H1, I1.tok _, ru, ans_ok h1 (Grow.refl _ _) sr1 l2⟩
/-! ### {k: v, ..} -/
def flat2 : List (V × V) → List V
  | [] => []
  | (x, y) :: r => x :: y :: flat2 r
structure SD (X : Cx) (C : Cl) (U : WX) (pos : Pos) (keys : List (Option Expr)) (vals : List Expr) (f : AF) : Prop where
  ex : ∃ trs, PPs X pos keys vals trs ∧ ∀ σ H (Q : List (V × V) → Hp → Prop), (∃ φ F S ρ, SR C φ F S H ∧ EnvR C φ F ρ σ ∧ Ans C (fun φ F ws ps => RepWs C φ F ws (flat2 ps)) φ F (f ρ S) Q (fun c d H' => U c d σ H')) → tPairs trs σ H Q
theorem sdNil : SD X C U pos [] [] aNil := ⟨[], pps_nil, fun σ H Q ⟨φ, F, S, ρ, sr, re, h⟩ => ans_ok h (Grow.refl _ _) sr .nil⟩
theorem sdCons {k v : Expr} {fk fv : EF} {ks : List (Option Expr)} {vs : List Expr} {f : AF} (hk : SE X C U k fk) (hv : SE X C U v fv) (hr : SD X C U pos ks vs f) : SD X C U pos (some k :: ks) (v :: vs) (aCons fk (aCons fv f)) := by
  obtain ⟨trs, hp, ht⟩ := hr.ex
  refine ⟨_, pps_cons hk hv hp, fun σ H Q ⟨φ, F, S, ρ, sr, re, h⟩ => ?_⟩
  refine tE.then' (g := fun w S => (aCons fv f ρ S).bind fun ws S => .ok (w :: ws) S) sr re h fun w S1 φ1 F1 x H1 s1 e1 r1 g1 h1 => ?_
  have h1 : Ans C (fun φ F ws ps => RepWs C φ F ws (flat2 ps)) φ1 F1 ((fv ρ S1).bind fun u S => (f ρ S).bind fun ws S => .ok (w :: u :: ws) S) Q (fun c d H' => U c d σ H') := by
    unfold aCons at h1
    cases e : fv ρ S1 with
    | no => rw [e] at h1; exact h1
    | ex c ks ds S => rw [e] at h1; exact h1
    | ok u S =>
      rw [e] at h1
      simp only [Rs.bind_ok] at h1 ⊢
      cases e2 : f ρ S with
      | no => rw [e2] at h1; exact h1
      | ex c ks ds S => rw [e2] at h1; exact h1
      | ok ws S => rw [e2] at h1; exact h1
  refine tE.then' (g := fun u S => (f ρ S).bind fun ws S => .ok (w :: u :: ws) S) s1 e1 h1 fun u S2 φ2 F2 y H2 s2 e2 r2 g2 h2 => ?_
  refine ht _ _ _ ⟨φ2, F2, S2, ρ, s2, e2, ?_⟩
  cases e3 : f ρ S2 with
  | no => rw [e3] at h2; exact h2
  | ex c ks ds S => rw [e3] at h2; exact h2
  | ok ws S => rw [e3] at h2; exact fun ps φ' F' H' g s q => h2 _ φ' F' H' g s (.cons (r1.mono (g2.trans g)) (.cons (r2.mono g) q))
theorem pairs_of {φ : List Addr} {F : Hp} : ∀ {ws : List W} {ps : List (V × V)} {ks : List Key} {us : List W}, RepWs C φ F ws (flat2 ps) → pairsW ws = some (ks, us) → ∃ kvs : List (Key × V), ps = kvs.map (fun kv => (kV kv.1, kv.2)) ∧ kvs.map (·.1) = ks ∧ RepWs C φ F us (kvs.map (·.2))
  | [], [], ks, us, r, h => by cases h; exact ⟨[], rfl, rfl, .nil⟩
  | [], (x, y) :: ps, ks, us, r, h => by cases r
  | [w], ps, ks, us, r, h => by cases h
  | k :: v :: ws, [], ks, us, r, h => by cases r
  | k :: v :: ws, (x, y) :: ps, ks, us, r, h => by
    cases r with
    | cons rk r =>
      cases r with
      | cons rv r =>
        unfold pairsW at h
        split at h
        · rename_i k' ks' us' e1 e2
          cases h
          obtain ⟨kvs, rfl, h2, h3⟩ := pairs_of r e2
          exact ⟨(k', y) :: kvs, by rw [key_V rk e1]; rfl, by rw [List.map_cons, h2], .cons rv h3⟩
        · cases h
theorem putW_len {k : Key} {u : W} {ks : List Key} {ws : List W} (l : ks.length = ws.length) : (putW k u ks ws).1.length = (putW k u ks ws).2.length := by
  unfold putW
  split
  · simp [l]
  · simp [l]
theorem merge_of {φ : List Addr} {F : Hp} : ∀ {kvs : List (Key × V)} {us : List W} {ks0 : List Key} {ws0 : List W} {vs0 : List V}, RepWs C φ F us (kvs.map (·.2)) → RepWs C φ F ws0 vs0 → ks0.length = ws0.length →
    ∃ vs', mergeK (ks0.zip vs0) kvs = (mergeW (kvs.map (·.1)) us (ks0, ws0)).1.zip vs' ∧ RepWs C φ F (mergeW (kvs.map (·.1)) us (ks0, ws0)).2 vs' ∧ (mergeW (kvs.map (·.1)) us (ks0, ws0)).1.length = (mergeW (kvs.map (·.1)) us (ks0, ws0)).2.length
  | [], us, ks0, ws0, vs0, r, r0, l => by cases r; exact ⟨vs0, rfl, r0, l⟩
  | kv :: kvs, us, ks0, ws0, vs0, r, r0, l => by
    cases r with
    | cons r1 r =>
      obtain ⟨vs1, e1, q1, l1⟩ := putW_zip (k := kv.1) r1 r0 l
      obtain ⟨vs', e2, q2, l2⟩ := merge_of r q1 l1
      refine ⟨vs', ?_, q2, l2⟩
      show mergeK (L2.putK (ks0.zip vs0) kv.1 kv.2) kvs = _
      rw [e1]
      exact e2
theorem flat2_len : ∀ ps : List (V × V), (flat2 ps).length = 2 * ps.length
  | [] => rfl
  | (x, y) :: r => by simp [flat2, flat2_len r]; omega
/-- {k: v, ..} -/
theorem sDct {mu : Bool} {keys : List (Option Expr)} {vals : List Expr} (hd : SD X C U pos keys vals fs) (hall : keys.all (·.isSome) = true) (hl : keys.length = vals.length) (h0 : keys ≠ []) (h15 : keys.length ≤ 15) : SE X C U (.Dict keys vals pos) (fDct fs mu) := by
  obtain ⟨trs, hp, ht⟩ := hd.ex
  refine PE.imp (pe_lk (pe_disp hp hall hl h0 h15)) fun σ H Q ⟨φ, F, S, ρ, sr, re, h⟩ => ?_
  intro p hp0
  have s1 := sr.cell hp0 (c := .dic [] []) (o := .dK []) ⟨[], rfl, .nil, rfl⟩
  have g1 : Grow φ F (φ ++ [p]) F := SR.gcell
  have ep : (φ ++ [p])[S.length]? = some p := by rw [← sr.len]; simp
  refine ht _ _ _ ⟨φ ++ [p], F, S ++ [.live (.dic [] [])], ρ, s1, re.mono g1, ?_⟩
  have h : Ans C (RepW C) φ F ((fs ρ (S ++ [.live (.dic [] [])])).bind fun ws S1 => fillF S.length mu ws S1) Q (fun c d H' => U c d σ H') := h
  cases ee : fs ρ (S ++ [.live (.dic [] [])]) with
  | no => rw [ee] at h; exact h
  | ex c ks ds S' =>
    rw [ee] at h
    exact Ans.grow (Rel := RepW C) g1 h
  | ok ws S1 =>
    rw [ee] at h
    have h : Ans C (RepW C) φ F (fillF S.length mu ws S1) Q (fun c d H' => U c d σ H') := h
    intro ps φ1 F1 H1 g2 s2 q
    unfold fillF at h
    by_cases hlen : ws.length ≤ 30
    · rw [if_pos hlen] at h
      cases e1 : pairsW ws with
      | none => rw [e1] at h; exact (show False from h).elim
      | some kus =>
        obtain ⟨ks, us⟩ := kus
        have bad : (∀ sl, S1[S.length]? = some sl → sl ≠ .live (.dic [] [])) → False := fun k => by
          rw [e1] at h
          cases e2 : S1[S.length]? with
          | none => rw [e2] at h; exact h
          | some sl =>
            rw [e2] at h
            have k := k sl e2
            cases sl with
            | dead d => exact h
            | live ct =>
              cases ct with
              | dic ks' ws' => cases ks' <;> cases ws' <;> first | exact k rfl | exact h
              | _ => exact h
        by_cases e2 : S1[S.length]? = some (.live (.dic [] []))
        · rw [e1, e2] at h
          have ea : φ1[S.length]? = some p := g2.get ep
          obtain ⟨fa, o, ho, vs0, rfl, q0, l0⟩ := s2.sl S.length _ p e2 ea
          obtain ⟨kvs, rfl, rfl, q3⟩ := pairs_of q e1
          have hk15 : kvs.length ≤ 15 := by
            have := q.length
            rw [flat2_len, List.length_map] at this
            omega
          cases q0
          obtain ⟨vs', em, q4, l4⟩ := merge_of (ks0 := []) (ws0 := []) (vs0 := []) q3 .nil rfl
          have em : mergeK [] kvs = (mergeW (kvs.map (·.1)) us ([], [])).1.zip vs' := em
          refine ⟨ho, kvs, rfl, hk15, ?_⟩
          rw [em]
          have s3 := s2.mut (c' := .dic (mergeW (kvs.map (·.1)) us ([], [])).1 (mergeW (kvs.map (·.1)) us ([], [])).2) (o := .dK ((mergeW (kvs.map (·.1)) us ([], [])).1.zip vs')) e2 ea ⟨vs', rfl, q4, l4⟩
          cases mu with
          | true => exact .inl (ans_ok h (g1.trans g2) s3 ⟨p, ea, rfl⟩)
          | false =>
            cases e5 : pures (mergeW (kvs.map (·.1)) us ([], [])).2 with
            | none =>
              dsimp only at h
              rw [if_neg (by decide), e5] at h
              exact (show False from h).elim
            | some ds =>
              dsimp only at h
              rw [if_neg (by decide), e5] at h
              have hl : S.length < S1.length := (List.getElem?_eq_some_iff.mp e2).1
              obtain ⟨u, hu, mu', k⟩ := s3.lockD (List.getElem?_set_self hl) ea e5
              refine .inr ⟨p, u, rfl, hu, mu', fun od => ?_⟩
              obtain ⟨g5, s5, r5⟩ := k od
              rw [List.set_set] at s5
              exact ans_ok (Ans.fin sr.len h) ((g1.trans g2).trans g5) s5 r5
        · exact (bad fun sl hs z => e2 (by rw [hs, z])).elim
    · rw [if_neg hlen] at h
      exact (show False from h).elim
end
end M
set_option Elab.async false
set_option linter.all false
set_option maxRecDepth 100000
set_option maxHeartbeats 4000000
namespace M
open PySem PySem.Spec PyProof.Rows L2
/-! ### repr -/
section
variable {X : Cx} {C : Cl} {G : Gt} {U : WX}
/-- a dict that is data -/
theorem dic_rd {φ : List Addr} {F H : Hp} {S : Sto} {w : W} {v : V} {ks : List Key} {ds : List D} (s : SR C φ F S H) (r : RepW C φ F w v) (h : rd S w = some (.dic ks ds)) : ∃ a vs, v = .ref a ∧ Rd H a (.dK (ks.zip vs)) ∧ Reps C F ds vs ∧ ks.length = ds.length := by
  have pu : ∀ {d : D} {v : V}, d = .dic ks ds → Rep C F d v → ∃ a vs, v = .ref a ∧ Rd H a (.dK (ks.zip vs)) ∧ Reps C F ds vs ∧ ks.length = ds.length := fun {d v} e r => by
    subst e
    unfold Rep at r
    obtain ⟨a, vs, ob, rfl, f, q, l⟩ := r
    exact ⟨a, vs, rfl, .inr ⟨ob, (s.fh _ _ f).at (by simp [Lk])⟩, q, l⟩
  cases w with
  | p d =>
    have e : d = .dic ks ds := by simpa [rd] using h
    exact pu e r
  | c n =>
    obtain ⟨a, ea, rfl⟩ := r
    cases e : S[n]? with
    | none => simp [rd, e] at h
    | some sl =>
      have q := s.sl n sl a e ea
      cases sl with
      | dead d =>
        have e2 : d = .dic ks ds := by simpa [rd, e] using h
        exact pu e2 q
      | live c =>
        have h2 : c.pure = some (.dic ks ds) := by simpa [rd, e] using h
        obtain ⟨_, o, ho, rc⟩ := q
        cases c with
        | lst ws =>
          obtain ⟨z, _, e3⟩ := map_some (show (pures ws).map D.lst = some (.dic ks ds) from h2)
          cases e3
        | dicT k2 ws =>
          obtain ⟨z, _, e3⟩ := map_some (show (pures ws).map (D.dicT k2) = some (.dic ks ds) from h2)
          cases e3
        | ins c k2 ws =>
          obtain ⟨z, _, e3⟩ := map_some (show (pures ws).map (D.ins c k2) = some (.dic ks ds) from h2)
          cases e3
        | dic k2 ws =>
          obtain ⟨z, e4, e3⟩ := map_some (show (pures ws).map (D.dic k2) = some (.dic ks ds) from h2)
          cases e3
          obtain ⟨vs, rfl, rr, l⟩ := rc
          rw [pures_eq e4] at rr l
          exact ⟨a, vs, rfl, .inl ho, repWs_p.mp rr, by simpa using l⟩
theorem flat_reads {h : Heap} {F : Hp} {d : D} {v : V} {u : Value} {p : PyData} (r : Rep C F d v) (hf : flatD d = true) (hp : d.py = some p) (rv : RelV v u) : Reads h u p [] := by
  cases d <;> first | (exact absurd (show false = true from hf) Bool.false_ne_true) | skip
  all_goals
    unfold Rep at r
    subst r
    simp [D.py] at hp
    subst hp
  · cases rv; exact .none
  · cases rv; exact .bool _
  · obtain ⟨t, rfl⟩ := rv; exact .int _ t
  · obtain ⟨t, rfl⟩ := rv; exact .str _ t
theorem key_reads {h : Heap} {k : Key} {u : Value} (e : keyIs k u = true) : Reads h u (keyPy k) [] := by
  rcases keyIs_shape e with ⟨i, t, rfl, rfl⟩ | ⟨x, t, rfl, rfl⟩
  · exact .int i t
  · exact .str x t
theorem flat_pairs {P : Program} {w : World} {h : Heap} {F : Hp} : ∀ {ks : List Key} {ds : List D} {vs : List V} {kvs : List (Key × Value)} {es : List DictEntry} {ps : List PyData}, KV (ks.zip vs) kvs → Reps C F ds vs → ks.length = ds.length → ds.all flatD = true → D.pys ds = some ps →
    PySem.Pairs (mixKind P w) es kvs → ReadsAll h (es.map (·.key)) (((ks.map keyPy).zip ps).map (·.1)) [] ∧ ReadsAll h (es.map (·.val)) (((ks.map keyPy).zip ps).map (·.2)) []
  | [], [], vs, kvs, es, ps, kv, r, l, hf, hp, pr => by
    unfold Reps at r
    subst r
    simp [D.pys] at hp
    subst hp
    cases kv
    cases pr
    exact ⟨.nil, .nil⟩
  | k :: ks, d :: ds, vs, kvs, es, ps, kv, r, l, hf, hp, pr => by
    unfold Reps at r
    obtain ⟨v, rs, rfl, r1, r2⟩ := r
    rw [List.all_cons, Bool.and_eq_true] at hf
    cases e1 : d.py with
    | none => simp [D.pys, e1] at hp
    | some a =>
      cases e2 : D.pys ds with
      | none => simp [D.pys, e1, e2] at hp
      | some b =>
        simp [D.pys, e1, e2] at hp
        subst hp
        have kv : KV ((k, v) :: ks.zip rs) kvs := kv
        cases kv with
        | cons q1 q2 =>
          cases pr with
          | cons z1 z2 z3 =>
            obtain ⟨i1, i2⟩ := flat_pairs (P := P) (w := w) (h := h) q2 r2 (by simpa using l) hf.2 e2 z3
            have z1' := z1
            rw [mixKind_is, ← q1.1] at z1'
            have rv := q1.2
            rw [← z2] at rv
            exact ⟨.cons (as := []) (key_reads z1') i1, .cons (as := []) (flat_reads r1 hf.1 e1 rv) i2⟩
  | [], _ :: _, _, _, _, _, _, _, l, _, _, _ => by simp at l
  | _ :: _, [], _, _, _, _, _, _, l, _, _, _ => by simp at l
theorem pd_reads {pins : List (Addr × Obj)} {σ : L2.St} {H : Hp} {s : Shared} {φ : List Addr} {F : Hp} {S : Sto} {w : W} {v : V} {u : Value} {d : D} {p : PyData} (I : Inv X pins σ H s) (sr : SR C φ F S H) (r : RepW C φ F w v) (rv : RelV v u) (h : rd S w = some d) (hp : d.pd = some p) (hd : d.isDic = true ∨ p.hasDict = false) :
    ∃ as, Reads s.heap u p as ∧ (p.hasDict = true → sysModules ∉ as) := by
  have go : d.py = some p → d.isDic = false → ∃ as, Reads s.heap u p as ∧ (p.hasDict = true → sysModules ∉ as) := fun e z => by
    obtain ⟨as, q⟩ := Dp.reads I p v u (dp_rd sr r h e) rv
    refine ⟨as, q, fun e => ?_⟩
    rcases hd with hd | hd
    · rw [z] at hd; cases hd
    · rw [hd] at e; cases e
  cases d with
  | dic ks ds =>
    obtain ⟨a, vs, rfl, hr, rr, l⟩ := dic_rd sr r h
    simp only [D.pd] at hp
    split at hp
    · rename_i hz
      obtain ⟨ps, e1, rfl⟩ := map_some hp
      obtain ⟨_, hS, kvs, kv, o, es, ep, ho, hx, hdt, _, pr, _⟩ := dk_rd I.hok hr
      cases rv
      obtain ⟨q1, q2⟩ := flat_pairs (h := s.heap) kv rr l hz.1 e1 pr
      refine ⟨_, Reads.dict ho hx.1 hdt q1 q2, fun _ => ?_⟩
      simp only [List.append_nil, List.mem_singleton]
      intro z
      rw [← z] at hS
      simp at hS
    · cases hp
  | _ => exact go hp rfl
theorem bf_repr (hg : X.A.guards = some []) (hu : X.A.units + 65 < cLine) : CallR X (.builtin "repr") (rA C (bfF .repr)) := by
  intro pins s σ H xs us Q I r ⟨φ, F, S, ws, sr, rw_, h⟩
  match ws, rw_, h with
  | [w], rw_, h =>
    obtain ⟨x, rfl, rx⟩ := vals_one (ws := []) rw_
    have h : Ans C (RepW C) φ F (ofO (((rd S w).bind reprO).map str) S).noex Q (fun _ _ _ => False) := h
    rw [ofO_noex] at h
    obtain ⟨w', e, h⟩ := ofO_inv h
    obtain ⟨t, e1, rfl⟩ := map_some e
    obtain ⟨d, e2, e3⟩ := Option.bind_eq_some_iff.mp e1
    unfold reprO at e3
    cases hp : d.pd with
    | none => rw [hp] at e3; cases e3
    | some p =>
      rw [hp] at e3
      dsimp only at e3
      split at e3
      · rename_i hz
        cases e3
        obtain ⟨h1, h2, h3, h4⟩ := hz
        have fin : ∀ {u : Tok} {s' : Shared}, Inv X pins σ H s' → EP X pins σ Q (.str p.shown u) s' := fun {u s'} J => ⟨.str p.shown, H, J, ⟨u, rfl⟩, ans_ok h (Grow.refl _ _) sr repW_str⟩
        obtain ⟨uv, rfl⟩ : ∃ uv, us = [uv] := by
          cases r with
          | cons a t => cases t; exact ⟨_, rfl⟩
        have rv : RelV x uv := by
          cases r with
          | cons a t => exact a
        obtain ⟨as, q, hs⟩ := pd_reads I sr rx rv e2 hp h2
        have sz : p.shown.length ≤ sizeLine := sizeOk_line h4
        cases q with
        | none => exact PySem.P.repr_of_none (by have := fin (u := s.toks) (I.tok (s.toks + 1)); simpa [PyData.shown] using this)
        | bool b => exact PySem.P.repr_of_bool (by have := fin (u := s.toks) (I.tok (s.toks + 1)); simpa [PyData.shown] using this)
        | int i t => exact PySem.P.repr_of_int (by simpa [PyData.showable] using h1) (by have := fin (u := s.toks) (I.tok (s.toks + 1)); simpa [PyData.shown] using this)
        | str y t => exact PySem.P.repr_of_str (by have := fin (u := s.toks) (I.tok (s.toks + 1)); simpa [PyData.shown] using this) (by simpa [PyData.shown] using sz)
        | list a1 a2 a3 a4 => exact PySem.repr_of_reads' (.list a1 a2 a3 a4) h1 hs hg (by omega) (fun _ _ e => e) (fun h' u tk k => fin (I.kept k)) sz
        | tuple a1 a2 a3 a4 => exact PySem.repr_of_reads' (.tuple a1 a2 a3 a4) h1 hs hg (by omega) (fun _ _ e => e) (fun h' u tk k => fin (I.kept k)) sz
        | dict a1 a2 a3 a4 a5 => exact PySem.repr_of_reads' (.dict a1 a2 a3 a4 a5) h1 hs hg (by omega) (fun _ _ e => e) (fun h' u tk k => fin (I.kept k)) sz
      · cases e3
theorem sRepr {es : List Expr} {fs : AF} {pos : Pos} (hgd : X.A.guards = some []) (hu : X.A.units + 65 < cLine) {p : Pos} {e : Expr} (hg : Gl X (BF.nm .repr)) (hm : X.mg (BF.nm .repr) = none) (hp : (e :: es).all plainE = true) (ha : SA X C U (e :: es) fs) : SE X C U (.Call (.Name (BF.nm .repr) p) (e :: es) [] pos) (fBf .repr fs) := by
  rw [List.all_cons, Bool.and_eq_true] at hp
  refine PE.imp (pe_callB (bf_repr (C := C) hgd hu) hg hm boot_repr ha (he := star_cons hp.1) (hpl := star_any hp.2)) ?_
  exact fun σ H Q ⟨φ, F, S, ρ, sr, re, h⟩ => tA.then' sr re h fun ws S1 φ1 F1 vs H1 s1 e1 r1 g1 h1 => ⟨φ1, F1, S1, ws, s1, r1, h1.noex'⟩
end
end M
set_option Elab.async false
set_option linter.all false
set_option maxRecDepth 100000
set_option maxHeartbeats 4000000
namespace M
open PySem PySem.Spec PyProof.Rows L2
/-! ### the checker: an expression of the program and the evaluator's form of it -/
structure CK where
  N : List Str
  sc : Scope
  calm : Bool
  hs : Option Nat
/-- names that the facts tell of -/
structure WL where
  bn : List Str
  fl : List Str
  ef : List Str
  xn : List Str
  cn : List Str
def visB (k : CK) (x : Str) : Bool := match k.sc.names.lookup x with
  | some .local => true | some .cell => true | some .free => true | _ => false
def locB (k : CK) (x : Str) : Bool := match k.sc.names.lookup x with
  | some .local => true | _ => false
def glB (k : CK) (x : Str) : Bool := match k.sc.names.lookup x with
  | some .globalImplicit => true | _ => false
def okN (x : Str) : Bool := !(x == ("__debug__" : Str)) && !(x == ("__classdict__" : Str))
structure XO (wl : WL) (sub : Str → Str → Bool) (xk : Str → Option (Option Str)) (k : CK) (X : Cx) (C : Cl) (G : Gt) (U : WX) : Prop where
  T : Facts X C G
  ci : ∀ c A, C.i c = some A → X.mg c = some (.ref A)
  N : IsF X.K C
  E : XcF X C sub
  Y : X.calm = true → XkF X C xk
  bn : ∀ x ∈ wl.bn, X.mg x = none
  fl : ∀ f ∈ wl.fl, ∀ c A, C.i c = some A → Cls X.K A ∧ NoAttr X.K A f
  ef : ∀ f ∈ wl.ef, ∀ c A, C.x c = some A → PySem.W.findIn X.K (.ref A) f = some none
  xn : ∀ c ∈ wl.xn, ∃ A, C.x c = some A
  cn : ∀ c ∈ wl.cn, ∃ A, C.i c = some A ∧ X.mg c = some (.ref A)
  hu : X.A.units + 65 < cLine
  gd : X.A.guards = some []
  names : X.N = k.N
  nd : X.N.Nodup
  sc : X.env.scope = k.sc
  calm : X.calm = k.calm
  tk : Takes X U
  h : C.h.map (·.1) = k.hs
  ex : ∀ i, k.hs = some i → ∀ f ∈ wl.ef, ∀ n p p2, X.N[i]? = some n → Vis X.env.scope n → (n == ("__debug__" : Str)) = false → (n == ("__classdict__" : Str)) = false → SE X C U (.Attribute (.Name n p) f p2) (fExf G f)
section
variable {wl : WL} {sub : Str → Str → Bool} {xk : Str → Option (Option Str)} {k : CK} {X : Cx} {C : Cl} {G : Gt} {U : WX} (o : XO wl sub xk k X C G U)
include o
theorem XO.vis {x : Str} (h : visB k x = true) : Vis X.env.scope x := by
  unfold visB at h
  rw [← o.sc] at h
  unfold Vis
  split at h <;> rename_i e <;> first | exact .inl e | exact .inr (.inl e) | exact .inr (.inr e) | cases h
theorem XO.loc {x : Str} (h : locB k x = true) : X.env.scope.names.lookup x = some .local := by
  unfold locB at h
  rw [← o.sc] at h
  split at h
  · rename_i e; exact e
  · cases h
theorem XO.gl {x : Str} (h : glB k x = true) : Gl X x := by
  unfold glB at h
  rw [← o.sc] at h
  unfold Gl Env.kindOf
  split at h
  · rename_i e; exact e
  · cases h
theorem XO.ix {i : Nat} {x : Str} (h : decide (k.N[i]? = some x) = true) : X.N[i]? = some x := by
  rw [o.names]
  exact of_decide_eq_true h
theorem XO.free {i : Nat} (h : (k.hs != some i) = true) : Free C i := fun p e => by
  have h2 := o.h
  rw [e] at h2
  rw [← h2] at h
  simpa using h
theorem XO.hn (h : k.hs.isNone = true) : C.h = none := by
  have h2 := o.h
  rw [Option.isNone_iff_eq_none] at h
  rw [h] at h2
  cases e : C.h with
  | none => rfl
  | some p => rw [e] at h2; cases h2
end
theorem okN_of {x : Str} (h : okN x = true) : (x == ("__debug__" : Str)) = false ∧ (x == ("__classdict__" : Str)) = false := by
  unfold okN at h
  simpa using h
/-- the checks of one form -/
structure Ckr where
  e : CK → Expr → Bool
  t : CK → Expr → Bool
  a : CK → List Expr → Bool
  i : CK → Expr → Bool
  j : CK → List Expr → Bool
  p : CK → Option Expr → Bool
  k : CK → List Keyword → Bool
  f : CK → List Expr → Bool
  d : CK → List (Option Expr) → List Expr → Bool
def ckT (e : CK → Expr → Bool) (t : CK → Expr → Bool) : Ckr where
  e := fun k x => e k (strip x)
  t := fun k x => t k (strip x)
  a := fun _ _ => false
  i := fun k x => noSet x && e k (strip x)
  j := fun _ _ => false
  p := fun _ _ => false
  k := fun _ _ => false
  f := fun k l => match l with
    | [y] => t k (strip y)
    | _ => false
  d := fun _ _ _ => false
def ckE (e : CK → Expr → Bool) : Ckr := ckT e fun k x => plainT x && e k x
def ckNo : Ckr where
  e := fun _ _ => false
  t := fun _ _ => false
  a := fun _ _ => false
  i := fun _ _ => false
  j := fun _ _ => false
  p := fun _ _ => false
  k := fun _ _ => false
  f := fun _ _ => false
  d := fun _ _ _ => false
def tgB (k : CK) : Expr → Tg → Bool
  | .Name n _, .one i => decide (k.N[i]? = some n) && (locB k n && (k.hs != some i))
  | .Tuple ts _ _, .all is => k.calm && tgsB ts is
  | _, _ => false
where tgsB : List Expr → List Nat → Bool
  | [], [] => true
  | .Name n _ :: ts, i :: is => decide (k.N[i]? = some n) && (locB k n && ((k.hs != some i) && tgsB ts is))
  | _, _ => false
def ckK (a : Ckr) (r : Ckr) (k : CK) : List Keyword → Bool
  | ⟨_, v, _⟩ :: l => a.e k v && r.k k l
  | [] => false
def ckA (a : Ckr) (r : Ckr) (k : CK) : List Expr → Bool
  | y :: l => plainE y && (a.e k y && r.a k l)
  | [] => false
def ckJ (a : Ckr) (r : Ckr) (k : CK) : List Expr → Bool
  | y :: l => a.e k y && r.j k l
  | [] => false
def ckP (a : Ckr) (k : CK) : Option Expr → Bool
  | some y => a.e k y
  | none => false
def isOmit : E → Bool
  | .omit => true
  | _ => false
def isNil : E → Bool
  | .nil => true
  | _ => false
def e_var (wl : WL) (i : Nat) : CK → Expr → Bool := fun k x => match x with
    | .Name n _ => decide (k.N[i]? = some n) && (visB k n && okN n)
    | _ => false
def k_var (wl : WL) (i : Nat) : Ckr := ckE (e_var wl i)
def e_cst (wl : WL) (c : Const) : CK → Expr → Bool := fun _ x => match x with
    | .Constant d _ _ => cstB c d
    | _ => false
def k_cst (wl : WL) (c : Const) : Ckr := ckE (e_cst wl c)
def e_bin (wl : WL) (op : Operator) (a_ : Ckr)  (b_ : Ckr)  : CK → Expr → Bool := fun k x => match x with
    | .BinOp y op' z _ => decide (op = op') && (a_.e k y && b_.e k z)
    | _ => false
def k_bin (wl : WL) (op : Operator) (a_ : Ckr)  (b_ : Ckr)  : Ckr := ckE (e_bin wl op a_ b_)
def e_neg (wl : WL) (a_ : Ckr)  : CK → Expr → Bool := fun k x => match x with
    | .UnaryOp .USub y _ => a_.e k y
    | _ => false
def k_neg (wl : WL) (a_ : Ckr)  : Ckr := ckE (e_neg wl a_)
def e_no (wl : WL) (a_ : Ckr)  : CK → Expr → Bool := fun k x => match x with
    | .UnaryOp .Not y _ => a_.e k y
    | _ => false
def t_no (wl : WL) (a_ : Ckr)  : CK → Expr → Bool := fun k x => match x with
    | .UnaryOp .Not y _ => a_.t k y
    | _ => false
def k_no (wl : WL) (a_ : Ckr)  : Ckr := ckT (e_no wl a_) (t_no wl a_)
def e_and (wl : WL) (a_ : Ckr)  (b_ : Ckr)  : CK → Expr → Bool := fun k x => match x with
    | .BoolOp .And (y :: z :: r) p => a_.e k y && b_.e k (.BoolOp .And (z :: r) p)
    | _ => false
def t_and (wl : WL) (a_ : Ckr)  (b_ : Ckr)  : CK → Expr → Bool := fun k x => match x with
    | .BoolOp .And (y :: z :: r) p => a_.t k y && b_.t k (.BoolOp .And (z :: r) p)
    | _ => false
def k_and (wl : WL) (a_ : Ckr)  (b_ : Ckr)  : Ckr := ckT (e_and wl a_ b_) (t_and wl a_ b_)
def e_or (wl : WL) (a_ : Ckr)  (b_ : Ckr)  : CK → Expr → Bool := fun k x => match x with
    | .BoolOp .Or (y :: z :: r) p => a_.e k y && b_.e k (.BoolOp .Or (z :: r) p)
    | _ => false
def t_or (wl : WL) (a_ : Ckr)  (b_ : Ckr)  : CK → Expr → Bool := fun k x => match x with
    | .BoolOp .Or (y :: z :: r) p => a_.t k y && b_.t k (.BoolOp .Or (z :: r) p)
    | _ => false
def k_or (wl : WL) (a_ : Ckr)  (b_ : Ckr)  : Ckr := ckT (e_or wl a_ b_) (t_or wl a_ b_)
def e_ite (wl : WL) (c_ : Ckr)  (a_ : Ckr)  (b_ : Ckr)  : CK → Expr → Bool := fun k x => match x with
    | .IfExp u y z _ => c_.t k u && (a_.e k y && b_.e k z)
    | _ => false
def t_ite (wl : WL) (c_ : Ckr)  (a_ : Ckr)  (b_ : Ckr)  : CK → Expr → Bool := fun _ _ => false
def k_ite (wl : WL) (c_ : Ckr)  (a_ : Ckr)  (b_ : Ckr)  : Ckr := ckT (e_ite wl c_ a_ b_) (t_ite wl c_ a_ b_)
def e_cmp (wl : WL) (op : CmpOp) (a_ : Ckr)  (b_ : Ckr)  : CK → Expr → Bool := fun k x => match x with
      | .Compare y [op'] [z] _ => decide (op = op') && (!(behindInMarks op z) && (a_.e k y && b_.e k z))
      | _ => false
def k_cmp (wl : WL) (op : CmpOp) (a_ : Ckr)  (b_ : Ckr)  : Ckr := ckT (e_cmp wl op a_ b_) (e_cmp wl op a_ b_)
def e_cmp2 (wl : WL) (o1 : CmpOp) (o2 : CmpOp) (a_ : Ckr)  (b_ : Ckr)  (c_ : Ckr)  : CK → Expr → Bool := fun k x => match x with
      | .Compare y [p1, p2] [z, u] _ => (decide (o1 = p1) && decide (o2 = p2)) && (!(lastMarks [o1, o2] [z, u]) && (a_.e k y && (b_.e k z && c_.e k u)))
      | _ => false
def k_cmp2 (wl : WL) (o1 : CmpOp) (o2 : CmpOp) (a_ : Ckr)  (b_ : Ckr)  (c_ : Ckr)  : Ckr := ckT (e_cmp2 wl o1 o2 a_ b_ c_) (e_cmp2 wl o1 o2 a_ b_ c_)
def e_call (wl : WL) (f : Str) (as_ : Ckr)  (n0 : Bool) : CK → Expr → Bool := fun k x => match x with
    | .Call (.Name n _) [] [] _ => decide (n = f) && (glB k f && n0)
    | .Call (.Name n _) (y :: r) [] _ => decide (n = f) && (glB k f && as_.a k (y :: r))
    | _ => false
def k_call (wl : WL) (f : Str) (as_ : Ckr)  (n0 : Bool) : Ckr := ckE (e_call wl f as_ n0)
def e_callK (wl : WL) (f : Str) (as_ : Ckr)  (ks : List Str) (vs_ : Ckr)  (n0 : Bool) : CK → Expr → Bool := fun k x => match x with
    | .Call (.Name n _) [] kws _ => decide (n = f) && (glB k f && (n0 && (kwOk kws ks && vs_.k k kws)))
    | .Call (.Name n _) (y :: r) kws _ => decide (n = f) && (glB k f && (as_.a k (y :: r) && (kwOk kws ks && vs_.k k kws)))
    | _ => false
def k_callK (wl : WL) (f : Str) (as_ : Ckr)  (ks : List Str) (vs_ : Ckr)  (n0 : Bool) : Ckr := ckE (e_callK wl f as_ ks vs_ n0)
def e_bf (wl : WL) (f : BF) (as_ : Ckr)  : CK → Expr → Bool := fun k x => match x with
    | .Call (.Name n _) (y :: r) [] _ => decide (n = f.nm) && (glB k f.nm && (decide (f.nm ∈ wl.bn) && (((k.calm && decide (f ≠ .repr)) || decide (f = .repr)) && as_.a k (y :: r))))
    | _ => false
def k_bf (wl : WL) (f : BF) (as_ : Ckr)  : Ckr := ckE (e_bf wl f as_)
def e_isi (wl : WL) (a_ : Ckr)  (t : Ty) : CK → Expr → Bool := fun k x => match x with
    | .Call (.Name n _) [y, .Name m _] [] _ => decide (n = "isinstance") && (decide (m = t.nm) && (glB k n && (glB k m && (decide (n ∈ wl.bn) && ((match t with
      | .own c => decide (c ∈ wl.cn) && okN c
      | t => decide (t.nm ∈ wl.bn)) && (plainE y && a_.e k y))))))
    | _ => false
def k_isi (wl : WL) (a_ : Ckr)  (t : Ty) : Ckr := ckE (e_isi wl a_ t)
def nmsB (wl : WL) (k : CK) : List Expr → List Ty → Bool
  | [], [] => true
  | .Name x _ :: es, t :: ts => decide (x = t.nm) && (t.tn.isSome && (glB k x && (decide (x ∈ wl.bn) && nmsB wl k es ts)))
  | _, _ => false
def e_isiT (wl : WL) (a_ : Ckr) (ts : List Ty) : CK → Expr → Bool := fun k x => match x with
    | .Call (.Name n _) [y, .Tuple es _ _] [] _ => decide (n = "isinstance") && (glB k n && (decide (n ∈ wl.bn) && (nmsB wl k es ts && (!ts.isEmpty && (decide (ts.length ≤ 100) && (plainE y && a_.e k y))))))
    | _ => false
def k_isiT (wl : WL) (a_ : Ckr) (ts : List Ty) : Ckr := ckE (e_isiT wl a_ ts)
def e_meth (wl : WL) (o_ : Ckr)  (m : Str) (as_ : Ckr)  (n0 : Bool) : CK → Expr → Bool := fun k x => match x with
    | .Call (.Attribute y m' ap) [] [] p => decide (m = m') && (n0 && (baseB y && ((ap.endLine == p.line) && o_.e k y)))
    | .Call (.Attribute y m' ap) (z :: r) [] p => decide (m = m') && (baseB y && ((ap.endLine == p.line) && (decide ((z :: r).length < 30) && (o_.e k y && as_.a k (z :: r)))))
    | _ => false
def k_meth (wl : WL) (o_ : Ckr)  (m : Str) (as_ : Ckr)  (n0 : Bool) : Ckr := ckE (e_meth wl o_ m as_ n0)
def e_methK (wl : WL) (o_ : Ckr)  (m : Str) (as_ : Ckr)  (ks : List Str) (vs_ : Ckr)  (n0 : Bool) : CK → Expr → Bool := fun k x => match x with
    | .Call (.Attribute y m' ap) [] kws p => decide (m = m') && (n0 && (baseB y && ((ap.endLine == p.line) && (decide (kws.length < 29) && (kwOk kws ks && (o_.e k y && vs_.k k kws))))))
    | _ => false
def k_methK (wl : WL) (o_ : Ckr)  (m : Str) (as_ : Ckr)  (ks : List Str) (vs_ : Ckr)  (n0 : Bool) : Ckr := ckE (e_methK wl o_ m as_ ks vs_ n0)
def e_callV (wl : WL) (i : Nat) (as_ : Ckr) : CK → Expr → Bool := fun k x => match x with
    | .Call (.Name n _) (y :: r) [] _ => decide (k.N[i]? = some n) && (visB k n && (okN n && as_.a k (y :: r)))
    | _ => false
def k_callV (wl : WL) (i : Nat) (as_ : Ckr) : Ckr := ckE (e_callV wl i as_)
def e_cmeth (wl : WL) (c m : Str) (as_ : Ckr) : CK → Expr → Bool := fun k x => match x with
    | .Call (.Attribute (.Name n _) m' ap) (z :: r) [] p => decide (n = c) && (decide (m = m') && (glB k c && ((ap.endLine == p.line) && (decide ((z :: r).length < 30) && as_.a k (z :: r)))))
    | _ => false
def k_cmeth (wl : WL) (c m : Str) (as_ : Ckr) : Ckr := ckE (e_cmeth wl c m as_)
def e_cmethK (wl : WL) (c m : Str) (ks : List Str) (vs_ : Ckr) : CK → Expr → Bool := fun k x => match x with
    | .Call (.Attribute (.Name n _) m' ap) [] kws p => decide (n = c) && (decide (m = m') && (glB k c && ((ap.endLine == p.line) && (decide (kws.length < 29) && (kwOk kws ks && vs_.k k kws)))))
    | _ => false
def k_cmethK (wl : WL) (c m : Str) (ks : List Str) (vs_ : Ckr) : Ckr := ckE (e_cmethK wl c m ks vs_)
def e_bm (wl : WL) (m : BM) (o_ : Ckr)  (as_ : Ckr)  : CK → Expr → Bool := fun k x => match m, x with
    | .split, .Call (.Attribute y m' ap) (z :: r) [] p => decide (m' = "split") && (baseB y && ((ap.endLine == p.line) && (decide ((z :: r).length < 30) && (o_.e k y && as_.a k (z :: r)))))
    | .append, .Call (.Attribute y m' ap) (z :: r) [] p => decide (m' = "append") && (baseB y && ((ap.endLine == p.line) && (decide ((z :: r).length < 30) && (o_.e k y && as_.a k (z :: r)))))
    | _, _ => false
def k_bm (wl : WL) (m : BM) (o_ : Ckr)  (as_ : Ckr)  : Ckr := ckE (e_bm wl m o_ as_)
def e_fld (wl : WL) (o_ : Ckr)  (f : Str) : CK → Expr → Bool := fun k x => match x with
    | .Attribute y f' _ => decide (f = f') && (decide (f ∈ wl.fl) && (baseB y && o_.e k y))
    | _ => false
def k_fld (wl : WL) (o_ : Ckr)  (f : Str) : Ckr := ckE (e_fld wl o_ f)
def e_idx (wl : WL) (o_ : Ckr)  (i_ : Ckr)  : CK → Expr → Bool := fun k x => match x with
    | .Subscript y z _ => plainIxB z && (o_.e k y && i_.e k z)
    | _ => false
def k_idx (wl : WL) (o_ : Ckr)  (i_ : Ckr)  : Ckr := ckE (e_idx wl o_ i_)
def e_slc (wl : WL) (o_ : Ckr)  (lo_ : Ckr)  (hi_ : Ckr)  : CK → Expr → Bool := fun k x => match x with
    | .Subscript y (.Slice l h none _) _ => o_.e k y && (lo_.p k l && hi_.p k h)
    | _ => false
def k_slc (wl : WL) (o_ : Ckr)  (lo_ : Ckr)  (hi_ : Ckr)  : Ckr := ckE (e_slc wl o_ lo_ hi_)
def e_lst (wl : WL) (es_ : Ckr)  : CK → Expr → Bool := fun k x => match x with
    | .List l _ => es_.a k l
    | _ => false
def k_lst (wl : WL) (es_ : Ckr)  : Ckr := ckE (e_lst wl es_)
def e_tup (wl : WL) (es_ : Ckr)  : CK → Expr → Bool := fun k x => match x with
    | .Tuple l _ _ => es_.a k l
    | _ => false
def k_tup (wl : WL) (es_ : Ckr)  : Ckr := ckE (e_tup wl es_)
def e_dct0 (wl : WL) : CK → Expr → Bool := fun _ x => match x with
    | .Dict [] [] _ => true
    | _ => false
def k_dct0 (wl : WL) : Ckr := ckE (e_dct0 wl)
def ckD (a b r : Ckr) (k : CK) : List (Option Expr) → List Expr → Bool
  | some x :: ks, v :: vs => a.e k x && (b.e k v && r.d k ks vs)
  | _, _ => false
def e_dct (wl : WL) (es_ : Ckr) : CK → Expr → Bool := fun k x => match x with
    | .Dict keys vals _ => decide (keys.length ≤ 15) && (!keys.isEmpty && (decide (keys.length = vals.length) && (keys.all (·.isSome) && es_.d k keys vals)))
    | _ => false
def k_dct (wl : WL) (es_ : Ckr) : Ckr := ckE (e_dct wl es_)
def e_isx (wl : WL) (a_ : Ckr) (c : Str) : CK → Expr → Bool := fun k x => match x with
    | .Call (.Name n _) [y, .Name m _] [] _ => decide (n = "isinstance") && (decide (m = c) && (glB k n && (glB k m && (decide (n ∈ wl.bn) && (plainE y && a_.e k y)))))
    | _ => false
def k_isx (wl : WL) (a_ : Ckr) (c : Str) : Ckr := ckE (e_isx wl a_ c)
def e_xfd (wl : WL) (o_ : Ckr) (f : Str) : CK → Expr → Bool := fun k x => match x with
    | .Attribute y f' _ => decide (f = f') && (decide (f ∈ wl.ef) && (baseB y && o_.e k y))
    | _ => false
def k_xfd (wl : WL) (o_ : Ckr) (f : Str) : Ckr := ckE (e_xfd wl o_ f)
def e_comp (wl : WL) (elt_ : Ckr)  (own : List (Str × Nat)) (g : Tg) (it_ : Ckr)  (c_ : Ckr)  : CK → Expr → Bool := fun k x => match x with
    | .ListComp el [⟨tg, itx, ifs, 0⟩] sc _ => k.calm && (k.hs.isNone && (it_.i k itx && (blkC k.N k.sc sc own && (tgB ⟨k.N, relS sc k.sc, k.calm, none⟩ tg g && ((g.slots.all fun i => decide (i ∈ own.map (·.2))) && (c_.f ⟨k.N, relS sc k.sc, k.calm, none⟩ ifs && elt_.e ⟨k.N, relS sc k.sc, k.calm, none⟩ el))))))
    | _ => false
def k_comp (wl : WL) (elt_ : Ckr)  (own : List (Str × Nat)) (g : Tg) (it_ : Ckr)  (c_ : Ckr)  : Ckr := ckE (e_comp wl elt_ own g it_ c_)
def e_lis (wl : WL) (a_ : Ckr) : CK → Expr → Bool := fun k x => match x with
    | .Call (.Name n _) [y] [] _ => decide (n = "list") && (glB k n && (decide (n ∈ wl.bn) && (k.calm && (plainE y && a_.e k y))))
    | _ => false
def k_lis (wl : WL) (a_ : Ckr) : Ckr := ckE (e_lis wl a_)
def e_glo (wl : WL) (c : Str) : CK → Expr → Bool := fun k x => match x with
    | .Name n _ => decide (n = c) && glB k c
    | _ => false
def k_glo (wl : WL) (c : Str) : Ckr := ckE (e_glo wl c)
def e_exf (wl : WL) (i : Nat) (f : Str) : CK → Expr → Bool := fun k x => match x with
    | .Attribute (.Name n _) f' _ => decide (f = f') && (decide (f ∈ wl.ef) && (decide (k.hs = some i) && (decide (k.N[i]? = some n) && (visB k n && okN n))))
    | _ => false
def k_exf (wl : WL) (i : Nat) (f : Str) : Ckr := ckE (e_exf wl i f)
def e_fstr (wl : WL) (ps_ : Ckr)  : CK → Expr → Bool := fun k x => match x with
    | .JoinedStr (y :: z :: r) _ => ps_.j k (y :: z :: r)
    | _ => false
def k_fstr (wl : WL) (ps_ : Ckr)  : Ckr := ckE (e_fstr wl ps_)
def e_fmt (wl : WL) (a_ : Ckr)  : CK → Expr → Bool := fun k x => match x with
    | .FormattedValue y (-1) none _ => a_.e k y
    | _ => false
def k_fmt (wl : WL) (a_ : Ckr)  : Ckr := ckE (e_fmt wl a_)
def i_rng (wl : WL) (as_ : Ckr) : CK → Expr → Bool := fun k x => match x with
    | .Call (.Name n _) [y] [] _ => decide (n = "range") && (glB k n && (decide (n ∈ wl.bn) && (plainE y && as_.a k [y])))
    | _ => false
def k_rng (wl : WL) (as_ : Ckr) : Ckr := { ckNo with i := i_rng wl as_ }
def k_frz (wl : WL) (a_ : Ckr)  : Ckr := { ckE (fun k x => a_.e k x) with t := a_.t, f := a_.f }
def k_nil (wl : WL) : Ckr := { ckNo with a := fun _ l => l.isEmpty, j := fun _ l => l.isEmpty, k := fun _ l => l.isEmpty, d := fun _ l m => l.isEmpty && m.isEmpty }
def k_pair (wl : WL) (a_ b_ r_ : Ckr) : Ckr := { ckNo with d := ckD a_ b_ r_ }
def k_cons (wl : WL) (a_ : Ckr)  (r_ : Ckr)  : Ckr := { ckNo with a := ckA a_ r_, j := ckJ a_ r_, k := ckK a_ r_ }
def k_omit (wl : WL) : Ckr := { ckNo with p := fun _ l => l.isNone, f := fun _ l => l.isEmpty }
def k_prt (wl : WL) (a_ : Ckr)  : Ckr := { ckNo with p := ckP a_ }
/-- the check -/
def ck (wl : WL) : E → Ckr
  | .var i => k_var wl i
  | .cst c => k_cst wl c
  | .bin op a b => k_bin wl op (ck wl a) (ck wl b)
  | .neg a => k_neg wl (ck wl a)
  | .no a => k_no wl (ck wl a)
  | .and a b => k_and wl (ck wl a) (ck wl b)
  | .or a b => k_or wl (ck wl a) (ck wl b)
  | .ite c a b => k_ite wl (ck wl c) (ck wl a) (ck wl b)
  | .cmp op a b => k_cmp wl op (ck wl a) (ck wl b)
  | .cmp2 o1 o2 a b c => k_cmp2 wl o1 o2 (ck wl a) (ck wl b) (ck wl c)
  | .call f as _ => k_call wl f (ck wl as) (isNil as)
  | .callK f _ as ks vs _ => k_callK wl f (ck wl as) ks (ck wl vs) (isNil as)
  | .callV i as _ => k_callV wl i (ck wl as)
  | .bf f as => k_bf wl f (ck wl as)
  | .isi a t => k_isi wl (ck wl a) t
  | .isiT a ts => k_isiT wl (ck wl a) ts
  | .meth o m as => k_meth wl (ck wl o) m (ck wl as) (isNil as)
  | .methK o m _ as ks vs _ => k_methK wl (ck wl o) m (ck wl as) ks (ck wl vs) (isNil as)
  | .cmeth c m as => k_cmeth wl c m (ck wl as)
  | .cmethK c m ks vs _ => k_cmethK wl c m ks (ck wl vs)
  | .bm m o as => k_bm wl m (ck wl o) (ck wl as)
  | .fld o f => k_fld wl (ck wl o) f
  | .idx o i => k_idx wl (ck wl o) (ck wl i)
  | .slc o lo hi => k_slc wl (ck wl o) (ck wl lo) (ck wl hi)
  | .lst es _ => k_lst wl (ck wl es)
  | .tup es => k_tup wl (ck wl es)
  | .dct0 _ => k_dct0 wl
  | .dct es _ => k_dct wl (ck wl es)
  | .isx a c => k_isx wl (ck wl a) c
  | .xfd o f => k_xfd wl (ck wl o) f
  | .comp elt own g it c => k_comp wl (ck wl elt) own g (ck wl it) (ck wl c)
  | .lis a _ => k_lis wl (ck wl a)
  | .glo x => k_glo wl x
  | .exf i f => k_exf wl i f
  | .fstr ps => k_fstr wl (ck wl ps)
  | .fmt a => k_fmt wl (ck wl a)
  | .rng as => k_rng wl (ck wl as)
  | .frz a => k_frz wl (ck wl a)
  | .nil => k_nil wl
  | .cons a r => k_cons wl (ck wl a) (ck wl r)
  | .star _ _ => ckNo
  | .omit => k_omit wl
  | .prt a => k_prt wl (ck wl a)
  | .pair a b r => k_pair wl (ck wl a) (ck wl b) (ck wl r)
end M
set_option Elab.async false
set_option linter.all false
set_option maxRecDepth 100000
set_option maxHeartbeats 4000000
namespace M
open PySem PySem.Spec PyProof.Rows L2
structure SndX (wl : WL) (q : E) (kk : CK) (X : Cx) (C : Cl) (G : Gt) (U : WX) : Prop where
  e : ∀ x, (ck wl q).e kk x = true → SE X C U x (ev G q).e
  t : ∀ x, (ck wl q).t kk x = true → ST X C U x (ev G q).t
  w : ∀ op a r p, (ck wl q).t kk (.BoolOp op (a :: r) p) = true → SW X C U (.BoolOp op (a :: r) p) (ev G q).t
  a : ∀ l, (ck wl q).a kk l = true → SA X C U l (ev G q).a ∧ l.all plainE = true
  i : ∀ x, (ck wl q).i kk x = true → SI X C U x (ev G q).i
  j : ∀ l, (ck wl q).j kk l = true → SJ X C U l (ev G q).f
  p : ∀ l, (ck wl q).p kk l = true → SO X C U l (ev G q).e
  k : ∀ l, (ck wl q).k kk l = true → SK X C U l (ev G q).a
  f : U = U0 → ∀ l, (ck wl q).f kk l = true → STb X C l (ev G q).t
  d : ∀ pos ks vs, (ck wl q).d kk ks vs = true → SD X C U pos ks vs (ev G q).a
section
variable {wl : WL} {k : CK} {X : Cx} {C : Cl} {G : Gt} {U : WX}
theorem SndX.ofT {e : E} {ce ct : CK → Expr → Bool} (h1 : ck wl e = ckT ce ct) (hi : (ev G e).i = iOf (ev G e).e) (he : ∀ x, ce k x = true → SE X C U x (ev G e).e) (ht : ∀ x, ct k x = true → ST X C U x (ev G e).t)
    (hw : ∀ op a b r p, ct k (.BoolOp op (a :: b :: r) p) = true → SW X C U (.BoolOp op (a :: b :: r) p) (ev G e).t) : SndX wl e k X C G U where
  e := fun x hx => by rw [h1] at hx; exact se_strip (he _ hx)
  t := fun x hx => by rw [h1] at hx; exact st_strip (ht _ hx)
  w := fun op a r p hx => by
    rw [h1] at hx
    cases r with
    | nil => exact sw_one (ht _ hx)
    | cons b r => exact hw _ _ _ _ _ hx
  a := fun l hx => by rw [h1] at hx; cases hx
  i := fun x hx => by
    rw [h1] at hx
    have hx : (noSet x && ce k (strip x)) = true := hx
    rw [Bool.and_eq_true] at hx
    rw [hi]
    exact siOf hx.1 (se_strip (he _ hx.2))
  j := fun l hx => by rw [h1] at hx; cases hx
  p := fun l hx => by rw [h1] at hx; cases hx
  k := fun l hx => by rw [h1] at hx; cases hx
  f := fun hu l hx => by
    subst hu
    rw [h1] at hx
    match l, hx with
    | [y], hx => exact stbOne (st_strip (ht _ hx))
  d := fun pos ks vs hx => by rw [h1] at hx; cases hx
theorem SndX.ofE {e : E} {ce : CK → Expr → Bool} (h1 : ck wl e = ckE ce) (hi : ev G e = mkP (ev G e).e) (he : ∀ x, ce k x = true → SE X C U x (ev G e).e) : SndX wl e k X C G U := by
  refine SndX.ofT (e := e) (ce := ce) (ct := fun k x => plainT x && ce k x) h1 (by rw [hi]; rfl) he (fun x hx => ?_) fun op a b r p hx => ?_
  · have hx : (plainT x && ce k x) = true := hx
    rw [Bool.and_eq_true] at hx
    have : (ev G e).t = tOf (ev G e).e := by rw [hi]; rfl
    rw [this]
    exact sTOf (he x hx.2) (plain_test hx.1)
  · have hx : (plainT (.BoolOp op (a :: b :: r) p) && ce k (.BoolOp op (a :: b :: r) p)) = true := hx
    cases hx
/-- nothing is checked -/
theorem SndX.no {e : E} (h1 : ck wl e = ckNo) : SndX wl e k X C G U where
  e := fun x hx => by rw [h1] at hx; cases hx
  t := fun x hx => by rw [h1] at hx; cases hx
  w := fun op a r p hx => by rw [h1] at hx; cases hx
  a := fun l hx => by rw [h1] at hx; cases hx
  i := fun x hx => by rw [h1] at hx; cases hx
  j := fun l hx => by rw [h1] at hx; cases hx
  p := fun l hx => by rw [h1] at hx; cases hx
  k := fun l hx => by rw [h1] at hx; cases hx
  f := fun hu l hx => by rw [h1] at hx; cases hx
  d := fun pos ks vs hx => by rw [h1] at hx; cases hx
/-- contexts of one world -/
theorem Facts.to {X' : Cx} (hp : X'.prog = X.prog) (hw : X'.w = X.w) (hK : X'.K = X.K) (hm : X'.mg = X.mg) (hb : X'.base = X.base) (hr : ∀ k, RoomG k X.A → RoomG k X'.A) (T : Facts X C G) : Facts X' C G := by
  obtain ⟨prog, w, K, mg, base, A, N, s_0, H_0, env, outer, stack, ex, fn, calm, pn, xe⟩ := X
  obtain ⟨prog', w', K', mg', base', A', N', s_0', H_0', env', outer', stack', ex', fn', calm', pn', xe'⟩ := X'
  dsimp only at hp hw hK hm hb hr
  subst hp hw hK hm hb
  have mf : ∀ {c m : Str} {A1 f : Addr} {n : Nat}, MF ⟨prog', w', K', mg', base', A, N, s_0, H_0, env, outer, stack, ex, fn, calm, pn, xe⟩ C G c m A1 f n → MF ⟨prog', w', K', mg', base', A', N', s_0', H_0', env', outer', stack', ex', fn', calm', pn', xe'⟩ C G c m A1 f n := fun M =>
    ⟨M.cls, M.ok, M.me, M.len, let ⟨fd, ps, k, F1, r, b⟩ := M.run; ⟨fd, ps, k, F1, hr _ r, b⟩⟩
  have xl : ∀ {c : Str} {A1 : Addr} {x : Option Str}, XlF ⟨prog', w', K', mg', base', A, N, s_0, H_0, env, outer, stack, ex, fn, calm, pn, xe⟩ C G c A1 x → XlF ⟨prog', w', K', mg', base', A', N', s_0', H_0', env', outer', stack', ex', fn', calm', pn', xe'⟩ C G c A1 x := fun M =>
    ⟨M.mg, M.db, M.cl, M.oex, M.mkq, let ⟨fI, k, fd, ps, a1, a2, r, b, z⟩ := M.run; ⟨fI, k, fd, ps, a1, a2, hr _ r, b, z⟩⟩
  refine ⟨fun f ds hd => ?_, fun c m h => ?_, fun f n ks ix hd => ?_, fun c m n ks ix hd => ?_, fun c m h => ?_, T.gc, fun c p h => ⟨(T.xs c p h).db, (T.xs c p h).ex⟩, T.oper⟩
  · rcases T.fn f ds hd with ⟨fa, n, M⟩ | ⟨A1, fi, n, M⟩ | ⟨e, A1, x, M⟩
    · exact .inl ⟨fa, n, M.mg, M.kp, M.db, M.len, let ⟨fd, ps, us, k, F1, r, b, v⟩ := M.run; ⟨fd, ps, us, k, F1, hr _ r, b, v⟩⟩
    · exact .inr (.inl ⟨A1, fi, n, M.mg, M.cl, M.mkk, M.db, M.len, M.mkq, let ⟨fd, ps, us, k, F1, r, b, v⟩ := M.run; ⟨fd, ps, us, k, F1, hr _ r, b, v⟩⟩)
    · exact .inr (.inr ⟨e, A1, x, xl M⟩)
  · obtain ⟨A1, f, n, M⟩ := T.meth c m h
    exact ⟨A1, f, n, mf M⟩
  · rcases T.kw f n ks ix hd with ⟨fa, m, M⟩ | ⟨A1, fi, m, M⟩ | ⟨A1, g, nm, e, M⟩
    · exact .inl ⟨fa, m, M.mg, M.kp, M.db, M.len, let ⟨fd, ps, k, F1, r, b⟩ := M.run; ⟨fd, ps, k, F1, hr _ r, b⟩⟩
    · exact .inr (.inl ⟨A1, fi, m, M.mg, M.cl, M.mkk, M.db, M.len, M.mkq, let ⟨fd, ps, k, F1, r, b⟩ := M.run; ⟨fd, ps, k, F1, hr _ r, b⟩⟩)
    · exact .inr (.inr ⟨A1, g, nm, e, xl M⟩)
  · obtain ⟨A1, f, j, M, fd, ps, k, F1, r, b⟩ := T.kwm c m n ks ix hd
    exact ⟨A1, f, j, mf M, fd, ps, k, F1, hr _ r, b⟩
  · obtain ⟨A1, mc, p1, g1, n, M⟩ := T.cm c m h
    exact ⟨A1, mc, p1, g1, n, M.cl, M.mg, M.db, M.rd, M.me, M.len, let ⟨fd, ps, k, F1, r, b, b2⟩ := M.run; ⟨fd, ps, k, F1, hr _ r, b, b2⟩⟩
theorem XkF.to {X' : Cx} {xk : Str → Option (Option Str)} (hp : X'.prog = X.prog) (hw : X'.w = X.w) (hK : X'.K = X.K) (hm : X'.mg = X.mg) (hb : X'.base = X.base) (hr : ∀ k, Room k X.A → Room k X'.A) (T : XkF X C xk) : XkF X' C xk := by
  obtain ⟨prog, w, K, mg, base, A, N, s_0, H_0, env, outer, stack, ex, fn, calm, pn, xe⟩ := X
  obtain ⟨prog', w', K', mg', base', A', N', s_0', H_0', env', outer', stack', ex', fn', calm', pn', xe'⟩ := X'
  dsimp only at hp hw hK hm hb hr
  subst hp hw hK hm hb
  refine ⟨fun c h => ?_, fun c f h => ?_⟩
  · obtain ⟨A1, fI, k, fd, ps, h1, h2, h3, h4, h5, r, h7⟩ := T.no c h
    exact ⟨A1, fI, k, fd, ps, h1, h2, h3, h4, h5, hr _ r, h7⟩
  · obtain ⟨A1, fI, k, fd, ps, h1, h2, h3, h4, h5, r, h7, h8⟩ := T.one c f h
    exact ⟨A1, fI, k, fd, ps, h1, h2, h3, h4, h5, hr _ r, h7, h8⟩
theorem takes0 : Takes X U0 := fun u s' ⟨_, _, _, _, _, _, _, _, _, _, _, _, _, _, _, _, z⟩ => (show False from z).elim
variable {sub : Str → Str → Bool} {xk : Str → Option (Option Str)}
theorem XO.blk (o : XO wl sub xk k X C G U) (hh : k.hs = none) {sc : Scope} (s : Shared) (H : Hp) (D : Addr) (cl : List (Str × Addr)) (fp : List Addr) : XO wl sub xk ⟨k.N, relS sc k.sc, k.calm, none⟩ (X.blk s H sc (compEnvC sc cl D X.env) fp) C G U0 where
  T := Facts.to (X := X) rfl rfl rfl rfl rfl (fun _ r => r) o.T
  ci := o.ci
  N := o.N
  E := ⟨o.E.nm, o.E.sub, o.E.xf⟩
  Y := fun h => XkF.to (X := X) rfl rfl rfl rfl rfl (fun _ r => r) (o.Y h)
  bn := o.bn
  fl := o.fl
  ef := o.ef
  xn := o.xn
  cn := o.cn
  hu := o.hu
  gd := o.gd
  names := o.names
  nd := o.nd
  sc := by rw [← o.sc]; rfl
  calm := o.calm
  tk := takes0
  h := by rw [o.h, hh]
  ex := fun i hi => by cases hi
end
end M
set_option Elab.async false
set_option linter.all false
set_option maxRecDepth 100000
set_option maxHeartbeats 4000000
namespace M
open PySem PySem.Spec PyProof.Rows L2
section
variable {wl : WL} {sub : Str → Str → Bool} {xk : Str → Option (Option Str)} {k : CK} {X : Cx} {C : Cl} {G : Gt} {U : WX}
theorem isNil_of {e : E} (h : isNil e = true) : e = .nil := by cases e <;> first | rfl | cases h
theorem nms_ok (o : XO wl sub xk k X C G U) : ∀ {es : List Expr} {ts : List Ty}, nmsB wl k es ts = true → ∃ ns, tnsOf ts = some ns ∧ TysN X es ns ∧ ns.length = ts.length := by
  intro es
  induction es with
  | nil =>
    intro ts h
    cases ts with
    | nil => exact ⟨[], rfl, tysNil, rfl⟩
    | cons t ts => cases h
  | cons e es ih =>
    intro ts h
    unfold nmsB at h
    split at h
    · rename_i q; cases q
    · rename_i x p es' t ts' q1
      cases q1
      simp only [Bool.and_eq_true] at h
      obtain ⟨h1, h2, h3, h4, h5⟩ := h
      obtain ⟨ns, e1, e2, e3⟩ := ih h5
      obtain ⟨n, en⟩ := Option.isSome_iff_exists.mp h2
      have hx := of_decide_eq_true h1
      subst hx
      refine ⟨n :: ns, by unfold tnsOf; rw [en, e1], tysCons (o.gl h3) (o.bn _ (of_decide_eq_true h4)) ?_ ?_ ?_ e2, by simp [e3]⟩
      · cases t <;> cases en <;> rfl
      · cases t <;> cases en <;> decide
      · cases t <;> cases en <;> decide
    · cases h
theorem tgsB_ok (o : XO wl sub xk k X C G U) : ∀ {ts : List Expr} {is : List Nat}, tgB.tgsB k ts is = true → STs X C ts is
  | [], [], _ => stsNil
  | [], _ :: _, h => by cases h
  | .Name n p :: ts, [], h => by cases h
  | .Name n p :: ts, i :: is, h => by
    have h : (decide (k.N[i]? = some n) && (locB k n && ((k.hs != some i) && tgB.tgsB k ts is))) = true := h
    simp only [Bool.and_eq_true] at h
    obtain ⟨h1, h2, h3, h4⟩ := h
    exact stsCons (o.free h3) o.nd (o.ix h1) (.inl (o.loc h2)) (.inr (o.loc h2)) (tgsB_ok o h4)
  | .BoolOp .. :: _, _, h => by cases h
  | .NamedExpr .. :: _, _, h => by cases h
  | .BinOp .. :: _, _, h => by cases h
  | .UnaryOp .. :: _, _, h => by cases h
  | .Lambda .. :: _, _, h => by cases h
  | .IfExp .. :: _, _, h => by cases h
  | .Dict .. :: _, _, h => by cases h
  | .Set .. :: _, _, h => by cases h
  | .ListComp .. :: _, _, h => by cases h
  | .SetComp .. :: _, _, h => by cases h
  | .DictComp .. :: _, _, h => by cases h
  | .GeneratorExp .. :: _, _, h => by cases h
  | .Await .. :: _, _, h => by cases h
  | .Yield .. :: _, _, h => by cases h
  | .YieldFrom .. :: _, _, h => by cases h
  | .Compare .. :: _, _, h => by cases h
  | .Call .. :: _, _, h => by cases h
  | .FormattedValue .. :: _, _, h => by cases h
  | .JoinedStr .. :: _, _, h => by cases h
  | .Constant .. :: _, _, h => by cases h
  | .Attribute .. :: _, _, h => by cases h
  | .Subscript .. :: _, _, h => by cases h
  | .Starred .. :: _, _, h => by cases h
  | .List .. :: _, _, h => by cases h
  | .Tuple .. :: _, _, h => by cases h
  | .Slice .. :: _, _, h => by cases h
theorem tgB_ok (o : XO wl sub xk k X C G U) {tg : Expr} {g : Tg} (h : tgB k tg g = true) : ST_ X C tg g := by
  unfold tgB at h
  split at h
  · simp only [Bool.and_eq_true] at h
    obtain ⟨h1, h2, h3⟩ := h
    exact stOne (o.free h3) o.nd (o.ix h1) (.inl (o.loc h2)) (.inr (o.loc h2))
  · simp only [Bool.and_eq_true] at h
    exact stAll (by rw [o.calm]; exact h.1) (tgsB_ok o h.2)
  · cases h
theorem ckK_ok {a r : E} (ha : SndX wl a k X C G U) (hr : SndX wl r k X C G U) : ∀ l, ckK (ck wl a) (ck wl r) k l = true → SK X C U l (aCons (ev G a).e (ev G r).a)
  | [], h => by cases h
  | ⟨nm, v, p⟩ :: l, h => by
    have h : ((ck wl a).e k v && (ck wl r).k k l) = true := h
    rw [Bool.and_eq_true] at h
    exact skCons (ha.e _ h.1) (hr.k _ h.2)
theorem snd (e : E) : ∀ (k : CK) (X : Cx) (C : Cl) (G : Gt) (U : WX), XO wl sub xk k X C G U → SndX wl e k X C G U := by
  induction e with
  | var i =>
    intro k X C G U o
    refine SndX.ofE (ce := e_var wl i) rfl rfl fun x hx => ?_
    unfold e_var at hx
    split at hx
    · simp only [Bool.and_eq_true] at hx
      obtain ⟨h1, h2, h3⟩ := hx
      exact sVar (o.ix h1) (o.vis h2) (okN_of h3).1 (okN_of h3).2
    · cases hx
  | cst c =>
    intro k X C G U o
    refine SndX.ofE (ce := e_cst wl c) rfl rfl fun x hx => ?_
    unfold e_cst at hx
    split at hx
    · rw [cst_of hx]; exact sCst
    · cases hx
  | bin op a b iha ihb =>
    intro k X C G U o
    refine SndX.ofE (ce := e_bin wl op (ck wl a) (ck wl b)) rfl rfl fun x hx => ?_
    unfold e_bin at hx
    split at hx
    · simp only [Bool.and_eq_true] at hx
      obtain ⟨h1, h2, h3⟩ := hx
      rw [of_decide_eq_true h1]
      exact sBin o.T ((iha _ _ _ _ _ o).e _ h2) ((ihb _ _ _ _ _ o).e _ h3)
    · cases hx
  | neg a iha =>
    intro k X C G U o
    refine SndX.ofE (ce := e_neg wl (ck wl a)) rfl rfl fun x hx => ?_
    unfold e_neg at hx
    split at hx
    · exact sNeg o.T ((iha _ _ _ _ _ o).e _ hx)
    · cases hx
  | no a iha =>
    intro k X C G U o
    refine SndX.ofT (ce := e_no wl (ck wl a)) (ct := t_no wl (ck wl a)) rfl rfl (fun x hx => ?_) (fun x hx => ?_) fun op y z r p hx => by cases hx
    · unfold e_no at hx
      split at hx
      · exact sNo ((iha _ _ _ _ _ o).e _ hx)
      · cases hx
    · unfold t_no at hx
      split at hx
      · exact sTNo ((iha _ _ _ _ _ o).t _ hx)
      · cases hx
  | and a b iha ihb =>
    intro k X C G U o
    have tt : ∀ y z r p, ((ck wl a).t k y && (ck wl b).t k (.BoolOp .And (z :: r) p)) = true → SW X C U (.BoolOp .And (y :: z :: r) p) (tAnd (ev G a).t (ev G b).t) := fun y z r p hx => by
      rw [Bool.and_eq_true] at hx
      exact sWAnd ((iha _ _ _ _ _ o).t _ hx.1) ((ihb _ _ _ _ _ o).w _ _ _ _ hx.2)
    refine SndX.ofT (ce := e_and wl (ck wl a) (ck wl b)) (ct := t_and wl (ck wl a) (ck wl b)) rfl rfl (fun x hx => ?_) (fun x hx => ?_) fun op y z r p hx => ?_
    · unfold e_and at hx
      split at hx
      · rw [Bool.and_eq_true] at hx
        exact sAnd ((iha _ _ _ _ _ o).e _ hx.1) ((ihb _ _ _ _ _ o).e _ hx.2)
      · cases hx
    · unfold t_and at hx
      split at hx
      · exact (tt _ _ _ _ hx).pt
      · cases hx
    · cases op with
      | And => exact tt _ _ _ _ hx
      | Or => cases hx
  | or a b iha ihb =>
    intro k X C G U o
    have tt : ∀ y z r p, ((ck wl a).t k y && (ck wl b).t k (.BoolOp .Or (z :: r) p)) = true → SW X C U (.BoolOp .Or (y :: z :: r) p) (tOr (ev G a).t (ev G b).t) := fun y z r p hx => by
      rw [Bool.and_eq_true] at hx
      exact sWOr ((iha _ _ _ _ _ o).t _ hx.1) ((ihb _ _ _ _ _ o).w _ _ _ _ hx.2)
    refine SndX.ofT (ce := e_or wl (ck wl a) (ck wl b)) (ct := t_or wl (ck wl a) (ck wl b)) rfl rfl (fun x hx => ?_) (fun x hx => ?_) fun op y z r p hx => ?_
    · unfold e_or at hx
      split at hx
      · rw [Bool.and_eq_true] at hx
        exact sOr ((iha _ _ _ _ _ o).e _ hx.1) ((ihb _ _ _ _ _ o).e _ hx.2)
      · cases hx
    · unfold t_or at hx
      split at hx
      · exact (tt _ _ _ _ hx).pt
      · cases hx
    · cases op with
      | Or => exact tt _ _ _ _ hx
      | And => cases hx
  | ite c a b ihc iha ihb =>
    intro k X C G U o
    refine SndX.ofT (ce := e_ite wl (ck wl c) (ck wl a) (ck wl b)) (ct := t_ite wl (ck wl c) (ck wl a) (ck wl b)) rfl rfl (fun x hx => ?_) (fun x hx => by cases hx) fun op y z r p hx => by cases hx
    unfold e_ite at hx
    split at hx
    · simp only [Bool.and_eq_true] at hx
      obtain ⟨h1, h2, h3⟩ := hx
      exact sIte ((ihc _ _ _ _ _ o).t _ h1) ((iha _ _ _ _ _ o).e _ h2) ((ihb _ _ _ _ _ o).e _ h3)
    · cases hx
  | cmp op a b iha ihb =>
    intro k X C G U o
    refine SndX.ofT (ce := e_cmp wl op (ck wl a) (ck wl b)) (ct := e_cmp wl op (ck wl a) (ck wl b)) rfl rfl (fun x hx => ?_) (fun x hx => ?_) fun op y z r p hx => by cases hx
    · unfold e_cmp at hx
      split at hx
      · simp only [Bool.and_eq_true] at hx
        obtain ⟨h1, h2, h3, h4⟩ := hx
        cases of_decide_eq_true h1
        exact sCmp o.T o.hu (by simpa using h2) ((iha _ _ _ _ _ o).e _ h3) ((ihb _ _ _ _ _ o).e _ h4)
      · cases hx
    · unfold e_cmp at hx
      split at hx
      · simp only [Bool.and_eq_true] at hx
        obtain ⟨h1, h2, h3, h4⟩ := hx
        cases of_decide_eq_true h1
        exact sTCmp o.T o.hu (by simpa using h2) ((iha _ _ _ _ _ o).e _ h3) ((ihb _ _ _ _ _ o).e _ h4)
      · cases hx
  | cmp2 o1 o2 a b c iha ihb ihc =>
    intro k X C G U o
    refine SndX.ofT (ce := e_cmp2 wl o1 o2 (ck wl a) (ck wl b) (ck wl c)) (ct := e_cmp2 wl o1 o2 (ck wl a) (ck wl b) (ck wl c)) rfl rfl (fun x hx => ?_) (fun x hx => ?_) fun op y z r p hx => by cases hx
    · unfold e_cmp2 at hx
      split at hx
      · simp only [Bool.and_eq_true] at hx
        obtain ⟨⟨h1, h1'⟩, h2, h3, h4, h5⟩ := hx
        cases of_decide_eq_true h1
        cases of_decide_eq_true h1'
        exact sCmp2 o.T o.hu (by simpa using h2) ((iha _ _ _ _ _ o).e _ h3) ((ihb _ _ _ _ _ o).e _ h4) ((ihc _ _ _ _ _ o).e _ h5)
      · cases hx
    · unfold e_cmp2 at hx
      split at hx
      · simp only [Bool.and_eq_true] at hx
        obtain ⟨⟨h1, h1'⟩, h2, h3, h4, h5⟩ := hx
        cases of_decide_eq_true h1
        cases of_decide_eq_true h1'
        exact sTCmp2 o.T o.hu (by simpa using h2) ((iha _ _ _ _ _ o).e _ h3) ((ihb _ _ _ _ _ o).e _ h4) ((ihc _ _ _ _ _ o).e _ h5)
      · cases hx
  | call f as ds iha =>
    intro k X C G U o
    refine SndX.ofE (ce := e_call wl f (ck wl as) (isNil as)) rfl rfl fun x hx => ?_
    unfold e_call at hx
    split at hx
    · simp only [Bool.and_eq_true] at hx
      obtain ⟨h1, h2, h3⟩ := hx
      cases of_decide_eq_true h1
      cases isNil_of h3
      exact sCall0 o.T o.tk (o.gl h2)
    · simp only [Bool.and_eq_true] at hx
      obtain ⟨h1, h2, h3⟩ := hx
      cases of_decide_eq_true h1
      obtain ⟨z1, z2⟩ := (iha _ _ _ _ _ o).a _ h3
      exact sCall o.T o.tk (o.gl h2) z2 z1
    · cases hx
  | callK f n as ks vs ix iha ihv =>
    intro k X C G U o
    refine SndX.ofE (ce := e_callK wl f (ck wl as) ks (ck wl vs) (isNil as)) rfl rfl fun x hx => ?_
    unfold e_callK at hx
    split at hx
    · simp only [Bool.and_eq_true] at hx
      obtain ⟨h1, h2, h3, h4, h5⟩ := hx
      cases of_decide_eq_true h1
      cases isNil_of h3
      exact sCallK0 o.T o.tk (o.gl h2) h4 ((ihv _ _ _ _ _ o).k _ h5)
    · simp only [Bool.and_eq_true] at hx
      obtain ⟨h1, h2, h3, h4, h5⟩ := hx
      cases of_decide_eq_true h1
      obtain ⟨z1, z2⟩ := (iha _ _ _ _ _ o).a _ h3
      exact sCallK o.T o.tk (o.gl h2) z2 h4 z1 ((ihv _ _ _ _ _ o).k _ h5)
    · cases hx
  | callV i as ds iha =>
    intro k X C G U o
    refine SndX.ofE (ce := e_callV wl i (ck wl as)) rfl rfl fun x hx => ?_
    unfold e_callV at hx
    split at hx
    · simp only [Bool.and_eq_true] at hx
      obtain ⟨h1, h2, h3, h4⟩ := hx
      obtain ⟨z1, z2⟩ := (iha _ _ _ _ _ o).a _ h4
      exact sCallV o.T o.tk o.ci (sVar (o.ix h1) (o.vis h2) (okN_of h3).1 (okN_of h3).2) z2 z1
    · cases hx
  | bf f as iha =>
    intro k X C G U o
    refine SndX.ofE (ce := e_bf wl f (ck wl as)) rfl rfl fun x hx => ?_
    unfold e_bf at hx
    split at hx
    · simp only [Bool.and_eq_true] at hx
      obtain ⟨h1, h2, h3, h4, h6⟩ := hx
      cases of_decide_eq_true h1
      obtain ⟨z1, z2⟩ := (iha _ _ _ _ _ o).a _ h6
      by_cases hr : f = .repr
      · subst hr
        exact sRepr o.gd o.hu (o.gl h2) (o.bn _ (of_decide_eq_true h3)) z2 z1
      · simp only [Bool.or_eq_true, Bool.and_eq_true] at h4
        rcases h4 with h4 | h4
        · exact sBf (by rw [o.calm]; exact h4.1) hr (o.gl h2) (o.bn _ (of_decide_eq_true h3)) z2 z1
        · exact absurd (of_decide_eq_true h4) hr
    · cases hx
  | isi a t iha =>
    intro k X C G U o
    refine SndX.ofE (ce := e_isi wl (ck wl a) t) rfl rfl fun x hx => ?_
    unfold e_isi at hx
    split at hx
    · simp only [Bool.and_eq_true] at hx
      obtain ⟨h1, h2, h3, h4, h5, h6, h7, h8⟩ := hx
      cases of_decide_eq_true h1
      cases of_decide_eq_true h2
      have tn : TyN X C t := by
        cases t with
        | own c =>
          simp only [Bool.and_eq_true] at h6
          obtain ⟨A, e1, e2⟩ := o.cn c (of_decide_eq_true h6.1)
          exact ⟨o.gl h4, by simp [Ty.u, e1], ⟨A, e1, e2⟩, (okN_of h6.2).1⟩
        | _ => exact ⟨o.gl h4, rfl, o.bn _ (of_decide_eq_true h6), by decide⟩
      exact sIsi o.N tn (o.gl h3) (o.bn _ (of_decide_eq_true h5)) h7 ((iha _ _ _ _ _ o).e _ h8)
    · cases hx
  | isiT a ts iha =>
    intro k X C G U o
    refine SndX.ofE (ce := e_isiT wl (ck wl a) ts) rfl rfl fun x hx => ?_
    unfold e_isiT at hx
    split at hx
    · simp only [Bool.and_eq_true] at hx
      obtain ⟨h1, h2, h3, h4, h5, h6, h7, h8⟩ := hx
      cases of_decide_eq_true h1
      obtain ⟨ns, e1, e2, e3⟩ := nms_ok o h4
      exact sIsiT o.N e1 (fun z => by subst z; cases h5) (by rw [e3]; exact of_decide_eq_true h6) e2 (o.gl h2) (o.bn _ (of_decide_eq_true h3)) h7 ((iha _ _ _ _ _ o).e _ h8)
    · cases hx
  | meth ob m as iho iha =>
    intro k X C G U o
    refine SndX.ofE (ce := e_meth wl (ck wl ob) m (ck wl as) (isNil as)) rfl rfl fun x hx => ?_
    unfold e_meth at hx
    split at hx
    · simp only [Bool.and_eq_true] at hx
      obtain ⟨h1, h2, h3, h4, h5⟩ := hx
      cases of_decide_eq_true h1
      cases isNil_of h2
      exact sMeth0 o.T o.tk (base_ok h3) h4 ((iho _ _ _ _ _ o).e _ h5)
    · simp only [Bool.and_eq_true] at hx
      obtain ⟨h1, h2, h3, h4, h5, h6⟩ := hx
      cases of_decide_eq_true h1
      obtain ⟨z1, z2⟩ := (iha _ _ _ _ _ o).a _ h6
      exact sMeth o.T o.tk (base_ok h2) (of_decide_eq_true h4) z2 h3 ((iho _ _ _ _ _ o).e _ h5) z1
    · cases hx
  | methK ob m n as ks vs ix iho iha ihv =>
    intro k X C G U o
    refine SndX.ofE (ce := e_methK wl (ck wl ob) m (ck wl as) ks (ck wl vs) (isNil as)) rfl rfl fun x hx => ?_
    unfold e_methK at hx
    split at hx
    · simp only [Bool.and_eq_true] at hx
      obtain ⟨h1, h2, h3, h4, h5, h6, h7, h8⟩ := hx
      cases of_decide_eq_true h1
      cases isNil_of h2
      exact sMethK0 o.T o.tk (base_ok h3) (of_decide_eq_true h5) h4 h6 ((iho _ _ _ _ _ o).e _ h7) ((ihv _ _ _ _ _ o).k _ h8)
    · cases hx
  | cmeth c m as iha =>
    intro k X C G U o
    refine SndX.ofE (ce := e_cmeth wl c m (ck wl as)) rfl rfl fun x hx => ?_
    unfold e_cmeth at hx
    split at hx
    · simp only [Bool.and_eq_true] at hx
      obtain ⟨h1, h2, h3, h4, h5, h6⟩ := hx
      cases of_decide_eq_true h1
      cases of_decide_eq_true h2
      obtain ⟨z1, z2⟩ := (iha _ _ _ _ _ o).a _ h6
      exact sCmeth o.T o.tk (o.gl h3) (of_decide_eq_true h5) z2 h4 z1
    · cases hx
  | cmethK c m ks vs ix ihv =>
    intro k X C G U o
    refine SndX.ofE (ce := e_cmethK wl c m ks (ck wl vs)) rfl rfl fun x hx => ?_
    unfold e_cmethK at hx
    split at hx
    · simp only [Bool.and_eq_true] at hx
      obtain ⟨h1, h2, h3, h4, h5, h6, h7⟩ := hx
      cases of_decide_eq_true h1
      cases of_decide_eq_true h2
      exact sCmethK o.T o.tk (o.gl h3) (of_decide_eq_true h5) h4 h6 ((ihv _ _ _ _ _ o).k _ h7)
    · cases hx
  | bm m ob as iho iha =>
    intro k X C G U o
    refine SndX.ofE (ce := e_bm wl m (ck wl ob) (ck wl as)) rfl rfl fun x hx => ?_
    unfold e_bm at hx
    split at hx
    · simp only [Bool.and_eq_true] at hx
      obtain ⟨h1, h2, h3, h4, h5, h6⟩ := hx
      cases of_decide_eq_true h1
      obtain ⟨z1, z2⟩ := (iha _ _ _ _ _ o).a _ h6
      exact sBmS (base_ok h2) (of_decide_eq_true h4) z2 h3 ((iho _ _ _ _ _ o).e _ h5) z1
    · simp only [Bool.and_eq_true] at hx
      obtain ⟨h1, h2, h3, h4, h5, h6⟩ := hx
      cases of_decide_eq_true h1
      obtain ⟨z1, z2⟩ := (iha _ _ _ _ _ o).a _ h6
      exact sBmA (base_ok h2) (of_decide_eq_true h4) z2 h3 ((iho _ _ _ _ _ o).e _ h5) z1
    · cases hx
  | fld ob f iho =>
    intro k X C G U o
    refine SndX.ofE (ce := e_fld wl (ck wl ob) f) rfl rfl fun x hx => ?_
    unfold e_fld at hx
    split at hx
    · simp only [Bool.and_eq_true] at hx
      obtain ⟨h1, h2, h3, h4⟩ := hx
      cases of_decide_eq_true h1
      exact sFld (o.fl f (of_decide_eq_true h2)) ((iho _ _ _ _ _ o).e _ h4) (base_ok h3)
    · cases hx
  | idx ob i iho ihi =>
    intro k X C G U o
    refine SndX.ofE (ce := e_idx wl (ck wl ob) (ck wl i)) rfl rfl fun x hx => ?_
    unfold e_idx at hx
    split at hx
    · simp only [Bool.and_eq_true] at hx
      obtain ⟨h1, h2, h3⟩ := hx
      exact sIdx o.hu ((iho _ _ _ _ _ o).e _ h2) ((ihi _ _ _ _ _ o).e _ h3) (plainIx_of h1)
    · cases hx
  | slc ob lo hi iho ihl ihh =>
    intro k X C G U o
    refine SndX.ofE (ce := e_slc wl (ck wl ob) (ck wl lo) (ck wl hi)) rfl rfl fun x hx => ?_
    unfold e_slc at hx
    split at hx
    · simp only [Bool.and_eq_true] at hx
      obtain ⟨h1, h2, h3⟩ := hx
      exact sSlc ((iho _ _ _ _ _ o).e _ h1) ((ihl _ _ _ _ _ o).p _ h2) ((ihh _ _ _ _ _ o).p _ h3)
    · cases hx
  | lst es mu ihe =>
    intro k X C G U o
    refine SndX.ofE (ce := e_lst wl (ck wl es)) rfl rfl fun x hx => ?_
    unfold e_lst at hx
    split at hx
    · exact sLst ((ihe _ _ _ _ _ o).a _ hx).1
    · cases hx
  | tup es ihe =>
    intro k X C G U o
    refine SndX.ofE (ce := e_tup wl (ck wl es)) rfl rfl fun x hx => ?_
    unfold e_tup at hx
    split at hx
    · exact sTup ((ihe _ _ _ _ _ o).a _ hx).1
    · cases hx
  | dct0 mu =>
    intro k X C G U o
    refine SndX.ofE (ce := e_dct0 wl ) rfl rfl fun x hx => ?_
    unfold e_dct0 at hx
    split at hx
    · exact sDct0
    · cases hx
  | dct es mu ihe =>
    intro k X C G U o
    refine SndX.ofE (ce := e_dct wl (ck wl es)) rfl rfl fun x hx => ?_
    unfold e_dct at hx
    split at hx
    · simp only [Bool.and_eq_true] at hx
      obtain ⟨h1, h2, h3, h4, h5⟩ := hx
      exact sDct ((ihe _ _ _ _ _ o).d _ _ _ h5) h4 (of_decide_eq_true h3) (fun z => by subst z; cases h2) (of_decide_eq_true h1)
    · cases hx
  | isx a c iha =>
    intro k X C G U o
    refine SndX.ofE (ce := e_isx wl (ck wl a) c) rfl rfl fun x hx => ?_
    unfold e_isx at hx
    split at hx
    · simp only [Bool.and_eq_true] at hx
      obtain ⟨h1, h2, h3, h4, h5, h6, h7⟩ := hx
      cases of_decide_eq_true h1
      cases of_decide_eq_true h2
      exact sIsx o.T (o.gl h4) (o.gl h3) (o.bn _ (of_decide_eq_true h5)) h6 ((iha _ _ _ _ _ o).e _ h7)
    · cases hx
  | xfd ob f iho =>
    intro k X C G U o
    refine SndX.ofE (ce := e_xfd wl (ck wl ob) f) rfl rfl fun x hx => ?_
    unfold e_xfd at hx
    split at hx
    · simp only [Bool.and_eq_true] at hx
      obtain ⟨h1, h2, h3, h4⟩ := hx
      cases of_decide_eq_true h1
      exact sXfd o.E.xf (o.ef f (of_decide_eq_true h2)) ((iho _ _ _ _ _ o).e _ h4) (base_ok h3)
    · cases hx
  | comp elt own g it c ihe ihi ihc =>
    intro k X C G U o
    refine SndX.ofE (ce := e_comp wl (ck wl elt) own g (ck wl it) (ck wl c)) rfl rfl fun x hx => ?_
    unfold e_comp at hx
    split at hx
    · rename_i el tg itx ifs sc p
      simp only [Bool.and_eq_true] at hx
      obtain ⟨h1, h2, h3, h4, h5, h6, h7, h8⟩ := hx
      have hh : k.hs = none := by simpa using h2
      have ob : ∀ s H D cl fp, XO wl sub xk ⟨k.N, relS sc k.sc, k.calm, none⟩ (X.blk s H sc (compEnvC sc cl D X.env) fp) C G U0 := fun s H D cl fp => o.blk hh s H D cl fp
      refine sComp (o.hn h2) (by rw [o.calm]; exact h1) o.nd ((ihi _ _ _ _ _ o).i _ h3) (by rw [o.names, o.sc]; exact blkOk_by h4) ⟨?_, fun s H D cl fp => (ihc _ _ _ _ _ (ob s H D cl fp)).f rfl _ h7, fun s H D cl fp => (ihe _ _ _ _ _ (ob s H D cl fp)).e _ h8⟩
      refine ⟨tGen C g, fun s H D cl fp => (tgB_ok (ob s H D cl fp) h5).pg, fun v σ H Q ⟨φ, F, S, ρ, ρ', w, sr, re, r, eg, kq⟩ => ⟨φ, F, S, ρ, ρ', w, sr, re, r, eg, fun σ' al e' => kq σ' (al.wipe fun i hi => ?_) e'⟩⟩
      exact of_decide_eq_true (List.all_eq_true.mp h6 i hi)
    · cases hx
  | lis a mu iha =>
    intro k X C G U o
    refine SndX.ofE (ce := e_lis wl (ck wl a)) rfl rfl fun x hx => ?_
    unfold e_lis at hx
    split at hx
    · simp only [Bool.and_eq_true] at hx
      obtain ⟨h1, h2, h3, h4, h5, h6⟩ := hx
      cases of_decide_eq_true h1
      exact sLis (by rw [o.calm]; exact h4) (o.gl h2) (o.bn _ (of_decide_eq_true h3)) h5 ((iha _ _ _ _ _ o).e _ h6)
    · cases hx
  | glo c =>
    intro k X C G U o
    refine SndX.ofE (ce := e_glo wl c) rfl rfl fun x hx => ?_
    unfold e_glo at hx
    split at hx
    · simp only [Bool.and_eq_true] at hx
      cases of_decide_eq_true hx.1
      exact sGlo o.T (o.gl hx.2)
    · cases hx
  | exf i f =>
    intro k X C G U o
    refine SndX.ofE (ce := e_exf wl i f) rfl rfl fun x hx => ?_
    unfold e_exf at hx
    split at hx
    · simp only [Bool.and_eq_true] at hx
      obtain ⟨h1, h2, h3, h4, h5, h6⟩ := hx
      cases of_decide_eq_true h1
      exact o.ex i (of_decide_eq_true h3) f (of_decide_eq_true h2) _ _ _ (o.ix h4) (o.vis h5) (okN_of h6).1 (okN_of h6).2
    · cases hx
  | fstr ps ihp =>
    intro k X C G U o
    refine SndX.ofE (ce := e_fstr wl (ck wl ps)) rfl rfl fun x hx => ?_
    unfold e_fstr at hx
    split at hx
    · exact sFstr ((ihp _ _ _ _ _ o).j _ hx)
    · cases hx
  | fmt a iha =>
    intro k X C G U o
    refine SndX.ofE (ce := e_fmt wl (ck wl a)) rfl rfl fun x hx => ?_
    unfold e_fmt at hx
    split at hx
    · exact sFmt ((iha _ _ _ _ _ o).e _ hx)
    · cases hx
  | rng as iha =>
    intro k X C G U o
    refine ⟨fun x hx => (by cases hx), fun x hx => (by cases hx), fun op a r p hx => (by cases hx), fun l hx => (by cases hx), fun x hx => ?_, fun l hx => (by cases hx), fun l hx => (by cases hx), fun l hx => (by cases hx), fun _ l hx => (by cases hx), fun p ks vs hx => (by cases hx)⟩
    have hx : i_rng wl (ck wl as) k x = true := hx
    unfold i_rng at hx
    split at hx
    · simp only [Bool.and_eq_true] at hx
      obtain ⟨h1, h2, h3, h4, h5⟩ := hx
      cases of_decide_eq_true h1
      exact siRng (o.gl h2) (o.bn _ (of_decide_eq_true h3)) h4 ((iha _ _ _ _ _ o).a _ h5).1
    · cases hx
  | frz a iha =>
    intro k X C G U o
    have S := iha k X C G U o
    exact ⟨fun x hx => sFrz (se_strip (S.e _ hx)), S.t, S.w, fun l hx => (by cases hx), fun x hx => (by
      have hx : (noSet x && (ck wl a).e k (strip x)) = true := hx
      rw [Bool.and_eq_true] at hx
      exact siOf hx.1 (sFrz (se_strip (S.e _ hx.2)))), fun l hx => (by cases hx), fun l hx => (by cases hx), fun l hx => (by cases hx), S.f, fun p ks vs hx => (by cases hx)⟩
  | nil =>
    intro k X C G U o
    refine ⟨fun x hx => (by cases hx), fun x hx => (by cases hx), fun op a r p hx => (by cases hx), fun l hx => ?_, fun x hx => (by cases hx), fun l hx => ?_, fun l hx => (by cases hx), fun l hx => ?_, fun _ l hx => (by cases hx), fun p ks vs hx => ?_⟩
    · cases l with
      | nil => exact ⟨sANil, rfl⟩
      | cons y l => cases hx
    · cases l with
      | nil => exact sJNil
      | cons y l => cases hx
    · cases l with
      | nil => exact skNil
      | cons y l => cases hx
    · cases ks with
      | nil => cases vs with
        | nil => exact sdNil
        | cons v vs => cases hx
      | cons y l => cases hx
  | pair a b r iha ihb ihr =>
    intro k X C G U o
    refine ⟨fun x hx => (by cases hx), fun x hx => (by cases hx), fun op a r p hx => (by cases hx), fun l hx => (by cases hx), fun x hx => (by cases hx), fun l hx => (by cases hx), fun l hx => (by cases hx), fun l hx => (by cases hx), fun _ l hx => (by cases hx), fun p ks vs hx => ?_⟩
    match ks, vs, hx with
    | some x :: ks, v :: vs, hx =>
      have hx : ((ck wl a).e k x && ((ck wl b).e k v && (ck wl r).d k ks vs)) = true := hx
      simp only [Bool.and_eq_true] at hx
      obtain ⟨h1, h2, h3⟩ := hx
      exact sdCons ((iha _ _ _ _ _ o).e _ h1) ((ihb _ _ _ _ _ o).e _ h2) ((ihr _ _ _ _ _ o).d _ _ _ h3)
    | [], vs, hx => cases hx
    | none :: ks, vs, hx => cases hx
    | some x :: ks, [], hx => cases hx
  | cons a r iha ihr =>
    intro k X C G U o
    have A := iha k X C G U o
    have R := ihr k X C G U o
    refine ⟨fun x hx => (by cases hx), fun x hx => (by cases hx), fun op a r p hx => (by cases hx), fun l hx => ?_, fun x hx => (by cases hx), fun l hx => ?_, fun l hx => (by cases hx), fun l hx => ckK_ok A R l hx, fun _ l hx => (by cases hx), fun p ks vs hx => (by cases hx)⟩
    · cases l with
      | nil => cases hx
      | cons y l =>
        have hx : (plainE y && ((ck wl a).e k y && (ck wl r).a k l)) = true := hx
        simp only [Bool.and_eq_true] at hx
        obtain ⟨h1, h2, h3⟩ := hx
        obtain ⟨z1, z2⟩ := R.a _ h3
        exact ⟨sACons (A.e _ h2) z1 (star_cons h1), by rw [List.all_cons, h1, z2]; rfl⟩
    · cases l with
      | nil => cases hx
      | cons y l =>
        have hx : ((ck wl a).e k y && (ck wl r).j k l) = true := hx
        rw [Bool.and_eq_true] at hx
        exact sJCons (A.e _ hx.1) (R.j _ hx.2)
  | star a r iha ihr => intro k X C G U o; exact SndX.no rfl
  | «omit» =>
    intro k X C G U o
    refine ⟨fun x hx => (by cases hx), fun x hx => (by cases hx), fun op a r p hx => (by cases hx), fun l hx => (by cases hx), fun x hx => (by cases hx), fun l hx => (by cases hx), fun l hx => ?_, fun l hx => (by cases hx), fun _ l hx => ?_, fun p ks vs hx => (by cases hx)⟩
    · cases l with
      | none => exact sOmit
      | some y => cases hx
    · cases l with
      | nil => exact stbNil
      | cons y l => cases hx
  | prt a iha =>
    intro k X C G U o
    refine ⟨fun x hx => (by cases hx), fun x hx => (by cases hx), fun op a r p hx => (by cases hx), fun l hx => (by cases hx), fun x hx => (by cases hx), fun l hx => (by cases hx), fun l hx => ?_, fun l hx => (by cases hx), fun _ l hx => (by cases hx), fun p ks vs hx => (by cases hx)⟩
    cases l with
    | none => cases hx
    | some y => exact sPrt ((iha _ _ _ _ _ o).e _ hx)
end
end M
set_option Elab.async false
set_option linter.all false
set_option maxRecDepth 100000
set_option maxHeartbeats 4000000
namespace M
open PySem PySem.Spec PyProof.Rows L2
/-- in an except suite no def is called -/
def hotG (xf : List (Str × D)) : Gt := { fn := fun _ _ _ => .no, me := fun _ _ _ _ => .no, df := fun _ => [], dm := fun _ _ => false, xf := xf }
noncomputable def evB (sub : Str → Str → Bool) (xk : Str → Option (Option Str)) : B → Gt → SF
  | .nil, _ => bNil
  | .seq s r, G => bSeq (evB sub xk s G) (evB sub xk r G)
  | .set i e, G => bSet i (ev G e).e
  | .par i j es, G => bPar i j (ev G es).a
  | .unp is e, G => bUnp is (ev G e).e
  | .fld o f e, G => bFld (ev G o).e f (ev G e).e
  | .put o i e, G => bPut (ev G o).e (ev G i).e (ev G e).e
  | .ret e, G => bRet (ev G e).e
  | .retN, _ => bRetN
  | .ife c a b, G => bIf (ev G c).t (evB sub xk a G) (evB sub xk b G)
  | .whl c b, G => bWhl (ev G c).t (evB sub xk b G)
  | .fori g it b, G => bFor g (ev G it).i (evB sub xk b G)
  | .exp e, G => bExp (ev G e).e
  | .brk, _ => bBrk
  | .cnt, _ => bCnt
  | .pas, _ => bNil
  | .rse0 c, _ => bRse0 xk c
  | .rse1 c e, G => bRse1 xk c (ev G e).e
  | .tryO b c s, G => bTryO sub (evB sub xk b G) c (evB sub xk s (hotG []))
  | .tryA b c i s, G => bTryA sub (evB sub xk b G) c i fun xf => evB sub xk s (hotG xf)
structure Ckb where
  s : CK → Stmt → Bool
  l : CK → List Stmt → Bool
def cbS (f : CK → Stmt → Bool) : Ckb := ⟨f, fun _ _ => false⟩
def noComp : Expr → Bool
  | .ListComp .. => false
  | .SetComp .. => false
  | .DictComp .. => false
  | _ => true
def noTup : Expr → Bool
  | .Tuple .. => false
  | _ => true
def nameTs : List Expr → Bool
  | [] => true
  | .Name .. :: r => nameTs r
  | _ => false
def s_set (i : Nat) (A : Ckr) : CK → Stmt → Bool := fun k x => match x with
  | .Assign [.Name n _] e _ => decide (k.N[i]? = some n) && (locB k n && ((k.hs != some i) && (noComp e && A.e k e)))
  | _ => false
/-- name = [..] -/
def s_setc (i : Nat) (elt : Ckr) (own : List (Str × Nat)) (g : Tg) (it c : Ckr) : CK → Stmt → Bool := fun k x => match x with
  | .Assign [.Name n py] (.ListComp el [⟨tg, itx, ifs, 0⟩] sc p) sp => decide (k.N[i]? = some n) && (locB k n && ((py.line == p.line) && (!(sc.names.any fun (m, q) => m == n && (q == .local || q == .cell)) && (k.calm && (k.hs.isNone && (it.i k itx && (blkC k.N k.sc sc own && (tgB ⟨k.N, relS sc k.sc, k.calm, none⟩ tg g && ((g.slots.all fun i => decide (i ∈ own.map (·.2))) && (c.f ⟨k.N, relS sc k.sc, k.calm, none⟩ ifs && elt.e ⟨k.N, relS sc k.sc, k.calm, none⟩ el))))))))))
  | _ => false
def s_par (i j : Nat) (A : Ckr) : CK → Stmt → Bool := fun k x => match x with
  | .Assign [.Tuple [.Name n px, .Name m py] _ _] (.Tuple [a, b] _ _) _ => k.calm && (decide (k.N[i]? = some n) && (decide (k.N[j]? = some m) && (locB k n && (locB k m && ((k.hs != some i) && ((k.hs != some j) && (decide (i ≠ j) && (decide (n ≠ m) && ((px.line == py.line) && (!([a, b].all (foldedForSure 8)) && (!([a, b].all (constantsAlone 8)) && (plainE a && (plainE b && A.a k [a, b])))))))))))))
  | _ => false
def s_unp (is : List Nat) (A : Ckr) : CK → Stmt → Bool := fun k x => match x with
  | .Assign [.Tuple ts _ _] e _ => k.calm && (noTup e && (tgB.tgsB k ts is && A.e k e))
  | _ => false
def s_fld (wl : WL) (O : Ckr) (f : Str) (A : Ckr) : CK → Stmt → Bool := fun k x => match x with
  | .Assign [.Attribute y f' _] e _ => decide (f = f') && (decide (f ∈ wl.fl) && (O.e k y && A.e k e))
  | _ => false
def s_put (O I A : Ckr) : CK → Stmt → Bool := fun k x => match x with
  | .Assign [.Subscript y z _] e _ => plainIxB z && (noTup e && (O.e k y && (I.e k z && A.e k e)))
  | _ => false
def s_ret (A : Ckr) : CK → Stmt → Bool := fun k x => match x with
  | .Return (some e) _ => A.e k e
  | _ => false
def s_retN : CK → Stmt → Bool := fun _ x => match x with
  | .Return none _ => true
  | _ => false
def s_ife (c : Ckr) (a b : Ckb) : CK → Stmt → Bool := fun k x => match x with
  | .If t y z _ => c.t k t && (a.l k y && b.l k z)
  | _ => false
def s_whl (c : Ckr) (b : Ckb) : CK → Stmt → Bool := fun k x => match x with
  | .While t y [] _ => k.calm && (c.t k t && b.l k y)
  | _ => false
def s_fori (g : Tg) (it : Ckr) (b : Ckb) : CK → Stmt → Bool := fun k x => match x with
  | .For tg i y [] _ => k.calm && (tgB k tg g && (it.i k i && b.l k y))
  | _ => false
def s_exp (A : Ckr) : CK → Stmt → Bool := fun k x => match x with
  | .Expr e _ => noComp e && A.e k e
  | _ => false
def s_brk : CK → Stmt → Bool := fun _ x => match x with
  | .Break _ => true
  | _ => false
def s_cnt : CK → Stmt → Bool := fun _ x => match x with
  | .Continue _ => true
  | _ => false
def s_pas : CK → Stmt → Bool := fun _ x => match x with
  | .Pass _ => true
  | .Expr (.Constant (.str _) _ _) _ => true
  | _ => false
def s_rse0 (c : Str) : CK → Stmt → Bool := fun k x => match x with
  | .Raise (some (.Call (.Name n _) [] [] _)) none _ => decide (n = c) && (k.calm && glB k n)
  | _ => false
def s_rse1 (c : Str) (A : Ckr) : CK → Stmt → Bool := fun k x => match x with
  | .Raise (some (.Call (.Name n _) [e] [] _)) none _ => decide (n = c) && (k.calm && (glB k n && (plainE e && A.e k e)))
  | _ => false
def s_tryO (wl : WL) (b : Ckb) (c : Str) (s : Ckb) : CK → Stmt → Bool := fun k x => match x with
  | .Try body [.ExceptHandler (some (.Name n _)) none (b0 :: su) _] [] [] _ => decide (n = c) && (k.hs.isNone && (decide (c ∈ wl.xn) && (glB k n && (b.l k body && s.l ⟨k.N, k.sc, false, none⟩ (b0 :: su)))))
  | _ => false
def s_tryA (wl : WL) (b : Ckb) (c : Str) (i : Nat) (s : Ckb) : CK → Stmt → Bool := fun k x => match x with
  | .Try body [.ExceptHandler (some (.Name n _)) (some m) (b0 :: su) _] [] [] _ => decide (n = c) && (k.hs.isNone && (decide (c ∈ wl.xn) && (glB k n && (decide (k.N[i]? = some m) && (locB k m && (b.l k body && s.l ⟨k.N, k.sc, false, some i⟩ (b0 :: su)))))))
  | _ => false
def l_seq (s r : Ckb) : CK → List Stmt → Bool := fun k l => match l with
  | x :: l => s.s k x && r.l k l
  | [] => false
def isComp : E → Option (E × List (Str × Nat) × Tg × E × E)
  | .comp elt own g it c => some (elt, own, g, it, c)
  | _ => none
def s_setX (wl : WL) (i : Nat) (e : E) : CK → Stmt → Bool := fun k x => s_set i (ck wl e) k x || match isComp e with
  | some (elt, own, g, it, c) => s_setc i (ck wl elt) own g (ck wl it) (ck wl c) k x
  | none => false
def cb (wl : WL) : B → Ckb
  | .nil => ⟨fun _ _ => false, fun _ l => l.isEmpty⟩
  | .seq s r => ⟨fun _ _ => false, l_seq (cb wl s) (cb wl r)⟩
  | .set i e => cbS (s_setX wl i e)
  | .par i j es => cbS (s_par i j (ck wl es))
  | .unp is e => cbS (s_unp is (ck wl e))
  | .fld o f e => cbS (s_fld wl (ck wl o) f (ck wl e))
  | .put o i e => cbS (s_put (ck wl o) (ck wl i) (ck wl e))
  | .ret e => cbS (s_ret (ck wl e))
  | .retN => cbS s_retN
  | .ife c a b => cbS (s_ife (ck wl c) (cb wl a) (cb wl b))
  | .whl c b => cbS (s_whl (ck wl c) (cb wl b))
  | .fori g it b => cbS (s_fori g (ck wl it) (cb wl b))
  | .exp e => cbS (s_exp (ck wl e))
  | .brk => cbS s_brk
  | .cnt => cbS s_cnt
  | .pas => cbS s_pas
  | .rse0 c => cbS (s_rse0 c)
  | .rse1 c e => cbS (s_rse1 c (ck wl e))
  | .tryO b c s => cbS (s_tryO wl (cb wl b) c (cb wl s))
  | .tryA b c i s => cbS (s_tryA wl (cb wl b) c i (cb wl s))
end M
set_option Elab.async false
set_option linter.all false
set_option maxRecDepth 100000
set_option maxHeartbeats 4000000
namespace M
open PySem PySem.Spec PyProof.Rows L2
structure XS (wl : WL) (sub : Str → Str → Bool) (xk : Str → Option (Option Str)) (k : CK) (X : Cx) (C : Cl) (G : Gt) (U : WX) : Prop where
  o : XO wl sub xk k X C G U
  hp : k.calm = true → PassesOwn (model X.prog X.w) X.A X.env X.xe
  hs : X.stack = X.env :: X.outer
  hf : X.env.frame = some X.env.locals
  kind : X.env.scope.kind = .function
section
variable {wl : WL} {sub : Str → Str → Bool} {xk : Str → Option (Option Str)} {k : CK} {X : Cx} {C : Cl} {G : Gt} {U : WX}
theorem XS.tr (x : XS wl sub xk k X C G U) (hh : k.hs.isNone = true) {W : WX} {pn : List (Addr × Obj)} {xe : Value → Shared → Prop} (tk : Takes (X.tr pn xe) W) (hp : PassesOwn (model X.prog X.w) X.A X.env xe) : XS wl sub xk k (X.tr pn xe) C G W where
  o := { T := Facts.to (X := X) rfl rfl rfl rfl rfl (fun _ r => r) x.o.T, ci := x.o.ci, N := x.o.N, E := ⟨x.o.E.nm, x.o.E.sub, x.o.E.xf⟩, Y := fun h => XkF.to (X := X) rfl rfl rfl rfl rfl (fun _ r => r) (x.o.Y h), bn := x.o.bn, fl := x.o.fl, ef := x.o.ef, xn := x.o.xn, cn := x.o.cn, hu := x.o.hu, gd := x.o.gd, names := x.o.names, nd := x.o.nd, sc := x.o.sc, calm := x.o.calm, tk := tk, h := x.o.h,
         ex := fun i hi => by rw [hi] at hh; cases hh }
  hp := fun _ => hp
  hs := x.hs
  hf := x.hf
  kind := x.kind
theorem facts_hot {xf : List (Str × D)} : Facts X C (hotG xf) where
  fn := fun f ds hd => by cases hd
  meth := fun c m h => by
    rcases h with h | ⟨ws, S, h⟩
    · cases h
    · exact absurd rfl h
  kw := fun f n ks ix hd => by cases hd
  kwm := fun c m n ks ix hd => by cases hd
  cm := fun c m h => by
    rcases h with h | ⟨e, h⟩
    · cases h
    · cases h
  gc := fun x d h => by cases h
  xs := fun c p h => by cases h
  oper := fun c m A h => by
    obtain ⟨ws, S, h⟩ := h
    exact absurd rfl h
theorem XS.suite (x : XS wl sub xk k X C G U) (a : Addr) (oe : Obj) (pn : List (Addr × Obj)) (hh : k.hs.isNone = true) : XS wl sub xk ⟨k.N, k.sc, false, none⟩ (X.suite a ((a, oe) :: pn)) C (hotG []) U0 where
  o := { T := facts_hot, ci := x.o.ci, N := x.o.N, E := ⟨x.o.E.nm, x.o.E.sub, x.o.E.xf⟩, Y := fun h => (by cases h), bn := x.o.bn, fl := x.o.fl, ef := x.o.ef, xn := x.o.xn, cn := x.o.cn, hu := x.o.hu, gd := x.o.gd, names := x.o.names, nd := x.o.nd, sc := x.o.sc, calm := rfl, tk := takes0,
         h := by rw [x.o.hn hh]; rfl
         ex := fun i hi => by cases hi }
  hp := fun h => by cases h
  hs := x.hs
  hf := x.hf
  kind := x.kind
theorem XS.suiteA (x : XS wl sub xk k X C G U) {a : Addr} {oe : Obj} {cls : Value} {d : Option Addr} {pn : List (Addr × Obj)} {C' : Cl} {ks : List Str} {ds : List D} {i : Nat} (hz : Zc cls d oe) (hv : ∃ vs, oe.data = .fields vs) (hd : Hdl C i a cls d C' ks ds) : XS wl sub xk ⟨k.N, k.sc, false, some i⟩ (X.suite a ((a, oe) :: pn)) C' (hotG (ks.zip ds)) U0 where
  o := { T := facts_hot, ci := (by rw [hd.ci]; exact x.o.ci), N := ⟨(by rw [hd.ci]; exact x.o.N.b), (by rw [hd.ci]; exact x.o.N.o), (by rw [hd.ci]; exact x.o.N.t), (by rw [hd.ci]; exact x.o.N.y)⟩, E := ⟨(by rw [hd.cx]; exact x.o.E.nm), (by rw [hd.cx]; exact x.o.E.sub), (by rw [hd.cx]; exact x.o.E.xf)⟩, Y := fun h => (by cases h),
         bn := x.o.bn, fl := (by rw [hd.ci]; exact x.o.fl), ef := (by rw [hd.cx]; exact x.o.ef), xn := (by rw [hd.cx]; exact x.o.xn), cn := (by rw [hd.ci]; exact x.o.cn), hu := x.o.hu, gd := x.o.gd, names := x.o.names, nd := x.o.nd, sc := x.o.sc, calm := rfl, tk := takes0,
         h := by rw [hd.ch]; rfl
         ex := fun j hj f hf n p p2 hN hvis h1 h2 => by
           cases hj
           exact sExf (X := X) x.o.E hz hv hd (x.o.ef f hf) hN hvis h1 h2 rfl }
  hp := fun h => by cases h
  hs := x.hs
  hf := x.hf
  kind := x.kind
theorem swap_no {e : Expr} {t : Option Expr} {l : Nat} {env : PySem.Env} (h : noComp e = true) : swapsWith e t l env = pure false := by
  cases e <;> first | rfl | (exact absurd (show false = true from h) Bool.false_ne_true)
theorem swap_at {e o : Expr} {f : Str} {p : Pos} {l : Nat} {env : PySem.Env} : swapsWith e (some (.Attribute o f p)) l env = pure false := by
  cases e <;> rfl
theorem swap_sub {e o i : Expr} {p : Pos} {l : Nat} {env : PySem.Env} : swapsWith e (some (.Subscript o i p)) l env = pure false := by
  cases e <;> rfl
theorem swap_tup {e : Expr} {ts : List Expr} {k : Nat} {p : Pos} {l : Nat} {env : PySem.Env} : swapsWith e (some (.Tuple ts k p)) l env = pure false := by
  cases e <;> rfl
theorem stores_tup {e : Expr} {ts : List Expr} {k : Nat} {p : Pos} {env : PySem.Env} (h : noTup e = true) : swappedStores [.Tuple ts k p] e env = pure none := by
  cases e <;> first | rfl | (exact absurd (show false = true from h) Bool.false_ne_true)
theorem stores_sub {e o i : Expr} {p : Pos} {env : PySem.Env} (h : noTup e = true) : swappedStores [.Subscript o i p] e env = pure none := by
  cases e <;> first | rfl | (exact absurd (show false = true from h) Bool.false_ne_true)
end
end M
set_option Elab.async false
set_option linter.all false
set_option maxRecDepth 100000
set_option maxHeartbeats 4000000
namespace M
open PySem PySem.Spec PyProof.Rows L2
/-- a statement form without an unproved rule -/
def noPar : B → Bool
  | .par .. => false
  | .seq s r => noPar s && noPar r
  | .ife _ a b => noPar a && noPar b
  | .whl _ b => noPar b
  | .fori _ _ b => noPar b
  | .tryO b _ s => noPar b && noPar s
  | .tryA b _ _ s => noPar b && noPar s
  | _ => true
section
variable {wl : WL} {sub : Str → Str → Bool} {xk : Str → Option (Option Str)} {k : CK} {X : Cx} {C : Cl} {G : Gt} {U : WX}
structure SnB (wl : WL) (sub : Str → Str → Bool) (xk : Str → Option (Option Str)) (q : B) (kk : CK) (X : Cx) (C : Cl) (G : Gt) (U : WX) : Prop where
  s : ∀ x, (cb wl q).s kk x = true → SS X C U x (evB sub xk q G)
  l : ∀ x, (cb wl q).l kk x = true → SSs X C U x (evB sub xk q G)
theorem SnB.ofS {q : B} {f : CK → Stmt → Bool} (h : cb wl q = cbS f) (hs : ∀ x, f k x = true → SS X C U x (evB sub xk q G)) : SnB wl sub xk q k X C G U :=
  ⟨fun x hx => by rw [h] at hx; exact hs x hx, fun x hx => by rw [h] at hx; cases hx⟩
theorem blockKind_of {env : PySem.Env} (h : env.scope.kind = .function) : env.blockKind = .function := by unfold Env.blockKind; rw [h] <;> rfl
theorem setc_ok {i : Nat} {elt : E} {own : List (Str × Nat)} {g : Tg} {it c : E} (x : XS wl sub xk k X C G U) : ∀ st, s_setc i (ck wl elt) own g (ck wl it) (ck wl c) k st = true → SS X C U st (bSet i (ev G (.comp elt own g it c)).e) := by
  intro st hx
  have o := x.o
  unfold s_setc at hx
  split at hx
  · simp only [Bool.and_eq_true] at hx
    obtain ⟨h1, h2, h3, h4, h5, h6, h7, h8, h9, h10, h11, h12⟩ := hx
    have hh : k.hs = none := by simpa using h6
    have ob : ∀ sc s H D cl fp, XO wl sub xk ⟨k.N, relS sc k.sc, k.calm, none⟩ (X.blk s H sc (compEnvC sc cl D X.env) fp) C G U0 := fun sc s H D cl fp => o.blk hh s H D cl fp
    refine bsSetLc (o.hn h6) (by rw [o.calm]; exact h5) o.nd (o.ix h1) (o.loc h2) (sw_true x.kind (o.loc h2) h3 (by simpa using h4)) ((snd it _ _ _ _ _ o).i _ h7) (by rw [o.names, o.sc]; exact blkOk_by h8) ⟨?_, fun s H D cl fp => (snd c _ _ _ _ _ (ob _ s H D cl fp)).f rfl _ h11, fun s H D cl fp => (snd elt _ _ _ _ _ (ob _ s H D cl fp)).e _ h12⟩
    refine ⟨tGen C g, fun s H D cl fp => (tgB_ok (ob _ s H D cl fp) h9).pg, fun v σ H Q ⟨φ, F, S, ρ, ρ', w, sr, re, r, eg, kq⟩ => ⟨φ, F, S, ρ, ρ', w, sr, re, r, eg, fun σ' al e' => kq σ' (al.wipe fun i hi => ?_) e'⟩⟩
    exact of_decide_eq_true (List.all_eq_true.mp h10 i hi)
  · cases hx
theorem setX_ok {i : Nat} {e : E} (x : XS wl sub xk k X C G U) : ∀ st, s_setX wl i e k st = true → SS X C U st (bSet i (ev G e).e) := by
  intro st hx
  unfold s_setX at hx
  rw [Bool.or_eq_true] at hx
  rcases hx with hx | hx
  · unfold s_set at hx
    split at hx
    · simp only [Bool.and_eq_true] at hx
      obtain ⟨h1, h2, h3, h4, h5⟩ := hx
      exact bsSet (x.o.free h3) x.o.nd (x.o.ix h1) (.inl (x.o.loc h2)) (swap_no h4) (.inr (x.o.loc h2)) ((snd e _ _ _ _ _ x.o).e _ h5)
    · cases hx
  · cases e <;> first | (exact setc_ok x st hx) | (exact absurd (show false = true from hx) Bool.false_ne_true)
end
end M
set_option Elab.async false
set_option linter.all false
set_option maxRecDepth 100000
set_option maxHeartbeats 800000
namespace M
open PySem PySem.Spec PyProof.Rows L2
theorem any_st {a b : Expr} (ha : plainE a = true) (hb : plainE b = true) : ([a, b].any fun | .Starred .. => true | _ => false) = false := by
  have st : ∀ {x : Expr}, plainE x = true → (match x with | .Starred .. => true | _ => false) = false := fun {x} h => by cases x <;> first | rfl | (exact absurd (show false = true from h) Bool.false_ne_true)
  simp only [List.any_cons, List.any_nil, Bool.or_false]
  rw [st ha, st hb]; rfl
theorem stores_par {n m : Str} {px py pt pt2 : Pos} {kt k2 : Nat} {a b : Expr} {env : PySem.Env} (hb : env.blockKind = .function) (hn : env.kindOf n = some .local) (hm : env.kindOf m = some .local) (hne : n ≠ m) (hl : (px.line == py.line) = true)
    (hf : [a, b].all (foldedForSure 8) = false) (hk : [a, b].all (constantsAlone 8) = false) (ha : plainE a = true) (hb2 : plainE b = true) : swappedStores [.Tuple [.Name n px, .Name m py] kt pt] (.Tuple [a, b] k2 pt2) env = pure (some [n, m]) := by
  have hs := any_st ha hb2
  have hl' : px.line = py.line := by simpa using hl
  have nm : ([Expr.Name n px, Expr.Name m py].filterMap fun
    | .Name id pos => if env.kindOf id == some .local && pos.line == px.line then some id else none
    | _ => none) = [n, m] := by
    simp [hn, hm, hl']
  have hd : ([n, m].eraseDups).length = 2 := by
    have hne3 : (m == n) = false := beq_eq_false_iff_ne.mpr (Ne.symm hne)
    simp [List.eraseDups_cons, hne3]
  unfold swappedStores
  show (if (!(2 == 2 || 2 == 3) || 2 != 2 || env.blockKind != .function) = true then _ else if ([a, b].any _) = true then _ else _) = _
  rw [hb, if_neg (by decide)]
  refine (if_neg fun h => ?_).trans ?_
  · have h2 : ([a, b].any fun | .Starred .. => true | _ => false) = true := h
    rw [hs] at h2; cases h2
  refine (if_neg fun h => ?_).trans ?_
  · have h2 : ((([Expr.Name n px, Expr.Name m py].filterMap fun
    | .Name id pos => if env.kindOf id == some .local && pos.line == px.line then some id else none
    | _ => none).length != 2) || (([Expr.Name n px, Expr.Name m py].filterMap fun
    | .Name id pos => if env.kindOf id == some .local && pos.line == px.line then some id else none
    | _ => none).eraseDups.length != ([Expr.Name n px, Expr.Name m py].filterMap fun
    | .Name id pos => if env.kindOf id == some .local && pos.line == px.line then some id else none
    | _ => none).length)) = true := h
    rw [nm, hd] at h2
    cases h2
  refine (if_neg fun h => ?_).trans ?_
  · rw [hf] at h; cases h
  refine (if_neg fun h => ?_).trans ?_
  · rw [hk] at h; cases h
  show pure (some ([Expr.Name n px, Expr.Name m py].filterMap fun
    | .Name id pos => if env.kindOf id == some .local && pos.line == px.line then some id else none
    | _ => none)) = _
  rw [nm]
end M
set_option Elab.async false
set_option linter.all false
set_option maxRecDepth 100000
set_option maxHeartbeats 4000000
namespace M
open PySem PySem.Spec PyProof.Rows L2
/-- a, b = x, y is stored from the right -/
def ParOk : Prop := ∀ {n m : Str} {px py pt pt2 : Pos} {kt k2 : Nat} {a b : Expr} {env : PySem.Env}, env.blockKind = .function → env.kindOf n = some .local → env.kindOf m = some .local → n ≠ m → (px.line == py.line) = true →
    [a, b].all (foldedForSure 8) = false → [a, b].all (constantsAlone 8) = false → plainE a = true → plainE b = true → swappedStores [.Tuple [.Name n px, .Name m py] kt pt] (.Tuple [a, b] k2 pt2) env = pure (some [n, m])
theorem swapS_tup {e : Expr} {ts : List Expr} {k : Nat} {p : Pos} {l : Nat} {env : PySem.Env} : swapsWithSole [.Tuple ts k p] e l env = pure false := by
  cases e <;> rfl
theorem swapS_sub {e o i : Expr} {p : Pos} {l : Nat} {env : PySem.Env} : swapsWithSole [.Subscript o i p] e l env = pure false := by
  cases e <;> rfl
section
variable {wl : WL} {sub : Str → Str → Bool} {xk : Str → Option (Option Str)}
theorem parOk : ParOk := fun hb hn hm hne hl hf hk ha hb2 => stores_par hb hn hm hne hl hf hk ha hb2
theorem snb (P : ParOk) (q : B) : ∀ (k : CK) (X : Cx) (C : Cl) (G : Gt) (U : WX), XS wl sub xk k X C G U → SnB wl sub xk q k X C G U := by
  induction q with
  | nil =>
    intro k X C G U x
    refine ⟨fun st hx => (by cases hx), fun l hx => ?_⟩
    cases l with
    | nil => exact bsNil
    | cons y l => cases hx
  | seq s r ihs ihr =>
    intro k X C G U x
    refine ⟨fun st hx => (by cases hx), fun l hx => ?_⟩
    cases l with
    | nil => cases hx
    | cons y l =>
      have hx : ((cb wl s).s k y && (cb wl r).l k l) = true := hx
      rw [Bool.and_eq_true] at hx
      exact bsSeq ((ihs _ _ _ _ _ x).s _ hx.1) ((ihr _ _ _ _ _ x).l _ hx.2)
  | set i e => intro k X C G U x; exact SnB.ofS (f := s_setX wl i e) rfl (setX_ok x)
  | par i j es =>
    intro k X C G U x
    refine SnB.ofS (f := s_par i j (ck wl es)) rfl fun st hx => ?_
    unfold s_par at hx
    split at hx
    · simp only [Bool.and_eq_true] at hx
      obtain ⟨h1, h2, h3, h4, h5, h6, h7, h8, h9, h10, h11, h12, h13, h14, h15⟩ := hx
      have o := x.o
      exact bsPar (o.free h6) (o.free h7) (by rw [o.calm]; exact h1) o.nd (o.ix h2) (o.ix h3) (of_decide_eq_true h8) (o.loc h4) (o.loc h5) ((snd es _ _ _ _ _ o).a _ h15).1
        (P (blockKind_of x.kind) (o.loc h4) (o.loc h5) (of_decide_eq_true h9) h10 (by simpa only [Bool.not_eq_true'] using h11) (by simpa only [Bool.not_eq_true'] using h12) h13 h14)
    · cases hx
  | unp is e =>
    intro k X C G U x
    refine SnB.ofS (f := s_unp is (ck wl e)) rfl fun st hx => ?_
    unfold s_unp at hx
    split at hx
    · simp only [Bool.and_eq_true] at hx
      obtain ⟨h1, h2, h3, h4⟩ := hx
      exact bsUnp (by rw [x.o.calm]; exact h1) ((snd e _ _ _ _ _ x.o).e _ h4) (tgsB_ok x.o h3) swapS_tup (stores_tup h2)
    · cases hx
  | fld ob f e =>
    intro k X C G U x
    refine SnB.ofS (f := s_fld wl (ck wl ob) f (ck wl e)) rfl fun st hx => ?_
    unfold s_fld at hx
    split at hx
    · simp only [Bool.and_eq_true] at hx
      obtain ⟨h1, h2, h3, h4⟩ := hx
      cases of_decide_eq_true h1
      exact bsFld (x.o.fl f (of_decide_eq_true h2)) ((snd ob _ _ _ _ _ x.o).e _ h3) ((snd e _ _ _ _ _ x.o).e _ h4) swap_at
    · cases hx
  | put ob i e =>
    intro k X C G U x
    refine SnB.ofS (f := s_put (ck wl ob) (ck wl i) (ck wl e)) rfl fun st hx => ?_
    unfold s_put at hx
    split at hx
    · rename_i y z p e' p2
      simp only [Bool.and_eq_true] at hx
      obtain ⟨h1, h2, h3, h4, h5⟩ := hx
      refine bsPut x.o.hu ((snd ob _ _ _ _ _ x.o).e _ h3) ((snd i _ _ _ _ _ x.o).e _ h4) ((snd e _ _ _ _ _ x.o).e _ h5) (plainIx_of h1) swapS_sub (stores_sub h2) fun v => ?_
      cases z <;> first | rfl | (exact absurd (show false = true from h1) Bool.false_ne_true)
    · cases hx
  | ret e =>
    intro k X C G U x
    refine SnB.ofS (f := s_ret (ck wl e)) rfl fun st hx => ?_
    unfold s_ret at hx
    split at hx
    · exact bsRet ((snd e _ _ _ _ _ x.o).e _ hx)
    · cases hx
  | retN =>
    intro k X C G U x
    refine SnB.ofS (f := s_retN) rfl fun st hx => ?_
    unfold s_retN at hx
    split at hx
    · exact bsRetN
    · cases hx
  | ife c a b iha ihb =>
    intro k X C G U x
    refine SnB.ofS (f := s_ife (ck wl c) (cb wl a) (cb wl b)) rfl fun st hx => ?_
    unfold s_ife at hx
    split at hx
    · simp only [Bool.and_eq_true] at hx
      obtain ⟨h1, h2, h3⟩ := hx
      exact bsIf ((snd c _ _ _ _ _ x.o).t _ h1) ((iha _ _ _ _ _ x).l _ h2) ((ihb _ _ _ _ _ x).l _ h3)
    · cases hx
  | whl c b ihb =>
    intro k X C G U x
    refine SnB.ofS (f := s_whl (ck wl c) (cb wl b)) rfl fun st hx => ?_
    unfold s_whl at hx
    split at hx
    · simp only [Bool.and_eq_true] at hx
      obtain ⟨h1, h2, h3⟩ := hx
      exact bsWhl (x.hp h1) ((snd c _ _ _ _ _ x.o).t _ h2) ((ihb _ _ _ _ _ x).l _ h3)
    · cases hx
  | fori g it b ihb =>
    intro k X C G U x
    refine SnB.ofS (f := s_fori g (ck wl it) (cb wl b)) rfl fun st hx => ?_
    unfold s_fori at hx
    split at hx
    · simp only [Bool.and_eq_true] at hx
      obtain ⟨h1, h2, h3, h4⟩ := hx
      exact bsFor (x.hp h1) (by rw [x.o.calm]; exact h1) ((snd it _ _ _ _ _ x.o).i _ h3) (tgB_ok x.o h2) ((ihb _ _ _ _ _ x).l _ h4)
    · cases hx
  | exp e =>
    intro k X C G U x
    refine SnB.ofS (f := s_exp (ck wl e)) rfl fun st hx => ?_
    unfold s_exp at hx
    split at hx
    · simp only [Bool.and_eq_true] at hx
      exact bsExp (swap_no hx.1) ((snd e _ _ _ _ _ x.o).e _ hx.2)
    · cases hx
  | brk =>
    intro k X C G U x
    refine SnB.ofS (f := s_brk) rfl fun st hx => ?_
    unfold s_brk at hx
    split at hx
    · exact bsBrk
    · cases hx
  | cnt =>
    intro k X C G U x
    refine SnB.ofS (f := s_cnt) rfl fun st hx => ?_
    unfold s_cnt at hx
    split at hx
    · exact bsCnt
    · cases hx
  | pas =>
    intro k X C G U x
    refine SnB.ofS (f := s_pas) rfl fun st hx => ?_
    unfold s_pas at hx
    split at hx
    · exact bsPas
    · exact bsDoc
    · cases hx
  | rse0 c =>
    intro k X C G U x
    refine SnB.ofS (f := s_rse0 c) rfl fun st hx => ?_
    unfold s_rse0 at hx
    split at hx
    · simp only [Bool.and_eq_true] at hx
      obtain ⟨h1, h2, h3⟩ := hx
      cases of_decide_eq_true h1
      have hc : X.calm = true := by rw [x.o.calm]; exact h2
      exact bsRse0 x.o.E (x.o.Y hc) hc x.o.tk (x.o.gl h3)
    · cases hx
  | rse1 c e =>
    intro k X C G U x
    refine SnB.ofS (f := s_rse1 c (ck wl e)) rfl fun st hx => ?_
    unfold s_rse1 at hx
    split at hx
    · simp only [Bool.and_eq_true] at hx
      obtain ⟨h1, h2, h3, h4, h5⟩ := hx
      cases of_decide_eq_true h1
      have hc : X.calm = true := by rw [x.o.calm]; exact h2
      exact bsRse1 x.o.E (x.o.Y hc) hc x.o.tk (x.o.gl h3) h4 ((snd e _ _ _ _ _ x.o).e _ h5)
    · cases hx
  | tryO b c s ihb ihs =>
    intro k X C G U x
    refine SnB.ofS (f := s_tryO wl (cb wl b) c (cb wl s)) rfl fun st hx => ?_
    unfold s_tryO at hx
    split at hx
    · simp only [Bool.and_eq_true] at hx
      obtain ⟨h1, h2, h3, h4, h5, h6⟩ := hx
      cases of_decide_eq_true h1
      obtain ⟨A, hA⟩ := x.o.xn c (of_decide_eq_true h3)
      exact bsTryO x.o.E hA (x.o.gl h4) x.hs x.hf x.o.tk (fun W pn xe tk hp => (ihb _ _ _ _ _ (x.tr h2 tk hp)).l _ h5) fun a oe pn => (ihs _ _ _ _ _ (x.suite a oe pn h2)).l _ h6
    · cases hx
  | tryA b c i s ihb ihs =>
    intro k X C G U x
    refine SnB.ofS (f := s_tryA wl (cb wl b) c i (cb wl s)) rfl fun st hx => ?_
    unfold s_tryA at hx
    split at hx
    · simp only [Bool.and_eq_true] at hx
      obtain ⟨h1, h2, h3, h4, h5, h6, h7, h8⟩ := hx
      cases of_decide_eq_true h1
      obtain ⟨A, hA⟩ := x.o.xn c (of_decide_eq_true h3)
      exact bsTryA x.o.E (x.o.hn h2) hA (x.o.gl h4) x.hs x.hf x.o.nd (x.o.ix h5) (x.o.loc h6) x.o.tk (fun W pn xe tk hp => (ihb _ _ _ _ _ (x.tr h2 tk hp)).l _ h7) fun a oe cls d pn C' ks ds hz hv hd => (ihs _ _ _ _ _ (x.suiteA hz hv hd)).l _ h8
    · cases hx
end
end M
set_option Elab.async false
set_option linter.all false
set_option maxRecDepth 100000
set_option maxHeartbeats 4000000
namespace M
open PySem PySem.Spec PyProof.Rows L2
/-! ### a def -/
def endF (r : Rt) : Rs W := match r with
  | .ok _ (.rt w) S => .ok w S
  | .ok _ .nx S => .ok (.p .non) S
  | .ex c ks ds _ S => .ex c ks ds S
  | _ => .no
def bodyF (np nN : Nat) (f : SF) (ws : List W) (S : Sto) : Rs W := if ws.length = np then finF S.length (endF (f (ws.map some ++ List.replicate (nN - np) none) S)) else .no
/-- what a world tells at level k -/
structure Wd (P : Program) (w : World) (K : PySem.W.Frag) (mg : Str → Option Value) (base : Heap) (wl : WL) (sub : Str → Str → Bool) (xk : Str → Option (Option Str)) (C : Cl) (G : Gt) (k : Nat) : Prop where
  T : ∀ X : Cx, X.prog = P → X.w = w → X.K = K → X.mg = mg → X.base = base → RoomG k X.A → Facts X C G
  Y : ∀ X : Cx, X.prog = P → X.w = w → X.K = K → X.mg = mg → X.base = base → Room k X.A → XkF X C xk
  ci : ∀ c A, C.i c = some A → mg c = some (.ref A)
  N : IsF K C
  nm : ∀ c A, C.x c = some A → mg c = some (.ref A) ∧ (c == ("__debug__" : Str)) = false
  sub : ∀ c A c' A', C.x c = some A → C.x c' = some A' → PySem.W.exmOne K (.ref A') (.ref A) = some (sub c' c)
  xf : ∀ c A, C.x c = some A → XfC K A
  bn : ∀ x ∈ wl.bn, mg x = none
  fl : ∀ f ∈ wl.fl, ∀ c A, C.i c = some A → Cls K A ∧ NoAttr K A f
  ef : ∀ f ∈ wl.ef, ∀ c A, C.x c = some A → PySem.W.findIn K (.ref A) f = some none
  xn : ∀ c ∈ wl.xn, ∃ A, C.x c = some A
  cn : ∀ c ∈ wl.cn, ∃ A, C.i c = some A ∧ mg c = some (.ref A)
  h : C.h = none
section
variable {P : Program} {w : World} {K : PySem.W.Frag} {mg : Str → Option Value} {base : Heap} {wl : WL} {sub : Str → Str → Bool} {xk : Str → Option (Option Str)} {C : Cl} {G : Gt}
theorem env_start {φ : List Addr} {F : Hp} (hh : C.h = none) {N : List Str} : ∀ {ws : List W} {vs : List V}, RepWs C φ F ws vs → vs.length ≤ N.length → EnvR C φ F (ws.map some ++ List.replicate (N.length - ws.length) none) (L2.start N vs) := by
  intro ws vs r hl
  have hlen := r.length
  refine ⟨⟨?_, fun p e => by rw [hh] at e; cases e⟩, fun i w' e => ?_⟩
  · unfold L2.start
    simp
    omega
  · by_cases hi : i < ws.length
    · rw [List.getElem?_append_left (by simpa using hi), List.getElem?_map] at e
      have e2 : ws[i]? = some w' := by
        cases q : ws[i]? with
        | none => rw [q] at e; cases e
        | some z => rw [q] at e; cases e; rfl
      obtain ⟨v, h1, h2⟩ := paired_get r e2
      refine ⟨v, ?_, h2⟩
      unfold L2.start
      have hi2 : i < vs.length := by omega
      have hi3 : i < N.length := by omega
      rw [List.getElem?_append_left (by simpa using hi2), List.getElem?_map, h1]
      rfl
    · rw [List.getElem?_append_right (by simpa using hi)] at e
      rw [List.getElem?_replicate] at e
      split at e <;> cases e
/-- a def by its body, called where no repr is under way -/
theorem fnG_of {CX : CXT} {k : Nat} {f : Addr} {name qual : Str} {params : Arguments} {body : List Stmt} {scope : Scope} {dvs : List V} {kws : List (Str × V)} {fd : FuncData} {N ps : List Str} {sp : Sp} (Fd : FunD K name qual params body scope dvs kws f fd) (S : FnScope N ps scope)
    (len : ∀ vs H Q E, sp vs H Q E → vs.length = ps.length)
    (hbody : ∀ (cdv : Value) (A : Around) (outer : List PySem.Env) (s : Shared) (H : Hp) (vs : List V) (Q : VK) (E : XK), RoomG k (A.deeper (envOfC qual scope s.heap.objs.size f cdv)) → sp vs H Q E →
      ∃ t, PSs (cxOf CX P w K mg base N qual scope f cdv A outer s H E) body t ∧ t { nx := fun _ H' => Q .non H', rt := Q } (L2.start N vs) H) : FnG P w K mg base CX (k + 1) f fd ps sp := by
  obtain ⟨oc, od, dV, kV, doc, pm, an, cdv, ct, osl, rfl, lk, hcd, _, _⟩ := Fd.ex
  refine ⟨len, fun A outer s H args us vs Q E hr e0 hb r hsp => ?_⟩
  have keep : ∀ b o, base.get? b = some o → s.heap.get? b = some o := fun b o e => (e0.bs b o e).1
  have KX : K.In s.heap := e0.mod.kin.keeps keep
  have lim : s.heap.NoLimit := e0.mod.nolimit.keeps keep
  have hkind : ∀ y ∈ ps.zip us, scope.names.lookup y.1 = some .local ∨ (scope.names.lookup y.1 = some .cell ∧ ((cellsFrom (s.heap.objs.size + 1) scope.names []).lookup y.1).isSome = true) := fun y hy => by
    rcases S.par y.1 (List.of_mem_zip hy).1 with q | q
    · exact .inl q
    · exact .inr ⟨q, PySem.W.cellsFrom_some _ _ _ (.inl q)⟩
  refine codeAny_call_function hr.r.depth (KX _ _ lk) rfl S.co S.gen rfl (PySem.W.codeRec_of KX hcd) (hb _ _ _ _ ?_)
  refine wpAny_newFunctionEnv_cells S.kind hkind fun env he s1 x => ?_
  subst he
  refine ⟨lim.keeps x.toInCall.keep, codeAny_func ?_⟩
  obtain ⟨t, ht, hq⟩ := hbody cdv A outer s H vs Q E (hr.deeper _) hsp
  have I := inv_start (CX := CX) (E := E) S hr.r.hd e0 (len _ _ _ _ hsp) r x
  refine wpAny_mono (ht.run [] s1 (L2.start N vs) H _ I hq) (fun fl s' hs => ?_) fun e s' hs => hs
  cases fl with
  | ret u =>
    obtain ⟨v, σ', H', J, rv, q⟩ := hs
    exact ⟨v, H', J.os, J.bare, J.base, J.hok, rv, q⟩
  | next =>
    obtain ⟨σ', H', J, q⟩ := hs
    exact ⟨V.non, H', J.os, J.bare, J.base, J.hok, rfl, q⟩
  | brk =>
    obtain ⟨_, _, _, q⟩ := hs
    exact False.elim q
  | cont =>
    obtain ⟨_, _, _, q⟩ := hs
    exact False.elim q
/-- a def's promise: what its body's form answers -/
theorem fn_sound {k : Nat} {x qual : Str} {params : Arguments} {body : List Stmt} {scope : Scope} {dvs : List V} {kws : List (Str × V)} {f : Addr} {fd : FuncData} {N ps : List Str} {q : B} (W : Wd P w K mg base wl sub xk C G k) (Fd : FunD K x qual params body scope dvs kws f fd) (S : FnScope N ps scope)
    (hc : (cb wl q).l ⟨N, scope, true, none⟩ body = true) : FnG P w K mg base (L2.CX P w) (k + 1) f fd ps (spG C ps.length (bodyF ps.length N.length (evB sub xk q G))) := by
  refine fnG_of Fd S (fun vs H Q E h => h.1) fun cdv A outer s H vs Q E hr hsp => ?_
  obtain ⟨hl, φ, F, S0, ws, sr, rw_, h⟩ := hsp
  have hwl : ws.length = ps.length := by rw [rw_.length, hl]
  have hpl : ps.length ≤ N.length := by have := congrArg List.length S.pre; rw [List.length_take] at this; omega
  obtain ⟨X, eX⟩ : ∃ X : Cx, X = cxOf (L2.CX P w) P w K mg base N qual scope f cdv A outer s H E := ⟨_, rfl⟩
  have xs : XS wl sub xk ⟨N, scope, true, none⟩ X C G (fun cls d _ H' => E cls d H') := by
    subst eX
    exact {
      o := { T := W.T _ rfl rfl rfl rfl rfl hr, ci := W.ci, N := W.N, E := ⟨W.nm, W.sub, W.xf⟩, Y := fun _ => W.Y _ rfl rfl rfl rfl rfl hr.r, bn := W.bn, fl := W.fl, ef := W.ef, xn := W.xn, cn := W.cn, hu := (by have := hr.r.un; show (A.deeper _).units + 65 < cLine; omega), gd := hr.g, names := rfl, nd := S.nd, sc := rfl, calm := rfl,
             tk := takes_of rfl rfl rfl rfl, h := (by rw [W.h]; rfl), ex := fun i hi => (by cases hi) }
      hp := fun _ => passes_of rfl
      hs := rfl
      hf := rfl
      kind := S.kind }
  refine ⟨_, eX ▸ (snb parOk q _ _ _ _ _ xs).l body hc, φ, F, S0, ws.map some ++ List.replicate (N.length - ps.length) none, sr, ?_, ?_⟩
  · rw [← hwl]
    exact env_start W.h rw_ (by omega)
  · unfold bodyF at h
    rw [if_pos hwl] at h
    have h := h.fin (by rw [sr.len])
    cases e : evB sub xk q G (ws.map some ++ List.replicate (N.length - ps.length) none) S0 with
    | no => rw [e] at h; exact h
    | ex c ks ds ρ S1 =>
      rw [e] at h
      exact fun cls d σ φ' F' H' g s' e' q' => h cls d φ' F' H' g s' q'
    | ok ρ fl S1 =>
      rw [e] at h
      cases fl with
      | nx => exact fun σ φ' F' H' g s' e' => h .non φ' F' H' g s' repW_non
      | bk => exact (show False from h).elim
      | ct => exact (show False from h).elim
      | rt w => exact fun σ φ' F' H' g s' e' v r => h v φ' F' H' g s' r
end
end M
set_option Elab.async false
set_option linter.all false
set_option maxRecDepth 100000
set_option maxHeartbeats 4000000
namespace M
open PySem PySem.Spec PyProof.Rows L2
/-! ### __init__ of the own errors -/
/-- what OrderError must have -/
structure OeF (K : PySem.W.Frag) (mg : Str → Option Value) (x : Str) : Prop where
  ex : ∃ A mc, mg x = some (.ref A) ∧ PySem.W.specialIn K (.ref A) "__getattribute__" = some (some (.builtin "type.__getattribute__")) ∧ PySem.W.readsIn K A mc = true ∧ PySem.W.findCls K (.ref A) mc "__init__" = some (.val (.builtin "ValueError.__init__"))
  db : (x == ("__debug__" : Str)) = false
section
variable {X : Cx} {e : Expr} {es : List Expr} {ta : TA} {x : Str} {p1 p2 pos : Pos}
theorem pe_oeinit (O : OeF X.K X.mg x) (hg : Gl X x) (hp : (e :: es).all plainE = true) (hl : (e :: es).length < 30) (hln : (p2.endLine == pos.line) = true) (ha : PA X (e :: es) ta) : PE X (.Call (.Attribute (.Name x p1) "__init__" p2) (e :: es) [] pos) (tVeI X.K ta) := by
  obtain ⟨A, mc, hm, h1, h2, h3⟩ := O.ex
  have hp' := hp
  rw [List.all_cons, Bool.and_eq_true] at hp
  refine ⟨fun pins s σ H Q I h => ?_⟩
  refine PySem.W.methodCall_KW (ld_glob I hg hm ?_ O.db) (meth_tree (base_of rfl) (few_of (star_all hp') hl) hln)
  refine PySem.W.method_cls I.kIn h1 (PySem.W.cls_value I.kIn h2 h3 (by decide +kernel) ?_)
  show wpAny _ _ (callWith pos (Value.builtin "ValueError.__init__") [] (backTo pos (starEach (e :: es) X.env)) []) _ _ _
  refine PyProof.Rows.callWith_method1 (thn (ha.run pos pins _ σ H _ (I.tok _) h) fun us s1 ⟨vs, H1, I1, r1, a, C, ws, ev, hl, T, ea, q⟩ => ?_) (star_cons hp.1) (star_any hp.2)
  subst ev
  cases r1 with
  | @cons _ u0 _ ur ra rw' =>
    obtain rfl : u0 = Value.ref a := ra
    have hlen : ur.length ≤ sizeLine := by
      rw [← Paired.length rw', sizeLine_eq]
      omega
    exact oinit_ok T I1 ea hlen fun s' J => ⟨.non, H1, J, rfl, q⟩
end
/-- the form of __init__ without a field -/
def init0B (oe : Str) (N : List Str) (sc : Scope) : List Stmt → Bool
  | [.Expr (.Call (.Attribute (.Name x _) m p2) [.Name s _, .Constant (.str _) _ _] [] pos) _] => decide (x = oe) && (decide (m = "__init__") && ((p2.endLine == pos.line) && (decide (N = [s]) && (glB ⟨N, sc, true, none⟩ x && (visB ⟨N, sc, true, none⟩ s && okN s)))))
  | _ => false
def init1B (oe : Str) (f : Str) (N : List Str) (sc : Scope) : List Stmt → Bool
  | [.Expr (.Call (.Attribute (.Name x _) m p2) [.Name s _, .Constant (.str _) _ _] [] pos) _, .Assign [.Attribute (.Name s2 _) f' _] (.Name g _) _] => decide (x = oe) && (decide (m = "__init__") && ((p2.endLine == pos.line) && (decide (N = [s, g]) && (decide (s2 = s) && (decide (f' = f) && (glB ⟨N, sc, true, none⟩ x && (visB ⟨N, sc, true, none⟩ s && (okN s && (visB ⟨N, sc, true, none⟩ g && okN g)))))))))
  | _ => false
section
variable {P : Program} {w : World} {K : PySem.W.Frag} {mg : Str → Option Value} {base : Heap}
theorem vis_of {X : Cx} {k : CK} {x : Str} (hs : X.env.scope = k.sc) (h : visB k x = true) : Vis X.env.scope x := by
  unfold visB at h
  rw [← hs] at h
  unfold Vis
  split at h <;> rename_i e <;> first | exact .inl e | exact .inr (.inl e) | exact .inr (.inr e) | cases h
theorem gl_of {X : Cx} {k : CK} {x : Str} (hs : X.env.scope = k.sc) (h : glB k x = true) : Gl X x := by
  unfold glB at h
  rw [← hs] at h
  unfold Gl Env.kindOf
  split at h
  · rename_i e; exact e
  · cases h
theorem init0_ok {oe : Str} {x qual : Str} {params : Arguments} {body : List Stmt} {scope : Scope} {dvs : List V} {kws : List (Str × V)} {f : Addr} {fd : FuncData} {N : List Str} {k : Nat} (O : OeF K mg oe) (Fd : FunD K x qual params body scope dvs kws f fd) (S : FnScope N N scope) (hb : init0B oe N scope body = true) :
    FnOk P w K mg base (L2.CX P w) (k + 1) f fd N (sp0 K) := by
  unfold init0B at hb
  split at hb
  · rename_i xn p1 m p2 s p3 t j p4 pos p5
    simp only [Bool.and_eq_true] at hb
    obtain ⟨h1, h2, h3, h4, h5, h6, h7⟩ := hb
    cases of_decide_eq_true h1
    cases of_decide_eq_true h2
    have hN := of_decide_eq_true h4
    refine Fd.ok S (fun vs H Q E ⟨a, A, ev, _⟩ => by rw [ev, hN]; rfl) fun cdv A outer sh H vs Q E hr ⟨a, A', ev, T, ea, q⟩ => ?_
    refine ⟨_, pss_one (ps_expr (pe_oeinit O (gl_of (k := ⟨N, scope, true, none⟩) rfl h5) rfl (by simp) h3 (pa_cons (pe_var (i := 0) (by rw [hN]; rfl) (vis_of (k := ⟨N, scope, true, none⟩) rfl h6) (okN_of h7).1 (okN_of h7).2) (pa_cons pe_str pa_nil (by simp [starEach])) (by simp [starEach])))), ?_⟩
    refine ⟨.ref a, ?_, ?_⟩
    · rw [ev]; unfold L2.start; rfl
    · exact ⟨a, A', _, rfl, by simp, T, ea, q⟩
  · cases hb
theorem init1_ok {oe fl : Str} {x qual : Str} {params : Arguments} {body : List Stmt} {scope : Scope} {dvs : List V} {kws : List (Str × V)} {f : Addr} {fd : FuncData} {N : List Str} {k : Nat} (O : OeF K mg oe) (Fd : FunD K x qual params body scope dvs kws f fd) (S : FnScope N N scope) (hb : init1B oe fl N scope body = true) :
    FnOk P w K mg base (L2.CX P w) (k + 1) f fd N (sp1 K fl) := by
  unfold init1B at hb
  split at hb
  · rename_i xn p1 m p2 s p3 t j p4 pos p5 s2 q1 f' q2 g q3 q4
    simp only [Bool.and_eq_true] at hb
    obtain ⟨h1, h2, h3, h4, h5, h6, h7, h8, h9, h10, h11⟩ := hb
    cases of_decide_eq_true h1
    cases of_decide_eq_true h2
    cases of_decide_eq_true h5
    cases of_decide_eq_true h6
    have hN := of_decide_eq_true h4
    refine Fd.ok S (fun vs H Q E ⟨a, A, y, ev, _⟩ => by rw [ev, hN]; rfl) fun cdv A outer sh H vs Q E hr ⟨a, A', y, ev, T, hno, ea, q⟩ => ?_
    have vs0 : ∀ {p : Pos}, PE (cxOf (L2.CX P w) P w K mg base N qual scope f cdv A outer sh H E) (.Name s p) (tVar 0) := pe_var (by rw [hN]; rfl) (vis_of (k := ⟨N, scope, true, none⟩) rfl h8) (okN_of h9).1 (okN_of h9).2
    have vs1 : ∀ {p : Pos}, PE (cxOf (L2.CX P w) P w K mg base N qual scope f cdv A outer sh H E) (.Name g p) (tVar 1) := pe_var (by rw [hN]; rfl) (vis_of (k := ⟨N, scope, true, none⟩) rfl h10) (okN_of h11).1 (okN_of h11).2
    refine ⟨_, pss_cons (ps_expr (pe_oeinit O (gl_of (k := ⟨N, scope, true, none⟩) rfl h7) rfl (by simp) h3 (pa_cons vs0 (pa_cons pe_str pa_nil (by simp [starEach])) (by simp [starEach])))) (pss_one (ps_ost vs0 vs1)), ?_⟩
    refine ⟨.ref a, ?_, ?_⟩
    · rw [ev]; unfold L2.start; rfl
    · refine ⟨a, A', _, rfl, by simp, T, ea, ?_⟩
      refine ⟨y, ?_, .ref a, ?_, a, A', rfl, T, hno, .inl ⟨ea, fun dx hd hne => q dx hd hne⟩⟩
      · rw [ev]; unfold L2.start; rfl
      · rw [ev]; unfold L2.start; rfl
  · cases hb
end
end M
set_option Elab.async false
set_option linter.all false
set_option maxRecDepth 100000
set_option maxHeartbeats 4000000
namespace M
open PySem PySem.Spec PyProof.Rows L2
/-! ### a program as a table -/
/-- a def: where it stands, its names, its parameters, its form; what may fill up behind, which keywords are passed -/
structure Df where
  d : He.DefD
  N : List Str
  ps : List Str
  q : B
  dfs : List (List Int) := [[]]
  kws : List (Nat × List Str × List Nat) := []
/-- an own class; kwc: keywords of its call -/
structure Oc where
  fz : Bool
  ops : Bool
  ms : List (Str × Df)
  kwc : List (Nat × List Str × List Nat) := []
  cms : List (Str × Df) := []
/-- an error class that is made: its field, its __init__ -/
structure Xc where
  fld : Option Str
  d : He.DefD
  N : List Str
  /-- the keyword by which its field is passed -/
  kw : Option Str := none
structure Pg where
  fns : List (Str × Df)
  own : List (Str × Oc)
  exs : List (Str × Option Xc)
  wl : WL
  sub : Str → Str → Bool
  oe : Str
  /-- constants of the module -/
  cons : List (Str × Const) := []
  /-- classes that isinstance asks errors for -/
  xi : List Str := []
namespace Pg
variable (p : Pg)
def xk (c : Str) : Option (Option Str) := match p.exs.lookup c with
  | some (some x) => some x.fld
  | _ => none
def mth (c m : Str) : Option Df := match p.own.lookup c with
  | some k => k.ms.lookup m
  | none => none
def mcl (c m : Str) : Option Df := match p.own.lookup c with
  | some k => k.cms.lookup m
  | none => none
def cm (c m : Str) : Bool := (p.mcl c m).isSome
def kwcm (c m : Str) : List (List Str × List Nat) := match p.mcl c m with
  | some x => x.kws.filterMap fun e => if e.1 = 1 then some e.2 else none
  | none => []
def gc (x : Str) : Option D := match p.cons.lookup x with
  | some (.int i) => some (.int i)
  | some (.str z) => some (.str z)
  | _ => none
def df (f : Str) : List (List Int) := match p.fns.lookup f with
  | some x => x.dfs
  | none => match p.mth f "__init__" with
    | some x => x.dfs
    | none => match p.xk f with
      | some _ => [[]]
      | none => []
def dm (c m : Str) : Bool := (p.mth c m).isSome
def kwOf (f : Str) : List (Nat × List Str × List Nat) := match p.fns.lookup f with
  | some x => x.kws
  | none => match p.own.lookup f with
    | some k => k.kwc
    | none => match p.exs.lookup f with
      | some (some x) => match x.fld, x.kw with
        | some _, some nm => [(0, [nm], [0])]
        | _, _ => []
      | _ => []
def less : List (Nat × List Str × List Nat) → List (Nat × List Str × List Nat)
  | [] => []
  | (n + 1, ks, ix) :: r => (n, ks, ix) :: less r
  | (0, _, _) :: r => less r
def kwm (c m : Str) : List (Nat × List Str × List Nat) := match p.mth c m with
  | some x => less x.kws
  | none => []
noncomputable def run (G : Gt) (x : Df) : List W → Sto → Rs W := bodyF x.ps.length x.N.length (evB p.sub p.xk x.q G)
noncomputable def me (G : Gt) (c m : Str) (ws : List W) (S : Sto) : Rs W := match p.mth c m with
  | some x => p.run G x ws S
  | none => .no
noncomputable def cme (G : Gt) (c m : Str) (ws : List W) (S : Sto) : Rs W := match p.mcl c m with
  | some x => p.run G x ws S
  | none => .no
noncomputable def fn (G : Gt) (f : Str) (ws : List W) (S : Sto) : Rs W := match p.fns.lookup f with
  | some x => p.run G x ws S
  | none => match p.own.lookup f with
    | some k => mkF (p.me G f "__init__") f k.fz ws S
    | none => mkxF f (p.xk f) ws S
/-- is an error below the class c -/
def xs (c : Str) : Option (Str → Bool) := if c ∈ p.xi then (if c = "ValueError" then some fun _ => true else some fun d => p.sub d c) else none
/-- so many calls within one another -/
noncomputable def G : Nat → Gt
  | 0 => hotG []
  | n + 1 => { fn := p.fn (G n), me := p.me (G n), df := p.df, dm := p.dm, kw := p.kwOf, kwm := p.kwm, cm := p.cm, cme := p.cme (G n), kwcm := p.kwcm, gc := p.gc, xs := p.xs }
/-- the classes -/
def C (K : PySem.W.Frag) : Cl where
  i := fun c => if (p.own.lookup c).isSome = true then some (He.ga K c) else none
  x := fun c => if (p.exs.lookup c).isSome = true then some (He.ga K c) else none
  e := fun _ => none
  h := none
/-- all defs -/
def defs : List He.DefD := p.fns.map (·.2.d) ++ (p.own.flatMap fun k => k.2.ms.map (·.2.d)) ++ p.exs.filterMap fun x => x.2.map (·.d)
/-- classmethods' defs -/
def cmA (c m : Str) (d : He.DefD) : He5.DefA := ⟨fun K => He5.wf K (He.ga K c) "classmethod" m, d.name, d.qual, d.params, d.body, d.scope, d.dfl, d.kwd⟩
def defsA : List He5.DefA := p.own.flatMap fun k => k.2.cms.map fun m => cmA k.1 m.1 m.2.d
end Pg
theorem lookup_in {α β : Type} [BEq α] [LawfulBEq α] {a : α} {b : β} : ∀ {l : List (α × β)}, l.lookup a = some b → (a, b) ∈ l
  | [], h => by cases h
  | (x, y) :: r, h => by
    rw [List.lookup_cons] at h
    split at h
    · rename_i e
      cases h
      rw [eq_of_beq e]
      exact List.mem_cons_self
    · exact List.mem_cons_of_mem _ (lookup_in h)
/-! ### what the head must tell -/
def oexB (K : PySem.W.Frag) (C : Addr) : Bool := (match K.lookup C with
  | some ⟨.type t, _, .cls cd, sl⟩ => (match cd.mro, sl.toList with
    | .ref C' :: bm, [_, _, _, _, some (.builtin n), _] => decide (t = "type") && (decide (C' = C) && (decide (n = "ValueError.__new__") && (cd.hasDict && (!cd.hasDel && PySem.HandSPX.refsVE bm))))
    | _, _ => false)
  | _ => false) && (decide (PySem.W.findIn K (.ref C) "__setattr__" = some (some (.builtin "object.__setattr__"))) && (decide (PySem.W.subIn K (.ref C) (.type "BaseException") = some true) && (decide (PySem.W.typeIn K (.ref C) = some (.type "type")) && PySem.W.keepIn K (.ref C))))
theorem oexB_ok {K : PySem.W.Frag} {C : Addr} (h : oexB K C = true) : OexC K C := by
  unfold oexB at h
  rw [Bool.and_eq_true, Bool.and_eq_true, Bool.and_eq_true, Bool.and_eq_true] at h
  obtain ⟨h0, h1, h2, h3, h4⟩ := h
  refine ⟨?_, of_decide_eq_true h1, of_decide_eq_true h2, of_decide_eq_true h3, h4⟩
  split at h0
  · rename_i t dd cd sl lk
    split at h0
    · rename_i C' bm k0 k1 k2 k3 n k5 em es
      simp only [Bool.and_eq_true] at h0
      obtain ⟨a1, a2, a3, a4, a5, a6⟩ := h0
      have b1 := of_decide_eq_true a1
      have b2 := of_decide_eq_true a2
      have b3 := of_decide_eq_true a3
      subst b1 b2 b3
      obtain ⟨nm, bs, mro, ns, qn, hd, sn, su, ab, col, del⟩ := cd
      obtain ⟨sl⟩ := sl
      dsimp only at em es a4 a5
      have a5' : del = false := by simpa using a5
      subst em es a4 a5'
      exact ⟨nm, qn, ns, bs, bm, sn, su, ab, col, dd, k0, k1, k2, k3, k5, lk, a6⟩
    · cases h0
  · cases h0
def tyNames : List String := ["NoneType", "bool", "int", "str", "list", "tuple", "dict"]
def isB (K : PySem.W.Frag) (A : Addr) : Bool := (tyNames.all fun T => decide (PySem.W.kitOne K (.type T) (.ref A) = some false)) && ((["int", "str", "bool", "list", "tuple", "dict"].all fun T => decide (PySem.W.kitOne K (.ref A) (.type T) = some false)) &&
  (decide (PySem.W.findIn K (.ref A) "__class__" = some (some (.builtin "object.__class__"))) && (decide (PySem.W.specialIn K (.builtin "object.__class__") "__get__" = some (some (.builtin "getset_descriptor.__get__"))) && (decide (PySem.W.takesIn K (.builtin "object.__class__") = some true) && decide (PySem.W.mroIn K A (.type "object") = some true)))))
def opB (K : PySem.W.Frag) (A : Addr) : Bool := PySem.W.selfFirst K A && (([Operator.Add, .Sub, .Mult].all fun op => decide (PySem.W.findIn K (.ref A) (dunderR op.info.2) = some none) && ((PySem.W.findIn K (.type "int") (PySem.dunder op.info.2)).isSome && (PySem.W.findIn K (.type "int") (dunderR op.info.2)).isSome)) &&
  (decide (PySem.W.subIn K (.type "int") (.ref A) = some false) && ((tyNames.all fun T => PySem.W.notFirst K A (.type T)) && (PySem.W.notFirst K A (.ref A) && (decide (PySem.W.findIn K (.ref A) "__ne__" = some (some (.builtin "object.__ne__"))) && decide (PySem.W.mroIn K A (.type "object") = some true))))))
theorem opB_ok {K : PySem.W.Frag} {A : Addr} (h : opB K A = true) : OF K A := by
  unfold opB at h
  simp only [Bool.and_eq_true] at h
  obtain ⟨h1, h2, h3, h4, h5, h6, h7⟩ := h
  refine ⟨h1, fun op m hm => ?_, of_decide_eq_true h3, fun T hT => List.all_eq_true.mp h4 T hT, h5, of_decide_eq_true h6, of_decide_eq_true h7⟩
  have hop : op ∈ [Operator.Add, .Sub, .Mult] ∧ m = PySem.dunder op.info.2 := by
    cases op <;> simp only [dunderB] at hm <;> first | (cases hm; exact ⟨by simp, by decide +kernel⟩) | cases hm
  have q := List.all_eq_true.mp h2 op hop.1
  simp only [Bool.and_eq_true] at q
  exact ⟨hop.2, of_decide_eq_true q.1, _, _, Option.some_get q.2.1 |>.symm, Option.some_get q.2.2 |>.symm⟩
/-- the own errors' base: its __init__ is ValueError's -/
def oeB (K : PySem.W.Frag) (x : Str) : Bool := decide (PySem.W.specialIn K (.ref (He.ga K x)) "__getattribute__" = some (some (.builtin "type.__getattribute__"))) && (PySem.W.readsIn K (He.ga K x) (.type "type") && ((match PySem.W.findCls K (.ref (He.ga K x)) (.type "type") "__init__" with
  | some (.val (.builtin n)) => decide (n = "ValueError.__init__")
  | _ => false) && !(x == ("__debug__" : Str))))
/-- an error that is made -/
def xcB (K : PySem.W.Frag) (c : Str) (x : Xc) : Bool := decide (x.d.at_ = (c, some ("__init__" : Str))) && (decide (PySem.W.findIn K (.ref (He.ga K c)) "__init__" = some (some (.ref (He.fAd K (c, some "__init__"))))) && (decide (PySem.W.typeIn K (.ref (He.fAd K (c, some "__init__"))) = some (.type "function")) && (oexB K (He.ga K c) && (match x.fld with
  | none => true
  | some f => decide (PySem.W.findIn K (.ref (He.ga K c)) f = some none)))))
/-- all of it -/
def okP (p : Pg) (K : PySem.W.Frag) : Bool :=
  (p.fns.all fun f => (He.Fa.glo f.1).ok K) &&
  ((p.own.all fun k => (He.Fa.glo k.1).ok K && ((He.Fa.cls k.1).ok K && ((He.Fa.mkr k.1).ok K && ((k.2.ms.all fun m => (He.Fa.meth k.1 m.1).ok K) && ((p.wl.fl.all fun f => (He.Fa.noat k.1 f).ok K) && (isB K (He.ga K k.1) && (!k.2.ops || opB K (He.ga K k.1)))))))) &&
  ((p.own.all fun k => p.own.all fun l => decide (PySem.W.kitOne K (.ref (He.ga K l.1)) (.ref (He.ga K k.1)) = some (decide (k.1 = l.1)))) &&
  ((p.exs.all fun x => (He.Fa.glo x.1).ok K && (xfB K (He.ga K x.1) && ((p.wl.ef.all fun f => decide (PySem.W.findIn K (.ref (He.ga K x.1)) f = some none)) && (match x.2 with
    | some y => xcB K x.1 y
    | none => true)))) &&
  ((p.exs.all fun x => p.exs.all fun y => decide (PySem.W.exmOne K (.ref (He.ga K y.1)) (.ref (He.ga K x.1)) = some (p.sub y.1 x.1))) &&
  ((p.wl.bn.all fun x => (He.Fa.free x).ok K) &&
  (((He.Fa.glo p.oe).ok K && oeB K p.oe) && K.all fun q => !(q.2.cls == .type "list")))))))
/-- .. of classmethods -/
def consB (K : PySem.W.Frag) (e : Str × Const) : Bool := !(e.1 == ("__debug__" : Str)) && (match e.2 with
  | .int i => (He.Fa.int e.1 i).ok K
  | .str z => (He.Fa.str e.1 z).ok K
  | _ => false)
def xiB (K : PySem.W.Frag) (A : Addr) : Bool := (PySem.W.clsIn K A).isSome && (decide (PySem.W.findIn K (.ref A) "__class__" = some (some (.builtin "object.__class__"))) && (decide (PySem.W.specialIn K (.builtin "object.__class__") "__get__" = some (some (.builtin "getset_descriptor.__get__"))) &&
  (decide (PySem.W.takesIn K (.builtin "object.__class__") = some true) && decide (PySem.W.mroIn K A (.type "object") = some true))))
/-- .. of errors that are held -/
def okX (p : Pg) (K : PySem.W.Frag) : Bool := (p.xi.isEmpty || p.exs.all fun x => xiB K (He.ga K x.1)) && p.xi.all fun c => !(c == ("__debug__" : Str)) && (if c = "ValueError" then (He.Fa.free c).ok K && (p.exs.all fun x => decide (PySem.W.kitOne K (.ref (He.ga K x.1)) (.type "ValueError") = some true))
  else (p.exs.lookup c).isSome && (p.exs.all fun x => decide (PySem.W.kitOne K (.ref (He.ga K x.1)) (.ref (He.ga K c)) = some (p.sub x.1 c))))
def okC (p : Pg) (K : PySem.W.Frag) : Bool := okX p K && ((p.cons.all (consB K)) && p.own.all fun k => k.2.cms.all fun m => He5.wrapB K (He.ga K k.1) "classmethod" "classmethod.__get__" m.1 && (PySem.W.fnIn K (He5.wf K (He.ga K k.1) "classmethod" m.1) &&
  (PySem.W.readsIn K (He.ga K k.1) (.type "type") && decide (PySem.W.specialIn K (.ref (He.ga K k.1)) "__getattribute__" = some (some (.builtin "type.__getattribute__"))))))
/-! ### what the table must tell -/
/-- how a def's calls bind -/
def BndP (x : Df) : Prop := ∀ (K : PySem.W.Frag) (f : Addr) (fd : FuncData), FunD K x.d.name x.d.qual x.d.params x.d.body x.d.scope (x.d.dvs K) (x.d.kws K) f fd →
  Binds K fd x.ps [] ∧ (∀ ds ∈ x.dfs, ∃ us, Binds K fd x.ps us ∧ Vals (ds.map V.int) us) ∧ ∀ e ∈ x.kws, KB K fd x.ps e.1 e.2.1 e.2.2
def scB (N P : List Str) (sc : Scope) : Bool := (match sc.kind with | .function => true | _ => false) && (!sc.isCoroutine && (!sc.isGenerator && (decide N.Nodup && (decide (N.take P.length = P) && ((P.all fun x => match sc.names.lookup x with
  | some .local => true | some .cell => true | _ => false) && (sc.names.all fun y => match y.2 with | .free => false | _ => true))))))
theorem scB_ok {N P : List Str} {sc : Scope} (h : scB N P sc = true) : FnScope N P sc := by
  unfold scB at h
  simp only [Bool.and_eq_true] at h
  obtain ⟨h1, h2, h3, h4, h5, h6, h7⟩ := h
  refine ⟨?_, by simpa using h2, by simpa using h3, of_decide_eq_true h4, of_decide_eq_true h5, fun x hx => ?_, fun y hy => ?_⟩
  · split at h1
    · assumption
    · cases h1
  · have q := List.all_eq_true.mp h6 x hx
    split at q
    · rename_i e; exact .inl e
    · rename_i e; exact .inr e
    · cases q
  · have q := List.all_eq_true.mp h7 y hy
    intro e
    rw [e] at q
    cases q
def dfB (wl : WL) (at_ : Str × Option Str) (x : Df) : Bool := decide (x.d.at_ = at_) && (scB x.N x.ps x.d.scope && (cb wl x.q).l ⟨x.N, x.d.scope, true, none⟩ x.d.body)
def tabC (p : Pg) : Bool := p.own.all fun k => k.2.cms.all fun m => dfB p.wl (k.1, some m.1) m.2
/-- the table holds together -/
def tabB (p : Pg) : Bool :=
  (p.fns.all fun f => !(f.1 == ("__debug__" : Str)) && dfB p.wl (f.1, none) f.2) &&
  ((p.own.all fun k => !(k.1 == ("__debug__" : Str)) && ((k.2.ms.all fun m => dfB p.wl (k.1, some m.1) m.2) && ((k.2.ops || k.2.ms.all fun m => !(([("__add__" : Str), "__sub__", "__mul__", "__eq__", "__lt__", "__le__"]).contains m.1)) && (match k.2.ms.lookup ("__init__" : Str) with
    | some x => (k.2.kwc.all fun e => decide ((e.1 + 1, e.2.1, 0 :: e.2.2.map (· + 1)) ∈ x.kws))
    | none => false)))) &&
  ((p.exs.all fun x => !(x.1 == ("__debug__" : Str)) && (match x.2 with
    | some y => scB y.N y.N y.d.scope && (match y.fld with
      | none => init0B p.oe y.N y.d.scope y.d.body
      | some f => init1B p.oe f y.N y.d.scope y.d.body)
    | none => true)) &&
  ((p.wl.xn.all fun c => (p.exs.lookup c).isSome) && (p.wl.cn.all fun c => (p.own.lookup c).isSome))))
end M
set_option Elab.async false
set_option linter.all false
set_option maxRecDepth 100000
set_option maxHeartbeats 4000000
namespace M
open PySem PySem.Spec PyProof.Rows L2
/-- all that a world of the table's program must tell -/
structure Fine (p : Pg) (K : PySem.W.Frag) (mg : Str → Option Value) : Prop where
  tab : tabB p = true
  ok : okP p K = true
  tabc : tabC p = true
  okc : okC p K = true
  fa : ∀ d ∈ p.defsA, ∃ fd, FunD K d.name d.qual d.params d.body d.scope (d.dvs K) (d.kws K) (d.at_ K) fd
  bc : ∀ k ∈ p.own, ∀ m ∈ k.2.cms, BndP m.2
  gi : ∀ x i, (He.Fa.int x i).ok K = true → ∃ t, mg x = some (.int i t)
  gs : ∀ x z, (He.Fa.str x z).ok K = true → ∃ t, mg x = some (.str z t)
  fd : ∀ d ∈ p.defs, ∃ fd, FunD K d.name d.qual d.params d.body d.scope (d.dvs K) (d.kws K) (He.fAd K d.at_) fd
  bf : ∀ x ∈ p.fns, BndP x.2
  bm : ∀ k ∈ p.own, ∀ m ∈ k.2.ms, BndP m.2
  bk : ∀ x ∈ p.exs, ∀ y, x.2 = some y → ∀ nm, y.kw = some nm → ∀ f fd, FunD K y.d.name y.d.qual y.d.params y.d.body y.d.scope (y.d.dvs K) (y.d.kws K) f fd → KB K fd y.N 1 [nm] [0, 1]
  bx : ∀ x ∈ p.exs, ∀ y, x.2 = some y → ∀ f fd, FunD K y.d.name y.d.qual y.d.params y.d.body y.d.scope (y.d.dvs K) (y.d.kws K) f fd → Binds K fd y.N []
  gl : ∀ x, (He.Fa.glo x).ok K = true → mg x = some (.ref (He.ga K x))
  gf : ∀ x, (He.Fa.free x).ok K = true → mg x = none
section
variable {p : Pg} {K : PySem.W.Frag} {mg : Str → Option Value} {P : Program} {w : World} {base : Heap} {G : Gt}
theorem not_bool {b : Bool} (h : (!b) = true) : b = false := by simpa using h
namespace Fine
variable (g : Fine p K mg)
include g
theorem fnT {f : Str} {x : Df} (h : p.fns.lookup f = some x) : (f == ("__debug__" : Str)) = false ∧ x.d.at_ = (f, none) ∧ scB x.N x.ps x.d.scope = true ∧ (cb p.wl x.q).l ⟨x.N, x.d.scope, true, none⟩ x.d.body = true := by
  have t := g.tab
  unfold tabB at t
  rw [Bool.and_eq_true] at t
  have q := List.all_eq_true.mp t.1 _ (lookup_in h)
  unfold dfB at q
  simp only [Bool.and_eq_true] at q
  obtain ⟨h1, h2, h3, h4⟩ := q
  exact ⟨not_bool h1, of_decide_eq_true h2, h3, h4⟩
theorem ownT {c : Str} {k : Oc} (h : p.own.lookup c = some k) : (c == ("__debug__" : Str)) = false ∧ (∀ m x, k.ms.lookup m = some x → x.d.at_ = (c, some m) ∧ scB x.N x.ps x.d.scope = true ∧ (cb p.wl x.q).l ⟨x.N, x.d.scope, true, none⟩ x.d.body = true) ∧
    (k.ops = true ∨ ∀ m ∈ k.ms, ([("__add__" : Str), "__sub__", "__mul__", "__eq__", "__lt__", "__le__"]).contains m.1 = false) ∧ ∃ x, k.ms.lookup ("__init__" : Str) = some x ∧ ∀ e ∈ k.kwc, (e.1 + 1, e.2.1, 0 :: e.2.2.map (· + 1)) ∈ x.kws := by
  have t := g.tab
  unfold tabB at t
  rw [Bool.and_eq_true, Bool.and_eq_true] at t
  have q := List.all_eq_true.mp t.2.1 _ (lookup_in h)
  rw [Bool.and_eq_true, Bool.and_eq_true, Bool.and_eq_true] at q
  obtain ⟨h1, h2, h3, h4⟩ := q
  refine ⟨not_bool h1, fun m x hm => ?_, ?_, ?_⟩
  · have q := List.all_eq_true.mp h2 _ (lookup_in hm)
    unfold dfB at q
    simp only [Bool.and_eq_true] at q
    exact ⟨of_decide_eq_true q.1, q.2.1, q.2.2⟩
  · rw [Bool.or_eq_true] at h3
    rcases h3 with h3 | h3
    · exact .inl h3
    · exact .inr fun m hm => not_bool (List.all_eq_true.mp h3 m hm)
  · dsimp only at h4
    split at h4
    · rename_i x e
      exact ⟨x, e, fun e he => of_decide_eq_true (List.all_eq_true.mp h4 e he)⟩
    · cases h4
theorem exT {c : Str} {y : Option Xc} (h : p.exs.lookup c = some y) : (c == ("__debug__" : Str)) = false ∧ ∀ x, y = some x → scB x.N x.N x.d.scope = true ∧ (match x.fld with
      | none => init0B p.oe x.N x.d.scope x.d.body
      | some f => init1B p.oe f x.N x.d.scope x.d.body) = true := by
  have t := g.tab
  unfold tabB at t
  rw [Bool.and_eq_true, Bool.and_eq_true, Bool.and_eq_true] at t
  have q := List.all_eq_true.mp t.2.2.1 _ (lookup_in h)
  rw [Bool.and_eq_true] at q
  refine ⟨not_bool q.1, fun x e => ?_⟩
  have q2 := q.2
  subst e
  dsimp only at q2
  rw [Bool.and_eq_true] at q2
  exact q2
theorem okv : (∀ f ∈ p.fns, (He.Fa.glo f.1).ok K = true) ∧ (∀ k ∈ p.own, (He.Fa.glo k.1).ok K = true ∧ (He.Fa.cls k.1).ok K = true ∧ (He.Fa.mkr k.1).ok K = true ∧ (∀ m ∈ k.2.ms, (He.Fa.meth k.1 m.1).ok K = true) ∧ (∀ f ∈ p.wl.fl, (He.Fa.noat k.1 f).ok K = true) ∧ isB K (He.ga K k.1) = true ∧ (k.2.ops = true → opB K (He.ga K k.1) = true)) ∧
    (∀ k ∈ p.own, ∀ l ∈ p.own, PySem.W.kitOne K (.ref (He.ga K l.1)) (.ref (He.ga K k.1)) = some (decide (k.1 = l.1))) ∧
    (∀ x ∈ p.exs, (He.Fa.glo x.1).ok K = true ∧ xfB K (He.ga K x.1) = true ∧ (∀ f ∈ p.wl.ef, PySem.W.findIn K (.ref (He.ga K x.1)) f = some none) ∧ ∀ y, x.2 = some y → xcB K x.1 y = true) ∧
    (∀ x ∈ p.exs, ∀ y ∈ p.exs, PySem.W.exmOne K (.ref (He.ga K y.1)) (.ref (He.ga K x.1)) = some (p.sub y.1 x.1)) ∧ (∀ x ∈ p.wl.bn, (He.Fa.free x).ok K = true) ∧ ((He.Fa.glo p.oe).ok K = true ∧ oeB K p.oe = true) ∧ ∀ q ∈ K, (q.2.cls == .type "list") = false := by
  have t := g.ok
  unfold okP at t
  simp only [Bool.and_eq_true] at t
  obtain ⟨h1, h2, h3, h4, h5, h6, ⟨h7, h8⟩, h9⟩ := t
  refine ⟨List.all_eq_true.mp h1, fun k hk => ?_, fun k hk l hl => ?_, fun x hx => ?_, fun x hx y hy => ?_, List.all_eq_true.mp h6, ⟨h7, h8⟩, fun q hq => not_bool (List.all_eq_true.mp h9 q hq)⟩
  · have q := List.all_eq_true.mp h2 k hk
    simp only [Bool.and_eq_true] at q
    obtain ⟨a1, a2, a3, a4, a5, a6, a7⟩ := q
    refine ⟨a1, a2, a3, List.all_eq_true.mp a4, List.all_eq_true.mp a5, a6, fun ho => ?_⟩
    rw [ho] at a7
    simpa using a7
  · exact of_decide_eq_true (List.all_eq_true.mp (List.all_eq_true.mp h3 k hk) l hl)
  · have q := List.all_eq_true.mp h4 x hx
    simp only [Bool.and_eq_true] at q
    obtain ⟨a1, a2, a3, a4⟩ := q
    refine ⟨a1, a2, fun f hf => of_decide_eq_true (List.all_eq_true.mp a3 f hf), fun y hy => ?_⟩
    rw [hy] at a4
    exact a4
  · exact of_decide_eq_true (List.all_eq_true.mp (List.all_eq_true.mp h5 x hx) y hy)
theorem i_own {c : Str} {A : Addr} (h : (p.C K).i c = some A) : ∃ k, p.own.lookup c = some k ∧ A = He.ga K c := by
  have h : (if (p.own.lookup c).isSome = true then some (He.ga K c) else none) = some A := h
  split at h
  · rename_i e
    cases h
    obtain ⟨k, hk⟩ := Option.isSome_iff_exists.mp e
    exact ⟨k, hk, rfl⟩
  · cases h
theorem x_ex {c : Str} {A : Addr} (h : (p.C K).x c = some A) : ∃ y, p.exs.lookup c = some y ∧ A = He.ga K c := by
  have h : (if (p.exs.lookup c).isSome = true then some (He.ga K c) else none) = some A := h
  split at h
  · rename_i e
    cases h
    obtain ⟨k, hk⟩ := Option.isSome_iff_exists.mp e
    exact ⟨k, hk, rfl⟩
  · cases h
theorem own_i {c : Str} {k : Oc} (h : p.own.lookup c = some k) : (p.C K).i c = some (He.ga K c) := by
  show (if (p.own.lookup c).isSome = true then some (He.ga K c) else none) = _
  rw [h]; rfl
theorem ex_x {c : Str} {y : Option Xc} (h : p.exs.lookup c = some y) : (p.C K).x c = some (He.ga K c) := by
  show (if (p.exs.lookup c).isSome = true then some (He.ga K c) else none) = _
  rw [h]; rfl
theorem cls {c : Str} {k : Oc} (h : p.own.lookup c = some k) : Cls K (He.ga K c) := He.cls_ok (g.okv.2.1 _ (lookup_in h)).2.1
theorem isf : IsF K (p.C K) := by
  have isb : ∀ c A, (p.C K).i c = some A → isB K A = true := fun c A h => by
    obtain ⟨k, hk, rfl⟩ := g.i_own h
    exact (g.okv.2.1 _ (lookup_in hk)).2.2.2.2.2.1
  refine ⟨fun c A h T hT => ?_, fun c A c' A' h h' => ?_, fun c A h T hT => ?_, fun c A h => ?_⟩
  · have q := isb c A h
    unfold isB at q
    simp only [Bool.and_eq_true] at q
    exact of_decide_eq_true (List.all_eq_true.mp q.1 T hT)
  · obtain ⟨k, hk, rfl⟩ := g.i_own h
    obtain ⟨k', hk', rfl⟩ := g.i_own h'
    exact g.okv.2.2.1 _ (lookup_in hk) _ (lookup_in hk')
  · have q := isb c A h
    unfold isB at q
    simp only [Bool.and_eq_true] at q
    exact of_decide_eq_true (List.all_eq_true.mp q.2.1 T hT)
  · have q := isb c A h
    unfold isB at q
    simp only [Bool.and_eq_true] at q
    obtain ⟨k, hk, rfl⟩ := g.i_own h
    exact ⟨g.cls hk, of_decide_eq_true q.2.2.1, of_decide_eq_true q.2.2.2.1, of_decide_eq_true q.2.2.2.2.1, of_decide_eq_true q.2.2.2.2.2⟩
theorem oef : OeF K mg p.oe := by
  obtain ⟨h1, h2⟩ := g.okv.2.2.2.2.2.2.1
  unfold oeB at h2
  simp only [Bool.and_eq_true] at h2
  obtain ⟨a1, a2, a3, a4⟩ := h2
  refine ⟨⟨He.ga K p.oe, .type "type", g.gl _ h1, of_decide_eq_true a1, a2, ?_⟩, not_bool a4⟩
  split at a3
  · rename_i n e
    rw [e, of_decide_eq_true a3]
  · cases a3
theorem dmem_fn {f : Str} {x : Df} (h : p.fns.lookup f = some x) : x.d ∈ p.defs := by
  unfold Pg.defs
  exact List.mem_append_left _ (List.mem_append_left _ (List.mem_map.mpr ⟨(f, x), lookup_in h, rfl⟩))
theorem dmem_me {c m : Str} {k : Oc} {x : Df} (h : p.own.lookup c = some k) (hm : k.ms.lookup m = some x) : x.d ∈ p.defs := by
  unfold Pg.defs
  exact List.mem_append_left _ (List.mem_append_right _ (List.mem_flatMap.mpr ⟨(c, k), lookup_in h, List.mem_map.mpr ⟨(m, x), lookup_in hm, rfl⟩⟩))
theorem dmem_ex {c : Str} {x : Xc} (h : p.exs.lookup c = some (some x)) : x.d ∈ p.defs := by
  unfold Pg.defs
  exact List.mem_append_right _ (List.mem_filterMap.mpr ⟨(c, some x), lookup_in h, rfl⟩)
theorem mth_own {c m : Str} {x : Df} (h : p.mth c m = some x) : ∃ k, p.own.lookup c = some k ∧ k.ms.lookup m = some x := by
  unfold Pg.mth at h
  split at h
  · rename_i k e
    exact ⟨k, e, h⟩
  · cases h
theorem mcl_own {c m : Str} {x : Df} (h : p.mcl c m = some x) : ∃ k, p.own.lookup c = some k ∧ k.cms.lookup m = some x := by
  unfold Pg.mcl at h
  split at h
  · rename_i k e
    exact ⟨k, e, h⟩
  · cases h
theorem cmT {c m : Str} {k : Oc} {x : Df} (h : p.own.lookup c = some k) (hm : k.cms.lookup m = some x) : scB x.N x.ps x.d.scope = true ∧ (cb p.wl x.q).l ⟨x.N, x.d.scope, true, none⟩ x.d.body = true := by
  have t := g.tabc
  unfold tabC at t
  have q := List.all_eq_true.mp (List.all_eq_true.mp t _ (lookup_in h)) _ (lookup_in hm)
  unfold dfB at q
  simp only [Bool.and_eq_true] at q
  exact q.2
theorem cmF {c m : Str} {k : Oc} {x : Df} (h : p.own.lookup c = some k) (hm : k.cms.lookup m = some x) : ∃ fd, FunD K x.d.name x.d.qual x.d.params x.d.body x.d.scope (x.d.dvs K) (x.d.kws K) (He5.wf K (He.ga K c) "classmethod" m) fd :=
  g.fa (Pg.cmA c m x.d) (List.mem_flatMap.mpr ⟨(c, k), lookup_in h, List.mem_map.mpr ⟨(m, x), lookup_in hm, rfl⟩⟩)
theorem cmO {c m : Str} {k : Oc} {x : Df} (h : p.own.lookup c = some k) (hm : k.cms.lookup m = some x) : ClX.CRead K (He.ga K c) (.type "type") ∧ ClX.CMet K (He.ga K c) (.type "type") m (He.ma K (He.ga K c) m) (He5.wf K (He.ga K c) "classmethod" m) := by
  have t := g.okc
  unfold okC at t
  rw [Bool.and_eq_true, Bool.and_eq_true] at t
  have q := List.all_eq_true.mp (List.all_eq_true.mp t.2.2 _ (lookup_in h)) _ (lookup_in hm)
  simp only [Bool.and_eq_true] at q
  obtain ⟨a1, a2, a3, a4⟩ := q
  exact ⟨⟨a3, of_decide_eq_true a4⟩, He5.cmet_of a1 a2⟩
end Fine
theorem run_len {x : Df} {ws : List W} {S : Sto} (h : p.run G x ws S ≠ .no) : ws.length = x.ps.length := by
  unfold Pg.run bodyF at h
  by_cases e : ws.length = x.ps.length
  · exact e
  · rw [if_neg e] at h; exact absurd rfl h
theorem fn_fun {f : Str} {x : Df} (h : p.fns.lookup f = some x) : p.fn G f = p.run G x := by
  funext ws S
  unfold Pg.fn
  rw [h]
theorem me_fun {c m : Str} {x : Df} (h : p.mth c m = some x) : p.me G c m = p.run G x := by
  funext ws S
  unfold Pg.me
  rw [h]
theorem cme_fun {c m : Str} {x : Df} (h : p.mcl c m = some x) : p.cme G c m = p.run G x := by
  funext ws S
  unfold Pg.cme
  rw [h]
theorem less_in : ∀ {l : List (Nat × List Str × List Nat)} {n : Nat} {ks : List Str} {ix : List Nat}, (n, ks, ix) ∈ Pg.less l → (n + 1, ks, ix) ∈ l
  | [], _, _, _, h => by cases h
  | (0, ks', ix') :: r, _, _, _, h => List.mem_cons_of_mem _ (less_in (l := r) h)
  | (k + 1, ks', ix') :: r, n, ks, ix, h => by
    have h : (n, ks, ix) ∈ (k, ks', ix') :: Pg.less r := h
    rcases List.mem_cons.mp h with e | h
    · cases e; exact List.mem_cons_self
    · exact List.mem_cons_of_mem _ (less_in h)
/-- one level more -/
theorem facts_up (g : Fine p K mg) {k : Nat} (Wk : Wd P w K mg base p.wl p.sub p.xk (p.C K) G k) (X : Cx) (hP : X.prog = P) (hw : X.w = w) (hK : X.K = K) (hm : X.mg = mg) (hb : X.base = base) (hr : RoomG (k + 2) X.A) :
    Facts X (p.C K) { fn := p.fn G, me := p.me G, df := p.df, dm := p.dm, kw := p.kwOf, kwm := p.kwm, cm := p.cm, cme := p.cme G, kwcm := p.kwcm, gc := p.gc, xs := p.xs } := by
  subst hP hw hK hm hb
  have fnG : ∀ {f : Str} {x : Df}, p.fns.lookup f = some x → ∃ fd, FunD X.K x.d.name x.d.qual x.d.params x.d.body x.d.scope (x.d.dvs X.K) (x.d.kws X.K) (He.ga X.K f) fd ∧ FnG X.prog X.w X.K X.mg X.base (L2.CX X.prog X.w) (k + 1) (He.ga X.K f) fd x.ps (spG (p.C X.K) x.ps.length (p.fn G f)) := fun {f x} hf => by
    obtain ⟨t1, t2, t3, t4⟩ := g.fnT hf
    obtain ⟨fd, F⟩ := g.fd x.d (g.dmem_fn hf)
    rw [t2] at F
    refine ⟨fd, F, ?_⟩
    rw [fn_fun hf]
    exact fn_sound Wk F (scB_ok t3) t4
  have meG : ∀ {c m : Str} {x : Df}, p.mth c m = some x → ∃ fd, FunD X.K x.d.name x.d.qual x.d.params x.d.body x.d.scope (x.d.dvs X.K) (x.d.kws X.K) (He.ma X.K (He.ga X.K c) m) fd ∧ FnG X.prog X.w X.K X.mg X.base (L2.CX X.prog X.w) (k + 1) (He.ma X.K (He.ga X.K c) m) fd x.ps (spG (p.C X.K) x.ps.length (p.me G c m)) := fun {c m x} hm => by
    obtain ⟨kc, h1, h2⟩ := g.mth_own hm
    obtain ⟨t1, t2, t3⟩ := (g.ownT h1).2.1 m x h2
    obtain ⟨fd, F⟩ := g.fd x.d (g.dmem_me h1 h2)
    rw [t1] at F
    refine ⟨fd, F, ?_⟩
    rw [me_fun hm]
    exact fn_sound Wk F (scB_ok t2) t3
  have bnd : ∀ {c m : Str} {x : Df}, p.mth c m = some x → BndP x := fun {c m x} hm => by
    obtain ⟨kc, h1, h2⟩ := g.mth_own hm
    exact g.bm _ (lookup_in h1) _ (lookup_in h2)
  have mf : ∀ {c m : Str} {x : Df}, p.mth c m = some x → MF X (p.C X.K) { fn := p.fn G, me := p.me G, df := p.df, dm := p.dm, kw := p.kwOf, kwm := p.kwm, cm := p.cm, cme := p.cme G, kwcm := p.kwcm, gc := p.gc, xs := p.xs } c m (He.ga X.K c) (He.ma X.K (He.ga X.K c) m) x.ps.length := fun {c m x} hm => by
    obtain ⟨kc, h1, h2⟩ := g.mth_own hm
    obtain ⟨fd, F, Fg⟩ := meG hm
    refine ⟨g.own_i h1, g.cls h1, He.meth_ok ((g.okv.2.1 _ (lookup_in h1)).2.2.2.1 _ (lookup_in h2)), fun ws S hn => ?_, fd, x.ps, k + 1, Fg, hr, (bnd hm X.K _ fd F).1⟩
    have hn : p.me G c m ws S ≠ .no := hn
    rw [me_fun hm] at hn
    exact run_len hn
  have mk : ∀ {c : Str} {kc : Oc}, p.own.lookup c = some kc → Mk X.K (He.ga X.K c) (He.ma X.K (He.ga X.K c) "__init__") := fun {c kc} h => He.mkr_ok (g.okv.2.1 _ (lookup_in h)).2.2.1
  have mkq : ∀ {c : Str} {kc : Oc}, p.fns.lookup c = none → p.own.lookup c = some kc → ∀ ws S, p.fn G c ws S = mkF (p.me G c "__init__") c kc.fz ws S := fun {c kc} h0 h ws S => by
    unfold Pg.fn
    rw [h0, h]
  have nown : ∀ {c : Str}, p.fns.lookup c = none → p.mth c "__init__" = none → p.own.lookup c = none := fun {c} h0 h1 => by
    cases e : p.own.lookup c with
    | none => rfl
    | some kc =>
      obtain ⟨x, h2, _⟩ := (g.ownT e).2.2.2
      unfold Pg.mth at h1
      rw [e] at h1
      dsimp only at h1
      rw [show kc.ms.lookup ("__init__" : Str) = some x from h2] at h1
      cases h1
  have xl : ∀ {c : Str} {y : Xc}, p.fns.lookup c = none → p.own.lookup c = none → p.exs.lookup c = some (some y) → XlF X (p.C X.K) { fn := p.fn G, me := p.me G, df := p.df, dm := p.dm, kw := p.kwOf, kwm := p.kwm, cm := p.cm, cme := p.cme G, kwcm := p.kwcm, gc := p.gc, xs := p.xs } c (He.ga X.K c) y.fld := fun {c y} h0 h1 e => by
    obtain ⟨a1, a2, a3, a4⟩ := g.okv.2.2.2.1 _ (lookup_in e)
    have q := a4 y rfl
    unfold xcB at q
    simp only [Bool.and_eq_true] at q
    obtain ⟨q1, q2, q3, q4, q5⟩ := q
    obtain ⟨fd, F⟩ := g.fd y.d (g.dmem_ex e)
    rw [of_decide_eq_true q1] at F
    obtain ⟨t1, t2⟩ := (g.exT e).2 y rfl
    refine ⟨g.gl _ a1, (g.exT e).1, g.ex_x e, oexB_ok q4, fun ws S => ?_, _, 1, fd, y.N, of_decide_eq_true q2, of_decide_eq_true q3, hr.mono (by omega), g.bx _ (lookup_in e) y rfl _ fd F, ?_⟩
    · show p.fn G c ws S = _
      unfold Pg.fn
      rw [h0, h1]
      unfold Pg.xk
      rw [e]
    · cases hf : y.fld with
      | none => rw [hf] at t2; exact init0_ok g.oef F (scB_ok t1) t2
      | some f =>
        rw [hf] at t2 q5
        refine ⟨init1_ok g.oef F (scB_ok t1) t2, of_decide_eq_true q5, fun nm hk => ?_⟩
        have hk : (0, [nm], [0]) ∈ p.kwOf c := hk
        unfold Pg.kwOf at hk
        rw [h0, h1] at hk
        dsimp only at hk
        rw [e] at hk
        dsimp only at hk
        rw [hf] at hk
        cases ek : y.kw with
        | none => rw [ek] at hk; cases hk
        | some nm' =>
          rw [ek] at hk
          have e2 : nm = nm' := by simpa using hk
          subst e2
          exact g.bk _ (lookup_in e) y rfl nm ek _ fd F
  refine ⟨fun f ds hd => ?_, fun c m h => ?_, fun f n ks ix hd => ?_, fun c m n ks ix hd => ?_, fun c m h => ?_, fun x d h => ?_, fun c q h => ?_, fun c m A h hA hm => ?_⟩
  · have hd : ds ∈ p.df f := hd
    unfold Pg.df at hd
    cases hf : p.fns.lookup f with
    | some x =>
      rw [hf] at hd
      obtain ⟨fd, F, Fg⟩ := fnG hf
      obtain ⟨us, hb, hv⟩ := (g.bf _ (lookup_in hf) X.K _ fd F).2.1 ds hd
      refine .inl ⟨He.ga X.K f, x.ps.length, g.gl _ (g.okv.1 _ (lookup_in hf)), F.kp, (g.fnT hf).1, fun ws S hn => ?_, fd, x.ps, us, k + 1, Fg, hr, hb, hv⟩
      have hn : p.fn G f ws S ≠ .no := hn
      rw [fn_fun hf] at hn
      exact run_len hn
    | none =>
      rw [hf] at hd
      dsimp only at hd
      cases hm : p.mth f "__init__" with
      | none =>
        rw [hm] at hd
        dsimp only at hd
        cases hx : p.exs.lookup f with
        | none => unfold Pg.xk at hd; rw [hx] at hd; cases hd
        | some y =>
          cases y with
          | none => unfold Pg.xk at hd; rw [hx] at hd; cases hd
          | some y =>
            unfold Pg.xk at hd
            rw [hx] at hd
            have e0 : ds = [] := by simpa using hd
            exact .inr (.inr ⟨e0, _, _, xl hf (nown hf hm) hx⟩)
      | some x =>
        rw [hm] at hd
        obtain ⟨kc, h1, h2⟩ := g.mth_own hm
        obtain ⟨fd, F, Fg⟩ := meG hm
        obtain ⟨us, hb, hv⟩ := (bnd hm X.K _ fd F).2.1 ds hd
        refine .inr <| .inl ⟨He.ga X.K f, He.ma X.K (He.ga X.K f) "__init__", x.ps.length, g.gl _ (g.okv.2.1 _ (lookup_in h1)).1, g.own_i h1, mk h1, (g.ownT h1).1, fun ws S hn => ?_, ⟨kc.fz, mkq hf h1⟩, fd, x.ps, us, k + 1, Fg, hr, hb, hv⟩
        have hn : p.me G f "__init__" ws S ≠ .no := hn
        rw [me_fun hm] at hn
        exact run_len hn
  · have h : (p.mth c m).isSome = true ∨ ∃ ws S, p.me G c m ws S ≠ .no := h
    cases hm : p.mth c m with
    | some x => exact ⟨_, _, _, mf hm⟩
    | none =>
      rcases h with h | ⟨ws, S, h⟩
      · rw [hm] at h; cases h
      · unfold Pg.me at h; rw [hm] at h; exact absurd rfl h
  · have hd : (n, ks, ix) ∈ p.kwOf f := hd
    unfold Pg.kwOf at hd
    cases hf : p.fns.lookup f with
    | some x =>
      rw [hf] at hd
      obtain ⟨fd, F, Fg⟩ := fnG hf
      have hb := (g.bf _ (lookup_in hf) X.K _ fd F).2.2 _ hd
      refine .inl ⟨He.ga X.K f, x.ps.length, g.gl _ (g.okv.1 _ (lookup_in hf)), F.kp, (g.fnT hf).1, fun ws S hn => ?_, fd, x.ps, k + 1, Fg, hr, hb⟩
      have hn : p.fn G f ws S ≠ .no := hn
      rw [fn_fun hf] at hn
      exact run_len hn
    | none =>
      rw [hf] at hd
      dsimp only at hd
      cases ho : p.own.lookup f with
      | none =>
        rw [ho] at hd
        dsimp only at hd
        cases hx : p.exs.lookup f with
        | none => rw [hx] at hd; cases hd
        | some y =>
          cases y with
          | none => rw [hx] at hd; cases hd
          | some y =>
            have z := xl hf ho hx
            rw [hx] at hd
            dsimp only at hd
            cases hfl : y.fld with
            | none => rw [hfl] at hd; cases hd
            | some gf =>
              rw [hfl] at hd z
              cases ek : y.kw with
              | none => rw [ek] at hd; cases hd
              | some nm =>
                rw [ek] at hd
                have e0 : n = 0 ∧ ks = [nm] ∧ ix = [0] := by simpa using hd
                exact .inr (.inr ⟨_, gf, nm, e0, z⟩)
      | some kc =>
        rw [ho] at hd
        obtain ⟨x, h2, h3⟩ := (g.ownT ho).2.2.2
        have hm : p.mth f "__init__" = some x := by unfold Pg.mth; rw [ho]; exact h2
        obtain ⟨fd, F, Fg⟩ := meG hm
        have hb := (bnd hm X.K _ fd F).2.2 _ (h3 _ hd)
        refine .inr <| .inl ⟨He.ga X.K f, He.ma X.K (He.ga X.K f) "__init__", x.ps.length, g.gl _ (g.okv.2.1 _ (lookup_in ho)).1, g.own_i ho, mk ho, (g.ownT ho).1, fun ws S hn => ?_, ⟨kc.fz, mkq hf ho⟩, fd, x.ps, k + 1, Fg, hr, hb⟩
        have hn : p.me G f "__init__" ws S ≠ .no := hn
        rw [me_fun hm] at hn
        exact run_len hn
  · have hd : (n, ks, ix) ∈ p.kwm c m := hd
    unfold Pg.kwm at hd
    cases hm : p.mth c m with
    | none => rw [hm] at hd; cases hd
    | some x =>
      rw [hm] at hd
      obtain ⟨fd, F, Fg⟩ := meG hm
      exact ⟨_, _, _, mf hm, fd, x.ps, k + 1, Fg, hr, (bnd hm X.K _ fd F).2.2 _ (less_in hd)⟩
  · have h : (p.mcl c m).isSome = true ∨ ∃ e, e ∈ p.kwcm c m := h
    cases hm : p.mcl c m with
    | none =>
      rcases h with h | ⟨e, h⟩
      · rw [hm] at h; cases h
      · unfold Pg.kwcm at h; rw [hm] at h; cases h
    | some x =>
      obtain ⟨kc, h1, h2⟩ := g.mcl_own hm
      obtain ⟨fd, F⟩ := g.cmF h1 h2
      obtain ⟨t3, t4⟩ := g.cmT h1 h2
      obtain ⟨o1, o2⟩ := g.cmO h1 h2
      have Fg : FnG X.prog X.w X.K X.mg X.base (L2.CX X.prog X.w) (k + 1) (He5.wf X.K (He.ga X.K c) "classmethod" m) fd x.ps (spG (p.C X.K) x.ps.length (p.cme G c m)) := by
        rw [cme_fun hm]
        exact fn_sound Wk F (scB_ok t3) t4
      obtain ⟨b1, b2, b3⟩ := g.bc _ (lookup_in h1) _ (lookup_in h2) X.K _ fd F
      refine ⟨_, _, _, _, x.ps.length, g.own_i h1, g.gl _ (g.okv.2.1 _ (lookup_in h1)).1, (g.ownT h1).1, o1, o2, fun ws S hn => ?_, fd, x.ps, k + 1, Fg, hr, b1, fun ks ix hk => ?_⟩
      · have hn : p.cme G c m ws S ≠ .no := hn
        rw [cme_fun hm] at hn
        exact run_len hn
      · have hk : (ks, ix) ∈ p.kwcm c m := hk
        unfold Pg.kwcm at hk
        rw [hm] at hk
        obtain ⟨⟨n, e⟩, he, hq⟩ := List.mem_filterMap.mp hk
        dsimp only at hq
        split at hq
        · rename_i hn1
          cases hq
          have := b3 _ he
          rw [hn1] at this
          exact this
        · cases hq
  · have h : p.gc x = some d := h
    unfold Pg.gc at h
    have t := g.okc
    unfold okC at t
    rw [Bool.and_eq_true, Bool.and_eq_true] at t
    have t := t.2
    split at h
    · rename_i i e
      cases h
      have q := List.all_eq_true.mp t.1 _ (lookup_in e)
      unfold consB at q
      rw [Bool.and_eq_true] at q
      obtain ⟨tk, hm⟩ := g.gi _ _ q.2
      exact ⟨not_bool q.1, _, .int i, hm, ⟨tk, rfl⟩, fun F => by simp [Rep]⟩
    · rename_i z e
      cases h
      have q := List.all_eq_true.mp t.1 _ (lookup_in e)
      unfold consB at q
      rw [Bool.and_eq_true] at q
      obtain ⟨tk, hm⟩ := g.gs _ _ q.2
      exact ⟨not_bool q.1, _, .str z, hm, ⟨tk, rfl⟩, fun F => by simp [Rep]⟩
    · cases h
  · have h : p.xs c = some q := h
    unfold Pg.xs at h
    have t := g.okc
    unfold okC at t
    rw [Bool.and_eq_true] at t
    have t := t.1
    unfold okX at t
    rw [Bool.and_eq_true] at t
    obtain ⟨t1, t2⟩ := t
    split at h
    · rename_i hc
      have q2 := List.all_eq_true.mp t2 c hc
      rw [Bool.and_eq_true] at q2
      have t1 : ∀ x ∈ p.exs, xiB X.K (He.ga X.K x.1) = true := by
        rw [Bool.or_eq_true] at t1
        rcases t1 with t1 | t1
        · rw [List.isEmpty_iff] at t1; rw [t1] at hc; cases hc
        · exact fun x hx => List.all_eq_true.mp t1 x hx
      have xi : ∀ d A, (p.C X.K).x d = some A → ∃ y, (d, y) ∈ p.exs ∧ A = He.ga X.K d ∧ XiC X.K A := fun d A hA => by
        obtain ⟨y, e, rfl⟩ := g.x_ex hA
        have z := t1 _ (lookup_in e)
        unfold xiB at z
        simp only [Bool.and_eq_true] at z
        obtain ⟨z1, z2, z3, z4, z5⟩ := z
        have xf := xfB_ok (g.okv.2.2.2.1 _ (lookup_in e)).2.1
        exact ⟨y, lookup_in e, rfl, z1, xf.ga, xf.gg, xf.exC, of_decide_eq_true z2, of_decide_eq_true z3, of_decide_eq_true z4, of_decide_eq_true z5⟩
      split at h
      · rename_i ec
        cases h
        subst ec
        have q3 := q2.2
        rw [if_pos rfl, Bool.and_eq_true] at q3
        refine ⟨not_bool q2.1, .ty "ValueError", .type "ValueError", .ty _, .inr ⟨g.gf _ q3.1, by decide, by rfl, rfl⟩, fun d A hA => ?_⟩
        obtain ⟨y, hy, rfl, z⟩ := xi d A hA
        exact ⟨z, of_decide_eq_true (List.all_eq_true.mp q3.2 _ hy)⟩
      · rename_i ec
        cases h
        have q3 := q2.2
        rw [if_neg ec, Bool.and_eq_true] at q3
        obtain ⟨yc, e⟩ := Option.isSome_iff_exists.mp q3.1
        refine ⟨not_bool q2.1, .ref (He.ga X.K c), .ref (He.ga X.K c), .own _, .inl ⟨_, g.gl _ (g.okv.2.2.2.1 _ (lookup_in e)).1, rfl⟩, fun d A hA => ?_⟩
        obtain ⟨y, hy, rfl, z⟩ := xi d A hA
        exact ⟨z, of_decide_eq_true (List.all_eq_true.mp q3.2 _ hy)⟩
    · cases h
  · obtain ⟨ws, S, h⟩ := h
    have h : p.me G c m ws S ≠ .no := h
    cases hx : p.mth c m with
    | none => unfold Pg.me at h; rw [hx] at h; exact absurd rfl h
    | some x =>
      obtain ⟨kc, h1, h2⟩ := g.mth_own hx
      obtain ⟨_, _, rfl⟩ := g.i_own hA
      rcases (g.ownT h1).2.2.1 with ho | ho
      · exact opB_ok ((g.okv.2.1 _ (lookup_in h1)).2.2.2.2.2.2 ho)
      · have q := ho _ (lookup_in h2)
        dsimp only at q
        rcases hm with rfl | rfl | rfl | rfl | rfl | rfl <;> exact absurd q (by decide +kernel)
theorem wd_of (g : Fine p K mg) {k : Nat} (lo : 2 ≤ k) (T : ∀ X : Cx, X.prog = P → X.w = w → X.K = K → X.mg = mg → X.base = base → RoomG k X.A → Facts X (p.C K) G) : Wd P w K mg base p.wl p.sub p.xk (p.C K) G k := by
  refine
    { T := T
      Y := fun X hP hw hK hm hb hr => ?_
      ci := fun c A h => ?_
      N := g.isf
      nm := fun c A h => ?_
      sub := fun c A c' A' h h' => ?_
      xf := fun c A h => ?_
      bn := fun x hx => g.gf _ (g.okv.2.2.2.2.2.1 x hx)
      fl := fun f hf c A h => ?_
      ef := fun f hf c A h => ?_
      xn := fun c hc => ?_
      cn := fun c hc => ?_
      h := rfl }
  · subst hP hw hK hm hb
    refine ⟨fun c h => ?_, fun c f h => ?_⟩
    · unfold Pg.xk at h
      split at h
      · rename_i x e
        have hf : x.fld = none := Option.some.inj h
        obtain ⟨a1, a2, a3, a4⟩ := g.okv.2.2.2.1 _ (lookup_in e)
        have q := a4 x rfl
        unfold xcB at q
        simp only [Bool.and_eq_true] at q
        obtain ⟨q1, q2, q3, q4, q5⟩ := q
        obtain ⟨fd, F⟩ := g.fd x.d (g.dmem_ex e)
        rw [of_decide_eq_true q1] at F
        obtain ⟨t1, t2⟩ := (g.exT e).2 x rfl
        rw [hf] at t2
        exact ⟨_, _, 1, fd, x.N, g.ex_x e, oexB_ok q4, of_decide_eq_true q2, of_decide_eq_true q3, init0_ok g.oef F (scB_ok t1) t2, hr.mono (by omega), g.bx _ (lookup_in e) x rfl _ fd F⟩
      · cases h
    · unfold Pg.xk at h
      split at h
      · rename_i x e
        have hf : x.fld = some f := Option.some.inj h
        obtain ⟨a1, a2, a3, a4⟩ := g.okv.2.2.2.1 _ (lookup_in e)
        have q := a4 x rfl
        unfold xcB at q
        simp only [Bool.and_eq_true] at q
        obtain ⟨q1, q2, q3, q4, q5⟩ := q
        obtain ⟨fd, F⟩ := g.fd x.d (g.dmem_ex e)
        rw [of_decide_eq_true q1] at F
        obtain ⟨t1, t2⟩ := (g.exT e).2 x rfl
        rw [hf] at t2 q5
        exact ⟨_, _, 1, fd, x.N, g.ex_x e, oexB_ok q4, of_decide_eq_true q2, of_decide_eq_true q3, init1_ok g.oef F (scB_ok t1) t2, hr.mono (by omega), g.bx _ (lookup_in e) x rfl _ fd F, of_decide_eq_true q5⟩
      · cases h
  · obtain ⟨k, e, rfl⟩ := g.i_own h
    exact g.gl _ (g.okv.2.1 _ (lookup_in e)).1
  · obtain ⟨y, e, rfl⟩ := g.x_ex h
    exact ⟨g.gl _ (g.okv.2.2.2.1 _ (lookup_in e)).1, (g.exT e).1⟩
  · obtain ⟨y, e, rfl⟩ := g.x_ex h
    obtain ⟨y', e', rfl⟩ := g.x_ex h'
    exact g.okv.2.2.2.2.1 _ (lookup_in e) _ (lookup_in e')
  · obtain ⟨y, e, rfl⟩ := g.x_ex h
    exact xfB_ok (g.okv.2.2.2.1 _ (lookup_in e)).2.1
  · obtain ⟨k, e, rfl⟩ := g.i_own h
    exact ⟨g.cls e, He.noat_ok ((g.okv.2.1 _ (lookup_in e)).2.2.2.2.1 f hf)⟩
  · obtain ⟨y, e, rfl⟩ := g.x_ex h
    exact (g.okv.2.2.2.1 _ (lookup_in e)).2.2.1 f hf
  · have t := g.tab
    unfold tabB at t
    simp only [Bool.and_eq_true] at t
    have q := List.all_eq_true.mp t.2.2.2.1 c hc
    obtain ⟨y, e⟩ := Option.isSome_iff_exists.mp q
    exact ⟨_, g.ex_x e⟩
  · have t := g.tab
    unfold tabB at t
    simp only [Bool.and_eq_true] at t
    have q := List.all_eq_true.mp t.2.2.2.2 c hc
    obtain ⟨y, e⟩ := Option.isSome_iff_exists.mp q
    exact ⟨_, g.own_i e, g.gl _ (g.okv.2.1 _ (lookup_in e)).1⟩
/-- every level tells a world -/
theorem wd (g : Fine p K mg) : ∀ n, Wd P w K mg base p.wl p.sub p.xk (p.C K) (p.G n) (2 * n + 2)
  | 0 => wd_of g (by omega) fun _ _ _ _ _ _ _ => facts_hot
  | n + 1 => wd_of g (by omega) fun X hP hw hK hm hb hr => facts_up (k := 2 * n + 2) g (wd g n) X hP hw hK hm hb hr
end
end M
set_option Elab.async false
set_option linter.all false
set_option maxRecDepth 100000
set_option maxHeartbeats 4000000
namespace M
open PySem PySem.Spec PyProof.Rows L2
/-! ### the law's call -/
/-- the script alone is tracked -/
def scrH (a : Addr) (ob : Obj) (xs : List V) : Hp := fun b => if b = a then some (.frz ob (.lst xs)) else none
theorem scrH_at {a : Addr} {ob : Obj} {xs : List V} : scrH a ob xs a = some (.frz ob (.lst xs)) := if_pos rfl
theorem scrH_ne {a b : Addr} {ob : Obj} {xs : List V} (h : b ≠ a) : scrH a ob xs b = none := if_neg h
theorem scrH_of {a b : Addr} {ob : Obj} {xs : List V} {u : HO} (h : scrH a ob xs b = some u) : b = a ∧ u = .frz ob (.lst xs) := by
  by_cases e : b = a
  · subst e; rw [scrH_at] at h; cases h; exact ⟨rfl, rfl⟩
  · rw [scrH_ne e] at h; cases h
theorem fro_reps {C : Cl} {F : Hp} : ∀ ns : List Int, Reps C F (ns.map D.int) (ns.map V.int)
  | [] => Reps.nil
  | n :: ns => Reps.cons (by simp [Rep]) (fro_reps ns)
theorem callG {P : Program} {w : World} {K : PySem.W.Frag} {mg mb : Str → Option Value} {k : Nat} {fa a : Addr} {fd : FuncData} {x : Str} {s : Shared} {vs : List Value} {ns : List Int} {C : Cl} {g : List W → Sto → Rs W}
    (KX : K.In s.heap) (hns : s.heap.Ns mainGlobals mg) (hbn : s.heap.Ns builtinsNs mb) (hbb : ∀ y : Str, y ≠ "__name__" → mb y = bootBuiltins y) (hlim : s.heap.NoLimit) (hgen : s.gens = #[])
    (ha : s.heap.get? a = some { cls := .type "list", data := .seq vs.toArray }) (hi : IntsAre vs ns) (hl : ns.length ≤ sizeLine) (hr : RoomG k callerA) (hk : K.lookup a = none) (hC : C.e = fun _ => none)
    (F : ∀ base : Heap, FnG P w K mg base (L2.CX P w) k fa fd [x] (spG C 1 g)) (hbind : ∀ u : Value, BindsTo s fd ⟨[u], []⟩ [(x, u)]) (hlaw : ∃ S, g [.p (.fro (ns.map .int))] [] = .ok (bl true) S) :
    codeAny (model P w) callerA (.call (.ref fa) ⟨[.ref a], []⟩) (fun r s' => r = .ok (.ret (.bool true)) ∧ OldK s.heap s'.heap ∧ s'.os = s.os ∧ AllBare s'.gens) s := by
  obtain ⟨ob, eob⟩ : ∃ ob : Obj, ob = { cls := .type "list", data := .seq vs.toArray } := ⟨_, rfl⟩
  obtain ⟨H, eH⟩ : ∃ H : Hp, H = scrH a ob (ns.map V.int) := ⟨_, rfl⟩
  have rv := L2.vals_ints hi
  have hat : H a = some (.frz ob (.lst (ns.map V.int))) := by rw [eH]; exact scrH_at
  have hok : HOk P w H s.heap := fun b u e => by
    rw [eH] at e
    obtain ⟨rfl, rfl⟩ := scrH_of e
    rw [← eob] at ha
    exact ⟨ha, by rw [List.length_map]; exact hl, vs, _, rv, by rw [ha, eob]⟩
  have low : ∀ {b : Addr} {o : Obj} {es : Array DictEntry} {ep : Nat}, s.heap.get? b = some o → o.data = .dict es ep → H b = none := fun {b o es ep} e dd => by
    cases q : H b with
    | none => rfl
    | some u =>
      rw [eH] at q
      obtain ⟨rfl, _⟩ := scrH_of q
      rw [ha] at e
      cases e
      have z : Data.seq vs.toArray _ = Data.dict es ep := dd
      cases z
  have hid : ∀ {b : Addr} {m : Str → Option Value}, s.heap.Ns b m → (hidT s.heap H).Ns b m := fun {b m} q => by
    obtain ⟨o, es, ep, e, dd, r⟩ := q
    exact ⟨o, es, ep, hidT_get e (low e dd), dd, r⟩
  have hKb : K.In (hidT s.heap H) := fun b o e => by
    refine hidT_get (KX b o e) ?_
    cases q : H b with
    | none => rfl
    | some u =>
      rw [eH] at q
      obtain ⟨rfl, _⟩ := scrH_of q
      rw [hk] at e
      cases e
  obtain ⟨mc, m1, m2⟩ := hlim
  have e0 : Env0 P w K mg (hidT s.heap H) callerA [] s H := {
    frames := rfl
    mod := ⟨hKb, hid hns, ⟨mb, hid hbn, hbb⟩, mc, hid m1, m2⟩
    bs := fun b o e => of_hidT e
    bsz := Nat.le_of_eq (hidT_size _ _)
    funs := trivial
    frf := fun b hb => by cases hb
    hok := hok
    bare := .of_eq hgen }
  obtain ⟨S, hS⟩ := hlaw
  have sp : spG C 1 g [.ref a] H (fun v _ => v = .bl true) fun _ _ _ => False := by
    refine ⟨rfl, [], H, [], [.p (.fro (ns.map .int))], ⟨fun b o e => .inl e, rfl, List.nodup_nil, fun n sl b e => (by simp at e), fun b hb => (by cases hb), fun b o e => (by rw [hC] at e; cases e)⟩, .cons ?_ .nil, ?_⟩
    · show Rep C H (.fro (ns.map .int)) (.ref a)
      unfold Rep
      exact ⟨a, ns.map V.int, ob, rfl, hat, fro_reps ns⟩
    · rw [hS]
      exact fun v φ' F' H' _ _ r => by
        have r : Rep C F' (.bl true) v := r
        simpa [Rep] using r
  refine codeAny_mono ((F (hidT s.heap H)).run callerA [] s H ⟨[.ref a], []⟩ [.ref a] [.ref a] _ _ hr e0 (hbind (.ref a)) (.cons rfl .nil) sp) fun r s' h => ?_
  cases r with
  | error e => exact (cx_false h).elim
  | ok fl =>
    cases fl with
    | next => exact False.elim h
    | brk => exact False.elim h
    | cont => exact False.elim h
    | ret u =>
      obtain ⟨v, H', hos, bare, un, hok', rvu, q⟩ := h
      have q : v = .bl true := q
      subst q
      have eu : u = Value.bool true := rvu
      subst eu
      refine ⟨rfl, OldK.of_keep fun b o e => ?_, hos, bare⟩
      cases q : H b with
      | none => exact un.keep b o e q (fun z => by cases z) (fun z => by cases z)
      | some u =>
        have q2 := q
        rw [eH] at q2
        obtain ⟨rfl, rfl⟩ := scrH_of q2
        obtain ⟨e1, _⟩ := hok b _ q
        obtain ⟨e2, _⟩ := hok' b _ (un.frzs b ob _ q)
        rw [e] at e1
        cases e1
        exact e2
/-! ### the head's look -/
def obsP (p : Pg) (K : PySem.W.Frag) : (He.AlD × Bool) × (He.AlD × Bool) := ((He.obsD [] p.defs K, okP p K), (He5.obsA [] p.defsA K, okC p K))
def valP (p : Pg) : (He.AlD × Bool) × (He.AlD × Bool) := ((He.valD p.defs, true), (He5.valA p.defsA, true))
def hookP (n : Nat) (p : Pg) : PySem.W.Hook where
  α := (He.AlD × Bool) × (He.AlD × Bool)
  obs := fun s => obsP p (He.frG s.heap.get? (cStatics :: He.asD s.heap.get? n))
  val := fun _ => valP p
  says := fun _ h => ∃ K : PySem.W.Frag, K.In h ∧ obsP p K = valP p
  of := fun _ _ e => ⟨_, He.frG_in, e⟩
  keeps := fun _ _ _ ⟨K, hK, c⟩ k => ⟨K, PySem.W.Frag.In.keeps hK k, c⟩
def obP (n : Nat) (p : Pg) (s : PySem.W.SharedT) : (He.AlD × Bool) × (He.AlD × Bool) := obsP p (He.frG (HandSHeadRun.getT s) (cStatics :: He.asD (HandSHeadRun.getT s) n))
theorem obP_eq {n : Nat} {p : Pg} (s : PySem.W.SharedT) : obP n p s = (hookP n p).obs s.abs := by
  have e : HandSHeadRun.getT s = s.abs.heap.get? := funext fun a => HandSHeadRun.getT_eq s a
  unfold obP
  rw [e]
  rfl
/-- what the table's text must tell besides -/
structure PgOk (p : Pg) : Prop where
  tab : tabB p = true
  tabc : tabC p = true
  bf : ∀ x ∈ p.fns, BndP x.2
  bm : ∀ k ∈ p.own, ∀ m ∈ k.2.ms, BndP m.2
  bc : ∀ k ∈ p.own, ∀ m ∈ k.2.cms, BndP m.2
  bk : ∀ x ∈ p.exs, ∀ y, x.2 = some y → ∀ nm, y.kw = some nm → ∀ K f fd, FunD K y.d.name y.d.qual y.d.params y.d.body y.d.scope (y.d.dvs K) (y.d.kws K) f fd → KB K fd y.N 1 [nm] [0, 1]
  bx : ∀ x ∈ p.exs, ∀ y, x.2 = some y → ∀ K f fd, FunD K y.d.name y.d.qual y.d.params y.d.body y.d.scope (y.d.dvs K) (y.d.kws K) f fd → Binds K fd y.N []
theorem fine_of {p : Pg} {K : PySem.W.Frag} {h : Heap} {mg : Str → Option Value} (T : PgOk p) (KX : K.In h) (G : h.Ns mainGlobals mg) (c : obsP p K = valP p) : Fine p K mg := by
  have c1 : He.SaysD [] p.defs K := congrArg (fun z : (He.AlD × Bool) × (He.AlD × Bool) => z.1.1) c
  have c2 : He5.SaysA [] p.defsA K := congrArg (fun z : (He.AlD × Bool) × (He.AlD × Bool) => z.2.1) c
  refine ⟨T.tab, congrArg (fun z : (He.AlD × Bool) × (He.AlD × Bool) => z.1.2) c, T.tabc, congrArg (fun z : (He.AlD × Bool) × (He.AlD × Bool) => z.2.2) c, fun d hd => ?_, T.bc, fun x i hx => He.int_ok KX G hx, fun x z hx => He.str_ok KX G hx, fun d hd => ?_, T.bf, T.bm, fun x hx y hy nm e => T.bk x hx y hy nm e K, fun x hx y hy => T.bx x hx y hy K, fun x hx => He.glo_ok KX G hx, fun x hx => He.free_ok KX G hx⟩
  · obtain ⟨i, hi, e⟩ := List.mem_iff_getElem.mp hd
    exact c2.def_ i (by rw [List.getElem?_eq_getElem hi, e])
  · obtain ⟨i, hi, e⟩ := List.mem_iff_getElem.mp hd
    exact c1.def_ i (by rw [List.getElem?_eq_getElem hi, e])
theorem walkP {l : PySem.W.OpenLaw} {n k m : Nat} {q : Program} {loose : List Str} {XP : (Str → Option Value) → Heap → Prop} {d : DefRec} {p : Pg} {x : Df} {z : Str}
    (hn : l.most = some n) (hn2 : n ≤ sizeLine) (hdf : d.params.defaults = []) (hr : RoomG (2 * m + 3) callerA) (T : PgOk p) (hname : d.name = "law") (hx : p.fns.lookup ("law" : Str) = some x) (hps : x.ps = [z])
    (law : ∀ ns : List Int, ns.length ≤ n → ∃ S, p.run (p.G m) x [.p (.fro (ns.map .int))] [] = .ok (bl true) S) :
    PySem.W.WalkO q loose XP (hookP k p).says l.row.toRowW d [] (fun f vs => PySem.call f vs) := by
  refine Att.attach_call hn hdf fun w s₀ s₁ mg mb fa o pm cd doc a vs ns G Y ho hd hcd hmg hobj hints hlen hg => ?_
  obtain ⟨K, KX, c⟩ := Y
  have g := fine_of T KX G.T.g c
  rw [hname] at hmg
  have e := hmg.symm.trans (g.gl _ (g.okv.1 _ (lookup_in hx)))
  cases e
  obtain ⟨t1, t2, t3, t4⟩ := g.fnT hx
  obtain ⟨fd, F⟩ := g.fd x.d (g.dmem_fn hx)
  rw [t2] at F
  have hkn : K.lookup a = none := by
    cases q : K.lookup a with
    | none => rfl
    | some ob =>
      have e1 := KX a ob q
      rw [hobj] at e1
      cases e1
      have e2 := g.okv.2.2.2.2.2.2.2 _ (lookup_in q)
      dsimp only at e2
      exact absurd e2 (by decide +kernel)
  have Fg : ∀ base : Heap, FnG l.prog w K mg base (L2.CX l.prog w) (2 * m + 3) (He.ga K "law") fd [z] (spG (p.C K) 1 (p.run (p.G m) x)) := fun base => by
    have := fn_sound (wd (P := l.prog) (w := w) (base := base) g m) F (scB_ok t3) t4
    have e : p.run (p.G m) x = bodyF x.ps.length x.N.length (evB p.sub p.xk x.q (p.G m)) := rfl
    rw [e]
    rw [hps] at this ⊢
    exact this
  have hb := (g.bf _ (lookup_in hx) K _ fd F).1
  rw [hps] at hb
  exact callG KX G.T.g G.T.b G.T.builtins G.T.nolimit hg hobj hints (Nat.le_trans hlen hn2) hr hkn rfl Fg (fun u => by simpa using hb s₁ [u] KX rfl) (law ns hlen)
end M
set_option Elab.async false
set_option linter.all false
set_option maxRecDepth 100000
set_option maxHeartbeats 4000000
namespace M
open PySem PySem.Spec PyProof.Rows L2
/-! ### how defs bind, from their texts -/
theorem all0 {α : Type} {Q : α → Prop} : ∀ x ∈ ([] : List α), Q x := fun x h => by cases h
theorem all1 {α : Type} {Q : α → Prop} {a : α} {l : List α} (h : Q a) (t : ∀ x ∈ l, Q x) : ∀ x ∈ a :: l, Q x := fun x hx => by
  rcases List.mem_cons.mp hx with e | e
  · rw [e]; exact h
  · exact t x e
section
variable {K : PySem.W.Frag} {x qual : Str} {params : Arguments} {body : List Stmt} {scope : Scope} {dvs : List V} {kws : List (Str × V)} {f : Addr} {fd : FuncData} {ps ks : List Str} {n : Nat} {ix : List Nat}
theorem kb0 (F : FunD K x qual params body scope [] kws f fd) (h : ∀ (kV doc pm : Value) (an : Option Addr) (cdv ct : Value) (us ws zs : List Value), us.length = n → ws.length = ks.length → ix.mapM (fun j => (us ++ ws)[j]?) = some zs →
    bindArgs (PySem.W.fnOf x qual params body scope .none kV doc pm an cdv ct) ⟨us, ks.zip ws⟩ = pure (ps.zip zs)) : KB K fd ps n ks ix := by
  obtain ⟨oc, od, dV, kV, doc, pm, an, cdv, ct, osl, rfl, lk, hcd, hD, hK⟩ := F.ex
  rcases hD with ⟨_, rfl⟩ | ⟨e, _⟩
  · exact fun s us ws zs X l1 l2 e => .of_eq (h kV doc pm an cdv ct us ws zs l1 l2 e)
  · exact absurd rfl e
theorem kb1 (F : FunD K x qual params body scope dvs kws f fd) (hd : dvs ≠ []) (h : ∀ (T : Addr) (kV doc pm : Value) (an : Option Addr) (cdv ct : Value) (us ws zs its : List Value), us.length = n → ws.length = ks.length → its.length = dvs.length → ix.mapM (fun j => (us ++ ws)[j]?) = some zs →
    ∃ k, bindArgs (PySem.W.fnOf x qual params body scope (.ref T) kV doc pm an cdv ct) ⟨us, ks.zip ws⟩ = seqItems? (.ref T) >>= k ∧ k (some its.toArray) = pure (ps.zip zs)) : KB K fd ps n ks ix := by
  obtain ⟨oc, od, dV, kV, doc, pm, an, cdv, ct, osl, rfl, lk, hcd, hD, hK⟩ := F.ex
  rcases hD with ⟨e, _⟩ | ⟨_, T, o, its, m, rfl, lT, oT, rT⟩
  · exact absurd e hd
  · intro s us ws zs X l1 l2 e
    obtain ⟨k, e1, e2⟩ := h T kV doc pm an cdv ct us ws zs its l1 l2 rT.length.symm e
    refine BindsTo.of_looks fun M => ?_
    rw [e1]
    exact looks_items X lT oT (by rw [e2]; exact .now)
/-- with defaults: all given -/
theorem bd_all (F : FunD K x qual params body scope dvs kws f fd) (hd : dvs ≠ []) (h : ∀ (T : Addr) (kV doc pm : Value) (an : Option Addr) (cdv ct : Value) (us its : List Value), us.length = ps.length → its.length = dvs.length →
      ∃ k, bindArgs (PySem.W.fnOf x qual params body scope (.ref T) kV doc pm an cdv ct) ⟨us, []⟩ = seqItems? (.ref T) >>= k ∧ k (some its.toArray) = pure (ps.zip us)) : Binds K fd ps [] := by
  obtain ⟨ds, h1, h2⟩ := F.binds1 (ps := ps) ps.length dvs.length hd (by simp) fun T kV doc pm an cdv ct us its l1 l2 => by
    obtain ⟨k, e1, e2⟩ := h T kV doc pm an cdv ct us its l1 l2
    exact ⟨k, e1, by rw [e2, ← l2, List.drop_length, List.append_nil]⟩
  rw [List.drop_length] at h1
  cases h1
  exact h2
theorem bd_none (b : Binds K fd ps []) : ∀ ds ∈ ([[]] : List (List Int)), ∃ us, Binds K fd ps us ∧ Vals (ds.map V.int) us := all1 ⟨[], b, .nil⟩ all0
end
end M
set_option linter.all false
namespace FR
open PySem M
def b_is_integer : B := (.seq (.ret (.and (.isi (.var 0) .int) (.no (.isi (.var 0) .bool)))) .nil)
def b_divisor_of : B := (.seq (.whl (.cmp .NotEq (.var 1) (.cst (.int 0))) (.seq (.par 0 1 (.cons (.var 1) (.cons (.bin .Mod (.var 0) (.var 1)) .nil))) .nil)) (.seq (.ret (.bf .abs (.cons (.var 0) .nil))) .nil))
def b_parts : B := (.seq (.ife (.call "is_integer" (.cons (.var 0) .nil) []) (.seq (.ret (.tup (.cons (.var 0) (.cons (.cst (.int 1)) .nil)))) .nil) .nil) (.seq (.ret (.ite (.isi (.var 0) (.own "Ratio")) (.tup (.cons (.fld (.var 0) "top") (.cons (.fld (.var 0) "bottom") .nil))) (.cst .none))) .nil))
def b_checked : B := (.seq (.set 1 (.call "parts" (.cons (.var 0) .nil) [])) (.seq (.ife (.cmp .Is (.var 1) (.cst .none)) (.seq (.rse1 "BadNumber" (.var 0)) .nil) .nil) (.seq (.ret (.var 1)) .nil)))
def b_Ratio___init__ : B := (.seq (.ife (.cmp .Eq (.var 2) (.cst (.int 0))) (.seq (.rse0 "ByZero") .nil) .nil) (.seq (.set 3 (.ite (.cmp .Gt (.var 2) (.cst (.int 0))) (.call "divisor_of" (.cons (.var 1) (.cons (.var 2) .nil)) []) (.neg (.call "divisor_of" (.cons (.var 1) (.cons (.var 2) .nil)) [])))) (.seq (.fld (.var 0) "top" (.bin .FloorDiv (.var 1) (.var 3))) (.seq (.fld (.var 0) "bottom" (.bin .FloorDiv (.var 2) (.var 3))) .nil))))
def b_Ratio___add__ : B := (.seq (.unp [2, 3] (.call "checked" (.cons (.var 1) .nil) [])) (.seq (.ret (.call "Ratio" (.cons (.bin .Add (.bin .Mult (.fld (.var 0) "top") (.var 3)) (.bin .Mult (.var 2) (.fld (.var 0) "bottom"))) (.cons (.bin .Mult (.fld (.var 0) "bottom") (.var 3)) .nil)) [])) .nil))
def b_Ratio___sub__ : B := (.seq (.unp [2, 3] (.call "checked" (.cons (.var 1) .nil) [])) (.seq (.ret (.call "Ratio" (.cons (.bin .Sub (.bin .Mult (.fld (.var 0) "top") (.var 3)) (.bin .Mult (.var 2) (.fld (.var 0) "bottom"))) (.cons (.bin .Mult (.fld (.var 0) "bottom") (.var 3)) .nil)) [])) .nil))
def b_Ratio___mul__ : B := (.seq (.unp [2, 3] (.call "checked" (.cons (.var 1) .nil) [])) (.seq (.ret (.call "Ratio" (.cons (.bin .Mult (.fld (.var 0) "top") (.var 2)) (.cons (.bin .Mult (.fld (.var 0) "bottom") (.var 3)) .nil)) [])) .nil))
def b_Ratio___neg__ : B := (.seq (.ret (.call "Ratio" (.cons (.neg (.fld (.var 0) "top")) (.cons (.fld (.var 0) "bottom") .nil)) [])) .nil)
def b_Ratio___eq__ : B := (.seq (.ret (.cmp .Eq (.call "parts" (.cons (.var 1) .nil) []) (.tup (.cons (.fld (.var 0) "top") (.cons (.fld (.var 0) "bottom") .nil))))) .nil)
def b_Ratio___lt__ : B := (.seq (.unp [2, 3] (.call "checked" (.cons (.var 1) .nil) [])) (.seq (.ret (.cmp .Lt (.bin .Mult (.fld (.var 0) "top") (.var 3)) (.bin .Mult (.var 2) (.fld (.var 0) "bottom")))) .nil))
def b_Ratio___le__ : B := (.seq (.unp [2, 3] (.call "checked" (.cons (.var 1) .nil) [])) (.seq (.ret (.cmp .LtE (.bin .Mult (.fld (.var 0) "top") (.var 3)) (.bin .Mult (.var 2) (.fld (.var 0) "bottom")))) .nil))
def b_Ratio_over : B := (.seq (.unp [2, 3] (.call "checked" (.cons (.var 1) .nil) [])) (.seq (.ret (.call "Ratio" (.cons (.bin .Mult (.fld (.var 0) "top") (.var 3)) (.cons (.bin .Mult (.fld (.var 0) "bottom") (.var 2)) .nil)) [])) .nil))
def b_Ratio_text : B := (.seq (.ret (.ite (.cmp .Eq (.fld (.var 0) "bottom") (.cst (.int 1))) (.bf .str (.cons (.fld (.var 0) "top") .nil)) (.fstr (.cons (.fmt (.fld (.var 0) "top")) (.cons (.cst (.str "/")) (.cons (.fmt (.fld (.var 0) "bottom")) .nil)))))) .nil)
def b_as_ratio : B := (.seq (.unp [1, 2] (.call "checked" (.cons (.var 0) .nil) [])) (.seq (.ret (.call "Ratio" (.cons (.var 1) (.cons (.var 2) .nil)) [])) .nil))
def b_lesser : B := (.seq (.ret (.ite (.cmp .Lt (.call "as_ratio" (.cons (.var 0) .nil) []) (.var 1)) (.call "as_ratio" (.cons (.var 0) .nil) []) (.call "as_ratio" (.cons (.var 1) .nil) []))) .nil)
def b_greater : B := (.seq (.ret (.ite (.cmp .Lt (.call "as_ratio" (.cons (.var 0) .nil) []) (.var 1)) (.call "as_ratio" (.cons (.var 1) .nil) []) (.call "as_ratio" (.cons (.var 0) .nil) []))) .nil)
def b_total : B := (.seq (.set 1 (.call "Ratio" (.cons (.cst (.int 0)) .nil) [1])) (.seq (.fori (.one 2) (.var 0) (.seq (.set 1 (.bin .Add (.var 1) (.var 2))) .nil)) (.seq (.ret (.var 1)) .nil)))
def b_raised : B := (.seq (.set 2 (.call "Ratio" (.cons (.cst (.int 1)) .nil) [1])) (.seq (.fori (.one 3) (.rng (.cons (.var 1) .nil)) (.seq (.set 2 (.bin .Mult (.var 2) (.var 0))) .nil)) (.seq (.ret (.var 2)) .nil)))
def b__law_cell : B := (.seq (.ret (.ite (.cmp .Lt (.var 1) (.bf .len (.cons (.var 0) .nil))) (.idx (.var 0) (.var 1)) (.cst (.int 0)))) .nil)
def b__law_box : B := (.seq (.ret (.lst (.cons (.bf .abs (.cons (.bf .int (.cons (.call "_law_cell" (.cons (.var 0) (.cons (.var 1) .nil)) []) .nil)) .nil)) (.cons (.cst (.int 0)) (.cons (.bin .Add (.bin .Mult (.cst (.int 40503)) (.var 1)) (.cst (.int 911))) .nil))) true)) .nil)
def b__law_take : B := (.seq (.ife (.cmp .GtE (.idx (.var 0) (.cst (.int 0))) (.bin .Pow (.cst (.int 10)) (.cst (.int 18)))) (.seq (.set 3 (.bin .Mod (.bf .int (.cons (.idx (.var 0) (.cst (.int 0))) .nil)) (.var 1))) (.seq (.put (.var 0) (.cst (.int 0)) (.bin .FloorDiv (.idx (.var 0) (.cst (.int 0))) (.var 1))) (.seq (.ret (.var 3)) .nil))) .nil) (.seq (.put (.var 0) (.cst (.int 1)) (.bin .Add (.idx (.var 0) (.cst (.int 1))) (.cst (.int 1)))) (.seq (.set 2 (.bin .Mod (.bin .Pow (.bf .int (.cons (.bin .Add (.bin .Add (.bin .Mult (.bin .Add (.idx (.var 0) (.cst (.int 0))) (.cst (.int 7))) (.cst (.int 69069))) (.bin .Mult (.idx (.var 0) (.cst (.int 1))) (.cst (.int 40692)))) (.idx (.var 0) (.cst (.int 2)))) .nil)) (.cst (.int 3))) (.cst (.int 2147483647)))) (.seq (.set 2 (.bin .Mod (.bin .Pow (.bf .int (.cons (.bin .Add (.var 2) (.bin .Mult (.idx (.var 0) (.cst (.int 1))) (.cst (.int 17389)))) .nil)) (.cst (.int 3))) (.cst (.int 2147483399)))) (.seq (.ret (.bin .Mod (.bf .int (.cons (.bin .FloorDiv (.var 2) (.cst (.int 64))) .nil)) (.var 1))) .nil)))))
def b__law_frac : B := (.seq (.par 2 3 (.cons (.bf .abs (.cons (.var 0) .nil)) (.cons (.bf .abs (.cons (.var 1) .nil)) .nil))) (.seq (.whl (.cmp .Gt (.var 3) (.cst (.int 0))) (.seq (.par 2 3 (.cons (.var 3) (.cons (.bin .Mod (.var 2) (.var 3)) .nil))) .nil)) (.seq (.ife (.cmp .Lt (.var 1) (.cst (.int 0))) (.seq (.set 2 (.bin .Sub (.cst (.int 0)) (.var 2))) .nil) .nil) (.seq (.ret (.tup (.cons (.bin .FloorDiv (.var 0) (.var 2)) (.cons (.bin .FloorDiv (.var 1) (.var 2)) .nil)))) .nil))))
def b_integer_of : B := (.seq (.set 1 (.ite (.cmp .Eq (.slc (.var 0) .omit (.prt (.cst (.int 1)))) (.cst (.str "-"))) (.slc (.var 0) (.prt (.cst (.int 1))) .omit) (.var 0))) (.seq (.ife (.or (.no (.cmp2 .LtE .LtE (.cst (.int 1)) (.bf .len (.cons (.var 1) .nil)) (.cst (.int 4000)))) (.no (.bf .all (.cons (.comp (.cmp .In (.var 2) (.cst (.str "0123456789"))) [("char", 2)] (.one 2) (.var 1) .omit) .nil)))) (.seq (.ret (.cst .none)) .nil) .nil) (.seq (.ret (.ite (.cmp .Eq (.bf .str (.cons (.bf .int (.cons (.var 0) .nil)) .nil)) (.var 0)) (.bf .int (.cons (.var 0) .nil)) (.cst .none))) .nil)))
end FR
set_option Elab.async false
set_option linter.all false
set_option maxRecDepth 100000
set_option maxHeartbeats 4000000
namespace K01
open PySem PySem.Spec PyProof.Rows L2 M
def top (i : Nat) : Stmt := PySem.Challenge.pw_fairbatches_k01_errors.main.body.getD i (.Pass ⟨0, 0, 0, 0⟩)
def d__law_cell : He.DefD := ⟨("_law_cell", none), "_law_cell", "_law_cell", defArgs (top 25), defBody (top 25), defScope (top 25), [], []⟩
def x__law_cell : Df := { d := d__law_cell, N := ["_law_script", "_law_k"], ps := ["_law_script", "_law_k"], q := FR.b__law_cell, dfs := [[]], kws := [] }
theorem bb__law_cell {K : PySem.W.Frag} {f : Addr} {fd : FuncData} (F : FunD K x__law_cell.d.name x__law_cell.d.qual x__law_cell.d.params x__law_cell.d.body x__law_cell.d.scope (x__law_cell.d.dvs K) (x__law_cell.d.kws K) f fd) : Binds K fd x__law_cell.ps [] := F.bindsN fun _ _ _ _ _ _ us hl => match us, hl with | [_, _], _ => rfl
theorem bn__law_cell : BndP x__law_cell := fun K f fd F => ⟨bb__law_cell F, bd_none (bb__law_cell F), all0⟩
def d__law_box : He.DefD := ⟨("_law_box", none), "_law_box", "_law_box", defArgs (top 26), defBody (top 26), defScope (top 26), [], []⟩
def x__law_box : Df := { d := d__law_box, N := ["_law_script", "_law_k"], ps := ["_law_script", "_law_k"], q := FR.b__law_box, dfs := [[]], kws := [] }
theorem bb__law_box {K : PySem.W.Frag} {f : Addr} {fd : FuncData} (F : FunD K x__law_box.d.name x__law_box.d.qual x__law_box.d.params x__law_box.d.body x__law_box.d.scope (x__law_box.d.dvs K) (x__law_box.d.kws K) f fd) : Binds K fd x__law_box.ps [] := F.bindsN fun _ _ _ _ _ _ us hl => match us, hl with | [_, _], _ => rfl
theorem bn__law_box : BndP x__law_box := fun K f fd F => ⟨bb__law_box F, bd_none (bb__law_box F), all0⟩
def d__law_take : He.DefD := ⟨("_law_take", none), "_law_take", "_law_take", defArgs (top 27), defBody (top 27), defScope (top 27), [], []⟩
def x__law_take : Df := { d := d__law_take, N := ["_law_box_here", "_law_many", "_law_mixed", "_law_digit"], ps := ["_law_box_here", "_law_many"], q := FR.b__law_take, dfs := [[]], kws := [] }
theorem bb__law_take {K : PySem.W.Frag} {f : Addr} {fd : FuncData} (F : FunD K x__law_take.d.name x__law_take.d.qual x__law_take.d.params x__law_take.d.body x__law_take.d.scope (x__law_take.d.dvs K) (x__law_take.d.kws K) f fd) : Binds K fd x__law_take.ps [] := F.bindsN fun _ _ _ _ _ _ us hl => match us, hl with | [_, _], _ => rfl
theorem bn__law_take : BndP x__law_take := fun K f fd F => ⟨bb__law_take F, bd_none (bb__law_take F), all0⟩
def b__law_same : B := (.seq (.ret (.and (.cmp .Eq (.bf .repr (.cons (.var 0) .nil)) (.bf .repr (.cons (.var 1) .nil))) (.cmp .Eq (.isi (.var 0) .bool) (.isi (.var 1) .bool)))) .nil)
def d__law_same : He.DefD := ⟨("_law_same", none), "_law_same", "_law_same", defArgs (top 28), defBody (top 28), defScope (top 28), [], []⟩
def x__law_same : Df := { d := d__law_same, N := ["_law_one", "_law_other"], ps := ["_law_one", "_law_other"], q := b__law_same, dfs := [[]], kws := [] }
theorem bb__law_same {K : PySem.W.Frag} {f : Addr} {fd : FuncData} (F : FunD K x__law_same.d.name x__law_same.d.qual x__law_same.d.params x__law_same.d.body x__law_same.d.scope (x__law_same.d.dvs K) (x__law_same.d.kws K) f fd) : Binds K fd x__law_same.ps [] := F.bindsN fun _ _ _ _ _ _ us hl => match us, hl with | [_, _], _ => rfl
theorem bn__law_same : BndP x__law_same := fun K f fd F => ⟨bb__law_same F, bd_none (bb__law_same F), all0⟩
def b__law_kinds : B := (.seq (.set 1 (.lst (.cons (.isx (.var 0) "BadNumber") (.cons (.isx (.var 0) "BadName") (.cons (.isx (.var 0) "BadWeight") .nil))) false)) (.seq (.set 1 (.bin .Add (.var 1) (.lst (.cons (.isx (.var 0) "BadShare") (.cons (.isx (.var 0) "BadRow") (.cons (.isx (.var 0) "BadOrder") .nil))) false))) (.seq (.set 1 (.bin .Add (.var 1) (.lst (.cons (.isx (.var 0) "BadCount") (.cons (.isx (.var 0) "BadRing") (.cons (.isx (.var 0) "BadDelay") .nil))) false))) (.seq (.set 1 (.bin .Add (.var 1) (.lst (.cons (.isx (.var 0) "BadTimes") (.cons (.isx (.var 0) "BadWish") (.cons (.isx (.var 0) "NoRecorder") .nil))) false))) (.seq (.set 1 (.bin .Add (.var 1) (.lst (.cons (.isx (.var 0) "NoThing") (.cons (.isx (.var 0) "InUse") (.cons (.isx (.var 0) "ByZero") .nil))) false))) (.seq (.set 1 (.bin .Add (.var 1) (.lst (.cons (.isx (.var 0) "BadText") (.cons (.isx (.var 0) "NoWay") (.cons (.isx (.var 0) "LastOne") .nil))) false))) (.seq (.set 1 (.bin .Add (.var 1) (.lst (.cons (.isx (.var 0) "UnlikeRecords") (.cons (.isx (.var 0) "NothingToUndo") (.cons (.isx (.var 0) "NothingToRedo") .nil))) false))) (.seq (.set 1 (.bin .Add (.var 1) (.lst (.cons (.isx (.var 0) "BadLine") .nil) false))) (.seq (.ret (.bf .len (.cons (.comp (.var 2) [("_law_bit", 2)] (.one 2) (.var 1) (.var 2)) .nil))) .nil)))))))))
def d__law_kinds : He.DefD := ⟨("_law_kinds", none), "_law_kinds", "_law_kinds", defArgs (top 29), defBody (top 29), defScope (top 29), [], []⟩
def x__law_kinds : Df := { d := d__law_kinds, N := ["_law_e", "_law_found", "_law_bit"], ps := ["_law_e"], q := b__law_kinds, dfs := [[]], kws := [] }
theorem bb__law_kinds {K : PySem.W.Frag} {f : Addr} {fd : FuncData} (F : FunD K x__law_kinds.d.name x__law_kinds.d.qual x__law_kinds.d.params x__law_kinds.d.body x__law_kinds.d.scope (x__law_kinds.d.dvs K) (x__law_kinds.d.kws K) f fd) : Binds K fd x__law_kinds.ps [] := F.bindsN fun _ _ _ _ _ _ us hl => match us, hl with | [_], _ => rfl
theorem bn__law_kinds : BndP x__law_kinds := fun K f fd F => ⟨bb__law_kinds F, bd_none (bb__law_kinds F), all0⟩
def b__law_bases : B := (.seq (.set 0 (.lst (.cons (.call "BadNumber" (.cons (.cst (.str "x")) .nil) []) (.cons (.call "BadName" (.cons (.cst (.str "x")) .nil) []) (.cons (.call "BadWeight" (.cons (.cst (.str "x")) .nil) []) (.cons (.call "BadShare" (.cons (.cst (.str "x")) .nil) []) (.cons (.call "BadRow" (.cons (.cst (.str "x")) .nil) []) (.cons (.call "BadOrder" (.cons (.cst (.str "x")) .nil) []) .nil)))))) false)) (.seq (.set 0 (.bin .Add (.var 0) (.lst (.cons (.call "BadCount" (.cons (.cst (.str "x")) .nil) []) (.cons (.call "BadRing" (.cons (.cst (.str "x")) .nil) []) (.cons (.call "BadDelay" (.cons (.cst (.str "x")) .nil) []) (.cons (.call "BadTimes" (.cons (.cst (.str "x")) .nil) []) (.cons (.call "BadWish" (.cons (.cst (.str "x")) .nil) []) (.cons (.call "NoRecorder" (.cons (.cst (.str "x")) .nil) []) .nil)))))) false))) (.seq (.set 0 (.bin .Add (.var 0) (.lst (.cons (.call "NoThing" (.cons (.cst (.str "x")) .nil) []) (.cons (.call "InUse" (.cons (.cst (.str "x")) .nil) []) (.cons (.call "ByZero" .nil []) (.cons (.call "BadText" .nil []) (.cons (.call "NoWay" .nil []) (.cons (.call "LastOne" .nil []) .nil)))))) false))) (.seq (.set 0 (.bin .Add (.var 0) (.lst (.cons (.call "UnlikeRecords" .nil []) (.cons (.call "NothingToUndo" .nil []) (.cons (.call "NothingToRedo" .nil []) (.cons (.call "BadLine" (.cons (.cst (.int 1)) .nil) []) .nil)))) false))) (.seq (.set 1 (.comp (.var 2) [("_law_e", 2)] (.one 2) (.var 0) (.or (.no (.isx (.var 2) "OrderError")) (.no (.isx (.var 2) "ValueError"))))) (.seq (.ret (.and (.cmp .Eq (.var 1) (.lst .nil false)) (.cmp .Eq (.comp (.var 2) [("_law_e", 2)] (.one 2) (.var 0) (.cmp .NotEq (.call "_law_kinds" (.cons (.var 2) .nil) []) (.cst (.int 1)))) (.lst .nil false)))) .nil))))))
def d__law_bases : He.DefD := ⟨("_law_bases", none), "_law_bases", "_law_bases", defArgs (top 30), defBody (top 30), defScope (top 30), [], []⟩
def x__law_bases : Df := { d := d__law_bases, N := ["_law_made", "_law_bad", "_law_e"], ps := [], q := b__law_bases, dfs := [[]], kws := [] }
theorem bb__law_bases {K : PySem.W.Frag} {f : Addr} {fd : FuncData} (F : FunD K x__law_bases.d.name x__law_bases.d.qual x__law_bases.d.params x__law_bases.d.body x__law_bases.d.scope (x__law_bases.d.dvs K) (x__law_bases.d.kws K) f fd) : Binds K fd x__law_bases.ps [] := F.bindsN fun _ _ _ _ _ _ us hl => match us, hl with | [], _ => rfl
theorem bn__law_bases : BndP x__law_bases := fun K f fd F => ⟨bb__law_bases F, bd_none (bb__law_bases F), all0⟩
def b_law : B := (.seq (.set 1 (.call "_law_box" (.cons (.var 0) (.cons (.cst (.int 0)) .nil)) [])) (.seq (.set 2 (.idx (.lst (.cons (.cst (.str "p")) (.cons (.cst (.int 0)) (.cons (.cst .none) (.cons (.neg (.cst (.int 3))) (.cons (.tup (.cons (.cst (.int 1)) (.cons (.cst (.int 2)) .nil))) (.cons (.lst (.cons (.cst (.str "x")) .nil) false) (.cons (.cst (.bool true)) .nil))))))) false) (.call "_law_take" (.cons (.var 1) (.cons (.cst (.int 7)) .nil)) []))) (.seq (.set 3 (.idx (.lst (.cons (.dct (.pair (.cst (.str "k")) (.cst (.int 1)) .nil) false) (.cons (.bin .Pow (.cst (.int 10)) (.cst (.int 30))) (.cons (.cst (.str "")) (.cons (.tup (.cons (.cst (.str "q")) .nil)) (.cons (.cst (.bool false)) .nil))))) false) (.call "_law_take" (.cons (.var 1) (.cons (.cst (.int 5)) .nil)) []))) (.seq (.set 4 (.lst (.cons (.xfd (.call "BadNumber" (.cons (.var 2) .nil) []) "given") (.cons (.xfd (.call "BadName" (.cons (.var 3) .nil) []) "given") (.cons (.xfd (.call "BadWeight" (.cons (.var 2) .nil) []) "given") (.cons (.xfd (.call "BadShare" (.cons (.var 3) .nil) []) "given") (.cons (.xfd (.call "BadRow" (.cons (.var 2) .nil) []) "given") .nil))))) false)) (.seq (.set 4 (.bin .Add (.var 4) (.lst (.cons (.xfd (.call "BadOrder" (.cons (.var 3) .nil) []) "given") (.cons (.xfd (.call "BadCount" (.cons (.var 2) .nil) []) "given") (.cons (.xfd (.call "BadRing" (.cons (.var 3) .nil) []) "given") (.cons (.xfd (.call "BadDelay" (.cons (.var 2) .nil) []) "given") (.cons (.xfd (.call "BadTimes" (.cons (.var 3) .nil) []) "given") .nil))))) false))) (.seq (.set 4 (.bin .Add (.var 4) (.lst (.cons (.xfd (.call "BadWish" (.cons (.var 2) .nil) []) "given") (.cons (.xfd (.call "NoRecorder" (.cons (.var 3) .nil) []) "given") (.cons (.xfd (.call "NoThing" (.cons (.var 2) .nil) []) "given") (.cons (.xfd (.call "InUse" (.cons (.var 3) .nil) []) "given") .nil)))) false))) (.seq (.set 5 (.lst (.cons (.xfd (.callK "BadNumber" 0 .nil ["given"] (.cons (.var 2) .nil) [0]) "given") (.cons (.xfd (.callK "BadName" 0 .nil ["given"] (.cons (.var 3) .nil) [0]) "given") (.cons (.xfd (.callK "BadWeight" 0 .nil ["given"] (.cons (.var 2) .nil) [0]) "given") (.cons (.xfd (.callK "BadShare" 0 .nil ["given"] (.cons (.var 3) .nil) [0]) "given") .nil)))) false)) (.seq (.set 5 (.bin .Add (.var 5) (.lst (.cons (.xfd (.callK "BadRow" 0 .nil ["given"] (.cons (.var 2) .nil) [0]) "given") (.cons (.xfd (.callK "BadOrder" 0 .nil ["given"] (.cons (.var 3) .nil) [0]) "given") (.cons (.xfd (.callK "BadCount" 0 .nil ["given"] (.cons (.var 2) .nil) [0]) "given") (.cons (.xfd (.callK "BadRing" 0 .nil ["given"] (.cons (.var 3) .nil) [0]) "given") .nil)))) false))) (.seq (.set 5 (.bin .Add (.var 5) (.lst (.cons (.xfd (.callK "BadDelay" 0 .nil ["given"] (.cons (.var 2) .nil) [0]) "given") (.cons (.xfd (.callK "BadTimes" 0 .nil ["given"] (.cons (.var 3) .nil) [0]) "given") (.cons (.xfd (.callK "BadWish" 0 .nil ["given"] (.cons (.var 2) .nil) [0]) "given") (.cons (.xfd (.callK "NoRecorder" 0 .nil ["given"] (.cons (.var 3) .nil) [0]) "given") .nil)))) false))) (.seq (.set 5 (.bin .Add (.var 5) (.lst (.cons (.xfd (.callK "NoThing" 0 .nil ["given"] (.cons (.var 2) .nil) [0]) "given") (.cons (.xfd (.callK "InUse" 0 .nil ["given"] (.cons (.var 3) .nil) [0]) "given") .nil)) false))) (.seq (.fori (.one 6) (.rng (.cons (.cst (.int 14)) .nil)) (.seq (.set 7 (.ite (.cmp .Eq (.bin .Mod (.var 6) (.cst (.int 2))) (.cst (.int 0))) (.var 2) (.var 3))) (.seq (.ife (.or (.no (.call "_law_same" (.cons (.idx (.var 4) (.var 6)) (.cons (.var 7) .nil)) [])) (.no (.call "_law_same" (.cons (.idx (.var 5) (.var 6)) (.cons (.var 7) .nil)) []))) (.seq (.ret (.cst (.bool false))) .nil) .nil) .nil))) (.seq (.ife (.or (.no (.call "_law_same" (.cons (.xfd (.call "BadLine" (.cons (.var 2) .nil) []) "line") (.cons (.var 2) .nil)) [])) (.no (.call "_law_same" (.cons (.xfd (.callK "BadLine" 0 .nil ["line"] (.cons (.var 3) .nil) [0]) "line") (.cons (.var 3) .nil)) []))) (.seq (.ret (.cst (.bool false))) .nil) .nil) (.seq (.ret (.call "_law_bases" .nil [])) .nil)))))))))))))
def d_law : He.DefD := ⟨("law", none), "law", "law", defArgs (top 31), defBody (top 31), defScope (top 31), [], []⟩
def x_law : Df := { d := d_law, N := ["_law_script", "_law_box_here", "_law_a", "_law_b", "_law_made", "_law_more", "_law_k", "_law_passed"], ps := ["_law_script"], q := b_law, dfs := [[]], kws := [] }
theorem bb_law {K : PySem.W.Frag} {f : Addr} {fd : FuncData} (F : FunD K x_law.d.name x_law.d.qual x_law.d.params x_law.d.body x_law.d.scope (x_law.d.dvs K) (x_law.d.kws K) f fd) : Binds K fd x_law.ps [] := F.bindsN fun _ _ _ _ _ _ us hl => match us, hl with | [_], _ => rfl
theorem bn_law : BndP x_law := fun K f fd F => ⟨bb_law F, bd_none (bb_law F), all0⟩
def e_ByZero : Xc := { fld := none, d := ⟨("ByZero", some "__init__"), "__init__", "ByZero.__init__", defArgs (inClass (top 2) 0), defBody (inClass (top 2) 0), defScope (inClass (top 2) 0), [], []⟩, N := ["self"] }
theorem be_ByZero {K : PySem.W.Frag} {f : Addr} {fd : FuncData} (F : FunD K e_ByZero.d.name e_ByZero.d.qual e_ByZero.d.params e_ByZero.d.body e_ByZero.d.scope (e_ByZero.d.dvs K) (e_ByZero.d.kws K) f fd) : Binds K fd e_ByZero.N [] := F.bindsN fun _ _ _ _ _ _ us hl => match us, hl with | [_], _ => rfl
def e_BadNumber : Xc := { fld := some "given", d := ⟨("BadNumber", some "__init__"), "__init__", "BadNumber.__init__", defArgs (inClass (top 3) 0), defBody (inClass (top 3) 0), defScope (inClass (top 3) 0), [], []⟩, N := ["self", "given"], kw := some "given" }
theorem be_BadNumber {K : PySem.W.Frag} {f : Addr} {fd : FuncData} (F : FunD K e_BadNumber.d.name e_BadNumber.d.qual e_BadNumber.d.params e_BadNumber.d.body e_BadNumber.d.scope (e_BadNumber.d.dvs K) (e_BadNumber.d.kws K) f fd) : Binds K fd e_BadNumber.N [] := F.bindsN fun _ _ _ _ _ _ us hl => match us, hl with | [_, _], _ => rfl
def e_BadText : Xc := { fld := none, d := ⟨("BadText", some "__init__"), "__init__", "BadText.__init__", defArgs (inClass (top 4) 0), defBody (inClass (top 4) 0), defScope (inClass (top 4) 0), [], []⟩, N := ["self"] }
theorem be_BadText {K : PySem.W.Frag} {f : Addr} {fd : FuncData} (F : FunD K e_BadText.d.name e_BadText.d.qual e_BadText.d.params e_BadText.d.body e_BadText.d.scope (e_BadText.d.dvs K) (e_BadText.d.kws K) f fd) : Binds K fd e_BadText.N [] := F.bindsN fun _ _ _ _ _ _ us hl => match us, hl with | [_], _ => rfl
def e_NoWay : Xc := { fld := none, d := ⟨("NoWay", some "__init__"), "__init__", "NoWay.__init__", defArgs (inClass (top 5) 0), defBody (inClass (top 5) 0), defScope (inClass (top 5) 0), [], []⟩, N := ["self"] }
theorem be_NoWay {K : PySem.W.Frag} {f : Addr} {fd : FuncData} (F : FunD K e_NoWay.d.name e_NoWay.d.qual e_NoWay.d.params e_NoWay.d.body e_NoWay.d.scope (e_NoWay.d.dvs K) (e_NoWay.d.kws K) f fd) : Binds K fd e_NoWay.N [] := F.bindsN fun _ _ _ _ _ _ us hl => match us, hl with | [_], _ => rfl
def e_LastOne : Xc := { fld := none, d := ⟨("LastOne", some "__init__"), "__init__", "LastOne.__init__", defArgs (inClass (top 6) 0), defBody (inClass (top 6) 0), defScope (inClass (top 6) 0), [], []⟩, N := ["self"] }
theorem be_LastOne {K : PySem.W.Frag} {f : Addr} {fd : FuncData} (F : FunD K e_LastOne.d.name e_LastOne.d.qual e_LastOne.d.params e_LastOne.d.body e_LastOne.d.scope (e_LastOne.d.dvs K) (e_LastOne.d.kws K) f fd) : Binds K fd e_LastOne.N [] := F.bindsN fun _ _ _ _ _ _ us hl => match us, hl with | [_], _ => rfl
def e_UnlikeRecords : Xc := { fld := none, d := ⟨("UnlikeRecords", some "__init__"), "__init__", "UnlikeRecords.__init__", defArgs (inClass (top 7) 0), defBody (inClass (top 7) 0), defScope (inClass (top 7) 0), [], []⟩, N := ["self"] }
theorem be_UnlikeRecords {K : PySem.W.Frag} {f : Addr} {fd : FuncData} (F : FunD K e_UnlikeRecords.d.name e_UnlikeRecords.d.qual e_UnlikeRecords.d.params e_UnlikeRecords.d.body e_UnlikeRecords.d.scope (e_UnlikeRecords.d.dvs K) (e_UnlikeRecords.d.kws K) f fd) : Binds K fd e_UnlikeRecords.N [] := F.bindsN fun _ _ _ _ _ _ us hl => match us, hl with | [_], _ => rfl
def e_BadName : Xc := { fld := some "given", d := ⟨("BadName", some "__init__"), "__init__", "BadName.__init__", defArgs (inClass (top 8) 0), defBody (inClass (top 8) 0), defScope (inClass (top 8) 0), [], []⟩, N := ["self", "given"], kw := some "given" }
theorem be_BadName {K : PySem.W.Frag} {f : Addr} {fd : FuncData} (F : FunD K e_BadName.d.name e_BadName.d.qual e_BadName.d.params e_BadName.d.body e_BadName.d.scope (e_BadName.d.dvs K) (e_BadName.d.kws K) f fd) : Binds K fd e_BadName.N [] := F.bindsN fun _ _ _ _ _ _ us hl => match us, hl with | [_, _], _ => rfl
def e_BadWeight : Xc := { fld := some "given", d := ⟨("BadWeight", some "__init__"), "__init__", "BadWeight.__init__", defArgs (inClass (top 9) 0), defBody (inClass (top 9) 0), defScope (inClass (top 9) 0), [], []⟩, N := ["self", "given"], kw := some "given" }
theorem be_BadWeight {K : PySem.W.Frag} {f : Addr} {fd : FuncData} (F : FunD K e_BadWeight.d.name e_BadWeight.d.qual e_BadWeight.d.params e_BadWeight.d.body e_BadWeight.d.scope (e_BadWeight.d.dvs K) (e_BadWeight.d.kws K) f fd) : Binds K fd e_BadWeight.N [] := F.bindsN fun _ _ _ _ _ _ us hl => match us, hl with | [_, _], _ => rfl
def e_BadShare : Xc := { fld := some "given", d := ⟨("BadShare", some "__init__"), "__init__", "BadShare.__init__", defArgs (inClass (top 10) 0), defBody (inClass (top 10) 0), defScope (inClass (top 10) 0), [], []⟩, N := ["self", "given"], kw := some "given" }
theorem be_BadShare {K : PySem.W.Frag} {f : Addr} {fd : FuncData} (F : FunD K e_BadShare.d.name e_BadShare.d.qual e_BadShare.d.params e_BadShare.d.body e_BadShare.d.scope (e_BadShare.d.dvs K) (e_BadShare.d.kws K) f fd) : Binds K fd e_BadShare.N [] := F.bindsN fun _ _ _ _ _ _ us hl => match us, hl with | [_, _], _ => rfl
def e_BadRow : Xc := { fld := some "given", d := ⟨("BadRow", some "__init__"), "__init__", "BadRow.__init__", defArgs (inClass (top 11) 0), defBody (inClass (top 11) 0), defScope (inClass (top 11) 0), [], []⟩, N := ["self", "given"], kw := some "given" }
theorem be_BadRow {K : PySem.W.Frag} {f : Addr} {fd : FuncData} (F : FunD K e_BadRow.d.name e_BadRow.d.qual e_BadRow.d.params e_BadRow.d.body e_BadRow.d.scope (e_BadRow.d.dvs K) (e_BadRow.d.kws K) f fd) : Binds K fd e_BadRow.N [] := F.bindsN fun _ _ _ _ _ _ us hl => match us, hl with | [_, _], _ => rfl
def e_BadOrder : Xc := { fld := some "given", d := ⟨("BadOrder", some "__init__"), "__init__", "BadOrder.__init__", defArgs (inClass (top 12) 0), defBody (inClass (top 12) 0), defScope (inClass (top 12) 0), [], []⟩, N := ["self", "given"], kw := some "given" }
theorem be_BadOrder {K : PySem.W.Frag} {f : Addr} {fd : FuncData} (F : FunD K e_BadOrder.d.name e_BadOrder.d.qual e_BadOrder.d.params e_BadOrder.d.body e_BadOrder.d.scope (e_BadOrder.d.dvs K) (e_BadOrder.d.kws K) f fd) : Binds K fd e_BadOrder.N [] := F.bindsN fun _ _ _ _ _ _ us hl => match us, hl with | [_, _], _ => rfl
def e_BadCount : Xc := { fld := some "given", d := ⟨("BadCount", some "__init__"), "__init__", "BadCount.__init__", defArgs (inClass (top 13) 0), defBody (inClass (top 13) 0), defScope (inClass (top 13) 0), [], []⟩, N := ["self", "given"], kw := some "given" }
theorem be_BadCount {K : PySem.W.Frag} {f : Addr} {fd : FuncData} (F : FunD K e_BadCount.d.name e_BadCount.d.qual e_BadCount.d.params e_BadCount.d.body e_BadCount.d.scope (e_BadCount.d.dvs K) (e_BadCount.d.kws K) f fd) : Binds K fd e_BadCount.N [] := F.bindsN fun _ _ _ _ _ _ us hl => match us, hl with | [_, _], _ => rfl
def e_BadRing : Xc := { fld := some "given", d := ⟨("BadRing", some "__init__"), "__init__", "BadRing.__init__", defArgs (inClass (top 14) 0), defBody (inClass (top 14) 0), defScope (inClass (top 14) 0), [], []⟩, N := ["self", "given"], kw := some "given" }
theorem be_BadRing {K : PySem.W.Frag} {f : Addr} {fd : FuncData} (F : FunD K e_BadRing.d.name e_BadRing.d.qual e_BadRing.d.params e_BadRing.d.body e_BadRing.d.scope (e_BadRing.d.dvs K) (e_BadRing.d.kws K) f fd) : Binds K fd e_BadRing.N [] := F.bindsN fun _ _ _ _ _ _ us hl => match us, hl with | [_, _], _ => rfl
def e_BadDelay : Xc := { fld := some "given", d := ⟨("BadDelay", some "__init__"), "__init__", "BadDelay.__init__", defArgs (inClass (top 15) 0), defBody (inClass (top 15) 0), defScope (inClass (top 15) 0), [], []⟩, N := ["self", "given"], kw := some "given" }
theorem be_BadDelay {K : PySem.W.Frag} {f : Addr} {fd : FuncData} (F : FunD K e_BadDelay.d.name e_BadDelay.d.qual e_BadDelay.d.params e_BadDelay.d.body e_BadDelay.d.scope (e_BadDelay.d.dvs K) (e_BadDelay.d.kws K) f fd) : Binds K fd e_BadDelay.N [] := F.bindsN fun _ _ _ _ _ _ us hl => match us, hl with | [_, _], _ => rfl
def e_BadTimes : Xc := { fld := some "given", d := ⟨("BadTimes", some "__init__"), "__init__", "BadTimes.__init__", defArgs (inClass (top 16) 0), defBody (inClass (top 16) 0), defScope (inClass (top 16) 0), [], []⟩, N := ["self", "given"], kw := some "given" }
theorem be_BadTimes {K : PySem.W.Frag} {f : Addr} {fd : FuncData} (F : FunD K e_BadTimes.d.name e_BadTimes.d.qual e_BadTimes.d.params e_BadTimes.d.body e_BadTimes.d.scope (e_BadTimes.d.dvs K) (e_BadTimes.d.kws K) f fd) : Binds K fd e_BadTimes.N [] := F.bindsN fun _ _ _ _ _ _ us hl => match us, hl with | [_, _], _ => rfl
def e_BadWish : Xc := { fld := some "given", d := ⟨("BadWish", some "__init__"), "__init__", "BadWish.__init__", defArgs (inClass (top 17) 0), defBody (inClass (top 17) 0), defScope (inClass (top 17) 0), [], []⟩, N := ["self", "given"], kw := some "given" }
theorem be_BadWish {K : PySem.W.Frag} {f : Addr} {fd : FuncData} (F : FunD K e_BadWish.d.name e_BadWish.d.qual e_BadWish.d.params e_BadWish.d.body e_BadWish.d.scope (e_BadWish.d.dvs K) (e_BadWish.d.kws K) f fd) : Binds K fd e_BadWish.N [] := F.bindsN fun _ _ _ _ _ _ us hl => match us, hl with | [_, _], _ => rfl
def e_NoRecorder : Xc := { fld := some "given", d := ⟨("NoRecorder", some "__init__"), "__init__", "NoRecorder.__init__", defArgs (inClass (top 18) 0), defBody (inClass (top 18) 0), defScope (inClass (top 18) 0), [], []⟩, N := ["self", "given"], kw := some "given" }
theorem be_NoRecorder {K : PySem.W.Frag} {f : Addr} {fd : FuncData} (F : FunD K e_NoRecorder.d.name e_NoRecorder.d.qual e_NoRecorder.d.params e_NoRecorder.d.body e_NoRecorder.d.scope (e_NoRecorder.d.dvs K) (e_NoRecorder.d.kws K) f fd) : Binds K fd e_NoRecorder.N [] := F.bindsN fun _ _ _ _ _ _ us hl => match us, hl with | [_, _], _ => rfl
def e_NoThing : Xc := { fld := some "given", d := ⟨("NoThing", some "__init__"), "__init__", "NoThing.__init__", defArgs (inClass (top 19) 0), defBody (inClass (top 19) 0), defScope (inClass (top 19) 0), [], []⟩, N := ["self", "given"], kw := some "given" }
theorem be_NoThing {K : PySem.W.Frag} {f : Addr} {fd : FuncData} (F : FunD K e_NoThing.d.name e_NoThing.d.qual e_NoThing.d.params e_NoThing.d.body e_NoThing.d.scope (e_NoThing.d.dvs K) (e_NoThing.d.kws K) f fd) : Binds K fd e_NoThing.N [] := F.bindsN fun _ _ _ _ _ _ us hl => match us, hl with | [_, _], _ => rfl
def e_InUse : Xc := { fld := some "given", d := ⟨("InUse", some "__init__"), "__init__", "InUse.__init__", defArgs (inClass (top 20) 0), defBody (inClass (top 20) 0), defScope (inClass (top 20) 0), [], []⟩, N := ["self", "given"], kw := some "given" }
theorem be_InUse {K : PySem.W.Frag} {f : Addr} {fd : FuncData} (F : FunD K e_InUse.d.name e_InUse.d.qual e_InUse.d.params e_InUse.d.body e_InUse.d.scope (e_InUse.d.dvs K) (e_InUse.d.kws K) f fd) : Binds K fd e_InUse.N [] := F.bindsN fun _ _ _ _ _ _ us hl => match us, hl with | [_, _], _ => rfl
def e_BadLine : Xc := { fld := some "line", d := ⟨("BadLine", some "__init__"), "__init__", "BadLine.__init__", defArgs (inClass (top 21) 0), defBody (inClass (top 21) 0), defScope (inClass (top 21) 0), [], []⟩, N := ["self", "line"], kw := some "line" }
theorem be_BadLine {K : PySem.W.Frag} {f : Addr} {fd : FuncData} (F : FunD K e_BadLine.d.name e_BadLine.d.qual e_BadLine.d.params e_BadLine.d.body e_BadLine.d.scope (e_BadLine.d.dvs K) (e_BadLine.d.kws K) f fd) : Binds K fd e_BadLine.N [] := F.bindsN fun _ _ _ _ _ _ us hl => match us, hl with | [_, _], _ => rfl
def e_NothingToUndo : Xc := { fld := none, d := ⟨("NothingToUndo", some "__init__"), "__init__", "NothingToUndo.__init__", defArgs (inClass (top 22) 0), defBody (inClass (top 22) 0), defScope (inClass (top 22) 0), [], []⟩, N := ["self"] }
theorem be_NothingToUndo {K : PySem.W.Frag} {f : Addr} {fd : FuncData} (F : FunD K e_NothingToUndo.d.name e_NothingToUndo.d.qual e_NothingToUndo.d.params e_NothingToUndo.d.body e_NothingToUndo.d.scope (e_NothingToUndo.d.dvs K) (e_NothingToUndo.d.kws K) f fd) : Binds K fd e_NothingToUndo.N [] := F.bindsN fun _ _ _ _ _ _ us hl => match us, hl with | [_], _ => rfl
def e_NothingToRedo : Xc := { fld := none, d := ⟨("NothingToRedo", some "__init__"), "__init__", "NothingToRedo.__init__", defArgs (inClass (top 23) 0), defBody (inClass (top 23) 0), defScope (inClass (top 23) 0), [], []⟩, N := ["self"] }
theorem be_NothingToRedo {K : PySem.W.Frag} {f : Addr} {fd : FuncData} (F : FunD K e_NothingToRedo.d.name e_NothingToRedo.d.qual e_NothingToRedo.d.params e_NothingToRedo.d.body e_NothingToRedo.d.scope (e_NothingToRedo.d.dvs K) (e_NothingToRedo.d.kws K) f fd) : Binds K fd e_NothingToRedo.N [] := F.bindsN fun _ _ _ _ _ _ us hl => match us, hl with | [_], _ => rfl
def fnsL : List (Str × Df) := [("_law_cell", x__law_cell), ("_law_box", x__law_box), ("_law_take", x__law_take), ("_law_same", x__law_same), ("_law_kinds", x__law_kinds), ("_law_bases", x__law_bases), ("law", x_law)]
def ownL : List (Str × Oc) := []
def exsL : List (Str × Option Xc) := [("OrderError", none), ("ByZero", some e_ByZero), ("BadNumber", some e_BadNumber), ("BadText", some e_BadText), ("NoWay", some e_NoWay), ("LastOne", some e_LastOne), ("UnlikeRecords", some e_UnlikeRecords), ("BadName", some e_BadName), ("BadWeight", some e_BadWeight), ("BadShare", some e_BadShare), ("BadRow", some e_BadRow), ("BadOrder", some e_BadOrder), ("BadCount", some e_BadCount), ("BadRing", some e_BadRing), ("BadDelay", some e_BadDelay), ("BadTimes", some e_BadTimes), ("BadWish", some e_BadWish), ("NoRecorder", some e_NoRecorder), ("NoThing", some e_NoThing), ("InUse", some e_InUse), ("BadLine", some e_BadLine), ("NothingToUndo", some e_NothingToUndo), ("NothingToRedo", some e_NothingToRedo)]
def wlL : WL := { bn := ["abs", "bool", "int", "isinstance", "len", "range", "repr"], fl := [], ef := ["given", "line"], xn := [], cn := [] }
def subL (a b : Str) : Bool := decide (a = b) || decide (b = "OrderError")
def p : Pg := { fns := fnsL, own := ownL, exs := exsL, wl := wlL, sub := subL, oe := "OrderError", xi := ["BadCount", "BadDelay", "BadLine", "BadName", "BadNumber", "BadOrder", "BadRing", "BadRow", "BadShare", "BadText", "BadTimes", "BadWeight", "BadWish", "ByZero", "InUse", "LastOne", "NoRecorder", "NoThing", "NoWay", "NothingToRedo", "NothingToUndo", "OrderError", "UnlikeRecords", "ValueError"], cons := [] }
theorem tab : tabB p = true := by decide +kernel
theorem okL : PgOk p where
  tab := tab
  tabc := (by decide +kernel)
  bf := all1 bn__law_cell (all1 bn__law_box (all1 bn__law_take (all1 bn__law_same (all1 bn__law_kinds (all1 bn__law_bases (all1 bn_law (all0)))))))
  bm := all0
  bc := all0
  bx := all1 (fun y h => by cases h) (all1 (fun y h K f fd F => by cases h; exact be_ByZero F) (all1 (fun y h K f fd F => by cases h; exact be_BadNumber F) (all1 (fun y h K f fd F => by cases h; exact be_BadText F) (all1 (fun y h K f fd F => by cases h; exact be_NoWay F) (all1 (fun y h K f fd F => by cases h; exact be_LastOne F) (all1 (fun y h K f fd F => by cases h; exact be_UnlikeRecords F) (all1 (fun y h K f fd F => by cases h; exact be_BadName F) (all1 (fun y h K f fd F => by cases h; exact be_BadWeight F) (all1 (fun y h K f fd F => by cases h; exact be_BadShare F) (all1 (fun y h K f fd F => by cases h; exact be_BadRow F) (all1 (fun y h K f fd F => by cases h; exact be_BadOrder F) (all1 (fun y h K f fd F => by cases h; exact be_BadCount F) (all1 (fun y h K f fd F => by cases h; exact be_BadRing F) (all1 (fun y h K f fd F => by cases h; exact be_BadDelay F) (all1 (fun y h K f fd F => by cases h; exact be_BadTimes F) (all1 (fun y h K f fd F => by cases h; exact be_BadWish F) (all1 (fun y h K f fd F => by cases h; exact be_NoRecorder F) (all1 (fun y h K f fd F => by cases h; exact be_NoThing F) (all1 (fun y h K f fd F => by cases h; exact be_InUse F) (all1 (fun y h K f fd F => by cases h; exact be_BadLine F) (all1 (fun y h K f fd F => by cases h; exact be_NothingToUndo F) (all1 (fun y h K f fd F => by cases h; exact be_NothingToRedo F) (all0)))))))))))))))))))))))
  bk := all1 (fun y h => by cases h) (all1 (fun y h nm e => by cases h; cases e) (all1 (fun y h nm e K f fd F => by cases h; cases e; exact kb0 F fun _ _ _ _ _ _ us ws zs l1 l2 e => match us, ws, l1, l2, e with | [_], [_], _, _, e => by cases e; rfl) (all1 (fun y h nm e => by cases h; cases e) (all1 (fun y h nm e => by cases h; cases e) (all1 (fun y h nm e => by cases h; cases e) (all1 (fun y h nm e => by cases h; cases e) (all1 (fun y h nm e K f fd F => by cases h; cases e; exact kb0 F fun _ _ _ _ _ _ us ws zs l1 l2 e => match us, ws, l1, l2, e with | [_], [_], _, _, e => by cases e; rfl) (all1 (fun y h nm e K f fd F => by cases h; cases e; exact kb0 F fun _ _ _ _ _ _ us ws zs l1 l2 e => match us, ws, l1, l2, e with | [_], [_], _, _, e => by cases e; rfl) (all1 (fun y h nm e K f fd F => by cases h; cases e; exact kb0 F fun _ _ _ _ _ _ us ws zs l1 l2 e => match us, ws, l1, l2, e with | [_], [_], _, _, e => by cases e; rfl) (all1 (fun y h nm e K f fd F => by cases h; cases e; exact kb0 F fun _ _ _ _ _ _ us ws zs l1 l2 e => match us, ws, l1, l2, e with | [_], [_], _, _, e => by cases e; rfl) (all1 (fun y h nm e K f fd F => by cases h; cases e; exact kb0 F fun _ _ _ _ _ _ us ws zs l1 l2 e => match us, ws, l1, l2, e with | [_], [_], _, _, e => by cases e; rfl) (all1 (fun y h nm e K f fd F => by cases h; cases e; exact kb0 F fun _ _ _ _ _ _ us ws zs l1 l2 e => match us, ws, l1, l2, e with | [_], [_], _, _, e => by cases e; rfl) (all1 (fun y h nm e K f fd F => by cases h; cases e; exact kb0 F fun _ _ _ _ _ _ us ws zs l1 l2 e => match us, ws, l1, l2, e with | [_], [_], _, _, e => by cases e; rfl) (all1 (fun y h nm e K f fd F => by cases h; cases e; exact kb0 F fun _ _ _ _ _ _ us ws zs l1 l2 e => match us, ws, l1, l2, e with | [_], [_], _, _, e => by cases e; rfl) (all1 (fun y h nm e K f fd F => by cases h; cases e; exact kb0 F fun _ _ _ _ _ _ us ws zs l1 l2 e => match us, ws, l1, l2, e with | [_], [_], _, _, e => by cases e; rfl) (all1 (fun y h nm e K f fd F => by cases h; cases e; exact kb0 F fun _ _ _ _ _ _ us ws zs l1 l2 e => match us, ws, l1, l2, e with | [_], [_], _, _, e => by cases e; rfl) (all1 (fun y h nm e K f fd F => by cases h; cases e; exact kb0 F fun _ _ _ _ _ _ us ws zs l1 l2 e => match us, ws, l1, l2, e with | [_], [_], _, _, e => by cases e; rfl) (all1 (fun y h nm e K f fd F => by cases h; cases e; exact kb0 F fun _ _ _ _ _ _ us ws zs l1 l2 e => match us, ws, l1, l2, e with | [_], [_], _, _, e => by cases e; rfl) (all1 (fun y h nm e K f fd F => by cases h; cases e; exact kb0 F fun _ _ _ _ _ _ us ws zs l1 l2 e => match us, ws, l1, l2, e with | [_], [_], _, _, e => by cases e; rfl) (all1 (fun y h nm e K f fd F => by cases h; cases e; exact kb0 F fun _ _ _ _ _ _ us ws zs l1 l2 e => match us, ws, l1, l2, e with | [_], [_], _, _, e => by cases e; rfl) (all1 (fun y h nm e => by cases h; cases e) (all1 (fun y h nm e => by cases h; cases e) (all0)))))))))))))))))))))))
def names0 : List PySem.Str := ["__name__", "OrderError", "ByZero", "BadNumber", "BadText", "NoWay", "LastOne", "UnlikeRecords", "BadName", "BadWeight", "BadShare", "BadRow", "BadOrder", "BadCount", "BadRing", "BadDelay", "BadTimes", "BadWish", "NoRecorder", "NoThing", "InUse", "BadLine", "NothingToUndo", "NothingToRedo", "_law_cell", "_law_box", "_law_take", "_law_same", "_law_kinds", "_law_bases"]
def names : List PySem.Str := names0
def lawIx : Nat := 31
end K01
set_option Elab.async false
set_option linter.all false
set_option maxRecDepth 100000
set_option maxHeartbeats 0
namespace K01
open PySem PySem.Spec PyProof.Rows L2 M
abbrev R : PySem.W.OpenRow := PySem.W.OpenLaw.row PySem.Challenge.rw_fairbatches_k01_errors
theorem run (w : World) : HandSHeadRun.RunEq R (PySem.W.view R.prog [lawIx]) (hookP 5 p) (obP 5 p) 20000 names w := by
  intro os
  kernel_rfl
end K01
set_option Elab.async false
set_option linter.all false
set_option maxRecDepth 100000
set_option maxHeartbeats 4000000
namespace M
open PySem PySem.Spec PyProof.Rows L2
/-! ### the evaluator step by step: every continuation a name -/
section
variable (G : Gt) (ρ : Env)
def rdC (n : Nat) : Option Cel → Sto → Rs W
  | some (.dead d), S => .ok (.p d) S
  | some (.live _), S => .ok (.c n) S
  | none, _ => .no
def rdV : Option (Option W) → Sto → Rs W
  | some (some (.c n)), S => rdC n S[n]? S
  | some (some (.p d)), S => .ok (.p d) S
  | _, _ => .no
def kBin2 (op : Operator) (w u : W) (S : Sto) : Rs W := (binF G op w u S).noex
def kBin1 (op : Operator) (b : E) (w : W) (S : Sto) : Rs W := ((ev G b).e ρ S).bind (kBin2 G op w)
def kNeg (w : W) (S : Sto) : Rs W := (negF G w S).noex
def kNo (w : W) (S : Sto) : Rs W := match w with
  | .p (.bl b) => .ok (bl (!b)) S
  | _ => .no
def kAnd (b : E) (w : W) (S : Sto) : Rs W := match w with
  | .p (.bl true) => (ev G b).e ρ S
  | .p (.bl false) => .ok (bl false) S
  | _ => .no
def kOr (b : E) (w : W) (S : Sto) : Rs W := match w with
  | .p (.bl true) => .ok (bl true) S
  | .p (.bl false) => (ev G b).e ρ S
  | _ => .no
def kIte (a b : E) (k : Bool) (S : Sto) : Rs W := match k with
  | true => (ev G a).e ρ S
  | false => (ev G b).e ρ S
def kBl (b : Bool) (S : Sto) : Rs W := .ok (bl b) S
def kCmp2 (op : CmpOp) (w u : W) (S : Sto) : Rs W := (cmpF G op w u S).noex.bind kBl
def kCmp1 (op : CmpOp) (b : E) (w : W) (S : Sto) : Rs W := ((ev G b).e ρ S).bind (kCmp2 G op w)
def kC3 (o2 : CmpOp) (c : E) (u : W) (k : Bool) (S : Sto) : Rs W := match k with
  | true => ((ev G c).e ρ S).bind (kCmp2 G o2 u)
  | false => .ok (bl false) S
def kC2 (o1 o2 : CmpOp) (c : E) (w u : W) (S : Sto) : Rs W := (cmpF G o1 w u S).noex.bind (kC3 G ρ o2 c u)
def kC1 (o1 o2 : CmpOp) (b c : E) (w : W) (S : Sto) : Rs W := ((ev G b).e ρ S).bind (kC2 G ρ o1 o2 c w)
def kFn (f : Str) (ds : List Int) (ws : List W) (S : Sto) : Rs W := G.fn f (ws ++ ds.map int) S
def kFnK2 (f : Str) (n : Nat) (ks : List Str) (ix : List Nat) (ws us : List W) (S : Sto) : Rs W := if ws.length = n ∧ us.length = ks.length then (match permW ix (ws ++ us) with
  | some zs => G.fn f zs S
  | none => .no) else .no
def kFnK1 (f : Str) (n : Nat) (ks : List Str) (vs : E) (ix : List Nat) (ws : List W) (S : Sto) : Rs W := ((ev G vs).a ρ S).bind (kFnK2 G f n ks ix ws)
def kBf (f : BF) (ws : List W) (S : Sto) : Rs W := (bfF f ws S).noex
def kIsi (t : Ty) (w : W) (S : Sto) : Rs W := ofO ((isiF t w S).map bl) S
def kMe2 (c m : Str) (w : W) (ws : List W) (S : Sto) : Rs W := G.me c m (w :: ws) S
def kMe1 (m : Str) (as : E) (w : W) (S : Sto) : Rs W := match clsOf S w with
  | some c => if G.dm c m = true ∧ (fldOf S m w).isNone = true then ((ev G as).a ρ S).bind (kMe2 G c m w) else .no
  | none => .no
def kMeK3 (c m : Str) (n : Nat) (ks : List Str) (ix : List Nat) (w : W) (ws us : List W) (S : Sto) : Rs W := if ws.length = n ∧ us.length = ks.length then (match permW ix (w :: (ws ++ us)) with
  | some zs => G.me c m zs S
  | none => .no) else .no
def kMeK2 (c m : Str) (n : Nat) (ks : List Str) (vs : E) (ix : List Nat) (w : W) (ws : List W) (S : Sto) : Rs W := ((ev G vs).a ρ S).bind (kMeK3 G c m n ks ix w ws)
def kMeK1 (m : Str) (n : Nat) (as : E) (ks : List Str) (vs : E) (ix : List Nat) (w : W) (S : Sto) : Rs W := match clsOf S w with
  | some c => if ((n, ks, ix) ∈ G.kwm c m) ∧ (fldOf S m w).isNone = true then ((ev G as).a ρ S).bind (kMeK2 G ρ c m n ks vs ix w) else .no
  | none => .no
def kBm2 (m : BM) (w : W) (ws : List W) (S : Sto) : Rs W := (bmF m w ws S).noex
def kBm1 (m : BM) (as : E) (w : W) (S : Sto) : Rs W := if bmOk m w S = true then ((ev G as).a ρ S).bind (kBm2 m w) else .no
def kFld (f : Str) (w : W) (S : Sto) : Rs W := ofO (fldOf S f w) S
def kIdx2 (w u : W) (S : Sto) : Rs W := ofO (idxF w u S) S
def kIdx1 (i : E) (w : W) (S : Sto) : Rs W := ((ev G i).e ρ S).bind (kIdx2 w)
def kSlc3 (w l h : W) (S : Sto) : Rs W := (cutF w l h S).noex
def kSlc2 (hi : E) (w l : W) (S : Sto) : Rs W := ((ev G hi).e ρ S).bind (kSlc3 w l)
def kSlc1 (lo hi : E) (w : W) (S : Sto) : Rs W := ((ev G lo).e ρ S).bind (kSlc2 G ρ hi w)
def kSeal (n : Nat) (_ : Unit) (S : Sto) : Rs W := sealF n S
def kComp (elt : E) (own : List (Str × Nat)) (g : Tg) (c : E) (ws : List W) (S : Sto) : Rs W := (compL (ev G elt).e (ev G c).t g S.length (wipeE ρ (own.map (·.2))) ws (S ++ [.live (.lst [])])).bind (kSeal S.length)
def kStr (x : Str) (S : Sto) : Rs W := .ok (str x) S
def kFmt (w : W) (S : Sto) : Rs W := ofO ((partF w).map str) S
def kPrt (w : W) (S : Sto) : Rs W := match oneI w with
  | some _ => .ok w S
  | none => .no
def kCons2 (w : W) (ws : List W) (S : Sto) : Rs (List W) := .ok (w :: ws) S
def kCons1 (r : E) (w : W) (S : Sto) : Rs (List W) := ((ev G r).a ρ S).bind (kCons2 w)
def kRng (ws : List W) (S : Sto) : Rs (List W) := match ws with
  | [.p (.int n)] => if -(2 ^ 62) ≤ n ∧ n < 2 ^ 62 then .ok ((List.range n.toNat).map fun (k : Nat) => int (k : Int)) S else .no
  | _ => .no
def kJ (r : E) (acc : Str) (w : W) (S : Sto) : Rs Str := match oneS w with
  | some x => if sizeOk (acc ++ x).length then (ev G r).f ρ (acc ++ x) S else .no
  | none => .no
def kTru (w : W) (S : Sto) : Rs Bool := ofO (truth S w) S
def kWlk (w : W) (S : Sto) : Rs (List W) := ofO (walkOf S w) S
def kTNo (b : Bool) (S : Sto) : Rs Bool := .ok (!b) S
def kTAnd (b : E) (k : Bool) (S : Sto) : Rs Bool := match k with
  | true => (ev G b).t ρ S
  | false => .ok false S
def kTOr (b : E) (k : Bool) (S : Sto) : Rs Bool := match k with
  | true => .ok true S
  | false => (ev G b).t ρ S
def kTCmp2 (op : CmpOp) (w u : W) (S : Sto) : Rs Bool := (cmpF G op w u S).noex
def kTCmp1 (op : CmpOp) (b : E) (w : W) (S : Sto) : Rs Bool := ((ev G b).e ρ S).bind (kTCmp2 G op w)
def kT3 (o2 : CmpOp) (c : E) (u : W) (k : Bool) (S : Sto) : Rs Bool := match k with
  | true => ((ev G c).e ρ S).bind (kTCmp2 G o2 u)
  | false => .ok false S
def kT2 (o1 o2 : CmpOp) (c : E) (w u : W) (S : Sto) : Rs Bool := (cmpF G o1 w u S).noex.bind (kT3 G ρ o2 c u)
def kT1 (o1 o2 : CmpOp) (b c : E) (w : W) (S : Sto) : Rs Bool := ((ev G b).e ρ S).bind (kT2 G ρ o1 o2 c w)
end
section
variable {G : Gt} {ρ : Env} {S : Sto}
theorem x_var {i : Nat} : (ev G (.var i)).e ρ S = rdV ρ[i]? S := by
  show fVar i ρ S = _
  unfold fVar
  cases h : ρ[i]? with
  | none => rfl
  | some o => cases o with
    | none => rfl
    | some w => cases w with
      | p d => rfl
      | c n =>
        show _ = rdC n S[n]? S
        dsimp only
        cases S[n]? with
        | none => rfl
        | some c => cases c <;> rfl
theorem x_and {a b : E} : (ev G (.and a b)).e ρ S = ((ev G a).e ρ S).bind (kAnd G ρ b) := by
  have e : ∀ w S, (match w with
  | .p (.bl c) => if c = true then (ev G b).e ρ S else .ok (bl false) S
  | _ => (Rs.no : Rs W)) = kAnd G ρ b w S := fun w S => by
    cases w with
    | c n => rfl
    | p d => cases d with
      | bl c => cases c <;> rfl
      | _ => rfl
  show ((ev G a).e ρ S).bind _ = _
  cases (ev G a).e ρ S with
  | ok w S => exact e w S
  | _ => rfl
theorem x_or {a b : E} : (ev G (.or a b)).e ρ S = ((ev G a).e ρ S).bind (kOr G ρ b) := by
  have e : ∀ w S, (match w with
  | .p (.bl c) => if c = true then .ok (bl true) S else (ev G b).e ρ S
  | _ => (Rs.no : Rs W)) = kOr G ρ b w S := fun w S => by
    cases w with
    | c n => rfl
    | p d => cases d with
      | bl c => cases c <;> rfl
      | _ => rfl
  show ((ev G a).e ρ S).bind _ = _
  cases (ev G a).e ρ S with
  | ok w S => exact e w S
  | _ => rfl
theorem bind_congr {α β : Type} {r : Rs α} {f g : α → Sto → Rs β} (h : ∀ a S, f a S = g a S) : r.bind f = r.bind g := by
  have e : f = g := funext fun a => funext fun S => h a S
  rw [e]
theorem x_ite {c a b : E} : (ev G (.ite c a b)).e ρ S = ((ev G c).t ρ S).bind (kIte G ρ a b) := bind_congr fun k S => by cases k <;> rfl
theorem x_cmp2 {o1 o2 : CmpOp} {a b c : E} : (ev G (.cmp2 o1 o2 a b c)).e ρ S = ((ev G a).e ρ S).bind (kC1 G ρ o1 o2 b c) :=
  bind_congr fun w S => bind_congr fun u S => bind_congr fun k S => by cases k <;> rfl
theorem xt_cmp2 {o1 o2 : CmpOp} {a b c : E} : (ev G (.cmp2 o1 o2 a b c)).t ρ S = ((ev G a).e ρ S).bind (kT1 G ρ o1 o2 b c) :=
  bind_congr fun w S => bind_congr fun u S => bind_congr fun k S => by cases k <;> rfl
theorem xt_and {a b : E} : (ev G (.and a b)).t ρ S = ((ev G a).t ρ S).bind (kTAnd G ρ b) := bind_congr fun k S => by cases k <;> rfl
theorem xt_or {a b : E} : (ev G (.or a b)).t ρ S = ((ev G a).t ρ S).bind (kTOr G ρ b) := bind_congr fun k S => by cases k <;> rfl
/-- expressions -/
theorem EVe :
    (∀ i, (ev G (.var i)).e ρ S = rdV ρ[i]? S) ∧ (∀ c, (ev G (.cst c)).e ρ S = ofO (cstW c) S) ∧
    (∀ op a b, (ev G (.bin op a b)).e ρ S = ((ev G a).e ρ S).bind (kBin1 G ρ op b)) ∧ (∀ a, (ev G (.neg a)).e ρ S = ((ev G a).e ρ S).bind (kNeg G)) ∧ (∀ a, (ev G (.no a)).e ρ S = ((ev G a).e ρ S).bind kNo) ∧
    (∀ a b, (ev G (.and a b)).e ρ S = ((ev G a).e ρ S).bind (kAnd G ρ b)) ∧ (∀ a b, (ev G (.or a b)).e ρ S = ((ev G a).e ρ S).bind (kOr G ρ b)) ∧ (∀ c a b, (ev G (.ite c a b)).e ρ S = ((ev G c).t ρ S).bind (kIte G ρ a b)) ∧
    (∀ op a b, (ev G (.cmp op a b)).e ρ S = ((ev G a).e ρ S).bind (kCmp1 G ρ op b)) ∧ (∀ o1 o2 a b c, (ev G (.cmp2 o1 o2 a b c)).e ρ S = ((ev G a).e ρ S).bind (kC1 G ρ o1 o2 b c)) ∧
    (∀ f as ds, (ev G (.call f as ds)).e ρ S = if ds ∈ G.df f then ((ev G as).a ρ S).bind (kFn G f ds) else .no) ∧
    (∀ f n as ks vs ix, (ev G (.callK f n as ks vs ix)).e ρ S = if (n, ks, ix) ∈ G.kw f then ((ev G as).a ρ S).bind (kFnK1 G ρ f n ks vs ix) else .no) ∧
    (∀ f as, (ev G (.bf f as)).e ρ S = ((ev G as).a ρ S).bind (kBf f)) ∧ (∀ a t, (ev G (.isi a t)).e ρ S = ((ev G a).e ρ S).bind (kIsi t)) ∧
    (∀ o m as, (ev G (.meth o m as)).e ρ S = ((ev G o).e ρ S).bind (kMe1 G ρ m as)) ∧ (∀ o m n as ks vs ix, (ev G (.methK o m n as ks vs ix)).e ρ S = ((ev G o).e ρ S).bind (kMeK1 G ρ m n as ks vs ix)) ∧
    (∀ m o as, (ev G (.bm m o as)).e ρ S = ((ev G o).e ρ S).bind (kBm1 G ρ m as)) ∧ (∀ o f, (ev G (.fld o f)).e ρ S = ((ev G o).e ρ S).bind (kFld f)) ∧ (∀ o i, (ev G (.idx o i)).e ρ S = ((ev G o).e ρ S).bind (kIdx1 G ρ i)) ∧
    (∀ o lo hi, (ev G (.slc o lo hi)).e ρ S = ((ev G o).e ρ S).bind (kSlc1 G ρ lo hi)) ∧ (∀ es mu, (ev G (.lst es mu)).e ρ S = ((ev G es).a ρ S).bind (lstF mu)) ∧ (∀ es, (ev G (.tup es)).e ρ S = ((ev G es).a ρ S).bind tupF) ∧
    (∀ elt own g it c, (ev G (.comp elt own g it c)).e ρ S = ((ev G it).i ρ S).bind (kComp G ρ elt own g c)) ∧ (∀ i f, (ev G (.exf i f)).e ρ S = ofO ((G.xf.lookup f).map .p) S) ∧ (∀ ps, (ev G (.fstr ps)).e ρ S = ((ev G ps).f ρ Str.empty S).bind kStr) ∧
    (∀ a, (ev G (.fmt a)).e ρ S = ((ev G a).e ρ S).bind kFmt) ∧ (∀ a, (ev G (.frz a)).e ρ S = ((ev G a).e ρ S).bind frzA) ∧ (ev G .omit).e ρ S = .ok (.p .non) S ∧ (∀ a, (ev G (.prt a)).e ρ S = ((ev G a).e ρ S).bind kPrt) :=
  ⟨fun _ => x_var, fun _ => rfl, fun _ _ _ => rfl, fun _ => rfl, fun _ => bind_congr fun w S => (by cases w with
    | c n => rfl
    | p d => cases d <;> rfl), fun _ _ => x_and, fun _ _ => x_or, fun _ _ _ => x_ite, fun _ _ _ => rfl, fun _ _ _ _ _ => x_cmp2, fun _ _ _ => rfl, fun _ _ _ _ _ _ => rfl, fun _ _ => rfl, fun _ _ => rfl, fun _ _ _ => rfl, fun _ _ _ _ _ _ _ => rfl, fun _ _ _ => rfl, fun _ _ => rfl, fun _ _ => rfl, fun _ _ _ => rfl, fun _ _ => rfl, fun _ => rfl, fun _ _ _ _ _ => rfl, fun _ _ => rfl, fun _ => rfl, fun _ => rfl, fun _ => rfl, rfl, fun _ => rfl⟩
/-- tests -/
theorem EVt :
    (∀ i, (ev G (.var i)).t ρ S = ((ev G (.var i)).e ρ S).bind kTru) ∧ (∀ c, (ev G (.cst c)).t ρ S = ((ev G (.cst c)).e ρ S).bind kTru) ∧ (∀ f as ds, (ev G (.call f as ds)).t ρ S = ((ev G (.call f as ds)).e ρ S).bind kTru) ∧
    (∀ f n as ks vs ix, (ev G (.callK f n as ks vs ix)).t ρ S = ((ev G (.callK f n as ks vs ix)).e ρ S).bind kTru) ∧ (∀ f as, (ev G (.bf f as)).t ρ S = ((ev G (.bf f as)).e ρ S).bind kTru) ∧ (∀ a t, (ev G (.isi a t)).t ρ S = ((ev G (.isi a t)).e ρ S).bind kTru) ∧
    (∀ o m as, (ev G (.meth o m as)).t ρ S = ((ev G (.meth o m as)).e ρ S).bind kTru) ∧ (∀ o f, (ev G (.fld o f)).t ρ S = ((ev G (.fld o f)).e ρ S).bind kTru) ∧ (∀ o i, (ev G (.idx o i)).t ρ S = ((ev G (.idx o i)).e ρ S).bind kTru) ∧
    (∀ a, (ev G (.no a)).t ρ S = ((ev G a).t ρ S).bind kTNo) ∧ (∀ a b, (ev G (.and a b)).t ρ S = ((ev G a).t ρ S).bind (kTAnd G ρ b)) ∧ (∀ a b, (ev G (.or a b)).t ρ S = ((ev G a).t ρ S).bind (kTOr G ρ b)) ∧
    (∀ op a b, (ev G (.cmp op a b)).t ρ S = ((ev G a).e ρ S).bind (kTCmp1 G ρ op b)) ∧ (∀ o1 o2 a b c, (ev G (.cmp2 o1 o2 a b c)).t ρ S = ((ev G a).e ρ S).bind (kT1 G ρ o1 o2 b c)) ∧ (ev G .omit).t ρ S = .ok true S :=
  ⟨fun _ => rfl, fun _ => rfl, fun _ _ _ => rfl, fun _ _ _ _ _ _ => rfl, fun _ _ => rfl, fun _ _ => rfl, fun _ _ _ => rfl, fun _ _ => rfl, fun _ _ => rfl, fun _ => rfl, fun _ _ => xt_and, fun _ _ => xt_or, fun _ _ _ => rfl, fun _ _ _ _ _ => xt_cmp2, rfl⟩
/-- lists, walks, parts of texts -/
theorem EVl :
    (ev G .nil).a ρ S = .ok [] S ∧ (∀ a r, (ev G (.cons a r)).a ρ S = ((ev G a).e ρ S).bind (kCons1 G ρ r)) ∧ (∀ as, (ev G (.rng as)).i ρ S = ((ev G as).a ρ S).bind kRng) ∧ (∀ i, (ev G (.var i)).i ρ S = ((ev G (.var i)).e ρ S).bind kWlk) ∧
    (∀ es mu, (ev G (.lst es mu)).i ρ S = ((ev G (.lst es mu)).e ρ S).bind kWlk) ∧ (∀ es, (ev G (.tup es)).i ρ S = ((ev G (.tup es)).e ρ S).bind kWlk) ∧ (∀ m o as, (ev G (.bm m o as)).i ρ S = ((ev G (.bm m o as)).e ρ S).bind kWlk) ∧ (∀ o i, (ev G (.idx o i)).i ρ S = ((ev G (.idx o i)).e ρ S).bind kWlk) ∧
    (∀ acc, (ev G .nil).f ρ acc S = .ok acc S) ∧ (∀ a r acc, (ev G (.cons a r)).f ρ acc S = ((ev G a).e ρ S).bind (kJ G ρ r acc)) :=
  ⟨rfl, fun _ _ => rfl, fun _ => rfl, fun _ => rfl, fun _ _ => rfl, fun _ => rfl, fun _ _ _ => rfl, fun _ _ => rfl, fun _ => rfl, fun _ _ _ => rfl⟩
/-- reading a slot -/
theorem EVv : (∀ (S : Sto), ∀ d, rdV (some (some (.p d))) S = .ok (.p d) S) ∧ (∀ (S : Sto), ∀ n, rdV (some (some (.c n))) S = rdC n S[n]? S) ∧ (∀ (S : Sto), ∀ n c, rdC n (some (.live c)) S = .ok (.c n) S) ∧ (∀ (S : Sto), ∀ n d, rdC n (some (.dead d)) S = .ok (.p d) S) ∧ (∀ i : Int, cstW (.int i) = some (int i)) ∧ (∀ b, cstW (.bool b) = some (bl b)) ∧ (∀ x, cstW (.str x) = some (str x)) ∧ (cstW .none = some (.p .non)) := ⟨fun _ => fun _ => rfl, fun _ => fun _ => rfl, fun _ => fun _ _ => rfl, fun _ => fun _ _ => rfl, fun _ => rfl, fun _ => rfl, fun _ => rfl, rfl⟩
/-- what stands behind -/
theorem EVk : (∀ (G : Gt) (ρ : Env) (S : Sto) (w : W), ∀ op b, kBin1 G ρ op b w S = ((ev G b).e ρ S).bind (kBin2 G op w)) ∧ (∀ (G : Gt) (S : Sto) (w : W) (u : W), ∀ op, kBin2 G op w u S = (binF G op w u S).noex) ∧ (∀ (G : Gt) (S : Sto) (w : W), kNeg G w S = (negF G w S).noex) ∧ (∀ (S : Sto), ∀ c, kNo (.p (.bl c)) S = .ok (bl (!c)) S) ∧ (∀ (G : Gt) (ρ : Env) (S : Sto), ∀ b, kAnd G ρ b (.p (.bl true)) S = (ev G b).e ρ S) ∧ (∀ (G : Gt) (ρ : Env) (S : Sto), ∀ b, kAnd G ρ b (.p (.bl false)) S = .ok (bl false) S) ∧ (∀ (G : Gt) (ρ : Env) (S : Sto), ∀ b, kOr G ρ b (.p (.bl true)) S = .ok (bl true) S) ∧ (∀ (G : Gt) (ρ : Env) (S : Sto), ∀ b, kOr G ρ b (.p (.bl false)) S = (ev G b).e ρ S) ∧ (∀ (G : Gt) (ρ : Env) (S : Sto), ∀ a b, kIte G ρ a b true S = (ev G a).e ρ S) ∧ (∀ (G : Gt) (ρ : Env) (S : Sto), ∀ a b, kIte G ρ a b false S = (ev G b).e ρ S) ∧ (∀ (G : Gt) (ρ : Env) (S : Sto) (w : W), ∀ op b, kCmp1 G ρ op b w S = ((ev G b).e ρ S).bind (kCmp2 G op w)) ∧ (∀ (G : Gt) (S : Sto) (w : W) (u : W), ∀ op, kCmp2 G op w u S = (cmpF G op w u S).noex.bind kBl) ∧ (∀ (S : Sto) (x : Bool), kBl x S = .ok (bl x) S) ∧ (∀ (G : Gt) (ρ : Env) (S : Sto) (w : W), ∀ o1 o2 b c, kC1 G ρ o1 o2 b c w S = ((ev G b).e ρ S).bind (kC2 G ρ o1 o2 c w)) ∧ (∀ (G : Gt) (ρ : Env) (S : Sto) (w : W) (u : W), ∀ o1 o2 c, kC2 G ρ o1 o2 c w u S = (cmpF G o1 w u S).noex.bind (kC3 G ρ o2 c u)) ∧ (∀ (G : Gt) (ρ : Env) (S : Sto) (u : W), ∀ o2 c, kC3 G ρ o2 c u true S = ((ev G c).e ρ S).bind (kCmp2 G o2 u)) ∧ (∀ (G : Gt) (ρ : Env) (S : Sto) (u : W), ∀ o2 c, kC3 G ρ o2 c u false S = .ok (bl false) S) ∧ (∀ (G : Gt) (S : Sto) (ws : List W), ∀ f ds, kFn G f ds ws S = G.fn f (ws ++ ds.map int) S) ∧ (∀ (G : Gt) (ρ : Env) (S : Sto) (ws : List W), ∀ f n ks vs ix, kFnK1 G ρ f n ks vs ix ws S = ((ev G vs).a ρ S).bind (kFnK2 G f n ks ix ws)) ∧ (∀ (S : Sto) (ws : List W), ∀ f, kBf f ws S = (bfF f ws S).noex) ∧ (∀ (S : Sto) (w : W), ∀ t, kIsi t w S = ofO ((isiF t w S).map bl) S) ∧ (∀ (G : Gt) (S : Sto) (w : W) (ws : List W), ∀ c m, kMe2 G c m w ws S = G.me c m (w :: ws) S) ∧ (∀ (G : Gt) (ρ : Env) (S : Sto) (w : W) (ws : List W), ∀ c m n ks vs ix, kMeK2 G ρ c m n ks vs ix w ws S = ((ev G vs).a ρ S).bind (kMeK3 G c m n ks ix w ws)) ∧ (∀ (S : Sto) (w : W) (ws : List W), ∀ m, kBm2 m w ws S = (bmF m w ws S).noex) ∧ (∀ (S : Sto) (w : W), ∀ f, kFld f w S = ofO (fldOf S f w) S) ∧ (∀ (G : Gt) (ρ : Env) (S : Sto) (w : W), ∀ i, kIdx1 G ρ i w S = ((ev G i).e ρ S).bind (kIdx2 w)) ∧ (∀ (S : Sto) (w : W) (u : W), kIdx2 w u S = ofO (idxF w u S) S) ∧ (∀ (G : Gt) (ρ : Env) (S : Sto) (w : W), ∀ lo hi, kSlc1 G ρ lo hi w S = ((ev G lo).e ρ S).bind (kSlc2 G ρ hi w)) ∧ (∀ (G : Gt) (ρ : Env) (S : Sto) (w : W) (l : W), ∀ hi, kSlc2 G ρ hi w l S = ((ev G hi).e ρ S).bind (kSlc3 w l)) ∧ (∀ (S : Sto) (w : W) (u : W) (l : W), kSlc3 w l u S = (cutF w l u S).noex) ∧ (∀ (S : Sto) (t : Str), kStr t S = .ok (str t) S) ∧ (∀ (S : Sto) (w : W), kFmt w S = ofO ((partF w).map str) S) ∧ (∀ (S : Sto), ∀ i : Int, kPrt (.p (.int i)) S = .ok (.p (.int i)) S) ∧ (∀ (G : Gt) (ρ : Env) (S : Sto) (w : W), ∀ r, kCons1 G ρ r w S = ((ev G r).a ρ S).bind (kCons2 w)) ∧ (∀ (S : Sto) (w : W) (ws : List W), kCons2 w ws S = .ok (w :: ws) S) ∧ (∀ (S : Sto) (w : W), kTru w S = ofO (truth S w) S) ∧ (∀ (S : Sto) (w : W), kWlk w S = ofO (walkOf S w) S) ∧ (∀ (S : Sto) (x : Bool), kTNo x S = .ok (!x) S) ∧ (∀ (G : Gt) (ρ : Env) (S : Sto), ∀ b, kTAnd G ρ b true S = (ev G b).t ρ S) ∧ (∀ (G : Gt) (ρ : Env) (S : Sto), ∀ b, kTAnd G ρ b false S = .ok false S) ∧ (∀ (G : Gt) (ρ : Env) (S : Sto), ∀ b, kTOr G ρ b true S = .ok true S) ∧ (∀ (G : Gt) (ρ : Env) (S : Sto), ∀ b, kTOr G ρ b false S = (ev G b).t ρ S) ∧ (∀ (G : Gt) (ρ : Env) (S : Sto) (w : W), ∀ op b, kTCmp1 G ρ op b w S = ((ev G b).e ρ S).bind (kTCmp2 G op w)) ∧ (∀ (G : Gt) (S : Sto) (w : W) (u : W), ∀ op, kTCmp2 G op w u S = (cmpF G op w u S).noex) ∧ (∀ (G : Gt) (ρ : Env) (S : Sto) (w : W), ∀ o1 o2 b c, kT1 G ρ o1 o2 b c w S = ((ev G b).e ρ S).bind (kT2 G ρ o1 o2 c w)) ∧ (∀ (G : Gt) (ρ : Env) (S : Sto) (w : W) (u : W), ∀ o1 o2 c, kT2 G ρ o1 o2 c w u S = (cmpF G o1 w u S).noex.bind (kT3 G ρ o2 c u)) ∧ (∀ (G : Gt) (ρ : Env) (S : Sto) (u : W), ∀ o2 c, kT3 G ρ o2 c u true S = ((ev G c).e ρ S).bind (kTCmp2 G o2 u)) ∧ (∀ (G : Gt) (ρ : Env) (S : Sto) (u : W), ∀ o2 c, kT3 G ρ o2 c u false S = .ok false S) := ⟨fun _ _ _ _ => fun _ _ => rfl, fun _ _ _ _ => fun _ => rfl, fun _ _ _ => rfl, fun _ => fun _ => rfl, fun _ _ _ => fun _ => rfl, fun _ _ _ => fun _ => rfl, fun _ _ _ => fun _ => rfl, fun _ _ _ => fun _ => rfl, fun _ _ _ => fun _ _ => rfl, fun _ _ _ => fun _ _ => rfl, fun _ _ _ _ => fun _ _ => rfl, fun _ _ _ _ => fun _ => rfl, fun _ _ => rfl, fun _ _ _ _ => fun _ _ _ _ => rfl, fun _ _ _ _ _ => fun _ _ _ => rfl, fun _ _ _ _ => fun _ _ => rfl, fun _ _ _ _ => fun _ _ => rfl, fun _ _ _ => fun _ _ => rfl, fun _ _ _ _ => fun _ _ _ _ _ => rfl, fun _ _ => fun _ => rfl, fun _ _ => fun _ => rfl, fun _ _ _ _ => fun _ _ => rfl, fun _ _ _ _ _ => fun _ _ _ _ _ _ => rfl, fun _ _ _ => fun _ => rfl, fun _ _ => fun _ => rfl, fun _ _ _ _ => fun _ => rfl, fun _ _ _ => rfl, fun _ _ _ _ => fun _ _ => rfl, fun _ _ _ _ _ => fun _ => rfl, fun _ _ _ _ => rfl, fun _ _ => rfl, fun _ _ => rfl, fun _ => fun _ => rfl, fun _ _ _ _ => fun _ => rfl, fun _ _ _ => rfl, fun _ _ => rfl, fun _ _ => rfl, fun _ _ => rfl, fun _ _ _ => fun _ => rfl, fun _ _ _ => fun _ => rfl, fun _ _ _ => fun _ => rfl, fun _ _ _ => fun _ => rfl, fun _ _ _ _ => fun _ _ => rfl, fun _ _ _ _ => fun _ => rfl, fun _ _ _ _ => fun _ _ _ _ => rfl, fun _ _ _ _ _ => fun _ _ _ => rfl, fun _ _ _ _ => fun _ _ => rfl, fun _ _ _ _ => fun _ _ => rfl⟩
end
end M
set_option Elab.async false
set_option linter.all false
set_option maxRecDepth 100000
set_option maxHeartbeats 4000000
namespace M
open PySem PySem.Spec PyProof.Rows L2
section
variable {sub : Str → Str → Bool} {xk : Str → Option (Option Str)} {G : Gt} {ρ : Env} {S : Sto}
def kSet (ρ : Env) (i : Nat) (w : W) (S : Sto) : Rt := .ok (ρ.set i (some w)) .nx S
def kPar (ρ : Env) (i j : Nat) (ws : List W) (S : Sto) : Rt := match ws with
  | [v, w] => .ok ((ρ.set i (some v)).set j (some w)) .nx S
  | _ => .no
def kUnp (ρ : Env) (is : List Nat) (w : W) (S : Sto) : Rt := match tupOf w with
  | some ws => if ws.length = is.length then .ok (setAll ρ is ws) .nx S else .no
  | none => .no
def kOpt (ρ : Env) : Option Sto → Rt
  | some S => .ok ρ .nx S
  | none => .no
def kFs2 (ρ : Env) (u : W) (f : Str) (w : W) (S : Sto) : Rt := kOpt ρ (fldS w u f S)
def kFs1 (G : Gt) (ρ : Env) (o : E) (f : Str) (u : W) (S : Sto) : Rt := ((ev G o).e ρ S).to ρ (kFs2 ρ u f)
def kPut3 (ρ : Env) (u w k : W) (S : Sto) : Rt := kOpt ρ (putS w k u S)
def kPut2 (G : Gt) (ρ : Env) (i : E) (u w : W) (S : Sto) : Rt := ((ev G i).e ρ S).to ρ (kPut3 ρ u w)
def kPut1 (G : Gt) (ρ : Env) (o i : E) (u : W) (S : Sto) : Rt := ((ev G o).e ρ S).to ρ (kPut2 G ρ i u)
def kRet (ρ : Env) (w : W) (S : Sto) : Rt := .ok ρ (.rt w) S
noncomputable def kIf (sub : Str → Str → Bool) (xk : Str → Option (Option Str)) (G : Gt) (ρ : Env) (a b : B) (k : Bool) (S : Sto) : Rt := match k with
  | true => evB sub xk a G ρ S
  | false => evB sub xk b G ρ S
def kExp (ρ : Env) (_ : W) (S : Sto) : Rt := .ok ρ .nx S
noncomputable def kFor (sub : Str → Str → Bool) (xk : Str → Option (Option Str)) (G : Gt) (ρ : Env) (g : Tg) (b : B) (ws : List W) (S : Sto) : Rt := forL g (evB sub xk b G) ws ρ S
theorem to_congr {α : Type} {r : Rs α} {f g : α → Sto → Rt} (h : ∀ a S, f a S = g a S) : r.to ρ f = r.to ρ g := by
  have e : f = g := funext fun a => funext fun S => h a S
  rw [e]
/-- statements -/
theorem EVb : evB sub xk .nil G ρ S = .ok ρ .nx S ∧ (∀ s r, evB sub xk (.seq s r) G ρ S = (evB sub xk s G ρ S).then (evB sub xk r G)) ∧ (∀ i e, evB sub xk (.set i e) G ρ S = ((ev G e).e ρ S).to ρ (kSet ρ i)) ∧
    (∀ i j es, evB sub xk (.par i j es) G ρ S = ((ev G es).a ρ S).to ρ (kPar ρ i j)) ∧ (∀ is e, evB sub xk (.unp is e) G ρ S = ((ev G e).e ρ S).to ρ (kUnp ρ is)) ∧ (∀ o f e, evB sub xk (.fld o f e) G ρ S = ((ev G e).e ρ S).to ρ (kFs1 G ρ o f)) ∧
    (∀ o i e, evB sub xk (.put o i e) G ρ S = ((ev G e).e ρ S).to ρ (kPut1 G ρ o i)) ∧ (∀ e, evB sub xk (.ret e) G ρ S = ((ev G e).e ρ S).to ρ (kRet ρ)) ∧ evB sub xk .retN G ρ S = .ok ρ (.rt (.p .non)) S ∧
    (∀ c a b, evB sub xk (.ife c a b) G ρ S = ((ev G c).t ρ S).to ρ (kIf sub xk G ρ a b)) ∧ (∀ e, evB sub xk (.exp e) G ρ S = ((ev G e).e ρ S).to ρ (kExp ρ)) ∧ (∀ g it b, evB sub xk (.fori g it b) G ρ S = ((ev G it).i ρ S).to ρ (kFor sub xk G ρ g b)) ∧
    evB sub xk .brk G ρ S = .ok ρ .bk S ∧ evB sub xk .cnt G ρ S = .ok ρ .ct S ∧ evB sub xk .pas G ρ S = .ok ρ .nx S := by
  refine ⟨rfl, fun _ _ => rfl, fun _ _ => rfl, fun _ _ _ => to_congr fun ws S => ?_, fun _ _ => to_congr fun w S => ?_, fun _ _ _ => to_congr fun u S => to_congr fun w S => ?_, fun _ _ _ => to_congr fun u S => to_congr fun w S => to_congr fun k S => ?_, fun _ => rfl, rfl, fun _ _ _ => to_congr fun k S => ?_, fun _ => rfl, fun _ _ _ => rfl, rfl, rfl, rfl⟩
  · unfold kPar; rfl
  · unfold kUnp; rfl
  · unfold kFs2 kOpt; cases fldS w u _ S <;> rfl
  · unfold kPut3 kOpt; cases putS w k u S <;> rfl
  · cases k <;> rfl
theorem EVs : (∀ (ρ : Env) (S : Sto) (w : W), ∀ i, kSet ρ i w S = .ok (ρ.set i (some w)) .nx S) ∧ (∀ (ρ : Env) (S : Sto) (w : W) (u : W), ∀ i j, kPar ρ i j [w, u] S = .ok ((ρ.set i (some w)).set j (some u)) .nx S) ∧ (∀ (ρ : Env), ∀ S, kOpt ρ (some S) = .ok ρ .nx S) ∧ (∀ (ρ : Env) (S : Sto) (w : W) (u : W), ∀ f, kFs2 ρ u f w S = kOpt ρ (fldS w u f S)) ∧ (∀ (G : Gt) (ρ : Env) (S : Sto) (u : W), ∀ o f, kFs1 G ρ o f u S = ((ev G o).e ρ S).to ρ (kFs2 ρ u f)) ∧ (∀ (ρ : Env) (S : Sto) (w : W) (u : W) (k : W), kPut3 ρ u w k S = kOpt ρ (putS w k u S)) ∧ (∀ (G : Gt) (ρ : Env) (S : Sto) (w : W) (u : W), ∀ i, kPut2 G ρ i u w S = ((ev G i).e ρ S).to ρ (kPut3 ρ u w)) ∧ (∀ (G : Gt) (ρ : Env) (S : Sto) (u : W), ∀ o i, kPut1 G ρ o i u S = ((ev G o).e ρ S).to ρ (kPut2 G ρ i u)) ∧ (∀ (ρ : Env) (S : Sto) (w : W), kRet ρ w S = .ok ρ (.rt w) S) ∧ (∀ (G : Gt) (ρ : Env) (S : Sto) (sub : Str → Str → Bool) (xk : Str → Option (Option Str)), ∀ a b, kIf sub xk G ρ a b true S = evB sub xk a G ρ S) ∧ (∀ (G : Gt) (ρ : Env) (S : Sto) (sub : Str → Str → Bool) (xk : Str → Option (Option Str)), ∀ a b, kIf sub xk G ρ a b false S = evB sub xk b G ρ S) ∧ (∀ (ρ : Env) (S : Sto) (w : W), kExp ρ w S = .ok ρ .nx S) ∧ (∀ (G : Gt) (ρ : Env) (S : Sto) (sub : Str → Str → Bool) (xk : Str → Option (Option Str)), ∀ g b ws, kFor sub xk G ρ g b ws S = forL g (evB sub xk b G) ws ρ S) := ⟨by intros; rfl, by intros; rfl, by intros; rfl, by intros; rfl, by intros; rfl, by intros; rfl, by intros; rfl, by intros; rfl, by intros; rfl, by intros; rfl, by intros; rfl, by intros; rfl, by intros; rfl⟩
/-! ### while -/
theorem loop_mono {r : Rt} {k k' : Env → Sto → Rt} (h : ∀ ρ S, k ρ S ≠ .no → k' ρ S = k ρ S) (n : r.loop k ≠ .no) : r.loop k' = r.loop k := by
  cases r with
  | no => rfl
  | ex c ks ds ρ S => rfl
  | ok ρ f S => cases f <;> first | rfl | exact h _ _ n
theorem to_mono {α : Type} {r : Rs α} {f g : α → Sto → Rt} (h : ∀ a S, f a S ≠ .no → g a S = f a S) (n : r.to ρ f ≠ .no) : r.to ρ g = r.to ρ f := by
  cases r with
  | no => rfl
  | ex c ks ds S => rfl
  | ok a S => exact h _ _ n
theorem whlN_succ {c : TF} {b : SF} : ∀ {n : Nat} {ρ : Env} {S : Sto}, whlN c b n ρ S ≠ .no → whlN c b (n + 1) ρ S = whlN c b n ρ S
  | 0, _, _, h => absurd rfl h
  | n + 1, ρ, S, h => by
    unfold whlN at h
    show ((c ρ S).to ρ fun k S => if k = true then (b ρ S).loop (whlN c b (n + 1)) else .ok ρ .nx S) = ((c ρ S).to ρ fun k S => if k = true then (b ρ S).loop (whlN c b n) else .ok ρ .nx S)
    refine to_mono (fun k S hk => ?_) h
    cases k with
    | false => rfl
    | true => exact loop_mono (fun ρ S => whlN_succ) hk
theorem whlN_le {c : TF} {b : SF} {n : Nat} {ρ : Env} {S : Sto} (h : whlN c b n ρ S ≠ .no) : ∀ k, whlN c b (n + k) ρ S = whlN c b n ρ S
  | 0 => rfl
  | k + 1 => by
    have e := whlN_le h k
    exact (whlN_succ (n := n + k) (by rw [e]; exact h)).trans e
theorem whl_of {c : TF} {b : SF} {n : Nat} {ρ : Env} {S : Sto} {r : Rt} (e : whlN c b n ρ S = r) (h : r ≠ .no) : bWhl c b ρ S = r := by
  have hx : ∃ n, whlN c b n ρ S ≠ .no := ⟨n, by rw [e]; exact h⟩
  unfold bWhl
  rw [dif_pos hx]
  have h1 := Classical.choose_spec hx
  have h2 : whlN c b n ρ S ≠ .no := by rw [e]; exact h
  rcases Nat.le_total (Classical.choose hx) n with l | l
  · obtain ⟨k, hk⟩ := Nat.exists_eq_add_of_le l
    rw [← whlN_le h1 k, ← hk, e]
  · obtain ⟨k, hk⟩ := Nat.exists_eq_add_of_le l
    rw [hk, whlN_le h2 k, e]
/-- a turn more -/
theorem whl_step {c : TF} {b : SF} {ρ ρ' : Env} {S S1 S2 : Sto} {r : Rt} (hc : c ρ S = .ok true S1) (hb : b ρ S1 = .ok ρ' .nx S2 ∨ b ρ S1 = .ok ρ' .ct S2) (h : ∃ n, whlN c b n ρ' S2 = r) : ∃ n, whlN c b n ρ S = r := by
  obtain ⟨n, h⟩ := h
  refine ⟨n + 1, ?_⟩
  unfold whlN
  rw [hc]
  rcases hb with hb | hb
  · show (b ρ S1).loop (whlN c b n) = _
    rw [hb]; exact h
  · show (b ρ S1).loop (whlN c b n) = _
    rw [hb]; exact h
theorem whl_end {c : TF} {b : SF} {ρ : Env} {S S1 : Sto} (hc : c ρ S = .ok false S1) : ∃ n, whlN c b n ρ S = .ok ρ .nx S1 := by
  refine ⟨1, ?_⟩
  unfold whlN
  rw [hc]
  rfl
theorem whl_leave {c : TF} {b : SF} {ρ : Env} {S S1 : Sto} {r : Rt} (hc : c ρ S = .ok true S1) (hb : b ρ S1 = r) (hr : ∀ k, r.loop k = r) : ∃ n, whlN c b n ρ S = r := by
  refine ⟨1, ?_⟩
  unfold whlN
  rw [hc]
  show (b ρ S1).loop _ = _
  rw [hb]; exact hr _
/-! ### answers handed on -/
theorem EVr : (∀ (α β : Type) (a : α) (S : Sto) (g : α → Sto → Rs β), (Rs.ok a S).bind g = g a S) ∧ (∀ (α β : Type) (c : Str) (ks : List Str) (ds : List D) (S : Sto) (g : α → Sto → Rs β), (Rs.ex c ks ds S : Rs α).bind g = .ex c ks ds S) ∧
    (∀ (α : Type) (a : α) (S : Sto) (ρ : Env) (k : α → Sto → Rt), (Rs.ok a S).to ρ k = k a S) ∧ (∀ (α : Type) (c : Str) (ks : List Str) (ds : List D) (S : Sto) (ρ : Env) (k : α → Sto → Rt), (Rs.ex c ks ds S : Rs α).to ρ k = .ex c ks ds ρ S) ∧
    (∀ (ρ : Env) (S : Sto) (k : Env → Sto → Rt), (Rt.ok ρ .nx S).then k = k ρ S) ∧ (∀ (ρ : Env) (S : Sto) (w : W) (k : Env → Sto → Rt), (Rt.ok ρ (.rt w) S).then k = .ok ρ (.rt w) S) ∧ (∀ (ρ : Env) (S : Sto) (k : Env → Sto → Rt), (Rt.ok ρ .bk S).then k = .ok ρ .bk S) ∧
    (∀ (ρ : Env) (S : Sto) (k : Env → Sto → Rt), (Rt.ok ρ .ct S).then k = .ok ρ .ct S) ∧ (∀ (c : Str) (ks : List Str) (ds : List D) (ρ : Env) (S : Sto) (k : Env → Sto → Rt), (Rt.ex c ks ds ρ S).then k = .ex c ks ds ρ S) ∧
    (∀ (α : Type) (a : α) (S : Sto), (Rs.ok a S).noex = .ok a S) ∧ (∀ (α : Type) (a : α) (S : Sto), ofO (some a) S = .ok a S) ∧
    (∀ (ρ : Env) (S : Sto) (k : Env → Sto → Rt), (Rt.ok ρ .nx S).loop k = k ρ S) ∧ (∀ (ρ : Env) (S : Sto) (k : Env → Sto → Rt), (Rt.ok ρ .ct S).loop k = k ρ S) ∧ (∀ (ρ : Env) (S : Sto) (k : Env → Sto → Rt), (Rt.ok ρ .bk S).loop k = .ok ρ .nx S) ∧
    (∀ (ρ : Env) (S : Sto) (w : W) (k : Env → Sto → Rt), (Rt.ok ρ (.rt w) S).loop k = .ok ρ (.rt w) S) ∧ (∀ (c : Str) (ks : List Str) (ds : List D) (ρ : Env) (S : Sto) (k : Env → Sto → Rt), (Rt.ex c ks ds ρ S).loop k = .ex c ks ds ρ S) := by
  refine ⟨?_, ?_, ?_, ?_, ?_, ?_, ?_, ?_, ?_, ?_, ?_, ?_, ?_, ?_, ?_, ?_⟩ <;> intros <;> rfl
/-! ### ends -/
theorem fin_p {d : D} {S : Sto} : finF S.length (.ok (.p d) S) = .ok (.p d) S := by
  unfold finF
  dsimp only
  split
  · rw [List.take_length]
  · rfl
theorem EVx : (∀ (ρ : Env) (S : Sto) (w : W), endF (.ok ρ (.rt w) S) = .ok w S) ∧ (∀ (ρ : Env) (S : Sto), endF (.ok ρ .nx S) = .ok (.p .non) S) ∧ (∀ (ρ : Env) (S : Sto), ∀ c ks ds, endF (.ex c ks ds ρ S) = .ex c ks ds S) ∧ (∀ (n : Nat), finF n .no = .no) ∧ (∀ (S : Sto) (n : Nat), ∀ k, finF n (.ok (.c k) S) = .ok (.c k) S) := ⟨fun _ _ _ => rfl, fun _ _ => rfl, fun _ _ => fun _ _ _ => rfl, fun _ => rfl, fun _ _ => fun _ => rfl⟩
theorem fin_ex {c : Str} {ks : List Str} {ds : List D} {S : Sto} : finF S.length (.ex c ks ds S) = .ex c ks ds S := by
  unfold finF
  dsimp only
  split
  · rw [List.take_length]
  · rfl
/-- behind a call that made things -/
theorem fin_app {d : D} {S T : Sto} (h : S.all (Cel.below S.length) = true) : finF S.length (.ok (.p d) (S ++ T)) = .ok (.p d) S := by
  unfold finF
  dsimp only
  rw [List.take_left, if_pos h]
end
end M
set_option linter.all false
namespace M
/-! ### plain numbers -/
theorem gcd_fmod (a b : Int) : Int.gcd b (a.fmod b) = Int.gcd a b := by
  rw [Int.fmod_def, Int.mul_comm b, Int.gcd_sub_mul_right_right, Int.gcd_comm]
theorem fmod_lt {a b : Int} (h : b ≠ 0) : (a.fmod b).natAbs < b.natAbs := by
  rw [Int.fmod_eq_emod]
  have h1 := Int.emod_nonneg a h
  have h2 := Int.emod_lt a h
  split
  · omega
  · rename_i hn
    have h3 : ¬ b ∣ a := fun z => hn (.inr z)
    have h4 : a % b ≠ 0 := fun z => h3 (Int.dvd_of_emod_eq_zero z)
    have h5 : ¬ 0 ≤ b := fun z => hn (.inl z)
    omega
theorem gcd_pos_left {a b : Int} (h : b ≠ 0) : 0 < Int.gcd a b := Int.gcd_pos_of_ne_zero_right a h
/-- the divisor with the bottom's sign -/
def dvs (a b : Int) : Int := if b > 0 then (Int.gcd a b : Int) else -(Int.gcd a b : Int)
theorem fdiv_exact {x d q : Int} (hd : d ≠ 0) (e : x = d * q) : x.fdiv d = q := by
  rw [e, Int.mul_fdiv_cancel_left _ hd]
theorem dvs_ne {a b : Int} (h : b ≠ 0) : dvs a b ≠ 0 := by
  have := gcd_pos_left (a := a) h
  unfold dvs
  split <;> omega
theorem num_dvs {a b : Int} (h : b ≠ 0) : a.fdiv (dvs a b) = (Rat.divInt a b).num := by
  have g := gcd_pos_left (a := a) h
  obtain ⟨a', ha⟩ := Int.gcd_dvd_left a b
  refine fdiv_exact (dvs_ne h) ?_
  rw [Rat.num_divInt, Int.gcd_comm b a]
  unfold dvs
  split
  · rename_i hb
    rw [Int.sign_eq_one_of_pos hb, Int.one_mul]
    exact (Int.mul_ediv_cancel' (Int.gcd_dvd_left a b)).symm
  · rename_i hb
    have hb : b < 0 := by omega
    rw [Int.sign_eq_neg_one_of_neg hb]
    have e : -1 * a / (Int.gcd a b : Int) = -(a / (Int.gcd a b : Int)) := by
      rw [Int.neg_one_mul, Int.neg_ediv_of_dvd (Int.gcd_dvd_left a b)]
    rw [e, Int.neg_mul_neg]
    exact (Int.mul_ediv_cancel' (Int.gcd_dvd_left a b)).symm
theorem den_dvs {a b : Int} (h : b ≠ 0) : b.fdiv (dvs a b) = ((Rat.divInt a b).den : Int) := by
  have g := gcd_pos_left (a := a) h
  refine fdiv_exact (dvs_ne h) ?_
  rw [Rat.den_divInt, if_neg h, Int.gcd_comm b a]
  have hd : (Int.gcd a b : Nat) ∣ b.natAbs := Int.ofNat_dvd_left.mp (Int.gcd_dvd_right a b)
  have e : ((Int.gcd a b : Int)) * ((b.natAbs / Int.gcd a b : Nat) : Int) = (b.natAbs : Int) := by
    rw [← Int.natCast_mul, Nat.mul_div_cancel' hd]
  unfold dvs
  split
  · rw [e]; omega
  · rw [Int.neg_mul, e]; omega
theorem divInt_den_pos (q : Rat) : (0 : Int) < q.den := by have := q.den_pos; omega
/-! ### sizes -/
theorem log2_lt {n k : Nat} (h : n < 2 ^ k) (hk : 0 < k) : n.log2 < k := by
  by_cases hn : n = 0
  · subst hn; simpa using hk
  · exact (Nat.log2_lt hn).mpr h
theorem natAbs_mul_lt {a b : Int} {m n : Nat} (ha : a.natAbs < 2 ^ m) (hb : b.natAbs < 2 ^ n) : (a * b).natAbs < 2 ^ (m + n) := by
  rw [Int.natAbs_mul, Nat.pow_add]
  exact Nat.mul_lt_mul'' ha hb
theorem natAbs_add_lt {a b : Int} {m n : Nat} (ha : a.natAbs < 2 ^ m) (hb : b.natAbs < 2 ^ n) : (a + b).natAbs < 2 ^ (max m n + 1) := by
  have h1 := Int.natAbs_add_le a b
  have h2 : 2 ^ m ≤ 2 ^ max m n := Nat.pow_le_pow_right (by decide) (Nat.le_max_left _ _)
  have h3 : 2 ^ n ≤ 2 ^ max m n := Nat.pow_le_pow_right (by decide) (Nat.le_max_right _ _)
  rw [Nat.pow_succ]
  omega
theorem natAbs_sub_lt {a b : Int} {m n : Nat} (ha : a.natAbs < 2 ^ m) (hb : b.natAbs < 2 ^ n) : (a - b).natAbs < 2 ^ (max m n + 1) := by
  rw [Int.sub_eq_add_neg]
  exact natAbs_add_lt ha (by rwa [Int.natAbs_neg])
/-- top and bottom below 2 ^ n -/
def Sz (n : Nat) (q : Rat) : Prop := q.num.natAbs < 2 ^ n ∧ q.den < 2 ^ n
theorem Sz.mono {m n : Nat} {q : Rat} (h : Sz m q) (l : m ≤ n) : Sz n q := by
  have : 2 ^ m ≤ 2 ^ n := Nat.pow_le_pow_right (by decide) l
  exact ⟨by have := h.1; omega, by have := h.2; omega⟩
theorem sz_divInt {a b : Int} {n : Nat} (h : b ≠ 0) (ha : a.natAbs < 2 ^ n) (hb : b.natAbs < 2 ^ n) : Sz n (Rat.divInt a b) := by
  have g := gcd_pos_left (a := a) h
  refine ⟨?_, ?_⟩
  · rw [Rat.num_divInt, Int.natAbs_ediv_of_dvd]
    · rw [Int.natAbs_mul]
      refine Nat.lt_of_le_of_lt (Nat.div_le_self _ _) ?_
      refine Nat.lt_of_le_of_lt (Nat.mul_le_mul_right _ ?_) (by rw [Nat.one_mul]; exact ha)
      rw [Int.natAbs_sign]
      split <;> omega
    · exact Int.dvd_mul_of_dvd_right (Int.gcd_dvd_right b a)
  · rw [Rat.den_divInt, if_neg h]
    exact Nat.lt_of_le_of_lt (Nat.div_le_self _ _) hb
end M
set_option Elab.async false
set_option linter.all false
set_option maxRecDepth 100000
set_option maxHeartbeats 4000000
namespace M
open PySem PySem.Spec PyProof.Rows L2 FR
section
variable {sub : Str → Str → Bool} {xk : Str → Option (Option Str)} {G G' : Gt} {S : Sto} {ρ : Env}
/-- not by computation -/
theorem nr {α : Type} {a b : α} (h : a = b) : a = b := h
theorem bod {np nN : Nat} {f : SF} {ws : List W} (h : ws.length = np) : bodyF np nN f ws S = finF S.length (endF (f (ws.map some ++ List.replicate (nN - np) none) S)) := by
  unfold bodyF; rw [if_pos h]
/-! ### operations on whole numbers -/
theorem bi_add {i j : Int} : binF G .Add (.p (.int i)) (.p (.int j)) S = .ok (int (i + j)) S := nr rfl
theorem bi_sub {i j : Int} : binF G .Sub (.p (.int i)) (.p (.int j)) S = .ok (int (i - j)) S := nr rfl
theorem bi_mul {i j : Int} (h : okMul i j) : binF G .Mult (.p (.int i)) (.p (.int j)) S = .ok (int (i * j)) S := by
  show ofO ((if okMul i j then some (i * j) else none).map int) S = _
  rw [if_pos h]; rfl
theorem bi_div {i j : Int} (h : okDiv j) : binF G .FloorDiv (.p (.int i)) (.p (.int j)) S = .ok (int (i.fdiv j)) S := by
  show ofO ((if okDiv j then some (i.fdiv j) else none).map int) S = _
  rw [if_pos h]; rfl
theorem bi_mod {i j : Int} (h : j ≠ 0) : binF G .Mod (.p (.int i)) (.p (.int j)) S = .ok (int (i.fmod j)) S := by
  show ofO ((if j ≠ 0 then some (i.fmod j) else none).map int) S = _
  rw [if_pos h]; rfl
theorem bi_pow {i j : Int} (h : okPow i j) : binF G .Pow (.p (.int i)) (.p (.int j)) S = .ok (int (i ^ j.toNat)) S := by
  show ofO ((if okPow i j then some (i ^ j.toNat) else none).map int) S = _
  rw [if_pos h]; rfl
theorem ci_lt {i j : Int} : cmpF G .Lt (.p (.int i)) (.p (.int j)) S = .ok (decide (i < j)) S := nr rfl
theorem ci_le {i j : Int} : cmpF G .LtE (.p (.int i)) (.p (.int j)) S = .ok (decide (i ≤ j)) S := nr rfl
theorem ci_gt {i j : Int} : cmpF G .Gt (.p (.int i)) (.p (.int j)) S = .ok (decide (j < i)) S := nr rfl
theorem ci_ge {i j : Int} : cmpF G .GtE (.p (.int i)) (.p (.int j)) S = .ok (decide (j ≤ i)) S := nr rfl
theorem eq_ii {i j : Int} : eqD (.int i) (.int j) = some (decide (i = j)) := by
  simp [eqD, D.py, SeqAt.shaped, PyData.canLay0, PyData.depth, PyData.eqv]
  rfl
theorem eq_tt {i j k l : Int} : eqD (.tup [.int i, .int j]) (.tup [.int k, .int l]) = some (decide (i = k) && decide (j = l)) := by
  simp [eqD, D.py, D.pys, SeqAt.shaped, PyData.canLay0, PyData.canLayAll0, PyData.depth, PyData.depthAll, PyData.eqv, PyData.eqvAll]
  rfl
theorem eq_nt {i j : Int} : eqD .non (.tup [.int i, .int j]) = some false := by
  simp [eqD, D.py, D.pys, SeqAt.shaped, PyData.canLay0, PyData.canLayAll0, PyData.depth, PyData.depthAll, PyData.eqv, PyData.eqvAll]
/-- == of data -/
theorem c_eq {d e : D} {b : Bool} (n : ∀ c ks ds, d ≠ .ins c ks ds) (h : eqD d e = some b) : cmpF G .Eq (.p d) (.p e) S = .ok b S := by
  show eqF G (.p d) (.p e) S = _
  unfold eqF
  split
  · rename_i c ks ds e1
    cases e1
    exact absurd rfl (n c ks ds)
  · show ofO (eqD d e) S = _
    rw [h]; rfl
theorem c_ne {d e : D} {b : Bool} (n : ∀ c ks ds, d ≠ .ins c ks ds) (h : eqD d e = some b) : cmpF G .NotEq (.p d) (.p e) S = .ok (!b) S := by
  have q := c_eq (G := G) (S := S) n h
  show (eqF G (.p d) (.p e) S).bind _ = _
  rw [show eqF G (.p d) (.p e) S = .ok b S from q]
  rfl
theorem ci_eq {i j : Int} : cmpF G .Eq (.p (.int i)) (.p (.int j)) S = .ok (decide (i = j)) S := c_eq (fun _ _ _ z => by cases z) eq_ii
theorem ci_ne {i j : Int} : cmpF G .NotEq (.p (.int i)) (.p (.int j)) S = .ok (!decide (i = j)) S := c_ne (fun _ _ _ z => by cases z) eq_ii
theorem okMul_sz {i j : Int} {m n : Nat} (h : i.natAbs < 2 ^ m) (k : j.natAbs < 2 ^ n) (hm : 0 < m) (hn : 0 < n) (l : m + n < 900000) : okMul i j := .inr (.inr (by have := log2_lt h hm; have := log2_lt k hn; omega))
/-! ### the ratios' defs -/
theorem s_is_integer (d : D) {b c : Bool} (h1 : isiD .int d = some b) (h2 : isiD .bool d = some c) : bodyF 1 1 (evB sub xk b_is_integer G) [.p d] S = .ok (bl (b && !c)) S := by
  refine (bod rfl).trans ?_
  show finF S.length (endF (evB sub xk b_is_integer G [some (.p d)] S)) = _
  unfold b_is_integer
  simp only [EVb, EVs, EVe, EVt, EVl, EVk, EVv, EVx, List.getElem?_cons_zero, List.getElem?_cons_succ, List.set_cons_zero, List.set_cons_succ, EVr, Option.map_some, List.map_nil, List.append_nil, isiF, h1, h2]
  cases b <;> simp only [EVb, EVs, EVe, EVt, EVl, EVk, EVv, EVx, List.getElem?_cons_zero, List.getElem?_cons_succ, List.set_cons_zero, List.set_cons_succ, EVr, Option.map_some, List.map_nil, List.append_nil, isiF, h1, h2, fin_p, Bool.true_and, Bool.false_and]
theorem divisor_loop : ∀ (n : Nat) (a b : Int), b.natAbs ≤ n → ∃ g : Int, g.natAbs = Int.gcd a b ∧ ∃ k, whlN (ev G (.cmp .NotEq (.var 1) (.cst (.int 0)))).t (evB sub xk (.seq (.par 0 1 (.cons (.var 1) (.cons (.bin .Mod (.var 0) (.var 1)) .nil))) .nil) G) k [some (int a), some (int b)] S = .ok [some (int g), some (int 0)] .nx S := by
  intro n
  induction n with
  | zero =>
    intro a b h
    have hb : b = 0 := by omega
    subst hb
    exact ⟨a, (Int.gcd_zero_right a).symm, whl_end (by simp only [EVb, EVs, EVe, EVt, EVl, EVk, EVv, EVx, List.getElem?_cons_zero, List.getElem?_cons_succ, List.set_cons_zero, List.set_cons_succ, EVr, Option.map_some, List.map_nil, List.append_nil, ci_ne, decide_true, Bool.not_true])⟩
  | succ n ih =>
    intro a b h
    by_cases hb : b = 0
    · subst hb
      exact ⟨a, (Int.gcd_zero_right a).symm, whl_end (by simp only [EVb, EVs, EVe, EVt, EVl, EVk, EVv, EVx, List.getElem?_cons_zero, List.getElem?_cons_succ, List.set_cons_zero, List.set_cons_succ, EVr, Option.map_some, List.map_nil, List.append_nil, ci_ne, decide_true, Bool.not_true])⟩
    · have l := fmod_lt (a := a) hb
      obtain ⟨g, hg, hk⟩ := ih b (a.fmod b) (by omega)
      refine ⟨g, by rw [hg, gcd_fmod], whl_step (ρ' := [some (int b), some (int (a.fmod b))]) (S1 := S) (S2 := S) ?_ (.inl ?_) hk⟩
      · simp only [EVb, EVs, EVe, EVt, EVl, EVk, EVv, EVx, List.getElem?_cons_zero, List.getElem?_cons_succ, List.set_cons_zero, List.set_cons_succ, EVr, Option.map_some, List.map_nil, List.append_nil, ci_ne, hb, decide_false, Bool.not_false]
      · simp only [EVb, EVs, EVe, EVt, EVl, EVk, EVv, EVx, List.getElem?_cons_zero, List.getElem?_cons_succ, List.set_cons_zero, List.set_cons_succ, EVr, Option.map_some, List.map_nil, List.append_nil, bi_mod hb]
theorem s_divisor_of {a b : Int} : bodyF 2 2 (evB sub xk b_divisor_of G) [int a, int b] S = .ok (int (Int.gcd a b)) S := by
  obtain ⟨g, hg, k, hk⟩ := divisor_loop (sub := sub) (xk := xk) (G := G) (S := S) b.natAbs a b (Nat.le_refl _)
  refine (bod rfl).trans ?_
  show finF S.length (endF (evB sub xk b_divisor_of G [some (int a), some (int b)] S)) = _
  unfold b_divisor_of
  have e : evB sub xk (.whl (.cmp .NotEq (.var 1) (.cst (.int 0))) (.seq (.par 0 1 (.cons (.var 1) (.cons (.bin .Mod (.var 0) (.var 1)) .nil))) .nil)) G [some (int a), some (int b)] S = .ok [some (int g), some (int 0)] .nx S := whl_of hk (fun z => by cases z)
  have e2 : (if g < 0 then -g else g) = (Int.gcd a b : Int) := by rw [← hg]; split <;> omega
  simp only [EVb, EVs, EVe, EVt, EVl, EVk, EVv, EVx, List.getElem?_cons_zero, List.getElem?_cons_succ, List.set_cons_zero, List.set_cons_succ, EVr, Option.map_some, List.map_nil, List.append_nil, e, bfF, e2, fin_p]
/-! a def of the program's, as G has it -/
def Fn (sub : Str → Str → Bool) (xk : Str → Option (Option Str)) (G G' : Gt) (f : Str) (np nN : Nat) (b : B) : Prop := [] ∈ G.df f ∧ G.fn f = bodyF np nN (evB sub xk b G')
def Me (sub : Str → Str → Bool) (xk : Str → Option (Option Str)) (G G' : Gt) (c m : Str) (np nN : Nat) (b : B) : Prop := G.dm c m = true ∧ G.me c m = bodyF np nN (evB sub xk b G')
end
/-- a Ratio -/
def rt (q : Rat) : D := .ins "Ratio" ["top", "bottom"] [.int q.num, .int q.den]
/-- the ratios' defs stand at G over G' -/
structure RatF (sub : Str → Str → Bool) (xk : Str → Option (Option Str)) (G G' : Gt) : Prop where
  is_integer : Fn sub xk G G' "is_integer" 1 1 b_is_integer
  divisor_of : Fn sub xk G G' "divisor_of" 2 2 b_divisor_of
  parts : Fn sub xk G G' "parts" 1 1 b_parts
  checked : Fn sub xk G G' "checked" 1 2 b_checked
  init : G.fn "Ratio" = mkF (bodyF 3 4 (evB sub xk b_Ratio___init__ G')) "Ratio" true
  initD : [] ∈ G.df "Ratio" ∧ [1] ∈ G.df "Ratio"
  add : Me sub xk G G' "Ratio" "__add__" 2 4 b_Ratio___add__
  sub_ : Me sub xk G G' "Ratio" "__sub__" 2 4 b_Ratio___sub__
  mul : Me sub xk G G' "Ratio" "__mul__" 2 4 b_Ratio___mul__
  neg : Me sub xk G G' "Ratio" "__neg__" 1 1 b_Ratio___neg__
  eq : Me sub xk G G' "Ratio" "__eq__" 2 2 b_Ratio___eq__
  lt : Me sub xk G G' "Ratio" "__lt__" 2 4 b_Ratio___lt__
  le : Me sub xk G G' "Ratio" "__le__" 2 4 b_Ratio___le__
  text : Me sub xk G G' "Ratio" "text" 1 1 b_Ratio_text
  xb : xk "BadNumber" = some (some ("given" : Str))
  xz : xk "ByZero" = some none
section
variable {sub : Str → Str → Bool} {xk : Str → Option (Option Str)} {G G' G'' : Gt} {S : Sto} {ρ : Env}
theorem fin_len {d : D} {n : Nat} {T : Sto} (h : T.length = n) : finF n (.ok (.p d) T) = .ok (.p d) T := by subst h; exact fin_p
/-- no cell names a later one -/
abbrev wf (S : Sto) : Prop := S.all (Cel.below S.length) = true
theorem app_get {c : Cel} : (S ++ [c])[S.length]? = some c := List.getElem?_concat_length
theorem app_set {c d : Cel} : (S ++ [c]).set S.length d = S ++ [d] := by
  rw [List.set_append_right _ _ (Nat.le_refl _), Nat.sub_self]; rfl
theorem fld_app {c f : Str} {ks ks' : List Str} {ws ws' : List W} {u : W} (h : ks.length < 100 ∧ ks.length = ws.length) (e : putK f u ks ws = (ks', ws')) : fldS (.c S.length) u f (S ++ [.live (.ins c ks ws)]) = some (S ++ [.live (.ins c ks' ws')]) := by
  unfold fldS
  dsimp only
  rw [app_get]
  dsimp only
  rw [if_pos h, e, app_set]
theorem put1 {w : W} : putK "top" w [] [] = ([("top" : Str)], [w]) := nr rfl
theorem put2 {w u : W} : putK "bottom" w ["top"] [u] = ([("top" : Str), "bottom"], [u, w]) := by
  unfold putK
  rw [if_neg (by decide)]
  rfl
theorem mk_app {init : List W → Sto → Rs W} {c : Str} {ws : List W} {ks : List Str} {ds : List D} (h : wf S) (e : init (.c S.length :: ws) (S ++ [.live (.ins c [] [])]) = .ok (.p .non) (S ++ [.live (.ins c ks (ds.map .p))])) : mkF init c true ws S = .ok (.p (.ins c ks ds)) S := by
  unfold mkF
  rw [e]
  show finF S.length (frz (.c S.length) (S ++ [.live (.ins c ks (ds.map .p))])) = _
  unfold frz
  dsimp only
  rw [app_get]
  dsimp only [Ct.pure]
  rw [pures_map]
  show finF S.length (.ok (.p (.ins c ks ds)) ((S ++ [Cel.live (.ins c ks (ds.map .p))]).set S.length (.dead (.ins c ks ds)))) = _
  rw [app_set]
  exact fin_app h
theorem s_init {a b : Int} {N : Nat} (R : RatF sub xk G' G'') (hS : wf S) (hb : b ≠ 0) (hN : 0 < N ∧ N ≤ 9000) (h2 : b.natAbs < 2 ^ N) : mkF (bodyF 3 4 (evB sub xk b_Ratio___init__ G')) "Ratio" true [int a, int b] S = .ok (.p (rt (Rat.divInt a b))) S := by
  have hd : okDiv (dvs a b) := by
    refine ⟨dvs_ne hb, ?_⟩
    have g : (Int.gcd a b : Nat) ≤ b.natAbs := Nat.le_of_dvd (by omega) (Int.ofNat_dvd_left.mp (Int.gcd_dvd_right a b))
    have l : (dvs a b).natAbs.log2 < N := log2_lt (by unfold dvs; split <;> omega) hN.1
    omega
  have hv : ∀ S, G'.fn "divisor_of" [int a, int b] S = .ok (int (Int.gcd a b)) S := fun S => by rw [R.divisor_of.2]; exact s_divisor_of
  have e : bodyF 3 4 (evB sub xk b_Ratio___init__ G') [.c S.length, int a, int b] (S ++ [.live (.ins "Ratio" [] [])]) = .ok (.p .non) (S ++ [.live (.ins "Ratio" ["top", "bottom"] ([.int (Rat.divInt a b).num, .int (Rat.divInt a b).den].map .p))]) := by
    refine (bod rfl).trans ?_
    show finF _ (endF (evB sub xk b_Ratio___init__ G' [some (.c S.length), some (int a), some (int b), none] _)) = _
    unfold b_Ratio___init__
    by_cases hp : 0 < b
    · have ev : (Int.gcd a b : Int) = dvs a b := by unfold dvs; rw [if_pos hp]
      have l1 := fld_app (S := S) (c := "Ratio") (ks := []) (ws := []) (u := int ((Rat.divInt a b).num)) ⟨by simp, rfl⟩ put1
      have l2 := fld_app (S := S) (c := "Ratio") (ks := ["top"]) (ws := [int ((Rat.divInt a b).num)]) (u := int ((Rat.divInt a b).den)) ⟨by simp, rfl⟩ put2
      simp only [EVb, EVs, EVe, EVt, EVl, EVk, EVv, EVx, List.getElem?_cons_zero, List.getElem?_cons_succ, List.set_cons_zero, List.set_cons_succ, EVr, Option.map_some, List.map_nil, List.append_nil, ci_eq, hb, decide_false, decide_true, ci_gt, hp, R.divisor_of.1, if_pos, hv, ev, bi_div hd, num_dvs hb, den_dvs hb, app_get, l1, l2]
      exact fin_len (by simp only [List.length_append, List.length_cons, List.length_nil])
    · have ev : -(Int.gcd a b : Int) = dvs a b := by unfold dvs; rw [if_neg hp]
      have l1 := fld_app (S := S) (c := "Ratio") (ks := []) (ws := []) (u := int ((Rat.divInt a b).num)) ⟨by simp, rfl⟩ put1
      have l2 := fld_app (S := S) (c := "Ratio") (ks := ["top"]) (ws := [int ((Rat.divInt a b).num)]) (u := int ((Rat.divInt a b).den)) ⟨by simp, rfl⟩ put2
      simp only [EVb, EVs, EVe, EVt, EVl, EVk, EVv, EVx, List.getElem?_cons_zero, List.getElem?_cons_succ, List.set_cons_zero, List.set_cons_succ, EVr, Option.map_some, List.map_nil, List.append_nil, ci_eq, hb, decide_false, decide_true, ci_gt, hp, R.divisor_of.1, if_pos, hv, negF, ev, bi_div hd, num_dvs hb, den_dvs hb, app_get, l1, l2]
      exact fin_len (by simp only [List.length_append, List.length_cons, List.length_nil])
  exact mk_app hS e
/-- what a number is -/
inductive Num : D → Rat → Prop where
  | i (i : Int) : Num (.int i) i
  | r (q : Rat) : Num (rt q) q
theorem f_top {q : Rat} : fldOf S "top" (.p (rt q)) = some (int q.num) := by
  show getF "top" [("top" : Str), "bottom"] _ = _
  unfold getF
  exact if_pos rfl
theorem f_bot {q : Rat} : fldOf S "bottom" (.p (rt q)) = some (int q.den) := by
  show getF "bottom" [("top" : Str), "bottom"] [int q.num, int q.den] = _
  unfold getF
  rw [if_neg (by decide)]
  unfold getF
  exact if_pos rfl
theorem i_own {q : Rat} : isiD (.own "Ratio") (rt q) = some true := by
  show some (decide (("Ratio" : Str) = "Ratio")) = _
  rw [decide_eq_true rfl]
theorem tup2 {a b : Int} : tupF [int a, int b] S = .ok (.p (.tup [.int a, .int b])) S := nr rfl
theorem sc_int (R : RatF sub xk G G') {d : D} {b c : Bool} (h1 : isiD .int d = some b) (h2 : isiD .bool d = some c) : G.fn "is_integer" [.p d] S = .ok (bl (b && !c)) S := by
  rw [R.is_integer.2]; exact s_is_integer d h1 h2
theorem s_parts {o : D} {r : Rat} (R : RatF sub xk G' G'') (h : Num o r) : bodyF 1 1 (evB sub xk b_parts G') [.p o] S = .ok (.p (.tup [.int r.num, .int r.den])) S := by
  refine (bod rfl).trans ?_
  show finF S.length (endF (evB sub xk b_parts G' [some (.p o)] S)) = _
  unfold b_parts
  cases h with
  | i i =>
    have e := sc_int (S := S) R (d := .int i) (b := true) (c := false) rfl rfl
    simp only [EVb, EVs, EVe, EVt, EVl, EVk, EVv, EVx, List.getElem?_cons_zero, List.getElem?_cons_succ, List.set_cons_zero, List.set_cons_succ, EVr, Option.map_some, List.map_nil, List.append_nil, R.is_integer.1, if_pos, e, Bool.not_false, Bool.and_self, truth, tup2, fin_p, Rat.num_intCast, Rat.den_intCast]
    rfl
  | r q =>
    have e := sc_int (S := S) R (d := rt r) (b := false) (c := false) rfl rfl
    simp only [EVb, EVs, EVe, EVt, EVl, EVk, EVv, EVx, List.getElem?_cons_zero, List.getElem?_cons_succ, List.set_cons_zero, List.set_cons_succ, EVr, Option.map_some, List.map_nil, List.append_nil, R.is_integer.1, if_pos, e, Bool.not_false, Bool.and_self, Bool.false_and, truth, isiF, i_own, f_top, f_bot, tup2, fin_p]
/-- no number -/
structure NoNum (d : D) : Prop where
  i : ∃ b c, isiD .int d = some b ∧ isiD .bool d = some c ∧ (b && !c) = false
  o : isiD (.own "Ratio") d = some false
theorem s_parts_no {o : D} (R : RatF sub xk G' G'') (h : NoNum o) : bodyF 1 1 (evB sub xk b_parts G') [.p o] S = .ok (.p .non) S := by
  refine (bod rfl).trans ?_
  show finF S.length (endF (evB sub xk b_parts G' [some (.p o)] S)) = _
  unfold b_parts
  obtain ⟨b, c, h1, h2, h3⟩ := h.i
  have e := sc_int (S := S) R h1 h2
  rw [h3] at e
  simp only [EVb, EVs, EVe, EVt, EVl, EVk, EVv, EVx, List.getElem?_cons_zero, List.getElem?_cons_succ, List.set_cons_zero, List.set_cons_succ, EVr, Option.map_some, List.map_nil, List.append_nil, R.is_integer.1, if_pos, e, truth, isiF, h.o, fin_p]
end
/-! ### all levels -/
section
variable {sub : Str → Str → Bool} {xk : Str → Option (Option Str)} {g : Nat → Gt} (R : ∀ k, RatF sub xk (g (k + 1)) (g k)) {S : Sto} {k : Nat}
include R
theorem pre1 {k : Nat} (h : 1 ≤ k) : ∃ j, k = j + 1 ∧ RatF sub xk (g k) (g j) := by
  obtain ⟨j, rfl⟩ : ∃ j, k = j + 1 := ⟨k - 1, by omega⟩
  exact ⟨j, rfl, R j⟩
theorem r_parts (h : 2 ≤ k) {o : D} {r : Rat} (hn : Num o r) : (g k).fn "parts" [.p o] S = .ok (.p (.tup [.int r.num, .int r.den])) S := by
  obtain ⟨j, rfl, R1⟩ := pre1 R (k := k) (by omega)
  obtain ⟨i, rfl, R2⟩ := pre1 R (k := j) (by omega)
  rw [R1.parts.2]
  exact s_parts R2 hn
theorem r_parts_no (h : 2 ≤ k) {o : D} (hn : NoNum o) : (g k).fn "parts" [.p o] S = .ok (.p .non) S := by
  obtain ⟨j, rfl, R1⟩ := pre1 R (k := k) (by omega)
  obtain ⟨i, rfl, R2⟩ := pre1 R (k := j) (by omega)
  rw [R1.parts.2]
  exact s_parts_no R2 hn
theorem r_new (h : 2 ≤ k) (hS : wf S) {a b : Int} {N : Nat} (hb : b ≠ 0) (hN : 0 < N ∧ N ≤ 9000) (h2 : b.natAbs < 2 ^ N) : (g k).fn "Ratio" [int a, int b] S = .ok (.p (rt (Rat.divInt a b))) S := by
  obtain ⟨j, rfl, R1⟩ := pre1 R (k := k) (by omega)
  obtain ⟨i, rfl, R2⟩ := pre1 R (k := j) (by omega)
  rw [R1.init]
  exact s_init R2 hS hb hN h2
theorem r_new0 (h : 2 ≤ k) (hS : wf S) {a : Int} : (g k).fn "Ratio" [int a, int 0] S = .ex "ByZero" [] [] S := by
  obtain ⟨j, rfl, R1⟩ := pre1 R (k := k) (by omega)
  rw [R1.init]
  have e : bodyF 3 4 (evB sub xk b_Ratio___init__ (g j)) [.c S.length, int a, int 0] (S ++ [.live (.ins "Ratio" [] [])]) = .ex "ByZero" [] [] (S ++ [.live (.ins "Ratio" [] [])]) := by
    refine (bod rfl).trans ?_
    show finF _ (endF (evB sub xk b_Ratio___init__ (g j) [some (.c S.length), some (int a), some (int 0), none] _)) = _
    unfold b_Ratio___init__
    have z : ∀ ρ S, evB sub xk (.rse0 "ByZero") (g j) ρ S = .ex "ByZero" [] [] ρ S := fun ρ S => by
      show bRse0 xk "ByZero" ρ S = _
      unfold bRse0
      rw [if_pos R1.xz]
    simp only [EVb, EVs, EVe, EVt, EVl, EVk, EVv, EVx, List.getElem?_cons_zero, List.getElem?_cons_succ, List.set_cons_zero, List.set_cons_succ, EVr, Option.map_some, List.map_nil, List.append_nil, ci_eq, decide_true, z, fin_ex]
  unfold mkF
  rw [e]
  show finF S.length (.ex "ByZero" [] [] (S ++ [.live (.ins "Ratio" [] [])])) = _
  unfold finF
  dsimp only
  rw [List.take_left, if_pos hS]
theorem r_checked (h : 3 ≤ k) {o : D} {r : Rat} (hn : Num o r) : (g k).fn "checked" [.p o] S = .ok (.p (.tup [.int r.num, .int r.den])) S := by
  obtain ⟨j, rfl, R1⟩ := pre1 R (k := k) (by omega)
  obtain ⟨i, rfl, R2⟩ := pre1 R (k := j) (by omega)
  rw [R1.checked.2]
  refine (bod rfl).trans ?_
  show finF S.length (endF (evB sub xk b_checked (g (i + 1)) [some (.p o), none] S)) = _
  unfold b_checked
  have e : ∀ d : D, d ≠ .non → cmpF (g (i + 1)) .Is (.p d) (.p .non) S = .ok false S := fun d hd => by
    show ofO (isNon (.p d)) S = _
    cases d <;> first | rfl | exact absurd rfl hd
  simp only [EVb, EVs, EVe, EVt, EVl, EVk, EVv, EVx, List.getElem?_cons_zero, List.getElem?_cons_succ, List.set_cons_zero, List.set_cons_succ, EVr, Option.map_some, List.map_nil, List.append_nil, R2.parts.1, if_pos, r_parts R (k := i + 1) (by omega) hn, e _ (show D.tup _ ≠ D.non from fun z => by cases z), fin_p]
theorem r_checked_no (h : 3 ≤ k) {o : D} (hn : NoNum o) : (g k).fn "checked" [.p o] S = .ex "BadNumber" ["given"] [o] S := by
  obtain ⟨j, rfl, R1⟩ := pre1 R (k := k) (by omega)
  obtain ⟨i, rfl, R2⟩ := pre1 R (k := j) (by omega)
  rw [R1.checked.2]
  refine (bod rfl).trans ?_
  show finF S.length (endF (evB sub xk b_checked (g (i + 1)) [some (.p o), none] S)) = _
  unfold b_checked
  have e : cmpF (g (i + 1)) .Is (.p .non) (.p .non) S = .ok true S := rfl
  have z : ∀ a d, evB sub xk (.rse1 "BadNumber" (.var 0)) (g (i + 1)) (some (.p d) :: a) S = .ex "BadNumber" ["given"] [d] (some (.p d) :: a) S := fun a d => by
    show bRse1 xk "BadNumber" (ev (g (i + 1)) (.var 0)).e (some (.p d) :: a) S = _
    unfold bRse1
    rw [R2.xb]
    dsimp only
    simp only [EVb, EVs, EVe, EVt, EVl, EVk, EVv, EVx, List.getElem?_cons_zero, List.getElem?_cons_succ, List.set_cons_zero, List.set_cons_succ, EVr, Option.map_some, List.map_nil, List.append_nil]
    rfl
  simp only [EVb, EVs, EVe, EVt, EVl, EVk, EVv, EVx, List.getElem?_cons_zero, List.getElem?_cons_succ, List.set_cons_zero, List.set_cons_succ, EVr, Option.map_some, List.map_nil, List.append_nil, R2.parts.1, if_pos, r_parts_no R (k := i + 1) (by omega) hn, e, z, fin_ex]
theorem unp2 {ρ : Env} {i j : Nat} {a b : D} : kUnp ρ [i, j] (.p (.tup [a, b])) S = .ok ((ρ.set i (some (.p a))).set j (some (.p b))) .nx S := nr rfl
/-- + - * -/
theorem r_add (h : 4 ≤ k) (hS : wf S) {q r : Rat} {o : D} (hn : Num o r) {m n : Nat} (hq : Sz m q) (hr : Sz n r) (l : m + n < 8999) (hm : 0 < m) (hn0 : 0 < n) : (g k).me "Ratio" "__add__" [.p (rt q), .p o] S = .ok (.p (rt (q + r))) S := by
  obtain ⟨j, rfl, R1⟩ := pre1 R (k := k) (by omega)
  obtain ⟨i, rfl, R2⟩ := pre1 R (k := j) (by omega)
  rw [R1.add.2]
  refine (bod rfl).trans ?_
  show finF S.length (endF (evB sub xk b_Ratio___add__ (g (i + 1)) [some (.p (rt q)), some (.p o), none, none] S)) = _
  unfold b_Ratio___add__
  have d1 : (q.den : Int) ≠ 0 := by have := q.den_pos; omega
  have d2 : (r.den : Int) ≠ 0 := by have := r.den_pos; omega
  have k1 : okMul q.num r.den := okMul_sz hq.1 (by simpa using hr.2) hm hn0 (by omega)
  have k2 : okMul r.num q.den := okMul_sz hr.1 (by simpa using hq.2) hn0 hm (by omega)
  have k3 : okMul (q.den : Int) r.den := okMul_sz (by simpa using hq.2) (by simpa using hr.2) hm hn0 (by omega)
  have b3 : ((q.den : Int) * r.den).natAbs < 2 ^ (m + n) := natAbs_mul_lt (m := m) (n := n) (by simpa using hq.2) (by simpa using hr.2)
  have e : Rat.divInt (q.num * r.den + r.num * q.den) (q.den * r.den) = q + r := by
    rw [← Rat.divInt_add_divInt _ _ d1 d2, Rat.num_divInt_den, Rat.num_divInt_den]
  simp only [EVb, EVs, EVe, EVt, EVl, EVk, EVv, EVx, List.getElem?_cons_zero, List.getElem?_cons_succ, List.set_cons_zero, List.set_cons_succ, EVr, Option.map_some, List.map_nil, List.append_nil, R2.checked.1, R2.initD.1, if_pos, r_checked R (k := i + 1) (by omega) hn, unp2 R, f_top, f_bot, bi_mul k1, bi_mul k2, bi_mul k3, bi_add, r_new R (k := i + 1) (by omega) hS (Int.mul_ne_zero d1 d2) ⟨by omega, by omega⟩ b3, e, fin_p]
theorem r_sub (h : 4 ≤ k) (hS : wf S) {q r : Rat} {o : D} (hn : Num o r) {m n : Nat} (hq : Sz m q) (hr : Sz n r) (l : m + n < 8999) (hm : 0 < m) (hn0 : 0 < n) : (g k).me "Ratio" "__sub__" [.p (rt q), .p o] S = .ok (.p (rt (q - r))) S := by
  obtain ⟨j, rfl, R1⟩ := pre1 R (k := k) (by omega)
  obtain ⟨i, rfl, R2⟩ := pre1 R (k := j) (by omega)
  rw [R1.sub_.2]
  refine (bod rfl).trans ?_
  show finF S.length (endF (evB sub xk b_Ratio___sub__ (g (i + 1)) [some (.p (rt q)), some (.p o), none, none] S)) = _
  unfold b_Ratio___sub__
  have d1 : (q.den : Int) ≠ 0 := by have := q.den_pos; omega
  have d2 : (r.den : Int) ≠ 0 := by have := r.den_pos; omega
  have q2 : (q.den : Int).natAbs < 2 ^ m := by simpa using hq.2
  have r2 : (r.den : Int).natAbs < 2 ^ n := by simpa using hr.2
  have k1 : okMul q.num r.den := okMul_sz hq.1 r2 hm hn0 (by omega)
  have k2 : okMul r.num q.den := okMul_sz hr.1 q2 hn0 hm (by omega)
  have k3 : okMul (q.den : Int) r.den := okMul_sz q2 r2 hm hn0 (by omega)
  have k4 : okMul q.num r.num := okMul_sz hq.1 hr.1 hm hn0 (by omega)
  have k5 : okMul (q.den : Int) r.num := okMul_sz q2 hr.1 hm hn0 (by omega)
  have b3 : ((q.den : Int) * r.den).natAbs < 2 ^ (m + n) := natAbs_mul_lt (m := m) (n := n) q2 r2
  have b5 : ((q.den : Int) * r.num).natAbs < 2 ^ (m + n) := natAbs_mul_lt (m := m) (n := n) q2 hr.1
  have e : Rat.divInt (q.num * r.den - r.num * q.den) (q.den * r.den) = q - r := by
    rw [← Rat.divInt_sub_divInt _ _ d1 d2, Rat.num_divInt_den, Rat.num_divInt_den]
  simp only [EVb, EVs, EVe, EVt, EVl, EVk, EVv, EVx, List.getElem?_cons_zero, List.getElem?_cons_succ, List.set_cons_zero, List.set_cons_succ, EVr, Option.map_some, List.map_nil, List.append_nil, R2.checked.1, R2.initD.1, if_pos, r_checked R (k := i + 1) (by omega) hn, unp2 R, f_top, f_bot, bi_mul k1, bi_mul k2, bi_mul k3, bi_mul k4, bi_mul k5, bi_add, bi_sub, ci_lt, ci_le, r_new R (k := i + 1) (by omega) hS (Int.mul_ne_zero d1 d2) ⟨by omega, by omega⟩ b3, e, fin_p]
theorem r_mul (h : 4 ≤ k) (hS : wf S) {q r : Rat} {o : D} (hn : Num o r) {m n : Nat} (hq : Sz m q) (hr : Sz n r) (l : m + n < 8999) (hm : 0 < m) (hn0 : 0 < n) : (g k).me "Ratio" "__mul__" [.p (rt q), .p o] S = .ok (.p (rt (q * r))) S := by
  obtain ⟨j, rfl, R1⟩ := pre1 R (k := k) (by omega)
  obtain ⟨i, rfl, R2⟩ := pre1 R (k := j) (by omega)
  rw [R1.mul.2]
  refine (bod rfl).trans ?_
  show finF S.length (endF (evB sub xk b_Ratio___mul__ (g (i + 1)) [some (.p (rt q)), some (.p o), none, none] S)) = _
  unfold b_Ratio___mul__
  have d1 : (q.den : Int) ≠ 0 := by have := q.den_pos; omega
  have d2 : (r.den : Int) ≠ 0 := by have := r.den_pos; omega
  have q2 : (q.den : Int).natAbs < 2 ^ m := by simpa using hq.2
  have r2 : (r.den : Int).natAbs < 2 ^ n := by simpa using hr.2
  have k1 : okMul q.num r.den := okMul_sz hq.1 r2 hm hn0 (by omega)
  have k2 : okMul r.num q.den := okMul_sz hr.1 q2 hn0 hm (by omega)
  have k3 : okMul (q.den : Int) r.den := okMul_sz q2 r2 hm hn0 (by omega)
  have k4 : okMul q.num r.num := okMul_sz hq.1 hr.1 hm hn0 (by omega)
  have k5 : okMul (q.den : Int) r.num := okMul_sz q2 hr.1 hm hn0 (by omega)
  have b3 : ((q.den : Int) * r.den).natAbs < 2 ^ (m + n) := natAbs_mul_lt (m := m) (n := n) q2 r2
  have b5 : ((q.den : Int) * r.num).natAbs < 2 ^ (m + n) := natAbs_mul_lt (m := m) (n := n) q2 hr.1
  have e : Rat.divInt (q.num * r.num) (q.den * r.den) = q * r := by
    rw [← Rat.divInt_mul_divInt, Rat.num_divInt_den, Rat.num_divInt_den]
  simp only [EVb, EVs, EVe, EVt, EVl, EVk, EVv, EVx, List.getElem?_cons_zero, List.getElem?_cons_succ, List.set_cons_zero, List.set_cons_succ, EVr, Option.map_some, List.map_nil, List.append_nil, R2.checked.1, R2.initD.1, if_pos, r_checked R (k := i + 1) (by omega) hn, unp2 R, f_top, f_bot, bi_mul k1, bi_mul k2, bi_mul k3, bi_mul k4, bi_mul k5, bi_add, bi_sub, ci_lt, ci_le, r_new R (k := i + 1) (by omega) hS (Int.mul_ne_zero d1 d2) ⟨by omega, by omega⟩ b3, e, fin_p]
theorem r_lt (h : 4 ≤ k) (hS : wf S) {q r : Rat} {o : D} (hn : Num o r) {m n : Nat} (hq : Sz m q) (hr : Sz n r) (l : m + n < 8999) (hm : 0 < m) (hn0 : 0 < n) : (g k).me "Ratio" "__lt__" [.p (rt q), .p o] S = .ok (.p (.bl (decide (q < r)))) S := by
  obtain ⟨j, rfl, R1⟩ := pre1 R (k := k) (by omega)
  obtain ⟨i, rfl, R2⟩ := pre1 R (k := j) (by omega)
  rw [R1.lt.2]
  refine (bod rfl).trans ?_
  show finF S.length (endF (evB sub xk b_Ratio___lt__ (g (i + 1)) [some (.p (rt q)), some (.p o), none, none] S)) = _
  unfold b_Ratio___lt__
  have d1 : (q.den : Int) ≠ 0 := by have := q.den_pos; omega
  have d2 : (r.den : Int) ≠ 0 := by have := r.den_pos; omega
  have q2 : (q.den : Int).natAbs < 2 ^ m := by simpa using hq.2
  have r2 : (r.den : Int).natAbs < 2 ^ n := by simpa using hr.2
  have k1 : okMul q.num r.den := okMul_sz hq.1 r2 hm hn0 (by omega)
  have k2 : okMul r.num q.den := okMul_sz hr.1 q2 hn0 hm (by omega)
  have k3 : okMul (q.den : Int) r.den := okMul_sz q2 r2 hm hn0 (by omega)
  have k4 : okMul q.num r.num := okMul_sz hq.1 hr.1 hm hn0 (by omega)
  have k5 : okMul (q.den : Int) r.num := okMul_sz q2 hr.1 hm hn0 (by omega)
  have b3 : ((q.den : Int) * r.den).natAbs < 2 ^ (m + n) := natAbs_mul_lt (m := m) (n := n) q2 r2
  have b5 : ((q.den : Int) * r.num).natAbs < 2 ^ (m + n) := natAbs_mul_lt (m := m) (n := n) q2 hr.1
  have e : decide (q.num * r.den < r.num * q.den) = decide (q < r) := decide_eq_decide.mpr (Rat.lt_iff q r).symm
  simp only [EVb, EVs, EVe, EVt, EVl, EVk, EVv, EVx, List.getElem?_cons_zero, List.getElem?_cons_succ, List.set_cons_zero, List.set_cons_succ, EVr, Option.map_some, List.map_nil, List.append_nil, R2.checked.1, R2.initD.1, if_pos, r_checked R (k := i + 1) (by omega) hn, unp2 R, f_top, f_bot, bi_mul k1, bi_mul k2, bi_mul k3, bi_mul k4, bi_mul k5, bi_add, bi_sub, ci_lt, ci_le, e, fin_p]
theorem r_le (h : 4 ≤ k) (hS : wf S) {q r : Rat} {o : D} (hn : Num o r) {m n : Nat} (hq : Sz m q) (hr : Sz n r) (l : m + n < 8999) (hm : 0 < m) (hn0 : 0 < n) : (g k).me "Ratio" "__le__" [.p (rt q), .p o] S = .ok (.p (.bl (decide (q ≤ r)))) S := by
  obtain ⟨j, rfl, R1⟩ := pre1 R (k := k) (by omega)
  obtain ⟨i, rfl, R2⟩ := pre1 R (k := j) (by omega)
  rw [R1.le.2]
  refine (bod rfl).trans ?_
  show finF S.length (endF (evB sub xk b_Ratio___le__ (g (i + 1)) [some (.p (rt q)), some (.p o), none, none] S)) = _
  unfold b_Ratio___le__
  have d1 : (q.den : Int) ≠ 0 := by have := q.den_pos; omega
  have d2 : (r.den : Int) ≠ 0 := by have := r.den_pos; omega
  have q2 : (q.den : Int).natAbs < 2 ^ m := by simpa using hq.2
  have r2 : (r.den : Int).natAbs < 2 ^ n := by simpa using hr.2
  have k1 : okMul q.num r.den := okMul_sz hq.1 r2 hm hn0 (by omega)
  have k2 : okMul r.num q.den := okMul_sz hr.1 q2 hn0 hm (by omega)
  have k3 : okMul (q.den : Int) r.den := okMul_sz q2 r2 hm hn0 (by omega)
  have k4 : okMul q.num r.num := okMul_sz hq.1 hr.1 hm hn0 (by omega)
  have k5 : okMul (q.den : Int) r.num := okMul_sz q2 hr.1 hm hn0 (by omega)
  have b3 : ((q.den : Int) * r.den).natAbs < 2 ^ (m + n) := natAbs_mul_lt (m := m) (n := n) q2 r2
  have b5 : ((q.den : Int) * r.num).natAbs < 2 ^ (m + n) := natAbs_mul_lt (m := m) (n := n) q2 hr.1
  have e : decide (q.num * r.den ≤ r.num * q.den) = decide (q ≤ r) := decide_eq_decide.mpr (Rat.le_iff q r).symm
  simp only [EVb, EVs, EVe, EVt, EVl, EVk, EVv, EVx, List.getElem?_cons_zero, List.getElem?_cons_succ, List.set_cons_zero, List.set_cons_succ, EVr, Option.map_some, List.map_nil, List.append_nil, R2.checked.1, R2.initD.1, if_pos, r_checked R (k := i + 1) (by omega) hn, unp2 R, f_top, f_bot, bi_mul k1, bi_mul k2, bi_mul k3, bi_mul k4, bi_mul k5, bi_add, bi_sub, ci_lt, ci_le, e, fin_p]
theorem r_over (h : 4 ≤ k) (hS : wf S) {q r : Rat} {o : D} (hn : Num o r) {m n : Nat} (hq : Sz m q) (hr : Sz n r) (l : m + n < 8999) (hm : 0 < m) (hn0 : 0 < n) (hz : r ≠ 0) (a : Me sub xk (g k) (g (k - 1)) "Ratio" "over" 2 4 b_Ratio_over) : (g k).me "Ratio" "over" [.p (rt q), .p o] S = .ok (.p (rt (q / r))) S := by
  obtain ⟨j, rfl, R1⟩ := pre1 R (k := k) (by omega)
  obtain ⟨i, rfl, R2⟩ := pre1 R (k := j) (by omega)
  rw [a.2]
  refine (bod rfl).trans ?_
  show finF S.length (endF (evB sub xk b_Ratio_over (g (i + 1)) [some (.p (rt q)), some (.p o), none, none] S)) = _
  unfold b_Ratio_over
  have d1 : (q.den : Int) ≠ 0 := by have := q.den_pos; omega
  have d2 : (r.den : Int) ≠ 0 := by have := r.den_pos; omega
  have q2 : (q.den : Int).natAbs < 2 ^ m := by simpa using hq.2
  have r2 : (r.den : Int).natAbs < 2 ^ n := by simpa using hr.2
  have k1 : okMul q.num r.den := okMul_sz hq.1 r2 hm hn0 (by omega)
  have k2 : okMul r.num q.den := okMul_sz hr.1 q2 hn0 hm (by omega)
  have k3 : okMul (q.den : Int) r.den := okMul_sz q2 r2 hm hn0 (by omega)
  have k4 : okMul q.num r.num := okMul_sz hq.1 hr.1 hm hn0 (by omega)
  have k5 : okMul (q.den : Int) r.num := okMul_sz q2 hr.1 hm hn0 (by omega)
  have b3 : ((q.den : Int) * r.den).natAbs < 2 ^ (m + n) := natAbs_mul_lt (m := m) (n := n) q2 r2
  have b5 : ((q.den : Int) * r.num).natAbs < 2 ^ (m + n) := natAbs_mul_lt (m := m) (n := n) q2 hr.1
  have d3 : r.num ≠ 0 := fun z => hz (Rat.num_eq_zero.mp z)
  have e : Rat.divInt (q.num * r.den) (q.den * r.num) = q / r := by
    rw [Rat.div_def, Rat.inv_def, ← Rat.divInt_mul_divInt, Rat.num_divInt_den]
  simp only [EVb, EVs, EVe, EVt, EVl, EVk, EVv, EVx, List.getElem?_cons_zero, List.getElem?_cons_succ, List.set_cons_zero, List.set_cons_succ, EVr, Option.map_some, List.map_nil, List.append_nil, R2.checked.1, R2.initD.1, if_pos, r_checked R (k := i + 1) (by omega) hn, unp2 R, f_top, f_bot, bi_mul k1, bi_mul k2, bi_mul k3, bi_mul k4, bi_mul k5, bi_add, bi_sub, ci_lt, ci_le, r_new R (k := i + 1) (by omega) hS (Int.mul_ne_zero d1 d3) ⟨by omega, by omega⟩ b5, e, fin_p]
theorem r_over0 (h : 4 ≤ k) (hS : wf S) {q r : Rat} {o : D} (hn : Num o r) {m n : Nat} (hq : Sz m q) (hr : Sz n r) (l : m + n < 8999) (hm : 0 < m) (hn0 : 0 < n) (hz : r = 0) (a : Me sub xk (g k) (g (k - 1)) "Ratio" "over" 2 4 b_Ratio_over) : (g k).me "Ratio" "over" [.p (rt q), .p o] S = .ex "ByZero" [] [] S := by
  obtain ⟨j, rfl, R1⟩ := pre1 R (k := k) (by omega)
  obtain ⟨i, rfl, R2⟩ := pre1 R (k := j) (by omega)
  rw [a.2]
  refine (bod rfl).trans ?_
  show finF S.length (endF (evB sub xk b_Ratio_over (g (i + 1)) [some (.p (rt q)), some (.p o), none, none] S)) = _
  unfold b_Ratio_over
  have q2 : (q.den : Int).natAbs < 2 ^ m := by simpa using hq.2
  have r2 : (r.den : Int).natAbs < 2 ^ n := by simpa using hr.2
  have k1 : okMul q.num r.den := okMul_sz hq.1 r2 hm hn0 (by omega)
  have z : r.num = 0 := Rat.num_eq_zero.mpr hz
  have k5 : okMul (q.den : Int) 0 := .inr (.inl (by decide))
  simp only [EVb, EVs, EVe, EVt, EVl, EVk, EVv, EVx, List.getElem?_cons_zero, List.getElem?_cons_succ, List.set_cons_zero, List.set_cons_succ, EVr, Option.map_some, List.map_nil, List.append_nil, R2.checked.1, R2.initD.1, if_pos, r_checked R (k := i + 1) (by omega) hn, unp2 R, f_top, f_bot, bi_mul k1, bi_mul k5, z, Int.mul_zero, r_new0 R (k := i + 1) (by omega) hS, fin_ex]
theorem r_neg (h : 3 ≤ k) (hS : wf S) {q : Rat} {m : Nat} (hq : Sz m q) (l : m < 8999) (hm : 0 < m) : (g k).me "Ratio" "__neg__" [.p (rt q)] S = .ok (.p (rt (-q))) S := by
  obtain ⟨j, rfl, R1⟩ := pre1 R (k := k) (by omega)
  obtain ⟨i, rfl, R2⟩ := pre1 R (k := j) (by omega)
  rw [R1.neg.2]
  refine (bod rfl).trans ?_
  show finF S.length (endF (evB sub xk b_Ratio___neg__ (g (i + 1)) [some (.p (rt q))] S)) = _
  unfold b_Ratio___neg__
  have d1 : (q.den : Int) ≠ 0 := by have := q.den_pos; omega
  have q2 : (q.den : Int).natAbs < 2 ^ m := by simpa using hq.2
  have e : Rat.divInt (-q.num) q.den = -q := by rw [← Rat.neg_divInt, Rat.num_divInt_den]
  have e2 : ∀ x : Int, negF (g (i + 1)) (.p (.int x)) S = .ok (int (-x)) S := fun x => nr rfl
  simp only [EVb, EVs, EVe, EVt, EVl, EVk, EVv, EVx, List.getElem?_cons_zero, List.getElem?_cons_succ, List.set_cons_zero, List.set_cons_succ, EVr, Option.map_some, List.map_nil, List.append_nil, R2.initD.1, if_pos, f_top, f_bot, e2, r_new R (k := i + 1) (by omega) hS d1 ⟨by omega, by omega⟩ q2, e, fin_p]
theorem r_eq (h : 3 ≤ k) {q r : Rat} {o : D} (hn : Num o r) : (g k).me "Ratio" "__eq__" [.p (rt q), .p o] S = .ok (.p (.bl (decide (q = r)))) S := by
  obtain ⟨j, rfl, R1⟩ := pre1 R (k := k) (by omega)
  obtain ⟨i, rfl, R2⟩ := pre1 R (k := j) (by omega)
  rw [R1.eq.2]
  refine (bod rfl).trans ?_
  show finF S.length (endF (evB sub xk b_Ratio___eq__ (g (i + 1)) [some (.p (rt q)), some (.p o)] S)) = _
  unfold b_Ratio___eq__
  have e : (decide (r.num = q.num) && decide ((r.den : Int) = q.den)) = decide (q = r) := by
    rw [Bool.eq_iff_iff, Bool.and_eq_true, decide_eq_true_iff, decide_eq_true_iff, decide_eq_true_iff]
    exact ⟨fun ⟨a, b⟩ => (Rat.ext a (by omega)).symm, fun z => by rw [z]; exact ⟨rfl, rfl⟩⟩
  simp only [EVb, EVs, EVe, EVt, EVl, EVk, EVv, EVx, List.getElem?_cons_zero, List.getElem?_cons_succ, List.set_cons_zero, List.set_cons_succ, EVr, Option.map_some, List.map_nil, List.append_nil, R2.parts.1, if_pos, r_parts R (k := i + 1) (by omega) hn, f_top, f_bot, tup2, c_eq (fun _ _ _ z => by cases z) eq_tt, e, fin_p]
theorem r_eq_no (h : 3 ≤ k) {q : Rat} {o : D} (hn : NoNum o) : (g k).me "Ratio" "__eq__" [.p (rt q), .p o] S = .ok (.p (.bl false)) S := by
  obtain ⟨j, rfl, R1⟩ := pre1 R (k := k) (by omega)
  obtain ⟨i, rfl, R2⟩ := pre1 R (k := j) (by omega)
  rw [R1.eq.2]
  refine (bod rfl).trans ?_
  show finF S.length (endF (evB sub xk b_Ratio___eq__ (g (i + 1)) [some (.p (rt q)), some (.p o)] S)) = _
  unfold b_Ratio___eq__
  simp only [EVb, EVs, EVe, EVt, EVl, EVk, EVv, EVx, List.getElem?_cons_zero, List.getElem?_cons_succ, List.set_cons_zero, List.set_cons_succ, EVr, Option.map_some, List.map_nil, List.append_nil, R2.parts.1, if_pos, r_parts_no R (k := i + 1) (by omega) hn, f_top, f_bot, tup2, c_eq (d := .non) (fun _ _ _ z => by cases z) eq_nt, fin_p]
theorem r_as (h : 4 ≤ k) (hS : wf S) {r : Rat} {o : D} (hn : Num o r) {n : Nat} (hr : Sz n r) (l : n < 8999) (hn0 : 0 < n) (a : Fn sub xk (g k) (g (k - 1)) "as_ratio" 1 3 b_as_ratio) : (g k).fn "as_ratio" [.p o] S = .ok (.p (rt r)) S := by
  rw [a.2]
  obtain ⟨j, rfl, R1⟩ := pre1 R (k := k) (by omega)
  obtain ⟨i, rfl, R2⟩ := pre1 R (k := j) (by omega)
  refine (bod rfl).trans ?_
  show finF S.length (endF (evB sub xk b_as_ratio (g (i + 1)) [some (.p o), none, none] S)) = _
  unfold b_as_ratio
  have d1 : (r.den : Int) ≠ 0 := by have := r.den_pos; omega
  have r2 : (r.den : Int).natAbs < 2 ^ n := by simpa using hr.2
  simp only [EVb, EVs, EVe, EVt, EVl, EVk, EVv, EVx, List.getElem?_cons_zero, List.getElem?_cons_succ, List.set_cons_zero, List.set_cons_succ, EVr, Option.map_some, List.map_nil, List.append_nil, R2.checked.1, R2.initD.1, if_pos, r_checked R (k := i + 1) (by omega) hn, unp2 R, r_new R (k := i + 1) (by omega) hS d1 ⟨by omega, by omega⟩ r2, Rat.num_divInt_den, fin_p]
theorem r_as_no (h : 4 ≤ k) {o : D} (hn : NoNum o) (a : Fn sub xk (g k) (g (k - 1)) "as_ratio" 1 3 b_as_ratio) : (g k).fn "as_ratio" [.p o] S = .ex "BadNumber" ["given"] [o] S := by
  rw [a.2]
  obtain ⟨j, rfl, R1⟩ := pre1 R (k := k) (by omega)
  obtain ⟨i, rfl, R2⟩ := pre1 R (k := j) (by omega)
  refine (bod rfl).trans ?_
  show finF S.length (endF (evB sub xk b_as_ratio (g (i + 1)) [some (.p o), none, none] S)) = _
  unfold b_as_ratio
  simp only [EVb, EVs, EVe, EVt, EVl, EVk, EVv, EVx, List.getElem?_cons_zero, List.getElem?_cons_succ, List.set_cons_zero, List.set_cons_succ, EVr, Option.map_some, List.map_nil, List.append_nil, R2.checked.1, R2.initD.1, if_pos, r_checked_no R (k := i + 1) (by omega) hn, fin_ex]
end
/-! ### draws -/
section
variable {sub : Str → Str → Bool} {xk : Str → Option (Option Str)} {G G' : Gt} {S : Sto}
/-- the box of draws; k: how many were drawn -/
structure Bx where
  a : Int
  b : Int
  c : Int
  k : Nat
def Bx.cel (b : Bx) : Cel := .live (.lst [int b.a, int b.b, int b.c])
structure Bx.ok (b : Bx) : Prop where
  pa : 0 ≤ b.a
  pb : 0 ≤ b.b ∧ b.b ≤ b.k
  pc : 0 ≤ b.c ∧ b.c < 2 ^ 60
def Bx.mix (b : Bx) : Int := ((b.a + 7) * 69069 + (b.b + 1) * 40692 + b.c) ^ 3 % 2147483647
def Bx.mix2 (b : Bx) : Int := (b.mix + (b.b + 1) * 17389) ^ 3 % 2147483399
/-- what is drawn, what is left -/
def Bx.val (b : Bx) (m : Int) : Int := if 10 ^ 18 ≤ b.a then b.a % m else (b.mix2 / 64) % m
def Bx.nx (b : Bx) (m : Int) : Bx := if 10 ^ 18 ≤ b.a then ⟨b.a / m, b.b, b.c, b.k + 1⟩ else ⟨b.a, b.b + 1, b.c, b.k + 1⟩
theorem Bx.val_bd (b : Bx) {m : Int} (h : 0 < m) : 0 ≤ b.val m ∧ b.val m < m := by
  unfold Bx.val
  split
  · exact ⟨Int.emod_nonneg _ (by omega), Int.emod_lt_of_pos _ h⟩
  · exact ⟨Int.emod_nonneg _ (by omega), Int.emod_lt_of_pos _ h⟩
theorem Bx.nx_ok {b : Bx} (h : b.ok) {m : Int} (hm : 0 < m) : (b.nx m).ok := by
  unfold Bx.nx
  have h1 := h.pa
  have h2 := h.pb
  split
  · exact ⟨Int.ediv_nonneg h.pa (by omega), ⟨h2.1, by show b.b ≤ ((b.k + 1 : Nat) : Int); omega⟩, h.pc⟩
  · exact ⟨h.pa, ⟨by show (0 : Int) ≤ b.b + 1; omega, by show b.b + 1 ≤ ((b.k + 1 : Nat) : Int); omega⟩, h.pc⟩
theorem Bx.nx_k (b : Bx) (m : Int) : (b.nx m).k = b.k + 1 := by
  unfold Bx.nx
  split <;> rfl
theorem ix0 {a b c : W} {n : Nat} {S : Sto} (h : S[n]? = some (.live (.lst [a, b, c]))) : idxF (.c n) (int 0) S = some a ∧ idxF (.c n) (int 1) S = some b ∧ idxF (.c n) (int 2) S = some c := by
  have e : ∀ i, idxF (.c n) (int i) S = (seqOf S (.c n)).bind fun ws => (ixO ws.length i).bind fun j => ws[j]? := fun i => by
    have e0 : seqOf S (.c n) = some [a, b, c] := by simp [seqOf, h]
    show (match seqOf S (.c n) with
      | some ws => (ixO ws.length i).bind fun j => ws[j]?
      | none => (dicOf S (.c n)).bind fun e => getW (.inl i) e.1 e.2) = _
    rw [e0]; rfl
  have e2 : seqOf S (.c n) = some [a, b, c] := by unfold seqOf; dsimp only; rw [h]
  rw [e, e, e, e2]
  exact ⟨rfl, rfl, rfl⟩
theorem pt0 {a b c u : W} {n : Nat} {S : Sto} (h : S[n]? = some (.live (.lst [a, b, c]))) : putS (.c n) (int 0) u S = some (S.set n (.live (.lst [u, b, c]))) ∧ putS (.c n) (int 1) u S = some (S.set n (.live (.lst [a, u, c]))) := by
  unfold putS
  dsimp only
  rw [h]
  exact ⟨rfl, rfl⟩
theorem okPow3 {i : Int} {n : Nat} (h : i.natAbs < 2 ^ n) (h0 : 0 < n) (l : n < 1000) : okPow i 3 := ⟨by decide, by decide, by have := log2_lt h h0; omega⟩
theorem set_self {n : Nat} {S : Sto} {c : Cel} (h : n < S.length) : (S.set n c)[n]? = some c := List.getElem?_set_self h
theorem s_take {b : Bx} {n : Nat} {m : Int} (hb : b.ok) (hk : b.k < 2 ^ 60) (hm : 0 < m) (hm2 : m < 2 ^ 250) (hn : S[n]? = some b.cel) : bodyF 2 4 (evB sub xk b__law_take G) [.c n, int m] S = .ok (int (b.val m)) (S.set n (b.nx m).cel) := by
  refine (bod rfl).trans ?_
  show finF S.length (endF (evB sub xk b__law_take G [some (.c n), some (int m), none, none] S)) = _
  unfold b__law_take
  have hn' : S[n]? = some (.live (.lst [int b.a, int b.b, int b.c])) := hn
  have hl : n < S.length := (List.getElem?_eq_some_iff.mp hn).1
  obtain ⟨i0, i1, i2⟩ := ix0 hn'
  have pw : okPow 10 18 := ⟨by decide, by decide, by decide⟩
  have ei : ∀ (x : Int) (S : Sto), bfF .int [int x] S = .ok (int x) S := fun x S => nr rfl
  have em : ∀ {x y : Int}, 0 ≤ x → 0 < y → x.fmod y = x % y := fun {x y} hx hy => by rw [Int.fmod_eq_emod, if_pos (.inl (by omega)), Int.add_zero]
  have ed : ∀ {x y : Int}, 0 < y → x.fdiv y = x / y := fun {x y} hy => by rw [Int.fdiv_eq_ediv, if_pos (.inl (by omega)), Int.sub_zero]
  have md : okDiv m := ⟨by omega, by have := log2_lt (n := m.natAbs) (k := 250) (by omega) (by decide); omega⟩
  have mm : m ≠ 0 := by omega
  by_cases hc : (10 : Int) ^ 18 ≤ b.a
  · have pt := (pt0 (u := int (b.a.fdiv m)) hn').1
    have ev : b.a.fmod m = b.val m := by unfold Bx.val; rw [if_pos hc, em hb.pa hm]
    have en : (.live (.lst [int (b.a.fdiv m), int b.b, int b.c]) : Cel) = (b.nx m).cel := by unfold Bx.nx Bx.cel; rw [if_pos hc, ed hm]
    rw [en] at pt
    have hc' : (10 : Int) ^ Int.toNat 18 ≤ b.a := hc
    simp only [EVb, EVs, EVe, EVt, EVl, EVk, EVv, EVx, List.getElem?_cons_zero, List.getElem?_cons_succ, List.set_cons_zero, List.set_cons_succ, EVr, Option.map_some, List.map_nil, List.append_nil, hn', i0, bi_pow pw, ci_ge, hc', decide_true, kBf, ei, bi_mod mm, ev, bi_div md, pt]
    exact fin_len (by simp)
  · have hlo := hb.pa
    have hb1 := hb.pb
    have hc1 := hb.pc
    obtain ⟨S1, eS⟩ : ∃ S1, S1 = S.set n (.live (.lst [int b.a, int (b.b + 1), int b.c])) := ⟨_, rfl⟩
    have pt := (pt0 (u := int (b.b + 1)) hn').2
    rw [← eS] at pt
    have h1 : S1[n]? = some (.live (.lst [int b.a, int (b.b + 1), int b.c])) := by rw [eS]; exact set_self hl
    obtain ⟨j0, j1, j2⟩ := ix0 h1
    have en : S1 = S.set n (b.nx m).cel := by rw [eS]; unfold Bx.nx Bx.cel; rw [if_neg hc]
    have hc' : ¬ (10 : Int) ^ Int.toNat 18 ≤ b.a := hc
    have m1 : ∀ {x y : Int}, -(2 ^ 64) < y → y < 2 ^ 64 → okMul x y := fun p q => .inr (.inl ⟨p, q⟩)
    have p1 : ∀ {x : Int}, x.natAbs < 2 ^ 200 → binF G .Pow (.p (.int x)) (.p (.int 3)) S1 = .ok (int (x ^ 3)) S1 := fun {x} h => bi_pow (okPow3 h (by decide) (by decide))
    have x1 : ((b.a + 7) * 69069 + (b.b + 1) * 40692 + b.c).natAbs < 2 ^ 200 := by omega
    have n3 : ∀ {x : Int}, 0 ≤ x → 0 ≤ x ^ 3 := fun {x} h => Int.pow_nonneg h
    have e1 : (((b.a + 7) * 69069 + (b.b + 1) * 40692 + b.c) ^ 3).fmod 2147483647 = b.mix := em (n3 (by omega)) (by decide)
    have bm : 0 ≤ b.mix ∧ b.mix < 2147483647 := ⟨Int.emod_nonneg _ (by decide), Int.emod_lt_of_pos _ (by decide)⟩
    have x2 : (b.mix + (b.b + 1) * 17389).natAbs < 2 ^ 200 := by omega
    have e2 : ((b.mix + (b.b + 1) * 17389) ^ 3).fmod 2147483399 = b.mix2 := em (n3 (by omega)) (by decide)
    have bm2 : 0 ≤ b.mix2 := Int.emod_nonneg _ (by decide)
    have e3 : (b.mix2.fdiv 64).fmod m = b.val m := by
      rw [ed (by decide), em (Int.ediv_nonneg bm2 (by decide)) hm]
      unfold Bx.val
      rw [if_neg hc]
    have d64 : okDiv 64 := ⟨by decide, by decide⟩
    simp only [EVb, EVs, EVe, EVt, EVl, EVk, EVv, EVx, List.getElem?_cons_zero, List.getElem?_cons_succ, List.set_cons_zero, List.set_cons_succ, EVr, Option.map_some, List.map_nil, List.append_nil, hn', h1, i0, i1, j0, j1, j2, bi_pow pw, ci_ge, hc', decide_false, kBf, ei, bi_add, bi_mul (m1 (y := 69069) (by decide) (by decide)), bi_mul (m1 (y := 40692) (by decide) (by decide)), bi_mul (m1 (y := 17389) (by decide) (by decide)), pt, p1 x1, p1 x2, e1, e2, bi_mod (j := 2147483647) (by decide), bi_mod (j := 2147483399) (by decide), bi_mod mm, bi_div d64, e3]
    rw [← en]
    exact fin_len (by rw [en, List.length_set])
theorem below_mono {c : Cel} {m n : Nat} (h : c.below m = true) (l : m ≤ n) : c.below n = true := by
  have e : ∀ ws : List W, ws.all (W.below m) = true → ws.all (W.below n) = true := fun ws hw => List.all_eq_true.mpr fun w hm => by
    have q := List.all_eq_true.mp hw w hm
    cases w with
    | p d => rfl
    | c k =>
      have q' : k < m := by simpa [W.below] using q
      simp [W.below]; omega
  cases c with
  | dead d => rfl
  | live c => cases c <;> exact e _ h
theorem wf_app {S : Sto} {c : Cel} (h : wf S) (hc : c.below (S.length + 1) = true) : wf (S ++ [c]) := by
  refine List.all_eq_true.mpr fun x hx => ?_
  rw [List.length_append]
  rcases List.mem_append.mp hx with q | q
  · exact below_mono (List.all_eq_true.mp h x q) (Nat.le_add_right _ _)
  · rw [List.mem_singleton.mp q]; exact hc
theorem Bx.below (b : Bx) (n : Nat) : b.cel.below n = true := rfl
theorem wf_box {S : Sto} (h : wf S) (b : Bx) : wf (S ++ [b.cel]) := wf_app h (b.below _)
/-- the script's number at a place -/
def cellZ (ns : List Int) (k : Nat) : Int := ns.getD k 0
theorem s_cell {ns : List Int} {k : Nat} : bodyF 2 2 (evB sub xk b__law_cell G) [.p (.fro (ns.map .int)), int k] S = .ok (int (cellZ ns k)) S := by
  refine (bod rfl).trans ?_
  show finF S.length (endF (evB sub xk b__law_cell G [some (.p (.fro (ns.map .int))), some (int k)] S)) = _
  unfold b__law_cell
  have e1 : bfF .len [.p (.fro (ns.map .int))] S = .ok (int ns.length) S := by
    simp [bfF, lenF, seqOf]
  have e2 : (decide ((k : Int) < (ns.length : Int))) = decide (k < ns.length) := by simp
  by_cases h : k < ns.length
  · have e3 : idxF (.p (.fro (ns.map .int))) (int k) S = some (int (cellZ ns k)) := by
      have z : ixO ns.length (k : Int) = some k := by
        unfold ixO
        rw [if_pos (by omega), if_pos (by omega)]; simp
      simp [idxF, seqOf, z, cellZ, h]
    simp only [EVb, EVs, EVe, EVt, EVl, EVk, EVv, EVx, List.getElem?_cons_zero, List.getElem?_cons_succ, List.set_cons_zero, List.set_cons_succ, EVr, Option.map_some, List.map_nil, List.append_nil, e1, ci_lt, e2, h, decide_true, e3, fin_p]
  · have e3 : cellZ ns k = 0 := by
      unfold cellZ
      rw [List.getD_eq_getElem?_getD, List.getElem?_eq_none (by omega)]; rfl
    simp only [EVb, EVs, EVe, EVt, EVl, EVk, EVv, EVx, List.getElem?_cons_zero, List.getElem?_cons_succ, List.set_cons_zero, List.set_cons_succ, EVr, Option.map_some, List.map_nil, List.append_nil, e1, ci_lt, e2, h, decide_false, e3, fin_p]
/-- a box for the number at a place -/
def box0 (ns : List Int) (k : Nat) : Bx := ⟨if cellZ ns k < 0 then -cellZ ns k else cellZ ns k, 0, 40503 * k + 911, 0⟩
theorem box0_ok (ns : List Int) {k : Nat} (h : k < 1000) : (box0 ns k).ok := ⟨by unfold box0; dsimp only; split <;> omega, ⟨Int.le_refl _, Int.le_refl _⟩, ⟨by show (0 : Int) ≤ 40503 * k + 911; omega, by show (40503 : Int) * k + 911 < 2 ^ 60; omega⟩⟩
theorem box0_k (ns : List Int) (k : Nat) : (box0 ns k).k = 0 := rfl
theorem s_box {ns : List Int} {k : Nat} (hd : [] ∈ G.df "_law_cell") (hc : ∀ S, G.fn "_law_cell" [.p (.fro (ns.map .int)), int k] S = .ok (int (cellZ ns k)) S) :
    bodyF 2 2 (evB sub xk b__law_box G) [.p (.fro (ns.map .int)), int k] S = .ok (.c S.length) (S ++ [(box0 ns k).cel]) := by
  refine (bod rfl).trans ?_
  show finF S.length (endF (evB sub xk b__law_box G [some (.p (.fro (ns.map .int))), some (int k)] S)) = _
  unfold b__law_box
  have e1 : ∀ x : Int, bfF .abs [int x] S = .ok (int (if x < 0 then -x else x)) S := fun x => nr rfl
  have e2 : ∀ x : Int, bfF .int [int x] S = .ok (int x) S := fun x => nr rfl
  have m1 : okMul 40503 (k : Int) := .inl ⟨by decide, by decide⟩
  have e3 : ∀ a b c : W, lstF true [a, b, c] S = .ok (.c S.length) (S ++ [.live (.lst [a, b, c])]) := fun a b c => nr rfl
  simp only [EVb, EVs, EVe, EVt, EVl, EVk, EVv, EVx, List.getElem?_cons_zero, List.getElem?_cons_succ, List.set_cons_zero, List.set_cons_succ, EVr, Option.map_some, List.map_nil, List.append_nil, hd, if_pos, hc, kBf, e1, e2, bi_mul m1, bi_add, e3]
  rfl
theorem frac_loop {u v : Option W} : ∀ (n : Nat) (a b : Int), 0 ≤ a → 0 ≤ b → b.natAbs ≤ n → ∃ k, whlN (ev G (.cmp .Gt (.var 3) (.cst (.int 0)))).t (evB sub xk (.seq (.par 2 3 (.cons (.var 3) (.cons (.bin .Mod (.var 2) (.var 3)) .nil))) .nil) G) k [u, v, some (int a), some (int b)] S = .ok [u, v, some (int (Int.gcd a b)), some (int 0)] .nx S := by
  intro n
  induction n with
  | zero =>
    intro a b ha hb h
    have hb : b = 0 := by omega
    subst hb
    have e : (Int.gcd a 0 : Int) = a := by rw [Int.gcd_zero_right]; omega
    rw [e]
    exact whl_end (by simp only [EVb, EVs, EVe, EVt, EVl, EVk, EVv, EVx, List.getElem?_cons_zero, List.getElem?_cons_succ, List.set_cons_zero, List.set_cons_succ, EVr, Option.map_some, List.map_nil, List.append_nil, ci_gt]; rfl)
  | succ n ih =>
    intro a b ha hb h
    by_cases hz : b = 0
    · subst hz
      have e : (Int.gcd a 0 : Int) = a := by rw [Int.gcd_zero_right]; omega
      rw [e]
      exact whl_end (by simp only [EVb, EVs, EVe, EVt, EVl, EVk, EVv, EVx, List.getElem?_cons_zero, List.getElem?_cons_succ, List.set_cons_zero, List.set_cons_succ, EVr, Option.map_some, List.map_nil, List.append_nil, ci_gt]; rfl)
    · have l := fmod_lt (a := a) hz
      have hk := ih b (a.fmod b) hb (Int.fmod_nonneg ha hb) (by omega)
      rw [gcd_fmod] at hk
      refine whl_step (ρ' := [u, v, some (int b), some (int (a.fmod b))]) (S1 := S) (S2 := S) ?_ (.inl ?_) hk
      · have hp : 0 < b := by omega
        simp only [EVb, EVs, EVe, EVt, EVl, EVk, EVv, EVx, List.getElem?_cons_zero, List.getElem?_cons_succ, List.set_cons_zero, List.set_cons_succ, EVr, Option.map_some, List.map_nil, List.append_nil, ci_gt, hp, decide_true]
      · simp only [EVb, EVs, EVe, EVt, EVl, EVk, EVv, EVx, List.getElem?_cons_zero, List.getElem?_cons_succ, List.set_cons_zero, List.set_cons_succ, EVr, Option.map_some, List.map_nil, List.append_nil, bi_mod hz]
theorem s_frac {a b : Int} {N : Nat} (hb : b ≠ 0) (hN : 0 < N ∧ N ≤ 9000) (h2 : b.natAbs < 2 ^ N) : bodyF 2 4 (evB sub xk b__law_frac G) [int a, int b] S = .ok (.p (.tup [.int (Rat.divInt a b).num, .int (Rat.divInt a b).den])) S := by
  refine (bod rfl).trans ?_
  show finF S.length (endF (evB sub xk b__law_frac G [some (int a), some (int b), none, none] S)) = _
  unfold b__law_frac
  have hd : okDiv (dvs a b) := by
    refine ⟨dvs_ne hb, ?_⟩
    have g : (Int.gcd a b : Nat) ≤ b.natAbs := Nat.le_of_dvd (by omega) (Int.ofNat_dvd_left.mp (Int.gcd_dvd_right a b))
    have l : (dvs a b).natAbs.log2 < N := log2_lt (by unfold dvs; split <;> omega) hN.1
    omega
  have e1 : ∀ x : Int, bfF .abs [int x] S = .ok (int (x.natAbs : Int)) S := fun x => by
    show Rs.ok (int (if x < 0 then -x else x)) S = _
    have : (if x < 0 then -x else x) = (x.natAbs : Int) := by split <;> omega
    rw [this]
  have eg : Int.gcd (a.natAbs : Int) (b.natAbs : Int) = Int.gcd a b := rfl
  have lp : evB sub xk (.whl (.cmp .Gt (.var 3) (.cst (.int 0))) (.seq (.par 2 3 (.cons (.var 3) (.cons (.bin .Mod (.var 2) (.var 3)) .nil))) .nil)) G [some (int a), some (int b), some (int (a.natAbs : Int)), some (int (b.natAbs : Int))] S = .ok [some (int a), some (int b), some (int (Int.gcd a b)), some (int 0)] .nx S := by
    obtain ⟨k, hk⟩ := frac_loop (sub := sub) (xk := xk) (G := G) (S := S) (u := some (int a)) (v := some (int b)) b.natAbs (a.natAbs : Int) (b.natAbs : Int) (by omega) (by omega) (by omega)
    rw [eg] at hk
    exact whl_of hk (fun z => by cases z)
  by_cases hp : b < 0
  · have ev : 0 - (Int.gcd a b : Int) = dvs a b := by unfold dvs; rw [if_neg (by omega)]; omega
    simp only [EVb, EVs, EVe, EVt, EVl, EVk, EVv, EVx, List.getElem?_cons_zero, List.getElem?_cons_succ, List.set_cons_zero, List.set_cons_succ, EVr, Option.map_some, List.map_nil, List.append_nil, kBf, e1, lp, ci_lt, hp, decide_true, bi_sub, ev, bi_div hd, num_dvs hb, den_dvs hb, tup2, fin_p]
  · have ev : (Int.gcd a b : Int) = dvs a b := by unfold dvs; rw [if_pos (by omega)]
    simp only [EVb, EVs, EVe, EVt, EVl, EVk, EVv, EVx, List.getElem?_cons_zero, List.getElem?_cons_succ, List.set_cons_zero, List.set_cons_succ, EVr, Option.map_some, List.map_nil, List.append_nil, kBf, e1, lp, ci_lt, hp, decide_false, ev, bi_div hd, num_dvs hb, den_dvs hb, tup2, fin_p]
end
end M
set_option Elab.async false
set_option linter.all false
set_option maxRecDepth 100000
set_option maxHeartbeats 4000000
namespace M
open PySem PySem.Spec PyProof.Rows L2
/-! ### step rules of classmethods -/
def Cm (sub : Str → Str → Bool) (xk : Str → Option (Option Str)) (G G' : Gt) (c m : Str) (np nN : Nat) (b : B) : Prop := G.cm c m = true ∧ G.cme c m = bodyF np nN (evB sub xk b G')
def kCm (G : Gt) (c m : Str) (ws : List W) (S : Sto) : Rs W := G.cme c m (.p (.cls c) :: ws) S
def kCmK (G : Gt) (c m : Str) (ks : List Str) (ix : List Nat) (us : List W) (S : Sto) : Rs W := if us.length = ks.length then (match permW ix (.p (.cls c) :: us) with
  | some zs => G.cme c m zs S
  | none => .no) else .no
def kCv (G : Gt) (ρ : Env) (as : E) (ds : List Int) (o : Option (Option W)) (S : Sto) : Rs W := match o with
  | some (some (.p (.cls c))) => if ds ∈ G.df c then ((ev G as).a ρ S).bind (kFn G c ds) else .no
  | _ => .no
def kIsiT (ts : List Ty) (w : W) (S : Sto) : Rs W := ofO ((isiAny ts w S).map bl) S
/-- constants, list(..), isinstance with a tuple -/
theorem EVd :
    (∀ (G : Gt) (ρ : Env) (S : Sto) x, (ev G (.glo x)).e ρ S = ofO ((G.gc x).map .p) S) ∧ (∀ (G : Gt) (ρ : Env) (S : Sto) a mu, (ev G (.lis a mu)).e ρ S = ((ev G a).e ρ S).bind (lisF mu)) ∧
    (∀ (G : Gt) (ρ : Env) (S : Sto) a ts, (ev G (.isiT a ts)).e ρ S = ((ev G a).e ρ S).bind (kIsiT ts)) ∧ (∀ (G : Gt) (ρ : Env) (S : Sto) a ts, (ev G (.isiT a ts)).t ρ S = ((ev G (.isiT a ts)).e ρ S).bind kTru) ∧
    (∀ (G : Gt) (ρ : Env) (S : Sto) x, (ev G (.glo x)).i ρ S = ((ev G (.glo x)).e ρ S).bind kWlk) ∧ (∀ (G : Gt) (ρ : Env) (S : Sto) a mu, (ev G (.lis a mu)).i ρ S = ((ev G (.lis a mu)).e ρ S).bind kWlk) ∧
    (∀ (G : Gt) (ρ : Env) (S : Sto) o f, (ev G (.fld o f)).i ρ S = ((ev G (.fld o f)).e ρ S).bind kWlk) ∧ (∀ (G : Gt) (ρ : Env) (S : Sto) a, (ev G (.frz a)).i ρ S = ((ev G (.frz a)).e ρ S).bind kWlk) :=
  ⟨fun _ _ _ _ => nr rfl, fun _ _ _ _ _ => nr rfl, fun _ _ _ _ _ => nr rfl, fun _ _ _ _ _ => nr rfl, fun _ _ _ _ => nr rfl, fun _ _ _ _ _ => nr rfl, fun _ _ _ _ _ => nr rfl, fun _ _ _ _ => nr rfl⟩
theorem EVm :
    (∀ (G : Gt) (ρ : Env) (S : Sto) c m as, (ev G (.cmeth c m as)).e ρ S = if G.cm c m = true then ((ev G as).a ρ S).bind (kCm G c m) else .no) ∧
    (∀ (G : Gt) (ρ : Env) (S : Sto) c m ks vs ix, (ev G (.cmethK c m ks vs ix)).e ρ S = if (ks, ix) ∈ G.kwcm c m then ((ev G vs).a ρ S).bind (kCmK G c m ks ix) else .no) ∧
    (∀ (G : Gt) (ρ : Env) (S : Sto) i as ds, (ev G (.callV i as ds)).e ρ S = kCv G ρ as ds ρ[i]? S) ∧
    (∀ (G : Gt) c m ws S, kCm G c m ws S = G.cme c m (.p (.cls c) :: ws) S) ∧
    (∀ (G : Gt) (ρ : Env) (as : E) (ds : List Int) c S, kCv G ρ as ds (some (some (.p (.cls c)))) S = if ds ∈ G.df c then ((ev G as).a ρ S).bind (kFn G c ds) else .no) :=
  ⟨fun _ _ _ _ _ _ => nr rfl, fun _ _ _ _ _ _ _ _ => nr rfl, fun G ρ S i as ds => by
    show fCallV G i (ev G as).a ds ρ S = _
    unfold fCallV kCv
    cases ρ[i]? with
    | none => rfl
    | some o => cases o with
      | none => rfl
      | some w => cases w with
        | c n => rfl
        | p d => cases d <;> rfl, fun _ _ _ _ _ => nr rfl, fun _ _ _ _ _ _ => nr rfl⟩
end M
set_option Elab.async false
set_option linter.all false
set_option maxRecDepth 100000
set_option maxHeartbeats 4000000
namespace K01
open PySem PySem.Spec PyProof.Rows L2 M
theorem f__law_cell (k : Nat) : Fn p.sub p.xk (p.G (k + 1)) (p.G k) "_law_cell" 2 2 FR.b__law_cell := ⟨(by decide +kernel : [] ∈ p.df "_law_cell"), fn_fun (p := p) (G := p.G k) (f := "_law_cell") (x := x__law_cell) (by rfl)⟩
theorem f__law_box (k : Nat) : Fn p.sub p.xk (p.G (k + 1)) (p.G k) "_law_box" 2 2 FR.b__law_box := ⟨(by decide +kernel : [] ∈ p.df "_law_box"), fn_fun (p := p) (G := p.G k) (f := "_law_box") (x := x__law_box) (by rfl)⟩
theorem f__law_take (k : Nat) : Fn p.sub p.xk (p.G (k + 1)) (p.G k) "_law_take" 2 4 FR.b__law_take := ⟨(by decide +kernel : [] ∈ p.df "_law_take"), fn_fun (p := p) (G := p.G k) (f := "_law_take") (x := x__law_take) (by rfl)⟩
theorem f__law_same (k : Nat) : Fn p.sub p.xk (p.G (k + 1)) (p.G k) "_law_same" 2 2 b__law_same := ⟨(by decide +kernel : [] ∈ p.df "_law_same"), fn_fun (p := p) (G := p.G k) (f := "_law_same") (x := x__law_same) (by rfl)⟩
theorem f__law_kinds (k : Nat) : Fn p.sub p.xk (p.G (k + 1)) (p.G k) "_law_kinds" 1 3 b__law_kinds := ⟨(by decide +kernel : [] ∈ p.df "_law_kinds"), fn_fun (p := p) (G := p.G k) (f := "_law_kinds") (x := x__law_kinds) (by rfl)⟩
theorem f__law_bases (k : Nat) : Fn p.sub p.xk (p.G (k + 1)) (p.G k) "_law_bases" 0 3 b__law_bases := ⟨(by decide +kernel : [] ∈ p.df "_law_bases"), fn_fun (p := p) (G := p.G k) (f := "_law_bases") (x := x__law_bases) (by rfl)⟩
theorem f_law (k : Nat) : Fn p.sub p.xk (p.G (k + 1)) (p.G k) "law" 1 8 b_law := ⟨(by decide +kernel : [] ∈ p.df "law"), fn_fun (p := p) (G := p.G k) (f := "law") (x := x_law) (by rfl)⟩
end K01
set_option Elab.async false
set_option linter.all false
set_option maxRecDepth 100000
set_option maxHeartbeats 4000000
namespace M
open PySem PySem.Spec PyProof.Rows L2 FR
/-! ### sizes of results -/
theorem Sz.add {m n : Nat} {q r : Rat} (hq : Sz m q) (hr : Sz n r) : Sz (m + n + 1) (q + r) := by
  have d1 : (q.den : Int) ≠ 0 := by have := q.den_pos; omega
  have d2 : (r.den : Int) ≠ 0 := by have := r.den_pos; omega
  have e : Rat.divInt (q.num * r.den + r.num * q.den) (q.den * r.den) = q + r := by rw [← Rat.divInt_add_divInt _ _ d1 d2, Rat.num_divInt_den, Rat.num_divInt_den]
  rw [← e]
  have a1 : (q.num * (r.den : Int)).natAbs < 2 ^ (m + n) := natAbs_mul_lt hq.1 (by simpa using hr.2)
  have a2 : (r.num * (q.den : Int)).natAbs < 2 ^ (m + n) := by rw [Nat.add_comm m n]; exact natAbs_mul_lt hr.1 (by simpa using hq.2)
  have a3 := natAbs_add_lt a1 a2
  rw [Nat.max_self] at a3
  refine sz_divInt (Int.mul_ne_zero d1 d2) a3 ?_
  have a4 : ((q.den : Int) * r.den).natAbs < 2 ^ (m + n) := natAbs_mul_lt (by simpa using hq.2) (by simpa using hr.2)
  rw [Nat.pow_succ]; omega
theorem Sz.neg {m : Nat} {q : Rat} (hq : Sz m q) : Sz m (-q) := by
  have e : Rat.divInt (-q.num) q.den = -q := by rw [← Rat.neg_divInt, Rat.num_divInt_den]
  have d1 : (q.den : Int) ≠ 0 := by have := q.den_pos; omega
  rw [← e]
  exact sz_divInt d1 (by rw [Int.natAbs_neg]; exact hq.1) (by simpa using hq.2)
theorem Sz.sub {m n : Nat} {q r : Rat} (hq : Sz m q) (hr : Sz n r) : Sz (m + n + 1) (q - r) := by
  rw [Rat.sub_eq_add_neg]
  exact hq.add hr.neg
theorem Sz.mul {m n : Nat} {q r : Rat} (hq : Sz m q) (hr : Sz n r) : Sz (m + n) (q * r) := by
  have d1 : (q.den : Int) ≠ 0 := by have := q.den_pos; omega
  have d2 : (r.den : Int) ≠ 0 := by have := r.den_pos; omega
  have e : Rat.divInt (q.num * r.num) (q.den * r.den) = q * r := by rw [← Rat.divInt_mul_divInt, Rat.num_divInt_den, Rat.num_divInt_den]
  rw [← e]
  exact sz_divInt (Int.mul_ne_zero d1 d2) (natAbs_mul_lt hq.1 hr.1) (natAbs_mul_lt (by simpa using hq.2) (by simpa using hr.2))
theorem Sz.int {n : Nat} {i : Int} (h : i.natAbs < 2 ^ n) (h0 : 0 < n) : Sz n (i : Rat) := by
  refine ⟨by rw [Rat.num_intCast]; exact h, ?_⟩
  rw [Rat.den_intCast]
  cases n with
  | zero => omega
  | succ n => rw [Nat.pow_succ]; have := Nat.two_pow_pos n; omega
/-- q multiplied n times -/
def rpw (q : Rat) : Nat → Rat
  | 0 => 1
  | n + 1 => rpw q n * q
theorem Sz.one : Sz 1 (1 : Rat) := ⟨by decide, by decide⟩
theorem Sz.pw {m : Nat} {q : Rat} (hq : Sz m q) : ∀ n, Sz (1 + n * m) (rpw q n)
  | 0 => by simpa [rpw] using Sz.one
  | n + 1 => by
    have := (Sz.pw hq n).mul hq
    rw [show 1 + (n + 1) * m = 1 + n * m + m by rw [Nat.succ_mul]; omega]
    exact this
/-! ### pairs as the laws have them -/
def pr (x : Rat) : D := .tup [.int x.num, .int x.den]
section
variable {G : Gt} {S : Sto}
theorem ixt {a b : D} : idxF (.p (.tup [a, b])) (int 0) S = some (.p a) ∧ idxF (.p (.tup [a, b])) (int 1) S = some (.p b) := ⟨rfl, rfl⟩
theorem ixl {a b : D} : idxF (.p (.lst [a, b])) (int 0) S = some (.p a) ∧ idxF (.p (.lst [a, b])) (int 1) S = some (.p b) := ⟨rfl, rfl⟩
theorem ixp {x : Rat} : idxF (.p (pr x)) (int 0) S = some (int x.num) ∧ idxF (.p (pr x)) (int 1) S = some (int x.den) := ⟨rfl, rfl⟩
theorem pr_int (n : Int) : pr (n : Rat) = .tup [.int n, .int 1] := by
  unfold pr
  rw [Rat.num_intCast, Rat.den_intCast]
  rfl
theorem tr_b {b : Bool} : truth S (.p (.bl b)) = some b := nr rfl
/-- an index into a list of whole numbers -/
theorem ix_ints {xs : List Int} {i : Int} (h0 : 0 ≤ i) (h1 : i < xs.length) : idxF (.p (.lst (xs.map .int))) (int i) S = some (int (xs.getD i.toNat 0)) := by
  have z : ixO xs.length i = some i.toNat := by
    unfold ixO
    rw [if_pos h0, if_pos h1]
  have hl : i.toNat < xs.length := by omega
  simp [idxF, seqOf, z, hl]
theorem not_ins_tup {xs : List D} : ∀ c ks ds, D.tup xs ≠ .ins c ks ds := fun _ _ _ z => by cases z
theorem cp_eq {x y : Rat} : cmpF G .Eq (.p (pr x)) (.p (pr y)) S = .ok (decide (x = y)) S := by
  have e : (decide (x.num = y.num) && decide ((x.den : Int) = y.den)) = decide (x = y) := by
    rw [Bool.eq_iff_iff, Bool.and_eq_true, decide_eq_true_iff, decide_eq_true_iff, decide_eq_true_iff]
    exact ⟨fun ⟨a, b⟩ => Rat.ext a (by omega), fun z => by rw [z]; exact ⟨rfl, rfl⟩⟩
  rw [← e]
  exact c_eq not_ins_tup eq_tt
theorem eq_bb {a b : Bool} : eqD (.bl a) (.bl b) = some (a == b) := by
  simp [eqD, D.py, SeqAt.shaped, PyData.canLay0, PyData.depth, PyData.eqv]
theorem cb_eq {a b : Bool} : cmpF G .Eq (.p (.bl a)) (.p (.bl b)) S = .ok (a == b) S := c_eq (fun _ _ _ z => by cases z) eq_bb
theorem cb_ne {a b : Bool} : cmpF G .NotEq (.p (.bl a)) (.p (.bl b)) S = .ok (!(a == b)) S := c_ne (fun _ _ _ z => by cases z) eq_bb
end
/-! ### comprehensions without calls that leave anything -/
theorem kcomp_ok {G : Gt} {ρ : Env} {S : Sto} {elt c : E} {own : List (Str × Nat)} {i : Nat} {ds : List D} {f : D → Bool} {h : D → D} (hS : wf S) (hl : ds.length < 1000000)
    (hc : ∀ d ∈ ds, ∀ us : List D, (ev G c).t ((wipeE ρ (own.map fun z => z.2)).set i (some (.p d))) (S ++ [Cel.live (.lst (us.map W.p))]) = .ok (f d) (S ++ [Cel.live (.lst (us.map W.p))]))
    (he : ∀ d ∈ ds, f d = true → ∀ us : List D, (ev G elt).e ((wipeE ρ (own.map fun z => z.2)).set i (some (.p d))) (S ++ [Cel.live (.lst (us.map W.p))]) = .ok (.p (h d)) (S ++ [Cel.live (.lst (us.map W.p))])) :
    kComp G ρ elt own (.one i) c (ds.map W.p) S = .ok (.p (.lst ((ds.filter f).map h))) S := by
  have loop : ∀ (es : List D) (acc : List D), (∀ d ∈ es, d ∈ ds) → acc.length + es.length < 1000000 → compL (ev G elt).e (ev G c).t (.one i) S.length (wipeE ρ (own.map fun z => z.2)) (es.map W.p) (S ++ [Cel.live (.lst (acc.map W.p))]) = .ok () (S ++ [Cel.live (.lst ((acc ++ (es.filter f).map h).map W.p))]) := by
    intro es
    induction es with
    | nil => intro acc _ _; simp [compL]
    | cons e es ih =>
      intro acc hm hl
      have h1 := hc e (hm e List.mem_cons_self) acc
      have hl' : acc.length + (es.length + 1) < 1000000 := hl
      show ((ev G c).t ((wipeE ρ (own.map fun z => z.2)).set i (some (.p e))) (S ++ [Cel.live (.lst (acc.map W.p))])).noex.bind _ = _
      rw [h1]
      show (if f e = true then ((ev G elt).e ((wipeE ρ (own.map fun z => z.2)).set i (some (.p e))) (S ++ [Cel.live (.lst (acc.map W.p))])).noex.bind _ else _) = _
      by_cases hf : f e = true
      · rw [if_pos hf, he e (hm e List.mem_cons_self) hf acc]
        simp only [Rs.noex_ok, Rs.bind_ok, app_get]
        have hz : sizeOk ((acc.map W.p).length + 1) := by unfold sizeOk; rw [List.length_map]; omega
        rw [if_pos hz, app_set]
        have e2 : acc.map W.p ++ [.p (h e)] = (acc ++ [h e]).map W.p := by simp
        rw [e2, ih (acc ++ [h e]) (fun d hd => hm d (List.mem_cons_of_mem _ hd)) (by simp; omega)]
        simp [List.filter_cons, hf]
      · rw [if_neg hf, ih acc (fun d hd => hm d (List.mem_cons_of_mem _ hd)) (by omega)]
        simp [List.filter_cons, hf]
  have l := loop ds [] (fun d h => h) (by simpa using hl)
  show (compL (ev G elt).e (ev G c).t (.one i) S.length (wipeE ρ (own.map fun z => z.2)) (ds.map W.p) (S ++ [Cel.live (.lst [])])).bind _ = _
  rw [show ([] : List W) = ([] : List D).map W.p from rfl, l]
  show sealF S.length (S ++ [Cel.live (.lst ((([] : List D) ++ (ds.filter f).map h).map W.p))]) = _
  unfold sealF
  rw [app_get]
  dsimp only
  rw [pures_map]
  dsimp only
  rw [app_set, List.nil_append]
  exact fin_app hS
theorem comp_ok {G : Gt} {ρ : Env} {S : Sto} {elt it c : E} {own : List (Str × Nat)} {i : Nat} {ds : List D} {f : D → Bool} {h : D → D} (hS : wf S) (hit : (ev G it).i ρ S = .ok (ds.map W.p) S) (hl : ds.length < 1000000)
    (hc : ∀ d ∈ ds, ∀ us : List D, (ev G c).t ((wipeE ρ (own.map fun z => z.2)).set i (some (.p d))) (S ++ [Cel.live (.lst (us.map W.p))]) = .ok (f d) (S ++ [Cel.live (.lst (us.map W.p))]))
    (he : ∀ d ∈ ds, f d = true → ∀ us : List D, (ev G elt).e ((wipeE ρ (own.map fun z => z.2)).set i (some (.p d))) (S ++ [Cel.live (.lst (us.map W.p))]) = .ok (.p (h d)) (S ++ [Cel.live (.lst (us.map W.p))])) :
    (ev G (.comp elt own (.one i) it c)).e ρ S = .ok (.p (.lst ((ds.filter f).map h))) S := by
  show ((ev G it).i ρ S).bind (kComp G ρ elt own (.one i) c) = _
  rw [hit]
  exact kcomp_ok hS hl hc he
/-! ### try -/
theorem tryA_ex {sub : Str → Str → Bool} {xk : Str → Option (Option Str)} {G : Gt} {ρ ρ' : Env} {S S' : Sto} {b s : B} {c c' : Str} {ks : List Str} {ds : List D} {i : Nat} (h : evB sub xk b G ρ S = .ex c' ks ds ρ' S') (hs : sub c' c = true) (hi : i < ρ'.length) :
    evB sub xk (.tryA b c i s) G ρ S = (noRt (evB sub xk s (hotG (ks.zip ds)) (ρ'.set i none) S')).leave i := by
  show bTryA sub (evB sub xk b G) c i (fun xf => evB sub xk s (hotG xf)) ρ S = _
  unfold bTryA
  rw [h]
  dsimp only
  rw [if_pos hs, if_pos hi]
theorem tryO_ex {sub : Str → Str → Bool} {xk : Str → Option (Option Str)} {G : Gt} {ρ ρ' : Env} {S S' : Sto} {b s : B} {c c' : Str} {ks : List Str} {ds : List D} (h : evB sub xk b G ρ S = .ex c' ks ds ρ' S') (hs : sub c' c = true) :
    evB sub xk (.tryO b c s) G ρ S = noRt (evB sub xk s (hotG []) ρ' S') := by
  show bTryO sub (evB sub xk b G) c (evB sub xk s (hotG [])) ρ S = _
  unfold bTryO
  rw [h]
  dsimp only
  rw [if_pos hs]
/-! ### the Ratio's operators -/
section
variable {sub : Str → Str → Bool} {xk : Str → Option (Option Str)} {g : Nat → Gt} (R : ∀ k, RatF sub xk (g (k + 1)) (g k)) {S : Sto} {k : Nat}
include R
theorem rightA_num {o : D} {r : Rat} (h : Num o r) : rightA "Ratio" (.p o) = true := by
  cases h with
  | i i => rfl
  | r q => show decide (("Ratio" : Str) = "Ratio") = true; exact decide_eq_true rfl
theorem rightC_num {o : D} {r : Rat} (h : Num o r) : rightC "Ratio" (.p o) = true := by
  cases h with
  | i i => rfl
  | r q => show decide (("Ratio" : Str) = "Ratio") = true; exact decide_eq_true rfl
theorem o_add (h : 4 ≤ k) (hS : wf S) {q r : Rat} {o : D} (hn : Num o r) {m n : Nat} (hq : Sz m q) (hr : Sz n r) (l : m + n < 8999) (hm : 0 < m) (hn0 : 0 < n) : binF (g k) .Add (.p (rt q)) (.p o) S = .ok (.p (rt (q + r))) S := by
  show (if rightA "Ratio" (.p o) = true then (g k).me "Ratio" "__add__" [.p (rt q), .p o] S else .no) = _
  rw [if_pos (rightA_num R hn)]
  exact r_add R h hS hn hq hr l hm hn0
theorem o_sub (h : 4 ≤ k) (hS : wf S) {q r : Rat} {o : D} (hn : Num o r) {m n : Nat} (hq : Sz m q) (hr : Sz n r) (l : m + n < 8999) (hm : 0 < m) (hn0 : 0 < n) : binF (g k) .Sub (.p (rt q)) (.p o) S = .ok (.p (rt (q - r))) S := by
  show (if rightA "Ratio" (.p o) = true then (g k).me "Ratio" "__sub__" [.p (rt q), .p o] S else .no) = _
  rw [if_pos (rightA_num R hn)]
  exact r_sub R h hS hn hq hr l hm hn0
theorem o_mul (h : 4 ≤ k) (hS : wf S) {q r : Rat} {o : D} (hn : Num o r) {m n : Nat} (hq : Sz m q) (hr : Sz n r) (l : m + n < 8999) (hm : 0 < m) (hn0 : 0 < n) : binF (g k) .Mult (.p (rt q)) (.p o) S = .ok (.p (rt (q * r))) S := by
  show (if rightA "Ratio" (.p o) = true then (g k).me "Ratio" "__mul__" [.p (rt q), .p o] S else .no) = _
  rw [if_pos (rightA_num R hn)]
  exact r_mul R h hS hn hq hr l hm hn0
theorem o_neg (h : 3 ≤ k) (hS : wf S) {q : Rat} {m : Nat} (hq : Sz m q) (l : m < 8999) (hm : 0 < m) : negF (g k) (.p (rt q)) S = .ok (.p (rt (-q))) S := r_neg R h hS hq l hm
theorem o_eq (h : 3 ≤ k) {q r : Rat} {o : D} (hn : Num o r) : cmpF (g k) .Eq (.p (rt q)) (.p o) S = .ok (decide (q = r)) S := by
  show (if rightC "Ratio" (.p o) = true then ((g k).me "Ratio" "__eq__" [.p (rt q), .p o] S).noex.bind _ else .no) = _
  rw [if_pos (rightC_num R hn), r_eq R h hn]
  rfl
theorem o_ne (h : 3 ≤ k) {q r : Rat} {o : D} (hn : Num o r) : cmpF (g k) .NotEq (.p (rt q)) (.p o) S = .ok (!decide (q = r)) S := by
  show (cmpF (g k) .Eq (.p (rt q)) (.p o) S).bind _ = _
  rw [o_eq R h hn]
  rfl
theorem o_eq_no (h : 3 ≤ k) {q : Rat} {o : D} (hn : NoNum o) (hr : rightC "Ratio" (.p o) = true) : cmpF (g k) .Eq (.p (rt q)) (.p o) S = .ok false S := by
  show (if rightC "Ratio" (.p o) = true then ((g k).me "Ratio" "__eq__" [.p (rt q), .p o] S).noex.bind _ else .no) = _
  rw [if_pos hr, r_eq_no R h hn]
  rfl
theorem o_lt (h : 4 ≤ k) (hS : wf S) {q r : Rat} {o : D} (hn : Num o r) {m n : Nat} (hq : Sz m q) (hr : Sz n r) (l : m + n < 8999) (hm : 0 < m) (hn0 : 0 < n) : cmpF (g k) .Lt (.p (rt q)) (.p o) S = .ok (decide (q < r)) S := by
  show (if rightC "Ratio" (.p o) = true then ((g k).me "Ratio" "__lt__" [.p (rt q), .p o] S).noex.bind _ else .no) = _
  rw [if_pos (rightC_num R hn), r_lt R h hS hn hq hr l hm hn0]
  rfl
theorem o_le (h : 4 ≤ k) (hS : wf S) {q r : Rat} {o : D} (hn : Num o r) {m n : Nat} (hq : Sz m q) (hr : Sz n r) (l : m + n < 8999) (hm : 0 < m) (hn0 : 0 < n) : cmpF (g k) .LtE (.p (rt q)) (.p o) S = .ok (decide (q ≤ r)) S := by
  show (if rightC "Ratio" (.p o) = true then ((g k).me "Ratio" "__le__" [.p (rt q), .p o] S).noex.bind _ else .no) = _
  rw [if_pos (rightC_num R hn), r_le R h hS hn hq hr l hm hn0]
  rfl
/-! lesser, greater, total, raised -/
theorem r_lesser (h : 5 ≤ k) (hS : wf S) {q r : Rat} {o1 o : D} (h1 : Num o1 q) (hn : Num o r) {m n : Nat} (hq : Sz m q) (hr : Sz n r) (l : m + n < 8999) (hm : 0 < m) (hn0 : 0 < n)
    (a : Fn sub xk (g (k - 1)) (g (k - 2)) "as_ratio" 1 3 b_as_ratio) (b : Fn sub xk (g k) (g (k - 1)) "lesser" 2 2 b_lesser) : (g k).fn "lesser" [.p o1, .p o] S = .ok (.p (rt (if q < r then q else r))) S := by
  rw [b.2]
  obtain ⟨i, rfl, R1⟩ := pre1 R (k := k) (by omega)
  refine (bod rfl).trans ?_
  show finF S.length (endF (evB sub xk b_lesser (g i) [some (.p o1), some (.p o)] S)) = _
  unfold b_lesser
  have a' : Fn sub xk (g i) (g (i - 1)) "as_ratio" 1 3 b_as_ratio := a
  have e1 := r_as R (S := S) (k := i) (by omega) hS h1 hq (by omega) hm a'
  have e2 := r_as R (S := S) (k := i) (by omega) hS hn hr (by omega) hn0 a'
  by_cases hc : q < r
  · simp only [EVb, EVs, EVe, EVt, EVl, EVk, EVv, EVx, List.getElem?_cons_zero, List.getElem?_cons_succ, List.set_cons_zero, List.set_cons_succ, EVr, Option.map_some, List.map_nil, List.append_nil, a'.1, if_pos, e1, e2, o_lt R (k := i) (by omega) hS hn hq hr l hm hn0, hc, decide_true, fin_p]
  · simp only [EVb, EVs, EVe, EVt, EVl, EVk, EVv, EVx, List.getElem?_cons_zero, List.getElem?_cons_succ, List.set_cons_zero, List.set_cons_succ, EVr, Option.map_some, List.map_nil, List.append_nil, a'.1, if_pos, e1, e2, o_lt R (k := i) (by omega) hS hn hq hr l hm hn0, hc, decide_false, if_false, fin_p]
theorem r_greater (h : 5 ≤ k) (hS : wf S) {q r : Rat} {o1 o : D} (h1 : Num o1 q) (hn : Num o r) {m n : Nat} (hq : Sz m q) (hr : Sz n r) (l : m + n < 8999) (hm : 0 < m) (hn0 : 0 < n)
    (a : Fn sub xk (g (k - 1)) (g (k - 2)) "as_ratio" 1 3 b_as_ratio) (b : Fn sub xk (g k) (g (k - 1)) "greater" 2 2 b_greater) : (g k).fn "greater" [.p o1, .p o] S = .ok (.p (rt (if q < r then r else q))) S := by
  rw [b.2]
  obtain ⟨i, rfl, R1⟩ := pre1 R (k := k) (by omega)
  refine (bod rfl).trans ?_
  show finF S.length (endF (evB sub xk b_greater (g i) [some (.p o1), some (.p o)] S)) = _
  unfold b_greater
  have a' : Fn sub xk (g i) (g (i - 1)) "as_ratio" 1 3 b_as_ratio := a
  have e1 := r_as R (S := S) (k := i) (by omega) hS h1 hq (by omega) hm a'
  have e2 := r_as R (S := S) (k := i) (by omega) hS hn hr (by omega) hn0 a'
  by_cases hc : q < r
  · simp only [EVb, EVs, EVe, EVt, EVl, EVk, EVv, EVx, List.getElem?_cons_zero, List.getElem?_cons_succ, List.set_cons_zero, List.set_cons_succ, EVr, Option.map_some, List.map_nil, List.append_nil, a'.1, if_pos, e1, e2, o_lt R (k := i) (by omega) hS hn hq hr l hm hn0, hc, decide_true, fin_p]
  · simp only [EVb, EVs, EVe, EVt, EVl, EVk, EVv, EVx, List.getElem?_cons_zero, List.getElem?_cons_succ, List.set_cons_zero, List.set_cons_succ, EVr, Option.map_some, List.map_nil, List.append_nil, a'.1, if_pos, e1, e2, o_lt R (k := i) (by omega) hS hn hq hr l hm hn0, hc, decide_false, if_false, fin_p]
/-- a list of numbers -/
inductive NumL (n : Nat) : List D → List Rat → Prop where
  | nil : NumL n [] []
  | cons {o : D} {r : Rat} {os : List D} {rs : List Rat} : Num o r → Sz n r → NumL n os rs → NumL n (o :: os) (r :: rs)
def rsum (q : Rat) : List Rat → Rat
  | [] => q
  | r :: rs => rsum (q + r) rs
theorem r_one (h : 2 ≤ k) (hS : wf S) {a : Int} : (g k).fn "Ratio" [int a, int 1] S = .ok (.p (rt (a : Rat))) S := by
  have e : Rat.divInt a 1 = (a : Rat) := by
    have := Rat.num_divInt_den (a : Rat)
    rw [Rat.num_intCast, Rat.den_intCast] at this
    exact this
  rw [← e]
  exact r_new R h hS (N := 1) (by decide) ⟨by decide, by decide⟩ (by decide)
theorem total_loop (h : 4 ≤ k) (hS : wf S) {n : Nat} (hn0 : 0 < n) {u : Option W} : ∀ (os : List D) (rs : List Rat) (q : Rat) (m : Nat) (v : Option W), NumL n os rs → Sz m q → 0 < m → m + rs.length * (n + 1) < 8000 →
    ∃ v', forL (.one 2) (evB sub xk (.seq (.set 1 (.bin .Add (.var 1) (.var 2))) .nil) (g k)) (os.map .p) [u, some (.p (rt q)), v] S = .ok [u, some (.p (rt (rsum q rs))), v'] .nx S
  | _, _, q, m, v, .nil, _, _, _ => ⟨v, rfl⟩
  | _, _, q, m, v, .cons (o := o) (r := r) (os := os) (rs := rs) ho hs t, hq, hm, l => by
    have l2 : m + n < 8999 := by
      have e : (rs.length + 1) * (n + 1) = rs.length * (n + 1) + (n + 1) := Nat.succ_mul _ _
      have l' : m + (rs.length + 1) * (n + 1) < 8000 := l
      omega
    obtain ⟨v', e⟩ := total_loop h hS hn0 (u := u) os rs (q + r) (m + n + 1) (some (.p o)) t (hq.add hs) (by omega) (by
      have e : (rs.length + 1) * (n + 1) = rs.length * (n + 1) + (n + 1) := Nat.succ_mul _ _
      have l' : m + (rs.length + 1) * (n + 1) < 8000 := l
      omega)
    refine ⟨v', ?_⟩
    have step : evB sub xk (.seq (.set 1 (.bin .Add (.var 1) (.var 2))) .nil) (g k) [u, some (.p (rt q)), some (.p o)] S = .ok [u, some (.p (rt (q + r))), some (.p o)] .nx S := by
      simp only [EVb, EVs, EVe, EVt, EVl, EVk, EVv, EVx, List.getElem?_cons_zero, List.getElem?_cons_succ, List.set_cons_zero, List.set_cons_succ, EVr, Option.map_some, List.map_nil, List.append_nil, o_add R h hS ho hq hs l2 hm hn0]
    show (evB sub xk (.seq (.set 1 (.bin .Add (.var 1) (.var 2))) .nil) (g k) [u, some (.p (rt q)), some (.p o)] S).loop _ = _
    rw [step]
    exact e
theorem r_total (h : 5 ≤ k) (hS : wf S) {n : Nat} (hn0 : 0 < n) {os : List D} {rs : List Rat} (hs : NumL n os rs) (l : 1 + rs.length * (n + 1) < 8000) (w : W) (hw : w = .p (.lst os) ∨ w = .p (.tup os))
    (b : Fn sub xk (g k) (g (k - 1)) "total" 1 3 b_total) : (g k).fn "total" [w] S = .ok (.p (rt (rsum 0 rs))) S := by
  rw [b.2]
  obtain ⟨i, rfl, R1⟩ := pre1 R (k := k) (by omega)
  obtain ⟨j, rfl, R2⟩ := pre1 R (k := i) (by omega)
  refine (bod rfl).trans ?_
  show finF S.length (endF (evB sub xk b_total (g (j + 1)) [some w, none, none] S)) = _
  unfold b_total
  have e0 : rt ((0 : Int) : Rat) = rt 0 := rfl
  have z : Sz 1 (0 : Rat) := ⟨by decide, by decide⟩
  obtain ⟨v', e⟩ := total_loop R (k := j + 1) (S := S) (by omega) hS hn0 (u := some w) os rs 0 1 none hs z (by decide) l
  have ew : walkOf S w = some (os.map .p) := by rcases hw with rfl | rfl <;> rfl
  have ev : rdV (some (some w)) S = .ok w S := by rcases hw with rfl | rfl <;> rfl
  have r1 := r_one R (k := j + 1) (S := S) (by omega) hS (a := 0)
  rw [e0] at r1
  simp only [EVb, EVs, EVe, EVt, EVl, EVk, EVv, EVx, List.getElem?_cons_zero, List.getElem?_cons_succ, List.set_cons_zero, List.set_cons_succ, EVr, Option.map_some, List.map_nil, List.append_nil, R2.initD.2, if_pos, List.map_cons, List.cons_append, List.nil_append, r1, ev, ew, e, fin_p]
theorem raised_loop (h : 4 ≤ k) (hS : wf S) {m : Nat} (hm : 0 < m) {q : Rat} {o : D} (ho : Num o q) (hq : Sz m q) {u : Option W} : ∀ (ws : List W) (n : Nat) (v : Option W), 1 + (n + ws.length) * m < 8000 → (∀ w ∈ ws, ∃ d, w = .p d) →
    ∃ v', forL (.one 3) (evB sub xk (.seq (.set 2 (.bin .Mult (.var 2) (.var 0))) .nil) (g k)) ws [some (.p o), u, some (.p (rt (rpw q n))), v] S = .ok [some (.p o), u, some (.p (rt (rpw q (n + ws.length)))), v'] .nx S
  | [], n, v, _, _ => ⟨v, rfl⟩
  | w :: ws, n, v, l, hw => by
    obtain ⟨d, rfl⟩ := hw w List.mem_cons_self
    have ll : (n + (ws.length + 1)) * m = (n + 1 + ws.length) * m := by congr 1; omega
    have l' : 1 + (n + (ws.length + 1)) * m < 8000 := l
    have l2 : 1 + n * m + m < 8999 := by
      have : (n + (ws.length + 1)) * m = n * m + m + ws.length * m := by rw [show n + (ws.length + 1) = n + 1 + ws.length by omega, Nat.add_mul, Nat.succ_mul]
      omega
    obtain ⟨v', e⟩ := raised_loop h hS hm ho hq (u := u) ws (n + 1) (some (.p d)) (by rw [← ll]; exact l') (fun w h => hw w (List.mem_cons_of_mem _ h))
    refine ⟨v', ?_⟩
    have step : evB sub xk (.seq (.set 2 (.bin .Mult (.var 2) (.var 0))) .nil) (g k) [some (.p o), u, some (.p (rt (rpw q n))), some (.p d)] S = .ok [some (.p o), u, some (.p (rt (rpw q n * q))), some (.p d)] .nx S := by
      simp only [EVb, EVs, EVe, EVt, EVl, EVk, EVv, EVx, List.getElem?_cons_zero, List.getElem?_cons_succ, List.set_cons_zero, List.set_cons_succ, EVr, Option.map_some, List.map_nil, List.append_nil, o_mul R h hS ho (hq.pw n) hq l2 (by omega) hm]
    show (evB sub xk (.seq (.set 2 (.bin .Mult (.var 2) (.var 0))) .nil) (g k) [some (.p o), u, some (.p (rt (rpw q n))), some (.p d)] S).loop _ = _
    rw [step, show (n + (.p d :: ws : List W).length) = n + 1 + ws.length by simp only [List.length_cons]; omega]
    exact e
theorem r_raised (h : 5 ≤ k) (hS : wf S) {m : Nat} (hm : 0 < m) {q : Rat} {o : D} (ho : Num o q) (hq : Sz m q) (n : Nat) (l : 1 + n * m < 8000) (hn : n < 1000) (b : Fn sub xk (g k) (g (k - 1)) "raised" 2 4 b_raised) : (g k).fn "raised" [.p o, int n] S = .ok (.p (rt (rpw q n))) S := by
  rw [b.2]
  obtain ⟨i, rfl, R1⟩ := pre1 R (k := k) (by omega)
  obtain ⟨j, rfl, R2⟩ := pre1 R (k := i) (by omega)
  refine (bod rfl).trans ?_
  show finF S.length (endF (evB sub xk b_raised (g (j + 1)) [some (.p o), some (int n), none, none] S)) = _
  unfold b_raised
  have e0 : rt ((1 : Int) : Rat) = rt (rpw q 0) := rfl
  have kr : kRng [int (n : Int)] S = .ok ((List.range n).map fun (k : Nat) => int (k : Int)) S := by
    unfold kRng
    dsimp only
    rw [if_pos (by omega)]; simp
  obtain ⟨v', e⟩ := raised_loop R (k := j + 1) (S := S) (by omega) hS hm ho hq (u := some (int n)) ((List.range n).map fun (k : Nat) => int (k : Int)) 0 none (by simpa using l) (fun w hw => by
    obtain ⟨k, _, rfl⟩ := List.mem_map.mp hw
    exact ⟨_, rfl⟩)
  rw [show 0 + ((List.range n).map fun (k : Nat) => int (k : Int)).length = n by simp] at e
  have r1 := r_one R (k := j + 1) (S := S) (by omega) hS (a := 1)
  rw [e0] at r1
  simp only [EVb, EVs, EVe, EVt, EVl, EVk, EVv, EVx, List.getElem?_cons_zero, List.getElem?_cons_succ, List.set_cons_zero, List.set_cons_succ, EVr, Option.map_some, List.map_nil, List.append_nil, R2.initD.2, if_pos, List.map_cons, List.cons_append, List.nil_append, r1, kr, e, fin_p]
end
end M
set_option Elab.async false
set_option linter.all false
set_option maxRecDepth 100000
set_option maxHeartbeats 4000000
namespace K01
open PySem PySem.Spec PyProof.Rows L2 M
/-! ### law k01: two values out of menus, then all is a computation without unknowns -/
def mA : E := (.lst (.cons (.cst (.str "p")) (.cons (.cst (.int 0)) (.cons (.cst .none) (.cons (.neg (.cst (.int 3))) (.cons (.tup (.cons (.cst (.int 1)) (.cons (.cst (.int 2)) .nil))) (.cons (.lst (.cons (.cst (.str "x")) .nil) false) (.cons (.cst (.bool true)) .nil))))))) false)
def mB : E := (.lst (.cons (.dct (.pair (.cst (.str "k")) (.cst (.int 1)) .nil) false) (.cons (.bin .Pow (.cst (.int 10)) (.cst (.int 30))) (.cons (.cst (.str "")) (.cons (.tup (.cons (.cst (.str "q")) .nil)) (.cons (.cst (.bool false)) .nil))))) false)
def rest : B := (.seq (.set 4 (.lst (.cons (.xfd (.call "BadNumber" (.cons (.var 2) .nil) []) "given") (.cons (.xfd (.call "BadName" (.cons (.var 3) .nil) []) "given") (.cons (.xfd (.call "BadWeight" (.cons (.var 2) .nil) []) "given") (.cons (.xfd (.call "BadShare" (.cons (.var 3) .nil) []) "given") (.cons (.xfd (.call "BadRow" (.cons (.var 2) .nil) []) "given") .nil))))) false)) (.seq (.set 4 (.bin .Add (.var 4) (.lst (.cons (.xfd (.call "BadOrder" (.cons (.var 3) .nil) []) "given") (.cons (.xfd (.call "BadCount" (.cons (.var 2) .nil) []) "given") (.cons (.xfd (.call "BadRing" (.cons (.var 3) .nil) []) "given") (.cons (.xfd (.call "BadDelay" (.cons (.var 2) .nil) []) "given") (.cons (.xfd (.call "BadTimes" (.cons (.var 3) .nil) []) "given") .nil))))) false))) (.seq (.set 4 (.bin .Add (.var 4) (.lst (.cons (.xfd (.call "BadWish" (.cons (.var 2) .nil) []) "given") (.cons (.xfd (.call "NoRecorder" (.cons (.var 3) .nil) []) "given") (.cons (.xfd (.call "NoThing" (.cons (.var 2) .nil) []) "given") (.cons (.xfd (.call "InUse" (.cons (.var 3) .nil) []) "given") .nil)))) false))) (.seq (.set 5 (.lst (.cons (.xfd (.callK "BadNumber" 0 .nil ["given"] (.cons (.var 2) .nil) [0]) "given") (.cons (.xfd (.callK "BadName" 0 .nil ["given"] (.cons (.var 3) .nil) [0]) "given") (.cons (.xfd (.callK "BadWeight" 0 .nil ["given"] (.cons (.var 2) .nil) [0]) "given") (.cons (.xfd (.callK "BadShare" 0 .nil ["given"] (.cons (.var 3) .nil) [0]) "given") .nil)))) false)) (.seq (.set 5 (.bin .Add (.var 5) (.lst (.cons (.xfd (.callK "BadRow" 0 .nil ["given"] (.cons (.var 2) .nil) [0]) "given") (.cons (.xfd (.callK "BadOrder" 0 .nil ["given"] (.cons (.var 3) .nil) [0]) "given") (.cons (.xfd (.callK "BadCount" 0 .nil ["given"] (.cons (.var 2) .nil) [0]) "given") (.cons (.xfd (.callK "BadRing" 0 .nil ["given"] (.cons (.var 3) .nil) [0]) "given") .nil)))) false))) (.seq (.set 5 (.bin .Add (.var 5) (.lst (.cons (.xfd (.callK "BadDelay" 0 .nil ["given"] (.cons (.var 2) .nil) [0]) "given") (.cons (.xfd (.callK "BadTimes" 0 .nil ["given"] (.cons (.var 3) .nil) [0]) "given") (.cons (.xfd (.callK "BadWish" 0 .nil ["given"] (.cons (.var 2) .nil) [0]) "given") (.cons (.xfd (.callK "NoRecorder" 0 .nil ["given"] (.cons (.var 3) .nil) [0]) "given") .nil)))) false))) (.seq (.set 5 (.bin .Add (.var 5) (.lst (.cons (.xfd (.callK "NoThing" 0 .nil ["given"] (.cons (.var 2) .nil) [0]) "given") (.cons (.xfd (.callK "InUse" 0 .nil ["given"] (.cons (.var 3) .nil) [0]) "given") .nil)) false))) (.seq (.fori (.one 6) (.rng (.cons (.cst (.int 14)) .nil)) (.seq (.set 7 (.ite (.cmp .Eq (.bin .Mod (.var 6) (.cst (.int 2))) (.cst (.int 0))) (.var 2) (.var 3))) (.seq (.ife (.or (.no (.call "_law_same" (.cons (.idx (.var 4) (.var 6)) (.cons (.var 7) .nil)) [])) (.no (.call "_law_same" (.cons (.idx (.var 5) (.var 6)) (.cons (.var 7) .nil)) []))) (.seq (.ret (.cst (.bool false))) .nil) .nil) .nil))) (.seq (.ife (.or (.no (.call "_law_same" (.cons (.xfd (.call "BadLine" (.cons (.var 2) .nil) []) "line") (.cons (.var 2) .nil)) [])) (.no (.call "_law_same" (.cons (.xfd (.callK "BadLine" 0 .nil ["line"] (.cons (.var 3) .nil) [0]) "line") (.cons (.var 3) .nil)) []))) (.seq (.ret (.cst (.bool false))) .nil) .nil) (.seq (.ret (.call "_law_bases" .nil [])) .nil))))))))))
theorem law_eq : b_law = .seq (.set 1 (.call "_law_box" (.cons (.var 0) (.cons (.cst (.int 0)) .nil)) [])) (.seq (.set 2 (.idx mA (.call "_law_take" (.cons (.var 1) (.cons (.cst (.int 7)) .nil)) []))) (.seq (.set 3 (.idx mB (.call "_law_take" (.cons (.var 1) (.cons (.cst (.int 5)) .nil)) []))) rest)) := rfl
def dA : List D := [.str "p", .int 0, .non, .int (-3), .tup [.int 1, .int 2], .lst [.str "x"], .bl true]
def dB : List D := [.dic [.inr "k"] [.int 1], .int (10 ^ 30), .str "", .tup [.str "q"], .bl false]
/-- what stands behind the draws, with any two of the menus -/
def Fine2 (a b : D) : Prop := ∀ (w : Option W) (x y z : Int), endF (evB p.sub p.xk rest (p.G 3) [w, some (.c 0), some (.p a), some (.p b), none, none, none, none] [.live (.lst [int x, int y, int z])]) = .ok (bl true) [.live (.lst [int x, int y, int z])]
theorem ways : ∀ (i j : Nat) (hi : i < 7) (hj : j < 5), Fine2 (dA.getD i .non) (dB.getD j .non) := by
  intro i j hi hj
  match i, hi with
  | 0, _ => match j, hj with
    | 0, _ => intro w x y z; kernel_rfl
    | 1, _ => intro w x y z; kernel_rfl
    | 2, _ => intro w x y z; kernel_rfl
    | 3, _ => intro w x y z; kernel_rfl
    | 4, _ => intro w x y z; kernel_rfl
  | 1, _ => match j, hj with
    | 0, _ => intro w x y z; kernel_rfl
    | 1, _ => intro w x y z; kernel_rfl
    | 2, _ => intro w x y z; kernel_rfl
    | 3, _ => intro w x y z; kernel_rfl
    | 4, _ => intro w x y z; kernel_rfl
  | 2, _ => match j, hj with
    | 0, _ => intro w x y z; kernel_rfl
    | 1, _ => intro w x y z; kernel_rfl
    | 2, _ => intro w x y z; kernel_rfl
    | 3, _ => intro w x y z; kernel_rfl
    | 4, _ => intro w x y z; kernel_rfl
  | 3, _ => match j, hj with
    | 0, _ => intro w x y z; kernel_rfl
    | 1, _ => intro w x y z; kernel_rfl
    | 2, _ => intro w x y z; kernel_rfl
    | 3, _ => intro w x y z; kernel_rfl
    | 4, _ => intro w x y z; kernel_rfl
  | 4, _ => match j, hj with
    | 0, _ => intro w x y z; kernel_rfl
    | 1, _ => intro w x y z; kernel_rfl
    | 2, _ => intro w x y z; kernel_rfl
    | 3, _ => intro w x y z; kernel_rfl
    | 4, _ => intro w x y z; kernel_rfl
  | 5, _ => match j, hj with
    | 0, _ => intro w x y z; kernel_rfl
    | 1, _ => intro w x y z; kernel_rfl
    | 2, _ => intro w x y z; kernel_rfl
    | 3, _ => intro w x y z; kernel_rfl
    | 4, _ => intro w x y z; kernel_rfl
  | 6, _ => match j, hj with
    | 0, _ => intro w x y z; kernel_rfl
    | 1, _ => intro w x y z; kernel_rfl
    | 2, _ => intro w x y z; kernel_rfl
    | 3, _ => intro w x y z; kernel_rfl
    | 4, _ => intro w x y z; kernel_rfl

end K01
set_option Elab.async false
set_option linter.all false
set_option maxRecDepth 100000
set_option maxHeartbeats 4000000
namespace K01
open PySem PySem.Spec PyProof.Rows L2 M
theorem evA {G : Gt} {ρ : M.Env} {S : Sto} : (ev G mA).e ρ S = .ok (.p (.lst dA)) S := nr rfl
theorem evB_ {G : Gt} {ρ : M.Env} {b : Bx} : (ev G mB).e ρ [b.cel] = .ok (.p (.lst dB)) [b.cel] := nr rfl
abbrev fro (ns : List Int) : W := .p (.fro (ns.map .int))
theorem Fine2.use {a b : D} (h : Fine2 a b) (w : Option W) (x y z : Int) : endF (evB p.sub p.xk rest (p.G 3) [w, some (.c 0), some (.p a), some (.p b), none, none, none, none] [.live (.lst [int x, int y, int z])]) = .ok (bl true) [.live (.lst [int x, int y, int z])] := h w x y z
theorem pick {ds : List D} {v : Int} {S : Sto} (h0 : 0 ≤ v) (h1 : v < ds.length) : idxF (.p (.lst ds)) (int v) S = some (.p (ds.getD v.toNat .non)) := by
  have e : idxF (.p (.lst ds)) (int v) S = (ixO (ds.map W.p).length v).bind fun j => (ds.map W.p)[j]? := nr rfl
  rw [e]
  unfold ixO
  rw [if_pos h0, if_pos (by simpa using h1)]
  show (ds.map W.p)[v.toNat]? = _
  have hl : v.toNat < ds.length := by omega
  rw [List.getElem?_map, List.getElem?_eq_getElem hl, List.getD_eq_getElem?_getD, List.getElem?_eq_getElem hl]
  rfl
theorem law_ok (ns : List Int) (hl : ns.length ≤ 63) : ∃ S, p.run (p.G 3) x_law [.p (.fro (ns.map .int))] [] = .ok (bl true) S := by
  obtain ⟨b, eb⟩ : ∃ b, b = box0 ns 0 := ⟨_, rfl⟩
  have ob : b.ok := by rw [eb]; exact box0_ok ns (by decide)
  have kb : b.k = 0 := by rw [eb]; rfl
  have cell : ∀ S, (p.G 2).fn "_law_cell" [.p (.fro (ns.map .int)), int (0 : Nat)] S = .ok (int (cellZ ns 0)) S := fun S => by
    rw [(f__law_cell 1).2]; exact s_cell
  have box : (p.G 3).fn "_law_box" [fro ns, int 0] [] = .ok (.c 0) [b.cel] := by
    rw [(f__law_box 2).2, eb]
    exact s_box (S := []) (k := 0) (f__law_cell 1).1 cell
  have o1 := Bx.nx_ok ob (m := 7) (by decide)
  have take1 : (p.G 3).fn "_law_take" [.c 0, int 7] [b.cel] = .ok (int (b.val 7)) [(b.nx 7).cel] := by
    rw [(f__law_take 2).2]
    exact s_take (S := [b.cel]) ob (by omega) (by decide) (by decide) rfl
  have take2 : (p.G 3).fn "_law_take" [.c 0, int 5] [(b.nx 7).cel] = .ok (int ((b.nx 7).val 5)) [((b.nx 7).nx 5).cel] := by
    rw [(f__law_take 2).2]
    exact s_take (S := [(b.nx 7).cel]) o1 (by rw [Bx.nx_k]; omega) (by decide) (by decide) rfl
  obtain ⟨v1, v2⟩ := Bx.val_bd b (m := 7) (by decide)
  obtain ⟨u1, u2⟩ := Bx.val_bd (b.nx 7) (m := 5) (by decide)
  have p1 := fun S => pick (ds := dA) (S := S) v1 v2
  have p2 := fun S => pick (ds := dB) (S := S) u1 u2
  have fin := (ways (b.val 7).toNat ((b.nx 7).val 5).toNat (by omega) (by omega)).use (some (fro ns)) (((b.nx 7).nx 5).a) (((b.nx 7).nx 5).b) (((b.nx 7).nx 5).c)
  have d1 : [] ∈ (p.G 3).df "_law_box" := (f__law_box 2).1
  have d2 : [] ∈ (p.G 3).df "_law_take" := (f__law_take 2).1
  have g0 : ∀ c : Cel, rdC 0 ([c] : Sto)[0]? [c] = rdC 0 (some c) [c] := fun c => nr rfl
  have rb : ∀ c : Bx, rdC 0 (some c.cel) [c.cel] = .ok (.c 0) [c.cel] := fun c => nr rfl
  refine ⟨[], ?_⟩
  show bodyF 1 8 (evB p.sub p.xk b_law (p.G 3)) [fro ns] [] = _
  refine (bod rfl).trans ?_
  show finF 0 (endF (evB p.sub p.xk b_law (p.G 3) [some (fro ns), none, none, none, none, none, none, none] [])) = _
  rw [law_eq]
  simp only [EVb, EVs, EVe, EVt, EVl, EVk, EVv, EVx, List.getElem?_cons_zero, List.getElem?_cons_succ, List.set_cons_zero, List.set_cons_succ, EVr, Option.map_some, List.map_nil, List.append_nil, d1, d2, if_pos, box, take1, take2, evA, evB_, p1, p2, g0, rb]
  refine (congrArg (finF 0) fin).trans ?_
  unfold finF
  dsimp only
  rw [if_pos (by rw [List.take_zero]; rfl)]
  rfl
end K01
set_option Elab.async false
set_option linter.all false
open PySem PySem.W PySem.Calls PyProof.Rows
set_option maxRecDepth 100000 in
set_option maxHeartbeats 0 in
theorem PySem.Challenge.cw_fairbatches_k01_errors_holds : PySem.Challenge.rw_fairbatches_k01_errors.Holds := by
  w_on; o_law
  refine HandSHeadRun.head_any (r := OpenLaw.row PySem.Challenge.rw_fairbatches_k01_errors) (q := view (OpenLaw.row PySem.Challenge.rw_fairbatches_k01_errors).prog [K01.lawIx]) (H := M.hookP 5 K01.p) (ob := M.obP 5 K01.p) (M := 20000) (loose := K01.names) (d := HandSHeadRun.topDef (OpenLaw.row PySem.Challenge.rw_fairbatches_k01_errors).prog K01.lawIx) (kwd := [])
    (fun s => M.obP_eq s) (by kernel_rfl) (fun s => by kernel_rfl) K01.run (by kernel_rfl) (by kernel_rfl) (by kernel_rfl) (by rfl) (by first | assumption | decide +kernel) (by decide +kernel) ⟨rfl, rfl, rfl, rfl, rfl, by decide +kernel⟩ ?hw ?hc
  case hw => w_witness2
  case hc => exact M.walkP (l := PySem.Challenge.rw_fairbatches_k01_errors) (n := 63) (m := 3) rfl (by decide) (by kernel_rfl) ⟨⟨rfl, by decide, by decide⟩, rfl⟩ K01.okL (by kernel_rfl) rfl rfl K01.law_ok
