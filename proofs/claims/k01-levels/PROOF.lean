import PyProof.Rows.All
import Wide.All
import OpenK.AllK
import Wide.FinOn
import HandS.ForMost
import HandS.Walk
import HandS.Style
import HandS.IsInst
import HandS.More
import KE.DataCmp
import HandS.TupLe
import PySem.Challenge.RW_filedcards_k01_levels
set_option Elab.async false
set_option linter.all false
set_option maxRecDepth 100000
set_option maxHeartbeats 2000000
namespace DL
open PySem L2

/-! ### representations -/
structure Rp (α : Type) where
  rel : Hp → V → α → Prop
  mono : ∀ {F F' : Hp} {v : V} {a : α}, Same F F' → rel F v a → rel F' v a
def rInt : Rp Int := ⟨fun _ v a => v = .int a, fun _ h => h⟩
def rBool : Rp Bool := ⟨fun _ v a => v = .bl a, fun _ h => h⟩
abbrev Txt := List Nat
def tx (l : Txt) : Str := ⟨l.toArray⟩
def okT (a : Txt) : Bool := a.all fun c => decide (c < 1114112)
def rTxt : Rp Txt := ⟨fun _ v a => v = .str (tx a) ∧ okT a = true, fun _ h => h⟩
def rNon : Rp Unit := ⟨fun _ v _ => v = .non, fun _ h => h⟩
/-- row by row -/
def Rl {α : Type} (R : V → α → Prop) : List V → List α → Prop
  | [], [] => True
  | v :: vs, a :: as => R v a ∧ Rl R vs as
  | _, _ => False
theorem Rl.imp {α : Type} {R S : V → α → Prop} (h : ∀ v a, R v a → S v a) : ∀ {vs : List V} {as : List α}, Rl R vs as → Rl S vs as
  | [], [], _ => trivial
  | v :: vs, a :: as, x => ⟨h _ _ x.1, Rl.imp h x.2⟩
  | [], _ :: _, x => x.elim
  | _ :: _, [], x => x.elim
theorem Rl.length {α : Type} {R : V → α → Prop} : ∀ {vs : List V} {as : List α}, Rl R vs as → vs.length = as.length
  | [], [], _ => rfl
  | v :: vs, a :: as, x => by simp [Rl.length x.2]
  | [], _ :: _, x => x.elim
  | _ :: _, [], x => x.elim
theorem Rl.get {α : Type} {R : V → α → Prop} : ∀ {vs : List V} {as : List α} {i : Nat} {a : α}, Rl R vs as → as[i]? = some a → ∃ v, vs[i]? = some v ∧ R v a
  | [], [], _, _, _, h => by simp at h
  | v :: vs, a :: as, 0, b, x, h => by
    have e : a = b := by simpa using h
    subst e
    exact ⟨v, rfl, x.1⟩
  | v :: vs, a :: as, i + 1, b, x, h => by
    obtain ⟨w, h1, h2⟩ := Rl.get (i := i) (a := b) x.2 (by simpa using h)
    exact ⟨w, by simpa using h1, h2⟩
  | [], _ :: _, _, _, x, _ => x.elim
  | _ :: _, [], _, _, x, _ => x.elim
theorem Rl.getV {α : Type} {R : V → α → Prop} : ∀ {vs : List V} {as : List α} {i : Nat} {v : V}, Rl R vs as → vs[i]? = some v → ∃ a, as[i]? = some a ∧ R v a
  | [], [], _, _, _, h => by simp at h
  | v :: vs, a :: as, 0, b, x, h => by
    have e : v = b := by simpa using h
    subst e
    exact ⟨a, rfl, x.1⟩
  | v :: vs, a :: as, i + 1, b, x, h => by
    obtain ⟨w, h1, h2⟩ := Rl.getV (i := i) (v := b) x.2 (by simpa using h)
    exact ⟨w, by simpa using h1, h2⟩
  | [], _ :: _, _, _, x, _ => x.elim
  | _ :: _, [], _, _, x, _ => x.elim
theorem Rl.append {α : Type} {R : V → α → Prop} : ∀ {vs ws : List V} {as bs : List α}, Rl R vs as → Rl R ws bs → Rl R (vs ++ ws) (as ++ bs)
  | [], ws, [], bs, _, y => y
  | v :: vs, ws, a :: as, bs, x, y => ⟨x.1, Rl.append x.2 y⟩
  | [], _, _ :: _, _, x, _ => x.elim
  | _ :: _, _, [], _, x, _ => x.elim
theorem Rl.one {α : Type} {R : V → α → Prop} {v : V} {a : α} (h : R v a) : Rl R [v] [a] := ⟨h, trivial⟩
theorem Rl.take {α : Type} {R : V → α → Prop} : ∀ {vs : List V} {as : List α} (n : Nat), Rl R vs as → Rl R (vs.take n) (as.take n)
  | _, _, 0, _ => trivial
  | [], [], _ + 1, _ => trivial
  | v :: vs, a :: as, n + 1, x => ⟨x.1, Rl.take n x.2⟩
  | [], _ :: _, _ + 1, x => x.elim
  | _ :: _, [], _ + 1, x => x.elim
theorem Rl.drop {α : Type} {R : V → α → Prop} : ∀ {vs : List V} {as : List α} (n : Nat), Rl R vs as → Rl R (vs.drop n) (as.drop n)
  | _, _, 0, x => x
  | [], [], _ + 1, _ => trivial
  | v :: vs, a :: as, n + 1, x => Rl.drop n x.2
  | [], _ :: _, _ + 1, x => x.elim
  | _ :: _, [], _ + 1, x => x.elim
theorem Rl.set {α : Type} {R : V → α → Prop} {v : V} {a : α} (h : R v a) : ∀ {vs : List V} {as : List α} (n : Nat), Rl R vs as → Rl R (vs.set n v) (as.set n a)
  | [], [], _, _ => trivial
  | _ :: vs, _ :: as, 0, x => ⟨h, x.2⟩
  | _ :: vs, _ :: as, n + 1, x => ⟨x.1, Rl.set h n x.2⟩
  | [], _ :: _, _, x => x.elim
  | _ :: _, [], _, x => x.elim
theorem Rl.reverse {α : Type} {R : V → α → Prop} : ∀ {vs : List V} {as : List α}, Rl R vs as → Rl R vs.reverse as.reverse
  | [], [], _ => trivial
  | v :: vs, a :: as, x => by rw [List.reverse_cons, List.reverse_cons]; exact Rl.append (Rl.reverse x.2) (Rl.one x.1)
  | [], _ :: _, x => x.elim
  | _ :: _, [], x => x.elim
theorem Rl.map_eq {α : Type} {f : α → V} {R : V → α → Prop} (h : ∀ v a, R v a → v = f a) : ∀ {vs : List V} {as : List α}, Rl R vs as → vs = as.map f
  | [], [], _ => rfl
  | v :: vs, a :: as, x => by rw [h _ _ x.1, Rl.map_eq h x.2]; rfl
  | [], _ :: _, x => x.elim
  | _ :: _, [], x => x.elim
theorem Rl.of_map {α : Type} {f : α → V} {R : V → α → Prop} (h : ∀ a, R (f a) a) : ∀ (as : List α), Rl R (as.map f) as
  | [] => trivial
  | a :: as => ⟨h a, Rl.of_map h as⟩

section
variable {α β γ : Type}
def rList (r : Rp α) : Rp (List α) := ⟨fun F v as => ∃ p vs, v = .ref p ∧ F p = some (.lst vs) ∧ Rl (r.rel F) vs as,
  fun e ⟨p, vs, h1, h2, h3⟩ => ⟨p, vs, h1, e _ _ h2, Rl.imp (fun _ _ => r.mono e) h3⟩⟩
/-- a tuple of things of one kind -/
def rTup (r : Rp α) : Rp (List α) := ⟨fun F v as => ∃ p vs, v = .ref p ∧ F p = some (.tup vs) ∧ Rl (r.rel F) vs as,
  fun e ⟨p, vs, h1, h2, h3⟩ => ⟨p, vs, h1, e _ _ h2, Rl.imp (fun _ _ => r.mono e) h3⟩⟩
def rPair (r : Rp α) (s : Rp β) : Rp (α × β) := ⟨fun F v a => ∃ p x y, v = .ref p ∧ F p = some (.tup [x, y]) ∧ r.rel F x a.1 ∧ s.rel F y a.2,
  fun e ⟨p, x, y, h1, h2, h3, h4⟩ => ⟨p, x, y, h1, e _ _ h2, r.mono e h3, s.mono e h4⟩⟩
def rTri (r : Rp α) (s : Rp β) (t : Rp γ) : Rp (α × β × γ) := ⟨fun F v a => ∃ p x y z, v = .ref p ∧ F p = some (.tup [x, y, z]) ∧ r.rel F x a.1 ∧ s.rel F y a.2.1 ∧ t.rel F z a.2.2,
  fun e ⟨p, x, y, z, h1, h2, h3, h4, h5⟩ => ⟨p, x, y, z, h1, e _ _ h2, r.mono e h3, s.mono e h4, t.mono e h5⟩⟩
/-- the script: a list that is known -/
def rScr (K : PySem.W.Frag) : Rp (List Int) := ⟨fun F v as => ∃ p, v = .ref p ∧ SqL K F p (as.map V.int), fun e ⟨p, h1, h2⟩ => ⟨p, h1, e.seq h2⟩⟩
end
/-- None, or .. -/
def rOpt {α : Type} (r : Rp α) : Rp (Option α) := ⟨fun F v a => match a with | none => v = .non | some x => r.rel F v x ∧ v ≠ .non,
  fun {F F' v a} e h => match a, h with | none, h => h | some x, h => ⟨r.mono e h.1, h.2⟩⟩

/-! ### worlds: F what stands still, H all -/
structure Ext (F H F' H' : Hp) : Prop where
  f : Same F F'
  h : Same H H'
  i : Same F' H'
  d : ∀ b, F b = none → H b ≠ none → F' b = none
theorem Ext.refl {F H : Hp} (s : Same F H) : Ext F H F H := ⟨Same.refl F, Same.refl H, s, fun _ h _ => h⟩
theorem Ext.trans {F H F1 H1 F2 H2 : Hp} (a : Ext F H F1 H1) (b : Ext F1 H1 F2 H2) : Ext F H F2 H2 :=
  ⟨a.f.trans b.f, a.h.trans b.h, b.i, fun c hf hh => b.d c (a.d c hf hh) (by
    cases q : H c with
    | none => exact absurd q hh
    | some o => rw [a.h c o q]; intro z; cases z)⟩
/-- a new object that stands still -/
theorem Ext.new {F H : Hp} (s : Same F H) {p : Addr} (o : HO) (hp : H p = none) : Ext F H (upd F p o) (upd H p o) := by
  refine ⟨fun b u e => ?_, fun b u e => ?_, fun b u e => ?_, fun b hf hh => ?_⟩
  · rw [upd_ne (ne_of_none e (s.free hp))]; exact e
  · rw [upd_ne (ne_of_none e hp)]; exact e
  · by_cases hb : b = p
    · subst hb; rw [upd_same] at e ⊢; exact e
    · rw [upd_ne hb] at e ⊢; exact s b u e
  · have hb : b ≠ p := fun z => hh (by rw [z]; exact hp)
    rw [upd_ne hb]; exact hf
/-- a new object that may change -/
theorem Ext.newH {F H : Hp} (s : Same F H) {p : Addr} (o : HO) (hp : H p = none) : Ext F H F (upd H p o) := by
  refine ⟨Same.refl F, fun b u e => ?_, fun b u e => ?_, fun b hf _ => hf⟩
  · rw [upd_ne (ne_of_none e hp)]; exact e
  · rw [upd_ne (ne_of_none (s b u e) hp)]; exact s b u e

/-! ### slots -/
/-- a thing of one's own: by F, H, the value, the data, the addresses that are one's own -/
structure Own (α : Type) where
  rel : Hp → Hp → V → α → (Addr → Prop) → Prop
  mono : ∀ {F F' H H' : Hp} {v : V} {a : α} {fp : Addr → Prop}, Same F F' → (∀ b, fp b → H' b = H b) → rel F H v a fp → rel F' H' v a fp
inductive Sl : Type 1 where
  | un
  | val {α : Type} (r : Rp α) (a : α)
  | own {α : Type} (o : Own α) (a : α)
/-- the ways a def began with -/
structure Bs where
  F : Hp
  H : Hp
  L : Hp
/-- with another least F -/
abbrev Bs.lo (B : Bs) (L : Hp) : Bs := ⟨B.F, B.H, L⟩
def slotOk (B : Bs) (F H : Hp) : Sl → Option (Option V) → (Addr → Prop) → Prop
  | .un, _, fp => ∀ b, ¬ fp b
  | .val r a, x, fp => (∀ b, ¬ fp b) ∧ ∃ v, x = some (some v) ∧ r.rel F v a
  | .own o a, x, fp => (∃ v, x = some (some v) ∧ o.rel F H v a fp) ∧ ∀ b, fp b → F b = none ∧ H b ≠ none ∧ B.H b = none
abbrev Ctx := List Sl
structure EnvF (B : Bs) (Γ : Ctx) (σ : St) (F H : Hp) (fp : Nat → Addr → Prop) : Prop where
  len : σ.length = Γ.length
  base : Ext B.F B.H F H
  same : Same F H
  low : Same B.L F
  ok : ∀ (i : Nat) (s : Sl), Γ[i]? = some s → slotOk B F H s σ[i]? (fp i)
  out : ∀ i : Nat, Γ[i]? = none → ∀ b, ¬ fp i b
  apart : ∀ i j : Nat, i ≠ j → ∀ b, fp i b → ¬ fp j b
def Env (B : Bs) (Γ : Ctx) (σ : St) (F H : Hp) : Prop := ∃ fp, EnvF B Γ σ F H fp
theorem slotOk.ext {B : Bs} {F H F' H' : Hp} {s : Sl} {x : Option (Option V)} {fp : Addr → Prop} (e : Ext F H F' H') (h : slotOk B F H s x fp) : slotOk B F' H' s x fp := by
  cases s with
  | un => exact h
  | val r a =>
    obtain ⟨h0, v, h1, h2⟩ := h
    exact ⟨h0, v, h1, r.mono e.f h2⟩
  | own o a =>
    obtain ⟨⟨v, h1, h2⟩, h3⟩ := h
    have hk : ∀ b, fp b → H' b = H b := fun b hb => by
      cases q : H b with
      | none => exact absurd q (h3 b hb).2.1
      | some u => exact e.h b u q
    refine ⟨⟨v, h1, o.mono e.f hk h2⟩, fun b hb => ⟨e.d b (h3 b hb).1 (h3 b hb).2.1, ?_, (h3 b hb).2.2⟩⟩
    rw [hk b hb]; exact (h3 b hb).2.1
theorem EnvF.ext {B : Bs} {Γ : Ctx} {σ : St} {F H F' H' : Hp} {fp : Nat → Addr → Prop} (h : EnvF B Γ σ F H fp) (e : Ext F H F' H') : EnvF B Γ σ F' H' fp :=
  ⟨h.len, h.base.trans e, e.i, h.low.trans e.f, fun i s hs => (h.ok i s hs).ext e, h.out, h.apart⟩
theorem Env.ext {B : Bs} {Γ : Ctx} {σ : St} {F H F' H' : Hp} (h : Env B Γ σ F H) (e : Ext F H F' H') : Env B Γ σ F' H' := let ⟨fp, x⟩ := h; ⟨fp, x.ext e⟩
theorem Env.same {B : Bs} {Γ : Ctx} {σ : St} {F H : Hp} (h : Env B Γ σ F H) : Same F H := let ⟨_, x⟩ := h; x.same
theorem Env.base {B : Bs} {Γ : Ctx} {σ : St} {F H : Hp} (h : Env B Γ σ F H) : Ext B.F B.H F H := let ⟨_, x⟩ := h; x.base
/-- a look at a slot -/
inductive At : Ctx → Nat → Sl → Prop where
  | z {s : Sl} {Γ : Ctx} : At (s :: Γ) 0 s
  | s {s t : Sl} {Γ : Ctx} {i : Nat} : At Γ i s → At (t :: Γ) (i + 1) s
theorem At.get {Γ : Ctx} {i : Nat} {s : Sl} (h : At Γ i s) : Γ[i]? = some s := by
  induction h with
  | z => rfl
  | s _ ih => simpa using ih
/-- a slot set -/
inductive To : Ctx → Nat → Sl → Ctx → Prop where
  | z {s t : Sl} {Γ : Ctx} : To (t :: Γ) 0 s (s :: Γ)
  | s {s t : Sl} {Γ Γ' : Ctx} {i : Nat} : To Γ i s Γ' → To (t :: Γ) (i + 1) s (t :: Γ')
theorem To.set {Γ Γ' : Ctx} {i : Nat} {s : Sl} (h : To Γ i s Γ') : Γ' = Γ.set i s ∧ i < Γ.length := by
  induction h with
  | z => exact ⟨rfl, by simp⟩
  | s _ ih => exact ⟨by rw [ih.1]; rfl, by simpa using ih.2⟩
/-- a slot takes another thing, with what is its own -/
theorem EnvF.putG {B : Bs} {Γ Γ' : Ctx} {σ σ' : St} {F H F' H' : Hp} {fp : Nat → Addr → Prop} {fi : Addr → Prop} {i : Nat} {s : Sl} (h : EnvF B Γ σ F H fp) (t : To Γ i s Γ') (hl : σ'.length = σ.length) (hx : ∀ j : Nat, j ≠ i → σ'[j]? = σ[j]?) (base : Ext B.F B.H F' H') (same : Same F' H')
    (hf : Same F F') (hh : ∀ j b, j ≠ i → fp j b → H' b = H b ∧ F' b = none) (hs : slotOk B F' H' s σ'[i]? fi) (hd : ∀ j b, j ≠ i → fp j b → ¬ fi b) : EnvF B Γ' σ' F' H' (fun j => if j = i then fi else fp j) := by
  obtain ⟨rfl, hi⟩ := t.set
  refine ⟨by simp [hl, h.len], base, same, h.low.trans hf, fun j u hu => ?_, fun j hj => ?_, fun j k hjk b hb => ?_⟩
  · by_cases e : j = i
    · subst e
      rw [List.getElem?_set_self hi] at hu
      cases hu
      rw [if_pos rfl]
      exact hs
    · rw [List.getElem?_set_ne (fun z => e z.symm)] at hu
      rw [hx j e, if_neg e]
      have q := h.ok j u hu
      cases u with
      | un => exact q
      | val r a =>
        obtain ⟨q0, v, q1, q2⟩ := q
        exact ⟨q0, v, q1, r.mono hf q2⟩
      | own o a =>
        obtain ⟨⟨v, q1, q2⟩, q3⟩ := q
        refine ⟨⟨v, q1, o.mono hf (fun b hb => (hh j b e hb).1) q2⟩, fun b hb => ⟨(hh j b e hb).2, ?_, (q3 b hb).2.2⟩⟩
        rw [(hh j b e hb).1]
        exact (q3 b hb).2.1
  · by_cases e : j = i
    · subst e
      rw [List.getElem?_set_self hi] at hj
      cases hj
    · simp only [if_neg e]
      refine h.out j ?_
      rw [List.getElem?_set_ne (fun z => e z.symm)] at hj
      exact hj
  · by_cases e : j = i
    · rw [if_pos e] at hb
      have e2 : k ≠ i := fun z => hjk (e.trans z.symm)
      rw [if_neg e2]
      exact fun z => hd k b e2 z hb
    · rw [if_neg e] at hb
      by_cases e2 : k = i
      · rw [if_pos e2]; exact hd j b e hb
      · rw [if_neg e2]; exact h.apart j k hjk b hb
theorem EnvF.own_at {B : Bs} {Γ : Ctx} {σ : St} {F H : Hp} {fp : Nat → Addr → Prop} (h : EnvF B Γ σ F H fp) {j : Nat} {b : Addr} (q : fp j b) : F b = none ∧ H b ≠ none ∧ B.H b = none := by
  cases e : Γ[j]? with
  | none => exact absurd q (h.out j e b)
  | some s =>
    have z := h.ok j s e
    cases s with
    | un => exact absurd q (z b)
    | val r a => exact absurd q (z.1 b)
    | own o a => exact z.2 b q
/-- a store of a thing that stands still (or of what nobody asks) -/
theorem EnvF.put {B : Bs} {Γ Γ' : Ctx} {σ : St} {F H : Hp} {fp : Nat → Addr → Prop} {i : Nat} {v : V} {s : Sl} (h : EnvF B Γ σ F H fp) (t : To Γ i s Γ') (hs : slotOk B F H s (some (some v)) (fun _ => False)) : Env B Γ' (σ.set i (some v)) F H := by
  have hi : i < σ.length := by rw [h.len]; exact t.set.2
  exact ⟨_, h.putG (fi := fun _ => False) t (by simp) (fun j hj => List.getElem?_set_ne fun z => hj z.symm) h.base h.same (Same.refl F) (fun j b _ q => ⟨rfl, (h.own_at q).1⟩) (by rw [List.getElem?_set_self hi]; exact hs) (fun _ _ _ _ z => z)⟩
theorem Env.put {B : Bs} {Γ Γ' : Ctx} {σ : St} {F H : Hp} {i : Nat} {v : V} {α : Type} {r : Rp α} {a : α} (h : Env B Γ σ F H) (t : To Γ i (.val r a) Γ') (hv : r.rel F v a) : Env B Γ' (σ.set i (some v)) F H :=
  let ⟨_, x⟩ := h; x.put t ⟨fun _ z => z, v, rfl, hv⟩
theorem Env.val {B : Bs} {Γ : Ctx} {σ : St} {F H : Hp} {i : Nat} {α : Type} {r : Rp α} {a : α} (h : Env B Γ σ F H) (t : At Γ i (.val r a)) : ∃ v, σ[i]? = some (some v) ∧ r.rel F v a :=
  let ⟨_, x⟩ := h; (x.ok i _ t.get).2
/-- a slot forgotten -/
theorem Env.forget {B : Bs} {Γ Γ' : Ctx} {σ : St} {F H : Hp} {i : Nat} (h : Env B Γ σ F H) (t : To Γ i .un Γ') : Env B Γ' σ F H := by
  obtain ⟨fp, h⟩ := h
  exact ⟨_, h.putG (fi := fun _ => False) t rfl (fun j hj => rfl) h.base h.same (Same.refl F) (fun j b _ q => ⟨rfl, (h.own_at q).1⟩) (fun _ z => z) (fun _ _ _ _ z => z)⟩

/-! ### what a context is -/
structure XC (P : Program) (w : World) (K : PySem.W.Frag) (mg : Str → Option Value) (base : Heap) (k : Nat) (N : List Str) (sc : Scope) (vs ls : List Nat) (X : Cx) : Prop where
  p : X.prog = P
  w : X.w = w
  K : X.K = K
  mg : X.mg = mg
  b : X.base = base
  N : X.N = N
  sc : X.env.scope = sc
  calm : X.calm = true
  room : Room k X.A
  kind : X.env.scope.kind = ScopeKind.function
  nd : X.N.Nodup
  po : PassesOwn (model X.prog X.w) X.A X.env X.xe
  vis : ∀ (i : Nat) (x : Str), X.N[i]? = some x → vs.contains i = true → Vis X.env.scope x
  loc : ∀ (i : Nat) (x : Str), X.N[i]? = some x → ls.contains i = true → Loc X.env.scope x ∧ (X.fn x = true ∨ X.env.scope.names.lookup x = some .local)

/-! ### judgements -/
def tD {α : Type} (B : Bs) (Γ : Ctx) (r : Rp α) (a : α) : TE := fun σ H Q => ∃ F, Env B Γ σ F H ∧ ∀ v F' H', Ext F H F' H' → r.rel F' v a → Q v H'
abbrev DE {α : Type} (X : Cx) (B : Bs) (Γ : Ctx) (e : Expr) (r : Rp α) (a : α) : Prop := PE X e (tD B Γ r a)
def tDT (B : Bs) (Γ : Ctx) (b : Bool) : TT := fun σ H Q => ∃ F, Env B Γ σ F H ∧ ∀ F' H', Ext F H F' H' → Q b H'
abbrev DT (X : Cx) (B : Bs) (Γ : Ctx) (e : Expr) (b : Bool) : Prop := PT X e (tDT B Γ b)
abbrev DW (X : Cx) (B : Bs) (Γ : Ctx) (e : Expr) (b : Bool) : Prop := PW X e (tDT B Γ b)
def slVal (F : Hp) (v : V) : Sl → Prop
  | .val r a => r.rel F v a
  | _ => False
def SlsOk (F : Hp) : List V → Ctx → Prop
  | [], [] => True
  | v :: vs, s :: Δ => slVal F v s ∧ SlsOk F vs Δ
  | _, _ => False
theorem slVal.mono {F F' : Hp} {v : V} {s : Sl} (e : Same F F') (h : slVal F v s) : slVal F' v s := by
  cases s with
  | val r a => exact r.mono e h
  | un => exact h
  | own o a => exact h
theorem SlsOk.mono {F F' : Hp} (e : Same F F') : ∀ {vs : List V} {Δ : Ctx}, SlsOk F vs Δ → SlsOk F' vs Δ
  | [], [], _ => trivial
  | v :: vs, s :: Δ, h => ⟨slVal.mono e h.1, SlsOk.mono e h.2⟩
  | [], _ :: _, h => h.elim
  | _ :: _, [], h => h.elim
def tDA (B : Bs) (Γ Δ : Ctx) : TA := fun σ H Q => ∃ F, Env B Γ σ F H ∧ ∀ vs F' H', Ext F H F' H' → SlsOk F' vs Δ → Q vs H'
abbrev DA (X : Cx) (B : Bs) (Γ : Ctx) (es : List Expr) (Δ : Ctx) : Prop := PA X es (tDA B Γ Δ)
def EnvP (B : Bs) (Γ : Ctx) : St → Hp → Prop := fun σ H => ∃ F, Env B Γ σ F H
/-- ends that let more through -/
structure Le (D D' : Ends) : Prop where
  nx : ∀ σ H, D.nx σ H → D'.nx σ H
  rt : ∀ v H, D.rt v H → D'.rt v H
  bk : ∀ σ H, D.bk σ H → D'.bk σ H
  ct : ∀ σ H, D.ct σ H → D'.ct σ H
theorem Le.refl (D : Ends) : Le D D := ⟨fun _ _ h => h, fun _ _ h => h, fun _ _ h => h, fun _ _ h => h⟩
def tS (B : Bs) (Γ : Ctx) (D : Ends) : TS := fun D' σ H => Le D D' ∧ EnvP B Γ σ H
abbrev SD (X : Cx) (B : Bs) (Γ : Ctx) (ss : List Stmt) (D : Ends) : Prop := PSs X ss (tS B Γ D)

section
variable {X : Cx} {α β γ : Type} {B : Bs} {Γ Γ' : Ctx} {e a b c : Expr}
theorem pe_weak {t t' : TE} (h : PE X e t) (w : ∀ σ H Q, t' σ H Q → t σ H Q) : PE X e t' := ⟨fun pins s σ H Q I q => h.run pins s σ H Q I (w σ H Q q)⟩
theorem pt_weak {t t' : TT} (h : PT X e t) (w : ∀ σ H Q, t' σ H Q → t σ H Q) : PT X e t' := ⟨fun pins s σ H Q I q => h.run pins s σ H Q I (w σ H Q q)⟩
theorem pw_weak {t t' : TT} (h : PW X e t) (w : ∀ σ H Q, t' σ H Q → t σ H Q) : PW X e t' := ⟨fun wh pins s σ H Q I q => h.run wh pins s σ H Q I (w σ H Q q)⟩
theorem pa_weak {es : List Expr} {t t' : TA} (h : PA X es t) (w : ∀ σ H Q, t' σ H Q → t σ H Q) : PA X es t' := ⟨fun pos pins s σ H Q I q => h.run pos pins s σ H Q I (w σ H Q q)⟩
theorem ps_weak {st : Stmt} {t t' : TS} (h : PS X st t) (w : ∀ D σ H, t' D σ H → t D σ H) : PS X st t' := ⟨fun pins s σ H D I q => h.run pins s σ H D I (w D σ H q)⟩
theorem pss_weak {ss : List Stmt} {t t' : TS} (h : PSs X ss t) (w : ∀ D σ H, t' D σ H → t D σ H) : PSs X ss t' := ⟨fun pins s σ H D I q => h.run pins s σ H D I (w D σ H q)⟩

/-! ### expressions -/
theorem de_var (i : Nat) {x : Str} {pos : Pos} {r : Rp α} {v : α} (hN : X.N[i]? = some x) (hv : Vis X.env.scope x) (h : At Γ i (.val r v)) (hd : (x == ("__debug__" : Str)) = false := by decide) (hcd : (x == ("__classdict__" : Str)) = false := by decide) : DE X B Γ (.Name x pos) r v :=
  pe_weak (pe_var hN hv hd hcd) fun σ H Q ⟨F, e, k⟩ => by
    obtain ⟨u, h1, h2⟩ := e.val h
    exact ⟨u, h1, k u F H (Ext.refl e.same) h2⟩
theorem de_int {i : Int} {j pos} : DE X B Γ (.Constant (.int i) j pos) rInt i := pe_weak pe_int fun σ H Q ⟨F, e, k⟩ => k _ F H (Ext.refl e.same) rfl
theorem de_bl {i : Bool} {j pos} : DE X B Γ (.Constant (.bool i) j pos) rBool i := pe_weak pe_bl fun σ H Q ⟨F, e, k⟩ => k _ F H (Ext.refl e.same) rfl
theorem de_non {j pos} : DE X B Γ (.Constant .none j pos) rNon () := pe_weak pe_non fun σ H Q ⟨F, e, k⟩ => k _ F H (Ext.refl e.same) rfl
theorem de_str {x : Str} {j pos} {l : Txt} (h : x = tx l) (h2 : okT l = true) : DE X B Γ (.Constant (.str x) j pos) rTxt l := pe_weak pe_str fun σ H Q ⟨F, e, k⟩ => k _ F H (Ext.refl e.same) ⟨by rw [h], h2⟩
theorem de_eq {r : Rp α} {x y : α} (h : DE X B Γ e r x) (q : x = y) : DE X B Γ e r y := q ▸ h
theorem dt_eq {x y : Bool} (h : DT X B Γ e x) (q : x = y) : DT X B Γ e y := q ▸ h
/-- a two-place operation on values -/
theorem de_op {op : Operator} {r2 : R2} {pos : Pos} {ra : Rp α} {rb : Rp β} {rc : Rp γ} {x : α} {y : β} {z : γ} (ho : OpR X (binaryOp op) r2)
    (hr : ∀ F H u v, Same F H → ra.rel F u x → rb.rel F v y → ∀ Q : VK, (∀ t F' H', Ext F H F' H' → rc.rel F' t z → Q t H') → r2 u v H Q) (ha : DE X B Γ a ra x) (hb : DE X B Γ b rb y) : DE X B Γ (.BinOp a op b pos) rc z :=
  pe_weak (pe_op ho ha hb) fun σ H Q ⟨F, e, k⟩ => ⟨F, e, fun u F1 H1 e1 h1 => ⟨F1, e.ext e1, fun v F2 H2 e2 h2 => hr F2 H2 u v e2.i (ra.mono e2.f h1) h2 Q fun t F3 H3 e3 h3 => k t F3 H3 (e1.trans (e2.trans e3)) h3⟩⟩
theorem de_un {op : UnaryOp} {r1 : V → Hp → VK → Prop} {pos : Pos} {ra : Rp α} {rc : Rp γ} {x : α} {z : γ} (ho : UnR X (unaryOp op) r1)
    (hr : ∀ F H u, Same F H → ra.rel F u x → ∀ Q : VK, (∀ t F' H', Ext F H F' H' → rc.rel F' t z → Q t H') → r1 u H Q) (ha : DE X B Γ a ra x) : DE X B Γ (.UnaryOp op a pos) rc z :=
  pe_weak (pe_un ho ha) fun σ H Q ⟨F, e, k⟩ => ⟨F, e, fun u F1 H1 e1 h1 => hr F1 H1 u e1.i h1 Q fun t F3 H3 e3 h3 => k t F3 H3 (e1.trans e3) h3⟩
theorem de_cmp {op : CmpOp} {r2 : R2} {pos : Pos} {ra : Rp α} {rb : Rp β} {z : Bool} {x : α} {y : β} (ho : OpR X (compareOp op) r2)
    (hr : ∀ F H u v, Same F H → ra.rel F u x → rb.rel F v y → ∀ Q : VK, (∀ t F' H', Ext F H F' H' → rBool.rel F' t z → Q t H') → r2 u v H Q) (hm : behindInMarks op b = false) (ha : DE X B Γ a ra x) (hb : DE X B Γ b rb y) :
    DE X B Γ (.Compare a [op] [b] pos) rBool z :=
  pe_weak (pe_cmpR ho ha hb hm) fun σ H Q ⟨F, e, k⟩ => ⟨F, e, fun u F1 H1 e1 h1 => ⟨F1, e.ext e1, fun v F2 H2 e2 h2 => hr F2 H2 u v e2.i (ra.mono e2.f h1) h2 Q fun t F3 H3 e3 h3 => k t F3 H3 (e1.trans (e2.trans e3)) h3⟩⟩
theorem dt_cmp {op : CmpOp} {r2 : R2} {pos : Pos} {ra : Rp α} {rb : Rp β} {z : Bool} {x : α} {y : β} (ho : OpR X (compareOp op) r2)
    (hr : ∀ F H u v, Same F H → ra.rel F u x → rb.rel F v y → ∀ Q : VK, (∀ t F' H', Ext F H F' H' → rBool.rel F' t z → Q t H') → r2 u v H Q) (hm : behindInMarks op b = false) (ha : DE X B Γ a ra x) (hb : DE X B Γ b rb y) :
    DT X B Γ (.Compare a [op] [b] pos) z :=
  pt_weak (pt_cmpR ho ha hb hm) fun σ H Q ⟨F, e, k⟩ => ⟨F, e, fun u F1 H1 e1 h1 => ⟨F1, e.ext e1, fun v F2 H2 e2 h2 => hr F2 H2 u v e2.i (ra.mono e2.f h1) h2 _ fun t F3 H3 e3 h3 => ⟨z, h3, k F3 H3 (e1.trans (e2.trans e3))⟩⟩⟩
/-- a comparison, as a value and as a test -/
structure DC (X : Cx) (B : Bs) (Γ : Ctx) (e : Expr) (z : Bool) : Prop where
  v : DE X B Γ e rBool z
  t : DT X B Γ e z
theorem dc_cmp {op : CmpOp} {r2 : R2} {pos : Pos} {ra : Rp α} {rb : Rp β} {z : Bool} {x : α} {y : β} (ho : OpR X (compareOp op) r2)
    (hr : ∀ F H u v, Same F H → ra.rel F u x → rb.rel F v y → ∀ Q : VK, (∀ t F' H', Ext F H F' H' → rBool.rel F' t z → Q t H') → r2 u v H Q) (hm : behindInMarks op b = false) (ha : DE X B Γ a ra x) (hb : DE X B Γ b rb y) :
    DC X B Γ (.Compare a [op] [b] pos) z := ⟨de_cmp ho hr hm ha hb, dt_cmp ho hr hm ha hb⟩
/-! whole numbers -/
theorem de_add {x y : Int} {pos : Pos} (ha : DE X B Γ a rInt x) (hb : DE X B Γ b rInt y) : DE X B Γ (.BinOp a .Add b pos) rInt (x + y) :=
  de_op op_add (fun F H u v s h1 h2 Q q => ⟨x, y, h1, h2, q _ F H (Ext.refl s) rfl⟩) ha hb
theorem de_sub {x y : Int} {pos : Pos} (ha : DE X B Γ a rInt x) (hb : DE X B Γ b rInt y) : DE X B Γ (.BinOp a .Sub b pos) rInt (x - y) :=
  de_op op_sub (fun F H u v s h1 h2 Q q => ⟨x, y, h1, h2, q _ F H (Ext.refl s) rfl⟩) ha hb
theorem de_mul {x y : Int} {pos : Pos} (ha : DE X B Γ a rInt x) (hb : DE X B Γ b rInt y) (h : (-(2 ^ 64) < x ∧ x < 2 ^ 64) ∨ (-(2 ^ 64) < y ∧ y < 2 ^ 64)) : DE X B Γ (.BinOp a .Mult b pos) rInt (x * y) :=
  de_op op_mul (fun F H u v s h1 h2 Q q => ⟨x, y, h1, h2, h, q _ F H (Ext.refl s) rfl⟩) ha hb
theorem de_fdiv {x y : Int} {pos : Pos} (ha : DE X B Γ a rInt x) (hb : DE X B Γ b rInt y) (h : 0 < y ∧ y < 1073741824) : DE X B Γ (.BinOp a .FloorDiv b pos) rInt (x / y) :=
  de_op op_fdiv (fun F H u v s h1 h2 Q q => ⟨x, y, h1, h2, h, q _ F H (Ext.refl s) rfl⟩) ha hb
theorem de_mod {x y : Int} {pos : Pos} (ha : DE X B Γ a rInt x) (hb : DE X B Γ b rInt y) (h : 0 < y) : DE X B Γ (.BinOp a .Mod b pos) rInt (x % y) :=
  de_op op_mod (fun F H u v s h1 h2 Q q => ⟨x, y, h1, h2, h, q _ F H (Ext.refl s) rfl⟩) ha hb
theorem de_pow {x y : Int} {pos : Pos} (ha : DE X B Γ a rInt x) (hb : DE X B Γ b rInt y) (h : 0 ≤ y ∧ y ≤ 1000000 ∧ x.natAbs < 2 ^ 64) : DE X B Γ (.BinOp a .Pow b pos) rInt (x ^ y.toNat) :=
  de_op op_pow (fun F H u v s h1 h2 Q q => ⟨x, y, h1, h2, h, q _ F H (Ext.refl s) rfl⟩) ha hb
theorem de_neg {x : Int} {pos : Pos} (ha : DE X B Γ a rInt x) : DE X B Γ (.UnaryOp .USub a pos) rInt (-x) :=
  de_un un_neg (fun F H u s h1 Q q => ⟨x, h1, q _ F H (Ext.refl s) rfl⟩) ha
section
variable {x y : Int} {pos : Pos}
theorem dc_lt (ha : DE X B Γ a rInt x) (hb : DE X B Γ b rInt y) : DC X B Γ (.Compare a [.Lt] [b] pos) (decide (x < y)) :=
  dc_cmp (ra := rInt) (rb := rInt) op_lt (fun F H u v s h1 h2 Q q => ⟨x, y, h1, h2, q _ F H (Ext.refl s) rfl⟩) (nomark _) ha hb
theorem dc_le (ha : DE X B Γ a rInt x) (hb : DE X B Γ b rInt y) : DC X B Γ (.Compare a [.LtE] [b] pos) (decide (x ≤ y)) :=
  dc_cmp (ra := rInt) (rb := rInt) op_le (fun F H u v s h1 h2 Q q => ⟨x, y, h1, h2, q _ F H (Ext.refl s) rfl⟩) (nomark _) ha hb
theorem dc_gt (ha : DE X B Γ a rInt x) (hb : DE X B Γ b rInt y) : DC X B Γ (.Compare a [.Gt] [b] pos) (decide (y < x)) :=
  dc_cmp (ra := rInt) (rb := rInt) op_gt (fun F H u v s h1 h2 Q q => ⟨x, y, h1, h2, q _ F H (Ext.refl s) rfl⟩) (nomark _) ha hb
theorem dc_ge (ha : DE X B Γ a rInt x) (hb : DE X B Γ b rInt y) : DC X B Γ (.Compare a [.GtE] [b] pos) (decide (y ≤ x)) :=
  dc_cmp (ra := rInt) (rb := rInt) op_ge (fun F H u v s h1 h2 Q q => ⟨x, y, h1, h2, q _ F H (Ext.refl s) rfl⟩) (nomark _) ha hb
theorem dc_eqI (ha : DE X B Γ a rInt x) (hb : DE X B Γ b rInt y) : DC X B Γ (.Compare a [.Eq] [b] pos) (decide (x = y)) :=
  dc_cmp (ra := rInt) (rb := rInt) op_eq (fun F H u v s h1 h2 Q q => by
    obtain rfl : u = .int x := h1
    obtain rfl : v = .int y := h2
    exact ⟨rfl, q _ F H (Ext.refl s) (by show V.bl _ = V.bl _; congr 1; simp)⟩) (nomark _) ha hb
theorem dc_neI (ha : DE X B Γ a rInt x) (hb : DE X B Γ b rInt y) : DC X B Γ (.Compare a [.NotEq] [b] pos) (!decide (x = y)) :=
  dc_cmp (ra := rInt) (rb := rInt) op_ne (fun F H u v s h1 h2 Q q => by
    obtain rfl : u = .int x := h1
    obtain rfl : v = .int y := h2
    exact ⟨rfl, q _ F H (Ext.refl s) (by show V.bl _ = V.bl _; congr 1; simp)⟩) (nomark _) ha hb
end
/-! tests -/
theorem dt_val {z : Bool} (h : DE X B Γ e rBool z) (he : ∀ whole, isTrue e X.env whole = (do let v ← whole; standAt e.pos; holding [v] (truthy v)) := by intro _; rfl) : DT X B Γ e z :=
  pt_weak (pt_val h he) fun σ H Q ⟨F, e, k⟩ => ⟨F, e, fun u F1 H1 e1 h1 => ⟨z, h1, k F1 H1 e1⟩⟩
theorem dt_cm {z : Bool} (h : DC X B Γ e z) : DT X B Γ e z := h.t
theorem dt_not {z : Bool} {pos : Pos} (h : DT X B Γ e z) : DT X B Γ (.UnaryOp .Not e pos) (!z) :=
  pt_weak (pt_not h) fun σ H Q ⟨F, e, k⟩ => ⟨F, e, fun F1 H1 e1 => k F1 H1 e1⟩
theorem dw_and1 {z : Bool} {pos : Pos} (h : DT X B Γ e z) : DW X B Γ (.BoolOp .And [e] pos) z := pw_and1 h
theorem dw_or1 {z : Bool} {pos : Pos} (h : DT X B Γ e z) : DW X B Γ (.BoolOp .Or [e] pos) z := pw_or1 h
/-- u is reached only where t holds -/
def tImp (p : Prop) (t : TT) : TT := fun σ H Q => p ∧ t σ H Q
theorem pw_imp {p : Prop} {t : TT} (h : p → PW X e t) : PW X e (tImp p t) := ⟨fun wh pins s σ H Q I q => (h q.1).run wh pins s σ H Q I q.2⟩
def tImpE (p : Prop) (t : TE) : TE := fun σ H Q => p ∧ t σ H Q
theorem pe_imp {p : Prop} {t : TE} (h : p → PE X e t) : PE X e (tImpE p t) := ⟨fun pins s σ H Q I q => (h q.1).run pins s σ H Q I q.2⟩
theorem dw_and {p q : Bool} {pos : Pos} {rest : List Expr} (ha : DT X B Γ a p) (hb : p = true → DW X B Γ (.BoolOp .And (b :: rest) pos) q) : DW X B Γ (.BoolOp .And (a :: b :: rest) pos) (p && q) :=
  pw_weak (pw_and ha (pw_imp hb)) fun σ H Q ⟨F, e, k⟩ => ⟨F, e, fun F1 H1 e1 => by
    cases p with
    | true => exact ⟨rfl, F1, e.ext e1, fun F2 H2 e2 => k F2 H2 (e1.trans e2)⟩
    | false => exact k F1 H1 e1⟩
theorem dw_or {p q : Bool} {pos : Pos} {rest : List Expr} (ha : DT X B Γ a p) (hb : p = false → DW X B Γ (.BoolOp .Or (b :: rest) pos) q) : DW X B Γ (.BoolOp .Or (a :: b :: rest) pos) (p || q) :=
  pw_weak (pw_or ha (pw_imp hb)) fun σ H Q ⟨F, e, k⟩ => ⟨F, e, fun F1 H1 e1 => by
    cases p with
    | true => exact k F1 H1 e1
    | false => exact ⟨rfl, F1, e.ext e1, fun F2 H2 e2 => k F2 H2 (e1.trans e2)⟩⟩
theorem dw_pt {z : Bool} (h : DW X B Γ e z) : DT X B Γ e z := h.pt
/-- and, or as values (of truths) -/
theorem de_one {op} {pos : Pos} {r : Rp α} {x : α} (h : DE X B Γ e r x) : DE X B Γ (.BoolOp op [e] pos) r x := pe_one h
theorem de_and {p q : Bool} {pos : Pos} {rest : List Expr} (ha : DE X B Γ a rBool p) (hb : p = true → DE X B Γ (.BoolOp .And (b :: rest) pos) rBool q) : DE X B Γ (.BoolOp .And (a :: b :: rest) pos) rBool (p && q) :=
  pe_weak (pe_and ha (pe_imp hb)) fun σ H Q ⟨F, e, k⟩ => ⟨F, e, fun u F1 H1 e1 h1 => ⟨p, h1, by
    cases p with
    | true => exact ⟨rfl, F1, e.ext e1, fun v F2 H2 e2 h2 => k v F2 H2 (e1.trans e2) h2⟩
    | false => exact k _ F1 H1 e1 rfl⟩⟩
theorem de_or {p q : Bool} {pos : Pos} {rest : List Expr} (ha : DE X B Γ a rBool p) (hb : p = false → DE X B Γ (.BoolOp .Or (b :: rest) pos) rBool q) : DE X B Γ (.BoolOp .Or (a :: b :: rest) pos) rBool (p || q) :=
  pe_weak (pe_or ha (pe_imp hb)) fun σ H Q ⟨F, e, k⟩ => ⟨F, e, fun u F1 H1 e1 h1 => ⟨p, h1, by
    cases p with
    | true => exact k _ F1 H1 e1 rfl
    | false => exact ⟨rfl, F1, e.ext e1, fun v F2 H2 e2 h2 => k v F2 H2 (e1.trans e2) h2⟩⟩⟩
theorem de_not {p : Bool} {pos : Pos} (ha : DE X B Γ a rBool p) : DE X B Γ (.UnaryOp .Not a pos) rBool (!p) :=
  pe_weak (pe_not ha) fun σ H Q ⟨F, e, k⟩ => ⟨F, e, fun u F1 H1 e1 h1 => ⟨p, h1, k _ F1 H1 e1 rfl⟩⟩
theorem de_ifExp {p : Bool} {pos : Pos} {r : Rp α} {x y : α} (hc : DT X B Γ c p) (ha : p = true → DE X B Γ a r x) (hb : p = false → DE X B Γ b r y) : DE X B Γ (.IfExp c a b pos) r (if p = true then x else y) :=
  pe_weak (pe_ifExp hc (pe_imp ha) (pe_imp hb)) fun σ H Q ⟨F, e, k⟩ => ⟨F, e, fun F1 H1 e1 => by
    cases p with
    | true => exact ⟨rfl, F1, e.ext e1, fun v F2 H2 e2 h2 => k v F2 H2 (e1.trans e2) h2⟩
    | false => exact ⟨rfl, F1, e.ext e1, fun v F2 H2 e2 h2 => k v F2 H2 (e1.trans e2) h2⟩⟩
/-! argument lists -/
theorem da_nil : DA X B Γ [] [] := pa_weak pa_nil fun σ H Q ⟨F, e, k⟩ => k [] F H (Ext.refl e.same) trivial
theorem da_cons {es : List Expr} {Δ : Ctx} {r : Rp α} {x : α} (ha : DE X B Γ e r x) (hr : DA X B Γ es Δ) (hs : starEach (e :: es) X.env = (false, eval e X.env) :: starEach es X.env := by rfl) : DA X B Γ (e :: es) (.val r x :: Δ) :=
  pa_weak (pa_cons ha hr hs) fun σ H Q ⟨F, e, k⟩ => ⟨F, e, fun u F1 H1 e1 h1 => ⟨F1, e.ext e1, fun vs F2 H2 e2 h2 => k (u :: vs) F2 H2 (e1.trans e2) ⟨r.mono e2.f h1, h2⟩⟩⟩
theorem SlsOk.one {F : Hp} {vs : List V} {s : Sl} (h : SlsOk F vs [s]) : ∃ v, vs = [v] ∧ slVal F v s := match vs, h with
  | [v], h => ⟨v, rfl, h.1⟩
theorem SlsOk.two {F : Hp} {vs : List V} {s t : Sl} (h : SlsOk F vs [s, t]) : ∃ v u, vs = [v, u] ∧ slVal F v s ∧ slVal F u t := match vs, h with
  | [v, u], h => ⟨v, u, rfl, h.1, h.2.1⟩
theorem SlsOk.three {F : Hp} {vs : List V} {s t u : Sl} (h : SlsOk F vs [s, t, u]) : ∃ x y z, vs = [x, y, z] ∧ slVal F x s ∧ slVal F y t ∧ slVal F z u := match vs, h with
  | [x, y, z], h => ⟨x, y, z, rfl, h.1, h.2.1, h.2.2.1⟩
end

/-! ### promises -/
/-- a def that hands back data: ι all its arguments -/
def SpF {ι ρ : Type} (args : ι → Ctx) (pre : ι → Prop) (rr : Rp ρ) (f : ι → ρ) : Sp := fun vs H Q _ =>
  ∃ F i, Same F H ∧ SlsOk F vs (args i) ∧ pre i ∧ ∀ v F' H', Ext F H F' H' → rr.rel F' v (f i) → Q v H'
section
variable {X : Cx} {B : Bs} {Γ : Ctx} {ι ρ : Type} {args : ι → Ctx} {pre : ι → Prop} {rr : Rp ρ} {f : ι → ρ} {k : Nat} {fa : Addr} {fd : FuncData} {ps : List Str} {x : Str} {p pos : Pos} {e : Expr} {es : List Expr}
theorem de_call (i : ι) (G : FnOk X.prog X.w X.K X.mg X.base CX0 k fa fd ps (SpF args pre rr f)) (hr : Room k X.A) (hg : Gl X x) (hm : X.mg x = some (.ref fa)) (hk : PySem.W.keepIn X.K (.ref fa) = true) (hb : Binds X.K fd ps [])
    (ha : DA X B Γ (e :: es) (args i)) (hp : pre i) (hdb : (x == ("__debug__" : Str)) = false := by decide) (he : starEach (e :: es) X.env = (false, eval e X.env) :: starEach es X.env := by rfl) (hpl : (backTo pos (starEach es X.env)).any (·.1) = false := by rfl) :
    DE X B Γ (.Call (.Name x p) (e :: es) [] pos) rr (f i) :=
  pe_weak (pe_call G hr hg hm hk hb .nil pass0 ha hdb he hpl) fun σ H Q ⟨F, en, q⟩ => ⟨F, en, fun vs F1 H1 e1 h1 => by
    show SpF args pre rr f (vs ++ []) H1 Q E0
    rw [List.append_nil]
    exact ⟨F1, i, e1.i, h1, hp, fun v F2 H2 e2 h2 => q v F2 H2 (e1.trans e2) h2⟩⟩
theorem de_call0 (i : ι) (G : FnOk X.prog X.w X.K X.mg X.base CX0 k fa fd ps (SpF args pre rr f)) (hr : Room k X.A) (hg : Gl X x) (hm : X.mg x = some (.ref fa)) (hk : PySem.W.keepIn X.K (.ref fa) = true) (hb : Binds X.K fd ps [])
    (ha : args i = []) (hp : pre i) (hdb : (x == ("__debug__" : Str)) = false := by decide) :
    DE X B Γ (.Call (.Name x p) [] [] pos) rr (f i) :=
  pe_weak (pe_call0 G hr hg hm hk hb .nil pass0 hdb) fun σ H Q ⟨F, en, q⟩ => by
    show SpF args pre rr f ([] ++ []) H Q E0
    refine ⟨F, i, en.same, ?_, hp, fun v F2 H2 e2 h2 => q v F2 H2 e2 h2⟩
    rw [ha]; trivial
end

/-! ### statements -/
/-- what is handed back is res -/
def RtOk {ρ : Type} (B : Bs) (rr : Rp ρ) (res : ρ) (D : Ends) : Prop := ∀ v F' H', Ext B.F B.H F' H' → rr.rel F' v res → D.rt v H'
section
variable {X : Cx} {α β γ ρ : Type} {B : Bs} {Γ Γ' Γ1 Γ2 : Ctx} {e a b c : Expr} {D : Ends} {st : Stmt} {rest ss body orelse : List Stmt} {pos : Pos}
/-- a statement, then the rest -/
theorem sd_cons {t : TS} (h : PS X st t) (ht : ∀ D' : Ends, Le { D with nx := EnvP B Γ' } D' → ∀ σ H, EnvP B Γ σ H → t D' σ H) (hr : SD X B Γ' rest D) : SD X B Γ (st :: rest) D :=
  pss_weak (pss_cons h hr) fun D' σ H ⟨hD, he⟩ => ht { D' with nx := tS B Γ' D D' } ⟨fun σ' H' h' => ⟨hD, h'⟩, hD.rt, hD.bk, hD.ct⟩ σ H he
theorem sd_nil (h : ∀ σ H, EnvP B Γ σ H → D.nx σ H) : SD X B Γ [] D := pss_weak pss_nil fun D' σ H ⟨hD, he⟩ => hD.nx σ H (h σ H he)
theorem sd_env (h : ∀ σ H, EnvP B Γ σ H → EnvP B Γ' σ H) (k : SD X B Γ' ss D) : SD X B Γ ss D := pss_weak k fun D' σ H ⟨hD, he⟩ => ⟨hD, h σ H he⟩
theorem sd_le {D0 : Ends} (l : Le D0 D) (k : SD X B Γ ss D0) : SD X B Γ ss D := pss_weak k fun D' σ H ⟨hD, he⟩ => ⟨⟨fun σ H h => hD.nx σ H (l.nx σ H h), fun σ H h => hD.rt σ H (l.rt σ H h), fun σ H h => hD.bk σ H (l.bk σ H h), fun σ H h => hD.ct σ H (l.ct σ H h)⟩, he⟩
/-- x = e -/
theorem sd_asg {i : Nat} {x : Str} {pos' : Pos} {r : Rp α} {v : α} (he : DE X B Γ e r v) (hN : X.N.Nodup) (hi : X.N[i]? = some x) (hx : Loc X.env.scope x) (hf : X.fn x = true ∨ X.env.scope.names.lookup x = some .local) (t : To Γ i (.val r v) Γ')
    (hr : SD X B Γ' rest D) (hs : swapsWith e (some (.Name x pos')) pos.line X.env = pure false := by rfl) : SD X B Γ (.Assign [.Name x pos'] e pos :: rest) D :=
  sd_cons (ps_set hN hi hx he hs hf) (fun D' l σ H ⟨F, en⟩ => ⟨F, en, fun u F' H' e1 h1 => l.nx _ _ ⟨F', (en.ext e1).put t h1⟩⟩) hr
theorem sd_ret {rr : Rp ρ} {res v : ρ} (hD : RtOk B rr res D) (he : DE X B Γ e rr v) (hv : v = res) : SD X B Γ [.Return (some e) pos] D :=
  pss_weak (pss_one (ps_ret he)) fun D' σ H ⟨hd, F, en⟩ => by
    subst hv
    exact ⟨F, en, fun u F' H' e1 h1 => hd.rt _ _ (hD u F' H' (en.base.trans e1) h1)⟩
/-- what follows is never reached -/
theorem sd_retC {rr : Rp ρ} {res v : ρ} (hD : RtOk B rr res D) (he : DE X B Γ e rr v) (hv : v = res) : SD X B Γ (.Return (some e) pos :: rest) D :=
  pss_weak (pss_cons (ps_ret he) pss_never) fun D' σ H ⟨hd, F, en⟩ => by
    subst hv
    exact ⟨F, en, fun u F' H' e1 h1 => hd.rt _ _ (hD u F' H' (en.base.trans e1) h1)⟩
def tImpS (p : Prop) (t : TS) : TS := fun D σ H => p ∧ t D σ H
theorem pss_imp {p : Prop} {t : TS} (h : p → PSs X ss t) : PSs X ss (tImpS p t) := ⟨fun pins s σ H D I q => (h q.1).run pins s σ H D I q.2⟩
/-- if: the body ends otherwise (return, continue) -/
theorem sd_ifT {p : Bool} (hc : DT X B Γ c p) (h1 : p = true → SD X B Γ body { D with nx := fun _ _ => False }) (h2 : p = false → SD X B Γ rest D) : SD X B Γ (.If c body [] pos :: rest) D := by
  refine pss_weak (pss_cons (ps_if hc (pss_imp h1) pss_nil) (pss_imp h2)) fun D' σ H ⟨hd, F, en⟩ => ?_
  refine ⟨F, en, fun F1 H1 e1 => ?_⟩
  cases p with
  | true =>
    rw [if_pos rfl]
    exact ⟨rfl, ⟨fun _ _ z => z.elim, hd.rt, hd.bk, hd.ct⟩, F1, en.ext e1⟩
  | false =>
    rw [if_neg (by decide)]
    exact ⟨rfl, hd, F1, en.ext e1⟩
/-- if, else: both go on, what follows is shown once -/
theorem sd_ifJ {p : Bool} (Γj : Bool → Ctx) (hc : DT X B Γ c p) (h1 : p = true → SD X B Γ body { D with nx := EnvP B (Γj true) }) (h2 : p = false → SD X B Γ orelse { D with nx := EnvP B (Γj false) }) (h3 : SD X B (Γj p) rest D) :
    SD X B Γ (.If c body orelse pos :: rest) D := by
  refine pss_weak (pss_cons (ps_if hc (pss_imp h1) (pss_imp h2)) h3) fun D' σ H ⟨hd, F, en⟩ => ?_
  refine ⟨F, en, fun F1 H1 e1 => ?_⟩
  cases p with
  | true =>
    rw [if_pos rfl]
    exact ⟨rfl, ⟨fun σ H z => ⟨hd, z⟩, hd.rt, hd.bk, hd.ct⟩, F1, en.ext e1⟩
  | false =>
    rw [if_neg (by decide)]
    exact ⟨rfl, ⟨fun σ H z => ⟨hd, z⟩, hd.rt, hd.bk, hd.ct⟩, F1, en.ext e1⟩
/-- if, else at the end of a block, both ways to the ends -/
theorem sd_ifE {p : Bool} (hc : DT X B Γ c p) (h1 : p = true → SD X B Γ body D) (h2 : p = false → SD X B Γ orelse D) : SD X B Γ [.If c body orelse pos] D := by
  refine pss_weak (pss_one (ps_if hc (pss_imp h1) (pss_imp h2))) fun D' σ H ⟨hd, F, en⟩ => ?_
  refine ⟨F, en, fun F1 H1 e1 => ?_⟩
  cases p with
  | true =>
    rw [if_pos rfl]
    exact ⟨rfl, hd, F1, en.ext e1⟩
  | false =>
    rw [if_neg (by decide)]
    exact ⟨rfl, hd, F1, en.ext e1⟩
/-- if, else: the body ends otherwise -/
theorem sd_ifTE {p : Bool} (hc : DT X B Γ c p) (h1 : p = true → SD X B Γ body { D with nx := fun _ _ => False }) (h2 : p = false → SD X B Γ orelse { D with nx := EnvP B Γ1 }) (h3 : p = false → SD X B Γ1 rest D) : SD X B Γ (.If c body orelse pos :: rest) D := by
  refine pss_weak (pss_cons (ps_if hc (pss_imp h1) (pss_imp h2)) (pss_imp h3)) fun D' σ H ⟨hd, F, en⟩ => ?_
  refine ⟨F, en, fun F1 H1 e1 => ?_⟩
  cases p with
  | true =>
    rw [if_pos rfl]
    exact ⟨rfl, ⟨fun _ _ z => z.elim, hd.rt, hd.bk, hd.ct⟩, F1, en.ext e1⟩
  | false =>
    rw [if_neg (by decide)]
    exact ⟨rfl, ⟨fun σ H z => ⟨rfl, hd, z⟩, hd.rt, hd.bk, hd.ct⟩, F1, en.ext e1⟩
end
end DL
namespace DL
open PySem L2

/-! ### things that lean on no heap -/
def Sc {α : Type} (r : Rp α) : Prop := ∀ F F' v a, r.rel F v a → r.rel F' v a
theorem sc_int : Sc rInt := fun _ _ _ _ h => h
theorem sc_bool : Sc rBool := fun _ _ _ _ h => h
theorem sc_txt : Sc rTxt := fun _ _ _ _ h => h
theorem sc_non : Sc rNon := fun _ _ _ _ h => h

/-! ### a new list (its items stand still); a thing all new -/
def tDM {α : Type} (B : Bs) (Γ : Ctx) (r : Rp α) (as : List α) : TE := fun σ H Q => ∃ F, Env B Γ σ F H ∧ ∀ p vs F' H', Ext F H F' H' → F' p = none → H p = none → H' p = some (.lst vs) → Rl (r.rel F') vs as → Q (.ref p) H'
abbrev DM {α : Type} (X : Cx) (B : Bs) (Γ : Ctx) (e : Expr) (r : Rp α) (as : List α) : Prop := PE X e (tDM B Γ r as)
def tDN {α : Type} (B : Bs) (Γ : Ctx) (r : Rp α) (a : α) : TE := fun σ H Q => ∃ F, Env B Γ σ F H ∧ ∀ v G H', Same H H' → Same G H' → (∀ b, G b ≠ none → H b = none) → r.rel G v a → Q v H'
abbrev DN {α : Type} (X : Cx) (B : Bs) (Γ : Ctx) (e : Expr) (r : Rp α) (a : α) : Prop := PE X e (tDN B Γ r a)
/-- F with the new part -/
def join (F G : Hp) : Hp := fun b => match G b with | some o => some o | none => F b
theorem join_ext {F H G H' : Hp} (s : Same F H) (e : Same H H') (g : Same G H') (n : ∀ b, G b ≠ none → H b = none) : Ext F H (join F G) H' ∧ Same G (join F G) := by
  have hn : ∀ b o, H b = some o → G b = none := fun b o q => by
    cases z : G b with
    | none => rfl
    | some u => rw [n b (by rw [z]; intro w; cases w)] at q; cases q
  refine ⟨⟨fun b o q => ?_, e, fun b o q => ?_, fun b hf hh => ?_⟩, fun b o q => ?_⟩
  · unfold join; rw [hn b o (s b o q)]; exact q
  · unfold join at q
    cases z : G b with
    | none => rw [z] at q; exact e b o (s b o q)
    | some u => rw [z] at q; exact g b o (by rw [z]; exact q)
  · unfold join
    cases z : H b with
    | none => exact absurd z hh
    | some u => rw [hn b u z]; exact hf
  · unfold join; rw [q]
section
variable {X : Cx} {α β γ : Type} {B : Bs} {Γ Γ' : Ctx} {e a b c : Expr}
theorem de_of_dn {r : Rp α} {x : α} (h : DN X B Γ e r x) : DE X B Γ e r x := pe_weak h fun σ H Q ⟨F, en, k⟩ => ⟨F, en, fun v G H' h1 h2 h3 h4 =>
  let ⟨q1, q2⟩ := join_ext en.same h1 h2 h3
  k v (join F G) H' q1 (r.mono q2 h4)⟩
theorem same_upd {F H : Hp} {p : Addr} {o : HO} (s : Same F H) (hp : H p = some o) : Same (upd F p o) H := fun b u q => by
  by_cases e : b = p
  · subst e; rw [upd_same] at q; rw [hp]; exact q
  · rw [upd_ne e] at q; exact s b u q
theorem same_new {F : Hp} {p : Addr} {o : HO} (hp : F p = none) : Same F (upd F p o) := fun b u q => by rw [upd_ne (ne_of_none q hp)]; exact q
theorem de_of_dm {r : Rp α} {xs : List α} (h : DM X B Γ e r xs) : DE X B Γ e (rList r) xs := pe_weak h fun σ H Q ⟨F, en, k⟩ => ⟨F, en, fun p vs F' H' h1 h2 h3 h4 h5 =>
  k (.ref p) (upd F' p (.lst vs)) H' ⟨h1.f.trans (same_new h2), h1.h, same_upd h1.i h4, fun b hf hh => by
    have hb : b ≠ p := fun z => hh (by rw [z]; exact h3)
    rw [upd_ne hb]; exact h1.d b hf hh⟩ ⟨p, vs, rfl, upd_same, Rl.imp (fun _ _ => r.mono (same_new h2)) h5⟩⟩
theorem dn_of_dm {r : Rp α} {xs : List α} (sc : Sc r) (h : DM X B Γ e r xs) : DN X B Γ e (rList r) xs := pe_weak h fun σ H Q ⟨F, en, k⟩ => ⟨F, en, fun p vs F' H' h1 h2 h3 h4 h5 =>
  k (.ref p) (upd (fun _ => none) p (.lst vs)) H' h1.h (same_upd (fun b u q => by cases q) h4) (fun b hb => by
    by_cases z : b = p
    · rw [z]; exact h3
    · rw [upd_ne z] at hb; exact absurd rfl hb) ⟨p, vs, rfl, upd_same, Rl.imp (fun v a => sc _ _ v a) h5⟩⟩
theorem dn_of_sc {r : Rp α} {x : α} (sc : Sc r) (h : DE X B Γ e r x) : DN X B Γ e r x := pe_weak h fun σ H Q ⟨F, en, k⟩ => ⟨F, en, fun v F' H' h1 h2 =>
  k v (fun _ => none) H' h1.h (fun b u q => by cases q) (fun b hb => absurd rfl hb) (sc _ _ v x h2)⟩
theorem dm_eq {r : Rp α} {x y : List α} (h : DM X B Γ e r x) (q : x = y) : DM X B Γ e r y := q ▸ h
theorem dn_eq {r : Rp α} {x y : α} (h : DN X B Γ e r x) (q : x = y) : DN X B Γ e r y := q ▸ h

/-! ### own slots -/
/-- a list that is one's own: its items stand still -/
def oList (r : Rp α) : Own (List α) := ⟨fun F H v as fp => ∃ p vs, v = .ref p ∧ fp = (fun b => b = p) ∧ H p = some (.lst vs) ∧ Rl (r.rel F) vs as,
  fun {F F' H H' v a fp} e k ⟨p, vs, h1, h2, h3, h4⟩ => ⟨p, vs, h1, h2, by rw [k p (by rw [h2])]; exact h3, Rl.imp (fun _ _ => r.mono e) h4⟩⟩
/-- what is one's own, made to stand still, is r -/
def Frz {α : Type} (o : Own α) (r : Rp α) : Prop := ∀ F H v a fp, (∀ b, fp b → F b = none) → o.rel F H v a fp → ∃ G : Hp, (∀ b u, G b = some u → fp b ∧ H b = some u) ∧ r.rel (join F G) v a
theorem frz_list (r : Rp α) : Frz (oList r) (rList r) := fun F H v a fp hn ⟨p, vs, h1, h2, h3, h4⟩ => by
  subst h2
  refine ⟨upd (fun _ => none) p (.lst vs), fun b u q => ?_, p, vs, h1, ?_, ?_⟩
  · by_cases z : b = p
    · subst z; rw [upd_same] at q; exact ⟨rfl, h3.trans q⟩
    · rw [upd_ne z] at q; cases q
  · unfold join; rw [upd_same]
  · refine Rl.imp (fun _ _ => r.mono fun b u q => ?_) h4
    have z : b ≠ p := fun z => by rw [z, hn p rfl] at q; cases q
    unfold join; rw [upd_ne z]; exact q
/-- a thing whose whole is one's own -/
def oAll (r : Rp α) : Own α := ⟨fun F H v a fp => ∃ G : Hp, (∀ b u, G b = some u → fp b ∧ H b = some u) ∧ r.rel G v a,
  fun {F F' H H' v a fp} e k ⟨G, h1, h2⟩ => ⟨G, fun b u q => ⟨(h1 b u q).1, by rw [k b (h1 b u q).1]; exact (h1 b u q).2⟩, h2⟩⟩
theorem frz_all (r : Rp α) : Frz (oAll r) r := fun F H v a fp hn ⟨G, h1, h2⟩ => ⟨G, h1, r.mono (fun b u q => by unfold join; rw [q]) h2⟩
/-- an own slot that stands still from now on -/
theorem EnvF.freeze {Γp : Ctx} {σ : St} {F H : Hp} {fp : Nat → Addr → Prop} {i : Nat} {o : Own α} {r : Rp α} {a : α} (h : EnvF B Γ σ F H fp) (fz : Frz o r) (at_ : At Γ i (.own o a)) (t : To Γ i (.val r a) Γp) :
    ∃ F', Same F F' ∧ Env B Γp σ F' H := by
  obtain ⟨⟨v, hv, hr⟩, hn⟩ := h.ok i _ at_.get
  obtain ⟨G, g1, g2⟩ := fz F H v a _ (fun b hb => (hn b hb).1) hr
  have s1 : Same F (join F G) := fun b u q => by
    have z : G b = none := by
      cases z : G b with
      | none => rfl
      | some w => rw [(hn b (g1 b w z).1).1] at q; cases q
    unfold join; rw [z]; exact q
  have s2 : Same (join F G) H := fun b u q => by
    unfold join at q
    cases z : G b with
    | none => rw [z] at q; exact h.same b u q
    | some w => rw [z] at q; cases q; exact (g1 b _ z).2
  refine ⟨join F G, s1, _, h.putG (fi := fun _ => False) t rfl (fun j hj => rfl) ⟨h.base.f.trans s1, h.base.h, s2, fun b hf hh => ?_⟩ s2 s1 (fun j b hj q => ⟨rfl, ?_⟩) ?_ (fun _ _ _ _ z => z)⟩
  · unfold join
    cases z : G b with
    | none => exact h.base.d b hf hh
    | some w => exact absurd (hn b (g1 b w z).1).2.2 hh
  · unfold join
    cases z : G b with
    | none => exact (h.own_at q).1
    | some w => exact absurd (g1 b w z).1 (h.apart j i hj b q)
  · exact ⟨fun _ z => z, v, hv, g2⟩
theorem EnvP.freeze {Γp : Ctx} {i : Nat} {o : Own α} {r : Rp α} {a : α} (fz : Frz o r) (at_ : At Γ i (.own o a)) (t : To Γ i (.val r a) Γp) (σ : St) (H : Hp) (h : EnvP B Γ σ H) : EnvP B Γp σ H := by
  obtain ⟨F, fp, h⟩ := h
  obtain ⟨F', _, e⟩ := h.freeze fz at_ t
  exact ⟨F', e⟩
theorem sd_freeze {Γp : Ctx} {i : Nat} {o : Own α} {r : Rp α} {a : α} {ss : List Stmt} {D : Ends} (fz : Frz o r) (at_ : At Γ i (.own o a)) (t : To Γ i (.val r a) Γp) (k : SD X B Γp ss D) : SD X B Γ ss D := sd_env (EnvP.freeze fz at_ t) k
/-- an own slot that stands still for the time of an expression whose value doesn't lean on it -/
theorem de_thaw {Γp : Ctx} {i : Nat} {o : Own α} {r : Rp α} {x : α} {s : Rp β} {y : β} (fz : Frz o r) (at_ : At Γ i (.own o x)) (t : To Γ i (.val r x) Γp) (sc : Sc s) (h : DE X B Γp e s y) : DE X B Γ e s y :=
  pe_weak h fun σ H Q ⟨F, ⟨fp, en⟩, k⟩ => by
    obtain ⟨F', s1, en'⟩ := en.freeze fz at_ t
    exact ⟨F', en', fun v F2 H2 e2 h2 => k v F H2 ⟨Same.refl F, e2.h, en.same.trans e2.h, fun b hf _ => hf⟩ (sc _ _ v y h2)⟩
theorem dt_thaw {Γp : Ctx} {i : Nat} {o : Own α} {r : Rp α} {x : α} {y : Bool} (fz : Frz o r) (at_ : At Γ i (.own o x)) (t : To Γ i (.val r x) Γp) (h : DT X B Γp e y) : DT X B Γ e y :=
  pt_weak h fun σ H Q ⟨F, ⟨fp, en⟩, k⟩ => by
    obtain ⟨F', s1, en'⟩ := en.freeze fz at_ t
    exact ⟨F', en', fun F2 H2 e2 => k F H2 ⟨Same.refl F, e2.h, en.same.trans e2.h, fun b hf _ => hf⟩⟩
theorem dn_thaw {Γp : Ctx} {i : Nat} {o : Own α} {r : Rp α} {x : α} {s : Rp β} {y : β} (fz : Frz o r) (at_ : At Γ i (.own o x)) (t : To Γ i (.val r x) Γp) (h : DN X B Γp e s y) : DN X B Γ e s y :=
  pe_weak h fun σ H Q ⟨F, ⟨fp, en⟩, k⟩ => by
    obtain ⟨F', s1, en'⟩ := en.freeze fz at_ t
    exact ⟨F', en', k⟩
theorem dm_thaw {Γp : Ctx} {i : Nat} {o : Own α} {r : Rp α} {x : α} {s : Rp β} {y : List β} (fz : Frz o r) (at_ : At Γ i (.own o x)) (t : To Γ i (.val r x) Γp) (sc : Sc s) (h : DM X B Γp e s y) : DM X B Γ e s y :=
  pe_weak h fun σ H Q ⟨F, ⟨fp, en⟩, k⟩ => by
    obtain ⟨F', s1, en'⟩ := en.freeze fz at_ t
    refine ⟨F', en', fun p vs F2 H2 e2 h2 h3 h4 h5 => k p vs F H2 ⟨Same.refl F, e2.h, en.same.trans e2.h, fun b hf _ => hf⟩ ?_ h3 h4 (Rl.imp (fun v a => sc _ _ v a) h5)⟩
    exact en.same.free h3

/-! ### items of a display -/
def tDL (B : Bs) (Γ : Ctx) (r : Rp α) (as : List α) : TA := fun σ H Q => ∃ F, Env B Γ σ F H ∧ ∀ vs F' H', Ext F H F' H' → Rl (r.rel F') vs as → Q vs H'
abbrev DL (X : Cx) (B : Bs) (Γ : Ctx) (es : List Expr) (r : Rp α) (as : List α) : Prop := PA X es (tDL B Γ r as)
theorem dl_nil {r : Rp α} : DL X B Γ [] r [] := pa_weak pa_nil fun σ H Q ⟨F, e, k⟩ => k [] F H (Ext.refl e.same) trivial
theorem dl_cons {es : List Expr} {r : Rp α} {x : α} {xs : List α} (ha : DE X B Γ e r x) (hr : DL X B Γ es r xs) (hs : starEach (e :: es) X.env = (false, eval e X.env) :: starEach es X.env := by rfl) : DL X B Γ (e :: es) r (x :: xs) :=
  pa_weak (pa_cons ha hr hs) fun σ H Q ⟨F, e, k⟩ => ⟨F, e, fun u F1 H1 e1 h1 => ⟨F1, e.ext e1, fun vs F2 H2 e2 h2 => k (u :: vs) F2 H2 (e1.trans e2) ⟨r.mono e2.f h1, h2⟩⟩⟩
theorem dm_list {es : List Expr} {r : Rp α} {xs : List α} {pos : Pos} (h : DL X B Γ es r xs) (hz : xs.length ≤ 1000000 := by first | decide | (simp; done)) : DM X B Γ (.List es pos) r xs :=
  pe_weak (pe_lst h) fun σ H Q ⟨F, en, k⟩ => ⟨F, en, fun vs F1 H1 e1 h1 => ⟨by rw [h1.length]; exact Nat.le_trans hz (by decide), fun p hp =>
    have e2 := Ext.newH e1.i (.lst vs) hp
    k p vs F1 (upd H1 p (.lst vs)) (e1.trans e2) (e1.i.free hp) (e1.h.free hp) upd_same h1⟩⟩
theorem de_tupL {es : List Expr} {r : Rp α} {xs : List α} {x1} {pos : Pos} (h : DL X B Γ es r xs) (hz : xs.length ≤ 1000000 := by first | decide | (simp; done)) : DE X B Γ (.Tuple es x1 pos) (rTup r) xs :=
  pe_weak (pe_tup h) fun σ H Q ⟨F, en, k⟩ => ⟨F, en, fun vs F1 H1 e1 h1 => ⟨by rw [h1.length]; exact Nat.le_trans hz (by decide), fun p hp =>
    have e2 := Ext.new e1.i (.tup vs) hp
    k (.ref p) _ _ (e1.trans e2) ⟨p, vs, rfl, upd_same, Rl.imp (fun _ _ => r.mono e2.f) h1⟩⟩⟩
theorem de_pair {e1 e2 : Expr} {r : Rp α} {s : Rp β} {x : α} {y : β} {x1} {pos : Pos} (h : DA X B Γ [e1, e2] [.val r x, .val s y]) : DE X B Γ (.Tuple [e1, e2] x1 pos) (rPair r s) (x, y) :=
  pe_weak (pe_tup h) fun σ H Q ⟨F, en, k⟩ => ⟨F, en, fun vs F1 H1 e1 h1 => by
    obtain ⟨u, w, rfl, h2, h3⟩ := h1.two
    refine ⟨by show 2 ≤ sizeLine; decide, fun p hp => ?_⟩
    have e2 := Ext.new e1.i (.tup [u, w]) hp
    exact k (.ref p) _ _ (e1.trans e2) ⟨p, u, w, rfl, upd_same, r.mono e2.f h2, s.mono e2.f h3⟩⟩
theorem de_tri {e1 e2 e3 : Expr} {r : Rp α} {s : Rp β} {t : Rp γ} {x : α} {y : β} {z : γ} {x1} {pos : Pos} (h : DA X B Γ [e1, e2, e3] [.val r x, .val s y, .val t z]) : DE X B Γ (.Tuple [e1, e2, e3] x1 pos) (rTri r s t) (x, y, z) :=
  pe_weak (pe_tup h) fun σ H Q ⟨F, en, k⟩ => ⟨F, en, fun vs F1 H1 e1 h1 => by
    obtain ⟨u, w, q, rfl, h2, h3, h4⟩ := h1.three
    refine ⟨by show 3 ≤ sizeLine; decide, fun p hp => ?_⟩
    have e2 := Ext.new e1.i (.tup [u, w, q]) hp
    exact k (.ref p) _ _ (e1.trans e2) ⟨p, u, w, q, rfl, upd_same, r.mono e2.f h2, s.mono e2.f h3, t.mono e2.f h4⟩⟩

/-! ### stores into own slots -/
theorem Env.putOwn {Γ' : Ctx} {σ : St} {F H F' H' : Hp} {i : Nat} {v : V} {o : Own α} {a : α} {fi : Addr → Prop} (h : Env B Γ σ F H) (t : To Γ i (.own o a) Γ') (e : Ext F H F' H') (hr : o.rel F' H' v a fi) (hn : ∀ b, fi b → F' b = none ∧ H b = none ∧ H' b ≠ none) : Env B Γ' (σ.set i (some v)) F' H' := by
  obtain ⟨fp, h⟩ := h
  have hi : i < σ.length := by rw [h.len]; exact t.set.2
  have kp : ∀ j b, fp j b → H' b = H b := fun j b q => by
    have z := (h.own_at q).2.1
    cases w : H b with
    | none => exact absurd w z
    | some u => exact e.h b u w
  refine ⟨_, h.putG (fi := fi) t (by simp) (fun j hj => List.getElem?_set_ne fun z => hj z.symm) (h.base.trans e) e.i e.f (fun j b _ q => ⟨kp j b q, e.d b (h.own_at q).1 (h.own_at q).2.1⟩) ?_ (fun j b _ q z => (h.own_at q).2.1 (hn b z).2.1)⟩
  rw [List.getElem?_set_self hi]
  exact ⟨⟨v, rfl, hr⟩, fun b hb => ⟨(hn b hb).1, (hn b hb).2.2, h.base.h.free (hn b hb).2.1⟩⟩
end

/-! ### the words with the context's facts -/
section
variable {P : Program} {w : World} {K : PySem.W.Frag} {mg : Str → Option Value} {base : Heap} {k : Nat} {N : List Str} {sc : Scope} {vs ls : List Nat} {X : Cx} {α β γ : Type} {B : Bs} {Γ Γ' : Ctx} {e a b : Expr} {D : Ends} {rest ss : List Stmt} {pos : Pos}
theorem c_var (c : XC P w K mg base k N sc vs ls X) (i : Nat) {x : Str} {r : Rp α} {v : α} (h : At Γ i (.val r v)) (hN : N[i]? = some x := by rfl) (hv : vs.contains i = true := by rfl) (hd : (x == ("__debug__" : Str)) = false := by decide) (hcd : (x == ("__classdict__" : Str)) = false := by decide) : DE X B Γ (.Name x pos) r v :=
  have hN' : X.N[i]? = some x := by rw [c.N]; exact hN
  de_var i hN' (c.vis i x hN' hv) h hd hcd
/-- x = e; the value gets a name -/
theorem c_asg (c : XC P w K mg base k N sc vs ls X) (i : Nat) {x : Str} {pos' : Pos} {r : Rp α} {v : α} {Γ' : α → Ctx} (he : DE X B Γ e r v) (t : ∀ a, To Γ i (.val r a) (Γ' a)) (hr : ∀ a, a = v → SD X B (Γ' a) rest D)
    (hN : N[i]? = some x := by rfl) (hl : ls.contains i = true := by rfl) (hs : swapsWith e (some (.Name x pos')) pos.line X.env = pure false := by rfl) : SD X B Γ (.Assign [.Name x pos'] e pos :: rest) D :=
  have hN' : X.N[i]? = some x := by rw [c.N]; exact hN
  sd_asg he c.nd hN' (c.loc i x hN' hl).1 (c.loc i x hN' hl).2 (t v) (hr v rfl) hs
theorem sd_asgO {i : Nat} {x : Str} {pos' : Pos} {te : TE} {o : Own α} {v : α} (he : PE X e te) (hN : X.N.Nodup) (hi : X.N[i]? = some x) (hx : Loc X.env.scope x) (hf : X.fn x = true ∨ X.env.scope.names.lookup x = some .local)
    (hte : ∀ σ F H Q, Env B Γ σ F H → (∀ u F' H' fi, Ext F H F' H' → o.rel F' H' u v fi → (∀ b, fi b → F' b = none ∧ H b = none ∧ H' b ≠ none) → Q u H') → te σ H Q) (t : To Γ i (.own o v) Γ')
    (hr : SD X B Γ' rest D) (hs : swapsWith e (some (.Name x pos')) pos.line X.env = pure false := by rfl) : SD X B Γ (.Assign [.Name x pos'] e pos :: rest) D :=
  sd_cons (ps_set hN hi hx he hs hf) (fun D' l σ H ⟨F, en⟩ => hte σ F H _ en fun u F' H' fi e1 h1 h2 => l.nx _ _ ⟨F', en.putOwn t e1 h1 h2⟩) hr
/-- x = a new list that will change -/
theorem c_asgM (c : XC P w K mg base k N sc vs ls X) (i : Nat) {x : Str} {pos' : Pos} {r : Rp α} {v : List α} {Γ' : List α → Ctx} (he : DM X B Γ e r v) (t : ∀ a, To Γ i (.own (oList r) a) (Γ' a)) (hr : ∀ a, a = v → SD X B (Γ' a) rest D)
    (hN : N[i]? = some x := by rfl) (hl : ls.contains i = true := by rfl) (hs : swapsWith e (some (.Name x pos')) pos.line X.env = pure false := by rfl) : SD X B Γ (.Assign [.Name x pos'] e pos :: rest) D :=
  have hN' : X.N[i]? = some x := by rw [c.N]; exact hN
  sd_asgO (o := oList r) he c.nd hN' (c.loc i x hN' hl).1 (c.loc i x hN' hl).2 (fun σ F H Q en q => ⟨F, en, fun p vs F' H' e1 h1 h2 h3 h4 => q (.ref p) F' H' (fun b => b = p) e1 ⟨p, vs, rfl, rfl, h3, h4⟩ (fun b hb => by subst hb; exact ⟨h1, h2, by rw [h3]; intro z; cases z⟩)⟩) (t v) (hr v rfl) hs
/-- x = a new thing that will change -/
theorem c_asgN (c : XC P w K mg base k N sc vs ls X) (i : Nat) {x : Str} {pos' : Pos} {r : Rp α} {v : α} {Γ' : α → Ctx} (he : DN X B Γ e r v) (t : ∀ a, To Γ i (.own (oAll r) a) (Γ' a)) (hr : ∀ a, a = v → SD X B (Γ' a) rest D)
    (hN : N[i]? = some x := by rfl) (hl : ls.contains i = true := by rfl) (hs : swapsWith e (some (.Name x pos')) pos.line X.env = pure false := by rfl) : SD X B Γ (.Assign [.Name x pos'] e pos :: rest) D :=
  have hN' : X.N[i]? = some x := by rw [c.N]; exact hN
  sd_asgO (o := oAll r) he c.nd hN' (c.loc i x hN' hl).1 (c.loc i x hN' hl).2 (fun σ F H Q en q => ⟨F, en, fun u G H' s1 s2 s3 h4 => q u F H' (fun b => G b ≠ none) ⟨Same.refl F, s1, en.same.trans s1, fun b hf _ => hf⟩
    ⟨G, fun b u q => ⟨(by show G b ≠ none; rw [q]; intro z; cases z), s2 b u q⟩, h4⟩ (fun b hb => ⟨en.same.free (s3 b hb), s3 b hb, by
      cases z : G b with
      | none => exact absurd z hb
      | some o => rw [s2 b o z]; intro z; cases z⟩)⟩) (t v) (hr v rfl) hs
end
end DL
namespace DL
open PySem L2 PySem.Spec PyProof.Rows

/-! ### a def of the text, as it may be called -/
def FN (P : Program) (w : World) (K : PySem.W.Frag) (mg : Str → Option Value) (base : Heap) (CX : CXT) (k : Nat) (x : Str) (ps : List Str) (sp : Sp) : Prop :=
  ∃ fa fd, FnOk P w K mg base CX k fa fd ps sp ∧ mg x = some (.ref fa) ∧ PySem.W.keepIn K (.ref fa) = true ∧ Binds K fd ps [] ∧ ∃ o od sl, K.lookup fa = some ⟨o, od, .func fd, sl⟩
theorem fun_look {K : PySem.W.Frag} {x q : Str} {st : Stmt} {f : Addr} {fd : FuncData} (F : Fun K x q st f fd) : ∃ o od sl, K.lookup f = some ⟨o, od, .func fd, sl⟩ := by
  obtain ⟨oc, od, kV, doc, pm, an, cdv, ct, osl, rfl, lk, _⟩ := F.ex
  exact ⟨_, _, _, lk⟩
/-- a def as the top has left it -/
def FT (K : PySem.W.Frag) (mg : Str → Option Value) (x q : Str) (st : Stmt) (ps : List Str) : Prop :=
  ∃ fa fd, Fun K x q st fa fd ∧ mg x = some (.ref fa) ∧ Binds K fd ps []
def glB (sc : Scope) (x : Str) : Bool := match sc.names.lookup x with | some .globalImplicit => true | _ => false
theorem gl_of {sc : Scope} {x : Str} {X : Cx} (hs : X.env.scope = sc) (h : glB sc x = true) : Gl X x := by
  unfold glB at h
  show X.env.scope.names.lookup x = some .globalImplicit
  rw [hs]
  split at h
  · assumption
  · cases h
def visB (N : List Str) (sc : Scope) (vs : List Nat) : Bool := vs.all fun i => match N[i]? with
  | some x => (match sc.names.lookup x with | some .local => true | some .cell => true | some .free => true | _ => false)
  | none => false
def locB (N : List Str) (sc : Scope) (vs : List Nat) : Bool := vs.all fun i => match N[i]? with
  | some x => (match sc.names.lookup x with | some .local => true | some .cell => true | _ => false)
  | none => false
theorem vis_of {N : List Str} {sc : Scope} {vs : List Nat} (h : visB N sc vs = true) (i : Nat) (x : Str) (hN : N[i]? = some x) (hv : vs.contains i = true) : Vis sc x := by
  have q := List.all_eq_true.mp h i (by simpa using hv)
  rw [hN] at q
  dsimp only at q
  unfold Vis
  split at q
  · exact .inl (by assumption)
  · exact .inr (.inl (by assumption))
  · exact .inr (.inr (by assumption))
  · cases q
theorem loc_of {N : List Str} {sc : Scope} {vs : List Nat} (h : locB N sc vs = true) (i : Nat) (x : Str) (hN : N[i]? = some x) (hv : vs.contains i = true) : L2.Loc sc x := by
  have q := List.all_eq_true.mp h i (by simpa using hv)
  rw [hN] at q
  dsimp only at q
  unfold L2.Loc
  split at q
  · exact .inl (by assumption)
  · exact .inr (by assumption)
  · cases q

/-! ### promises -/
def SpM {ι ρ : Type} (args : ι → Ctx) (pre : ι → Prop) (r : Rp ρ) (f : ι → List ρ) : Sp := fun vs H Q _ =>
  ∃ F i, Same F H ∧ SlsOk F vs (args i) ∧ pre i ∧ ∀ p vs F' H', Ext F H F' H' → F' p = none → H p = none → H' p = some (.lst vs) → Rl (r.rel F') vs (f i) → Q (.ref p) H'
def SpN {ι ρ : Type} (args : ι → Ctx) (pre : ι → Prop) (rr : Rp ρ) (f : ι → ρ) : Sp := fun vs H Q _ =>
  ∃ F i, Same F H ∧ SlsOk F vs (args i) ∧ pre i ∧ ∀ v G H', Same H H' → Same G H' → (∀ b, G b ≠ none → H b = none) → rr.rel G v (f i) → Q v H'
def RtM {ρ : Type} (B : Bs) (r : Rp ρ) (res : List ρ) (D : Ends) : Prop := ∀ p vs F' H', Ext B.F B.H F' H' → F' p = none → B.H p = none → H' p = some (.lst vs) → Rl (r.rel F') vs res → D.rt (.ref p) H'
def RtN {ρ : Type} (B : Bs) (rr : Rp ρ) (res : ρ) (D : Ends) : Prop := ∀ v G H', Same B.H H' → Same G H' → (∀ b, G b ≠ none → B.H b = none) → rr.rel G v res → D.rt v H'
section
variable {P : Program} {w : World} {K : PySem.W.Frag} {mg : Str → Option Value} {base : Heap} {k j : Nat} {N : List Str} {sc : Scope} {vs ls : List Nat} {X : Cx} {α β γ ι ρ : Type} {B : Bs} {Γ Γ' : Ctx} {e a b : Expr} {es : List Expr} {D : Ends} {rest ss : List Stmt} {p pos : Pos}
variable {args : ι → Ctx} {pre : ι → Prop} {ps : List Str} {x : Str}
theorem c_call (c : XC P w K mg base k N sc vs ls X) {rr : Rp ρ} {f : ι → ρ} (h : FN P w K mg base CX0 j x ps (SpF args pre rr f)) (i : ι) (ha : DA X B Γ (e :: es) (args i)) (hp : pre i) (hj : j ≤ k := by decide) (hg : glB sc x = true := by decide +kernel)
    (hdb : (x == ("__debug__" : Str)) = false := by decide) (he : starEach (e :: es) X.env = (false, eval e X.env) :: starEach es X.env := by rfl) (hpl : (backTo pos (starEach es X.env)).any (·.1) = false := by rfl) :
    DE X B Γ (.Call (.Name x p) (e :: es) [] pos) rr (f i) := by
  obtain ⟨fa, fd, G, h1, h2, h3⟩ := h
  have G' : FnOk X.prog X.w X.K X.mg X.base CX0 j fa fd ps (SpF args pre rr f) := by rw [c.p, c.w, c.K, c.mg, c.b]; exact G
  exact de_call i G' (c.room.mono hj) (gl_of c.sc hg) (by rw [c.mg]; exact h1) (by rw [c.K]; exact h2) (by rw [c.K]; exact h3.1) ha hp hdb he hpl
theorem c_call0 (c : XC P w K mg base k N sc vs ls X) {rr : Rp ρ} {f : ι → ρ} (h : FN P w K mg base CX0 j x ps (SpF args pre rr f)) (i : ι) (ha : args i = []) (hp : pre i) (hj : j ≤ k := by decide) (hg : glB sc x = true := by decide +kernel)
    (hdb : (x == ("__debug__" : Str)) = false := by decide) :
    DE X B Γ (.Call (.Name x p) [] [] pos) rr (f i) := by
  obtain ⟨fa, fd, G, h1, h2, h3⟩ := h
  have G' : FnOk X.prog X.w X.K X.mg X.base CX0 j fa fd ps (SpF args pre rr f) := by rw [c.p, c.w, c.K, c.mg, c.b]; exact G
  exact de_call0 i G' (c.room.mono hj) (gl_of c.sc hg) (by rw [c.mg]; exact h1) (by rw [c.K]; exact h2) (by rw [c.K]; exact h3.1) ha hp hdb
theorem c_callG (c : XC P w K mg base k N sc vs ls X) {sp : Sp} (h : FN P w K mg base CX0 j x ps sp) {t : TA} (ha : PA X (e :: es) t) (hj : j ≤ k) (hg : glB sc x = true)
    (hdb : (x == ("__debug__" : Str)) = false) (he : starEach (e :: es) X.env = (false, eval e X.env) :: starEach es X.env) (hpl : (backTo pos (starEach es X.env)).any (·.1) = false) :
    PE X (.Call (.Name x p) (e :: es) [] pos) (tCall sp [] E0 t) := by
  obtain ⟨fa, fd, G, h1, h2, h3⟩ := h
  have G' : FnOk X.prog X.w X.K X.mg X.base CX0 j fa fd ps sp := by rw [c.p, c.w, c.K, c.mg, c.b]; exact G
  exact pe_call G' (c.room.mono hj) (gl_of c.sc hg) (by rw [c.mg]; exact h1) (by rw [c.K]; exact h2) (by rw [c.K]; exact h3.1) .nil pass0 ha hdb he hpl
theorem c_callM (c : XC P w K mg base k N sc vs ls X) {r : Rp ρ} {f : ι → List ρ} (h : FN P w K mg base CX0 j x ps (SpM args pre r f)) (i : ι) (ha : DA X B Γ (e :: es) (args i)) (hp : pre i) (hj : j ≤ k := by decide) (hg : glB sc x = true := by decide +kernel)
    (hdb : (x == ("__debug__" : Str)) = false := by decide) (he : starEach (e :: es) X.env = (false, eval e X.env) :: starEach es X.env := by rfl) (hpl : (backTo pos (starEach es X.env)).any (·.1) = false := by rfl) :
    DM X B Γ (.Call (.Name x p) (e :: es) [] pos) r (f i) :=
  pe_weak (c_callG c h ha hj hg hdb he hpl) fun σ H Q ⟨F, en, q⟩ => ⟨F, en, fun vs F1 H1 e1 h1 => by
    show SpM args pre r f (vs ++ []) H1 Q E0
    rw [List.append_nil]
    exact ⟨F1, i, e1.i, h1, hp, fun p us F2 H2 e2 h2 h3 h4 h5 => q p us F2 H2 (e1.trans e2) h2 (e1.h.free h3) h4 h5⟩⟩
theorem c_callN (c : XC P w K mg base k N sc vs ls X) {rr : Rp ρ} {f : ι → ρ} (h : FN P w K mg base CX0 j x ps (SpN args pre rr f)) (i : ι) (ha : DA X B Γ (e :: es) (args i)) (hp : pre i) (hj : j ≤ k := by decide) (hg : glB sc x = true := by decide +kernel)
    (hdb : (x == ("__debug__" : Str)) = false := by decide) (he : starEach (e :: es) X.env = (false, eval e X.env) :: starEach es X.env := by rfl) (hpl : (backTo pos (starEach es X.env)).any (·.1) = false := by rfl) :
    DN X B Γ (.Call (.Name x p) (e :: es) [] pos) rr (f i) :=
  pe_weak (c_callG c h ha hj hg hdb he hpl) fun σ H Q ⟨F, en, q⟩ => ⟨F, en, fun vs F1 H1 e1 h1 => by
    show SpN args pre rr f (vs ++ []) H1 Q E0
    rw [List.append_nil]
    exact ⟨F1, i, e1.i, h1, hp, fun v G H2 s1 s2 s3 h2 => q v G H2 (e1.h.trans s1) s2 (fun b hb => e1.h.free (s3 b hb)) h2⟩⟩
/-! what a def hands back -/
theorem sd_retM {r : Rp ρ} {res v : List ρ} (hD : RtM B r res D) (he : DM X B Γ e r v) (hv : v = res) : SD X B Γ (.Return (some e) pos :: rest) D :=
  pss_weak (pss_cons (ps_ret he) pss_never) fun D' σ H ⟨hd, F, en⟩ => by
    subst hv
    exact ⟨F, en, fun p us F' H' e1 h1 h2 h3 h4 => hd.rt _ _ (hD p us F' H' (en.base.trans e1) h1 (en.base.h.free h2) h3 h4)⟩
theorem sd_retN {rr : Rp ρ} {res v : ρ} (hD : RtN B rr res D) (he : DN X B Γ e rr v) (hv : v = res) : SD X B Γ (.Return (some e) pos :: rest) D :=
  pss_weak (pss_cons (ps_ret he) pss_never) fun D' σ H ⟨hd, F, en⟩ => by
    subst hv
    exact ⟨F, en, fun v G H' s1 s2 s3 h4 => hd.rt _ _ (hD v G H' (en.base.h.trans s1) s2 (fun b hb => en.base.h.free (s3 b hb)) h4)⟩
/-- return of an own list's name -/
theorem c_retO (c : XC P w K mg base k N sc vs ls X) (i : Nat) {r : Rp ρ} {res v : List ρ} (hD : RtM B r res D) (h : At Γ i (.own (oList r) v)) (hv : v = res) (hN : N[i]? = some x := by rfl) (hvs : vs.contains i = true := by rfl)
    (hd : (x == ("__debug__" : Str)) = false := by decide) (hcd : (x == ("__classdict__" : Str)) = false := by decide) : SD X B Γ (.Return (some (.Name x p)) pos :: rest) D := by
  have hN' : X.N[i]? = some x := by rw [c.N]; exact hN
  refine pss_weak (pss_cons (ps_ret (pe_var hN' (c.vis i x hN' hvs) hd hcd)) pss_never) fun D' σ H ⟨hd, F, fp, en⟩ => ?_
  obtain ⟨⟨u, hu, p, us, h1, h2, h3, h4⟩, hn⟩ := en.ok i _ h.get
  subst hv
  subst h1
  have z := hn p (by rw [h2])
  exact ⟨_, hu, hd.rt _ _ (hD p us F H en.base z.1 z.2.2 h3 h4)⟩
theorem c_retNO (c : XC P w K mg base k N sc vs ls X) (i : Nat) {r : Rp ρ} {res v : ρ} (hD : RtN B r res D) (h : At Γ i (.own (oAll r) v)) (hv : v = res) (hN : N[i]? = some x := by rfl) (hvs : vs.contains i = true := by rfl)
    (hd : (x == ("__debug__" : Str)) = false := by decide) (hcd : (x == ("__classdict__" : Str)) = false := by decide) : SD X B Γ (.Return (some (.Name x p)) pos :: rest) D := by
  have hN' : X.N[i]? = some x := by rw [c.N]; exact hN
  refine pss_weak (pss_cons (ps_ret (pe_var hN' (c.vis i x hN' hvs) hd hcd)) pss_never) fun D' σ H ⟨hd, F, fp, en⟩ => ?_
  obtain ⟨⟨u, hu, G, g1, g2⟩, hn⟩ := en.ok i _ h.get
  subst hv
  refine ⟨_, hu, hd.rt _ _ (hD u G H en.base.h (fun b u q => (g1 b u q).2) (fun b hb => ?_) g2)⟩
  cases z : G b with
  | none => exact absurd z hb
  | some o => exact (hn b (g1 b o z).1).2.2
end

/-! ### a def keeps its promise -/
section
variable {P : Program} {w : World} {K : PySem.W.Frag} {mg : Str → Option Value} {base : Heap} {k : Nat} {N : List Str} {vs : List Nat} {ι ρ : Type} {args : ι → Ctx} {pre : ι → Prop} {ps : List Str} {x q : Str} {st : Stmt}
theorem SlsOk.length {F : Hp} : ∀ {vs : List V} {Δ : Ctx}, SlsOk F vs Δ → vs.length = Δ.length
  | [], [], _ => rfl
  | v :: vs, s :: Δ, h => by simp [SlsOk.length h.2]
  | [], _ :: _, h => h.elim
  | _ :: _, [], h => h.elim
theorem SlsOk.at_ {F : Hp} : ∀ {vs : List V} {Δ : Ctx} {i : Nat} {s : Sl}, SlsOk F vs Δ → Δ[i]? = some s → ∃ v, vs[i]? = some v ∧ slVal F v s
  | [], [], _, _, _, h => by simp at h
  | v :: vs, s :: Δ, 0, t, h, e => by
    have e : s = t := by simpa using e
    subst e
    exact ⟨v, rfl, h.1⟩
  | v :: vs, s :: Δ, i + 1, t, h, e => by
    obtain ⟨u, h1, h2⟩ := SlsOk.at_ (i := i) (s := t) h.2 (by simpa using e)
    exact ⟨u, by simpa using h1, h2⟩
  | [], _ :: _, _, _, h, _ => h.elim
  | _ :: _, [], _, _, h, _ => h.elim
theorem env_start {F H : Hp} {us : List V} {Δ Γ0 : Ctx} (s : Same F H) (h : SlsOk F us Δ) (hl : Δ.length = ps.length) (hp : ps.length ≤ N.length) (e : Δ ++ List.replicate (N.length - ps.length) .un = Γ0) : Env ⟨F, H, F⟩ Γ0 (L2.start N us) F H := by
  subst e
  have hz : us.length = ps.length := by rw [h.length, hl]
  refine ⟨fun _ _ => False, ?_, Ext.refl s, s, Same.refl F, fun i t ht => ?_, fun _ _ _ z => z, fun _ _ _ _ z => z.elim⟩
  · unfold L2.start
    simp [hz, hl]
  · by_cases hi : i < Δ.length
    · rw [List.getElem?_append_left hi] at ht
      obtain ⟨v, h1, h2⟩ := h.at_ ht
      have hs : (L2.start N us)[i]? = some (some v) := by
        unfold L2.start
        rw [List.getElem?_append_left (by simpa [hz, ← hl] using hi), List.getElem?_map, h1]
        rfl
      rw [hs]
      cases t with
      | val r a => exact ⟨fun _ z => z, v, rfl, h2⟩
      | un => exact h2.elim
      | own o a => exact h2.elim
    · rw [List.getElem?_append_right (by omega), List.getElem?_replicate] at ht
      split at ht
      · cases ht
        exact fun _ z => z
      · cases ht
/-- the context of a def from which nothing is raised -/
theorem xc_of {cdv : Value} {fa : Addr} {A : Around} {outer : List PySem.Env} {s : Shared} {H : Hp} {E : XK} (S : FnScope N ps (defScope st)) (hv : locB N (defScope st) vs = true) (hr : Room k (A.deeper (envOfC q (defScope st) s.heap.objs.size fa cdv))) :
    XC P w K mg base k N (defScope st) vs vs (cxOf CX0 P w K mg base N q (defScope st) fa cdv A outer s H E).nox :=
  ⟨rfl, rfl, rfl, rfl, rfl, rfl, rfl, rfl, hr, S.kind, S.nd, PassesOwn.never, fun i x hN hc => (loc_of hv i x hN hc).elim .inl fun z => .inr (.inl z), fun i x hN hc => ⟨loc_of hv i x hN hc, .inl rfl⟩⟩
theorem fnF {rr : Rp ρ} {f : ι → ρ} (Γ0 : ι → Ctx) (T : FT K mg x q st ps) (S : FnScope N ps (defScope st)) (hv : locB N (defScope st) vs = true) (hl : ∀ i, (args i).length = ps.length) (hΓ : ∀ i, args i ++ List.replicate (N.length - ps.length) .un = Γ0 i)
    (body : ∀ (X : Cx) (B : Bs) (D : Ends) (i : ι), XC P w K mg base k N (defScope st) vs vs X → pre i → RtOk B rr (f i) D → (∀ σ H, D.nx σ H → D.rt .non H) → SD X B (Γ0 i) (defBody st) { D with nx := fun _ H => D.rt .non H }) :
    FN P w K mg base CX0 (k + 1) x ps (SpF args pre rr f) := by
  obtain ⟨fa, fd, F, hm, hb⟩ := T
  refine ⟨fa, fd, F.ok S (fun us H Q E ⟨F0, i, _, h, _⟩ => by rw [h.length, hl]) (fun cdv A outer s H us Q E hr ⟨F0, i, s0, h, hp, hk⟩ => ?_), hm, F.kp, hb, fun_look F⟩
  refine ⟨_, body _ ⟨F0, H, F0⟩ { nx := fun _ H' => Q .non H', rt := Q } i (xc_of S hv hr) hp hk (fun _ _ z => z), Le.refl _, F0, env_start s0 h (hl i) ?_ (hΓ i)⟩
  have := congrArg List.length S.pre; rw [List.length_take] at this; omega
theorem fnM {r : Rp ρ} {f : ι → List ρ} (Γ0 : ι → Ctx) (T : FT K mg x q st ps) (S : FnScope N ps (defScope st)) (hv : locB N (defScope st) vs = true) (hl : ∀ i, (args i).length = ps.length) (hΓ : ∀ i, args i ++ List.replicate (N.length - ps.length) .un = Γ0 i)
    (body : ∀ (X : Cx) (B : Bs) (D : Ends) (i : ι), XC P w K mg base k N (defScope st) vs vs X → pre i → RtM B r (f i) D → SD X B (Γ0 i) (defBody st) D) :
    FN P w K mg base CX0 (k + 1) x ps (SpM args pre r f) := by
  obtain ⟨fa, fd, F, hm, hb⟩ := T
  refine ⟨fa, fd, F.ok S (fun us H Q E ⟨F0, i, _, h, _⟩ => by rw [h.length, hl]) (fun cdv A outer s H us Q E hr ⟨F0, i, s0, h, hp, hk⟩ => ?_), hm, F.kp, hb, fun_look F⟩
  refine ⟨_, body _ ⟨F0, H, F0⟩ { nx := fun _ H' => Q .non H', rt := Q } i (xc_of S hv hr) hp hk, Le.refl _, F0, env_start s0 h (hl i) ?_ (hΓ i)⟩
  have := congrArg List.length S.pre; rw [List.length_take] at this; omega
theorem fnN {rr : Rp ρ} {f : ι → ρ} (Γ0 : ι → Ctx) (T : FT K mg x q st ps) (S : FnScope N ps (defScope st)) (hv : locB N (defScope st) vs = true) (hl : ∀ i, (args i).length = ps.length) (hΓ : ∀ i, args i ++ List.replicate (N.length - ps.length) .un = Γ0 i)
    (body : ∀ (X : Cx) (B : Bs) (D : Ends) (i : ι), XC P w K mg base k N (defScope st) vs vs X → pre i → RtN B rr (f i) D → SD X B (Γ0 i) (defBody st) D) :
    FN P w K mg base CX0 (k + 1) x ps (SpN args pre rr f) := by
  obtain ⟨fa, fd, F, hm, hb⟩ := T
  refine ⟨fa, fd, F.ok S (fun us H Q E ⟨F0, i, _, h, _⟩ => by rw [h.length, hl]) (fun cdv A outer s H us Q E hr ⟨F0, i, s0, h, hp, hk⟩ => ?_), hm, F.kp, hb, fun_look F⟩
  refine ⟨_, body _ ⟨F0, H, F0⟩ { nx := fun _ H' => Q .non H', rt := Q } i (xc_of S hv hr) hp hk, Le.refl _, F0, env_start s0 h (hl i) ?_ (hΓ i)⟩
  have := congrArg List.length S.pre; rw [List.length_take] at this; omega
end
end DL
namespace DL
open PySem L2 PySem.Spec PyProof.Rows

/-! ### walks -/
structure IsW {α : Type} (J : It) (r : Rp α) (xs : List α) (F0 : Hp) : Prop where
  go : ∀ i F H, i < xs.length → Same F0 F → Same F H → J.go i H
  stop : ∀ F H, Same F0 F → Same F H → J.stop xs.length H
  yld : ∀ i F H v H', i < xs.length → Same F0 F → Same F H → J.yld i H v H' → ∃ F' x, xs[i]? = some x ∧ Ext F H F' H' ∧ r.rel F' v x
def tDI {α : Type} (B : Bs) (Γ : Ctx) (r : Rp α) (xs : List α) : TI := fun σ H R => ∃ F, Env B Γ σ F H ∧ ∀ J F' H', Ext F H F' H' → IsW J r xs F' → R J H'
abbrev DI {α : Type} (X : Cx) (B : Bs) (Γ : Ctx) (tg iter : Expr) (r : Rp α) (xs : List α) : Prop := PI X tg iter (tDI B Γ r xs)
section
variable {X : Cx} {α β γ : Type} {B : Bs} {Γ Γ' : Ctx} {e a b tg : Expr}
theorem pi_weak {t t' : TI} (h : PI X tg e t) (w : ∀ σ H R, t' σ H R → t σ H R) : PI X tg e t' := ⟨fun pins s σ H R I q => h.run pins s σ H R I (w σ H R q)⟩
theorem isw_list {K : PySem.W.Frag} {p : Addr} {us : List V} {r : Rp α} {xs : List α} {F0 : Hp} (h : F0 p = some (.lst us)) (hr : Rl (r.rel F0) us xs) : IsW (Itl K p) r xs F0 := by
  have hl := hr.length
  have sq : ∀ F H, Same F0 F → Same F H → SqL K H p us := fun F H s1 s2 => SqL.of (s2 _ _ (s1 _ _ h))
  refine ⟨fun i F H hi s1 s2 => ⟨us, us[i]'(by omega), sq F H s1 s2, by simp⟩, fun F H s1 s2 => ⟨us, sq F H s1 s2, by omega⟩, fun i F H v H' hi s1 s2 y => ?_⟩
  obtain ⟨rfl, y⟩ := y
  obtain ⟨x, h1, h2⟩ := hr.getV (y us (sq F _ s1 s2))
  exact ⟨F, x, h1, Ext.refl s2, r.mono s1 h2⟩
theorem isw_tup {K : PySem.W.Frag} {p : Addr} {us : List V} {r : Rp α} {xs : List α} {F0 : Hp} (h : F0 p = some (.tup us)) (hr : Rl (r.rel F0) us xs) : IsW (Itt K p) r xs F0 := by
  have hl := hr.length
  have sq : ∀ F H, Same F0 F → Same F H → SqT K H p us := fun F H s1 s2 => SqT.of (s2 _ _ (s1 _ _ h))
  refine ⟨fun i F H hi s1 s2 => ⟨us, us[i]'(by omega), sq F H s1 s2, by simp⟩, fun F H s1 s2 => ⟨us, sq F H s1 s2, by omega⟩, fun i F H v H' hi s1 s2 y => ?_⟩
  obtain ⟨rfl, y⟩ := y
  obtain ⟨x, h1, h2⟩ := hr.getV (y us (sq F _ s1 s2))
  exact ⟨F, x, h1, Ext.refl s2, r.mono s1 h2⟩
/-- the whole numbers from lo on, n of them -/
def rng (lo : Int) (n : Nat) : List Int := (List.range n).map fun k => lo + (k : Nat)
theorem rng_len (lo : Int) (n : Nat) : (rng lo n).length = n := by simp [rng]
theorem rng_get {lo : Int} {n i : Nat} (h : i < n) : (rng lo n)[i]? = some (lo + (i : Nat)) := by simp [rng, h]
theorem mem_rng {lo x : Int} {n : Nat} (h : x ∈ rng lo n) : lo ≤ x ∧ x < lo + n := by
  obtain ⟨k, hk, rfl⟩ := List.mem_map.mp h
  have := List.mem_range.mp hk
  omega
theorem isw_rng {lo : Int} {n : Nat} {F0 : Hp} : IsW (Itr lo n) rInt (rng lo n) F0 := by
  refine ⟨fun i F H hi _ _ => by rw [rng_len] at hi; exact hi, fun F H _ _ => by rw [rng_len]; exact Nat.le_refl _, fun i F H v H' hi s1 s2 y => ?_⟩
  obtain ⟨rfl, rfl⟩ := y
  rw [rng_len] at hi
  exact ⟨F, _, rng_get hi, Ext.refl s2, rfl⟩
/-- the signs of a text, each a text -/
def sgs (t : Txt) : List Txt := t.map fun c => [c]
theorem isw_str {t : Txt} {F0 : Hp} (ok : okT t = true) : IsW (Its (tx t)) rTxt (sgs t) F0 := by
  have hz : (tx t).cps.size = t.length := by show t.toArray.size = _; simp
  have hl : (sgs t).length = t.length := by simp [sgs]
  refine ⟨fun i F H hi _ _ => by show i < (tx t).cps.size; rw [hz]; omega, fun F H _ _ => by show (tx t).cps.size ≤ _; rw [hz]; omega, fun i F H v H' hi s1 s2 y => ?_⟩
  obtain ⟨rfl, c, hc, rfl⟩ := y
  have hc' : t[i]? = some c := by
    have : (tx t).cps[i]? = t[i]? := by show t.toArray[i]? = _; simp
    rw [← this]; exact hc
  have hm : c ∈ t := List.mem_of_getElem? hc'
  have hk : decide (c < 1114112) = true := List.all_eq_true.mp ok c hm
  exact ⟨F, [c], by simp [sgs, hc'], Ext.refl s2, rfl, by show (decide (c < 1114112) && true) = true; rw [hk]; rfl⟩
theorem di_list {r : Rp α} {xs : List α} (h : DE X B Γ e (rList r) xs) : DI X B Γ tg e r xs :=
  pi_weak (pi_list h) fun σ H R ⟨F, en, k⟩ => ⟨F, en, fun v F1 H1 e1 ⟨p, us, h1, h2, h3⟩ => ⟨p, h1, ⟨us, SqL.of (e1.i _ _ h2)⟩, k _ F1 H1 e1 (isw_list h2 h3)⟩⟩
theorem di_scr {xs : List Int} {K : PySem.W.Frag} (hK : X.K = K) (h : DE X B Γ e (rScr K) xs) : DI X B Γ tg e rInt xs := by
  subst hK
  refine pi_weak (pi_list h) fun σ H R ⟨F, en, k⟩ => ⟨F, en, fun v F1 H1 e1 ⟨p, h1, h2⟩ => ⟨p, h1, ⟨_, e1.i.seq h2⟩, k _ F1 H1 e1 ?_⟩⟩
  have hl : (xs.map V.int).length = xs.length := by simp
  have sq : ∀ F H, Same F1 F → Same F H → SqL X.K H p (xs.map V.int) := fun F H s1 s2 => s2.seq (s1.seq h2)
  refine ⟨fun i F H hi s1 s2 => ⟨_, (xs.map V.int)[i]'(by omega), sq F H s1 s2, by simp⟩, fun F H s1 s2 => ⟨_, sq F H s1 s2, by omega⟩, fun i F H v H' hi s1 s2 y => ?_⟩
  obtain ⟨rfl, y⟩ := y
  have z := y _ (sq F _ s1 s2)
  rw [List.getElem?_map] at z
  cases q : xs[i]? with
  | none => rw [q] at z; cases z
  | some x => rw [q] at z; exact ⟨F, x, rfl, Ext.refl s2, (Option.some.inj z).symm⟩
theorem di_tup {r : Rp α} {xs : List α} (h : DE X B Γ e (rTup r) xs) : DI X B Γ tg e r xs :=
  pi_weak (pi_tup h) fun σ H R ⟨F, en, k⟩ => ⟨F, en, fun v F1 H1 e1 ⟨p, us, h1, h2, h3⟩ => ⟨p, h1, ⟨us, SqT.of (e1.i _ _ h2)⟩, k _ F1 H1 e1 (isw_tup h2 h3)⟩⟩
theorem di_str {t : Txt} (h : DE X B Γ e rTxt t) : DI X B Γ tg e rTxt (sgs t) :=
  pi_weak (pi_str h) fun σ H R ⟨F, en, k⟩ => ⟨F, en, fun v F1 H1 e1 h1 => ⟨_, h1.1, k _ F1 H1 e1 (isw_str h1.2)⟩⟩
/-- what an iterator by turns of new pairs gives -/
theorem ext_pair {F H : Hp} {T : Addr} {x y : V} {r : Rp α} {s : Rp β} {a : α} {b : β} (sm : Same F H) (hT : H T = none) (h1 : r.rel F x a) (h2 : s.rel F y b) :
    Ext F H (upd F T (.tup [x, y])) (upd H T (.tup [x, y])) ∧ (rPair r s).rel (upd F T (.tup [x, y])) (.ref T) (a, b) := by
  have e := Ext.new sm (.tup [x, y]) hT
  exact ⟨e, T, x, y, rfl, upd_same, r.mono e.f h1, s.mono e.f h2⟩
/-- 0, 1, .. beside the items -/
def enumL (xs : List α) : List (Int × α) := (rng 0 xs.length).zip xs
theorem di_enum {r : Rp α} {xs : List α} {p pos tpos : Pos} {elts : List Expr} {kk : Nat} (hg : Gl X "enumerate") (hm : X.mg "enumerate" = none) (h : DA X B Γ [e] [.val (rList r) xs]) (hs : starEach [e] X.env = [(false, eval e X.env)] := by rfl) :
    DI X B Γ (.Tuple elts kk tpos) (.Call (.Name "enumerate" p) [e] [] pos) (rPair rInt r) (enumL xs) :=
  pi_weak (pi_enum hg hm h hs) fun σ H R ⟨F, en, k⟩ => ⟨F, en, fun vs F1 H1 e1 h1 => by
    obtain ⟨v, rfl, q, us, rfl, h2, h3⟩ := h1.one
    have hl := h3.length
    have hz : (enumL xs).length = xs.length := by simp [enumL, rng_len]
    refine ⟨q, us, rfl, SqL.of (e1.i _ _ h2), k _ F1 H1 e1 ?_⟩
    have sq : ∀ F H, Same F1 F → Same F H → SqL X.K H q us := fun F H s1 s2 => SqL.of (s2 _ _ (s1 _ _ h2))
    refine ⟨fun i F H hi s1 s2 => ⟨us, us[i]'(by omega), sq F H s1 s2, by simp⟩, fun F H s1 s2 => ⟨us, sq F H s1 s2, by omega⟩, fun i F H v H' hi s1 s2 y => ?_⟩
    obtain ⟨T, x, y1, y2, y3, y4⟩ := y
    obtain ⟨x', z1, z2⟩ := h3.getV (y4 us (sq F H s1 s2))
    subst y1
    subst y3
    have hb := ext_pair (a := ((i : Nat) : Int)) (r := rInt) s2 y2 (x := .int (i : Nat)) rfl (r.mono s1 z2)
    refine ⟨_, ((i : Nat), x'), ?_, hb.1, hb.2⟩
    unfold enumL
    rw [List.getElem?_zip_eq_some]
    exact ⟨by rw [rng_get (by omega)]; simp, z1⟩⟩
theorem di_zip {r : Rp α} {s : Rp β} {xs : List α} {ys : List β} {p pos tpos : Pos} {elts : List Expr} {kk : Nat} (hg : Gl X "zip") (hm : X.mg "zip" = none) (h : DA X B Γ [a, b] [.val (rList r) xs, .val (rList s) ys])
    (hs : starEach [a, b] X.env = (false, eval a X.env) :: starEach [b] X.env := by rfl) (hpl : (backTo pos (starEach [b] X.env)).any (·.1) = false := by rfl) :
    DI X B Γ (.Tuple elts kk tpos) (.Call (.Name "zip" p) [a, b] [] pos) (rPair r s) (xs.zip ys) :=
  pi_weak (pi_zip hg hm h hs hpl) fun σ H R ⟨F, en, k⟩ => ⟨F, en, fun vs F1 H1 e1 h1 => by
    obtain ⟨v, w, rfl, ⟨q, us, rfl, h2, h3⟩, ⟨q', us', rfl, h2', h3'⟩⟩ := h1.two
    have hl := h3.length
    have hl' := h3'.length
    have hz : (xs.zip ys).length = min xs.length ys.length := by simp
    refine ⟨q, q', us, us', rfl, SqL.of (e1.i _ _ h2), SqL.of (e1.i _ _ h2'), k _ F1 H1 e1 ?_⟩
    have sq : ∀ F H, Same F1 F → Same F H → SqL X.K H q us := fun F H s1 s2 => SqL.of (s2 _ _ (s1 _ _ h2))
    have sq' : ∀ F H, Same F1 F → Same F H → SqL X.K H q' us' := fun F H s1 s2 => SqL.of (s2 _ _ (s1 _ _ h2'))
    refine ⟨fun i F H hi s1 s2 => ⟨us, us', us[i]'(by omega), us'[i]'(by omega), sq F H s1 s2, sq' F H s1 s2, by simp, by simp⟩, fun F H s1 s2 => ⟨us, us', sq F H s1 s2, sq' F H s1 s2, by omega⟩, fun i F H v H' hi s1 s2 y => ?_⟩
    obtain ⟨T, x, z, y1, y2, y3, y4, y5⟩ := y
    obtain ⟨x', z1, z2⟩ := h3.getV (y4 us (sq F H s1 s2))
    obtain ⟨z', z3, z4⟩ := h3'.getV (y5 us' (sq' F H s1 s2))
    subst y1
    subst y3
    have hb := ext_pair s2 y2 (r.mono s1 z2) (s.mono s1 z4)
    exact ⟨_, (x', z'), List.getElem?_zip_eq_some.mpr ⟨z1, z3⟩, hb.1, hb.2⟩⟩
end
section
variable {P : Program} {w : World} {K : PySem.W.Frag} {mg : Str → Option Value} {base : Heap} {k j : Nat} {N : List Str} {sc : Scope} {vs ls : List Nat} {X : Cx} {α β γ ι ρ : Type} {B : Bs} {Γ Γ' : Ctx} {e a b tg iter : Expr} {es : List Expr} {D : Ends} {rest ss body : List Stmt} {p pos : Pos} {x : Str}
theorem c_range1 (c : XC P w K mg base k N sc vs ls X) {n : Int} (h : DE X B Γ a rInt n) (hm : mg "range" = none) (hn : -(2 ^ 62) ≤ n ∧ n < 2 ^ 62) (hg : glB sc "range" = true := by decide +kernel) (hs : starEach [a] X.env = [(false, eval a X.env)] := by rfl) :
    DI X B Γ tg (.Call (.Name "range" p) [a] [] pos) rInt (rng 0 n.toNat) :=
  pi_weak (pi_range1 (gl_of c.sc hg) (by rw [c.mg]; exact hm) (pa_cons h pa_nil hs) hs) fun σ H R ⟨F, en, q⟩ => ⟨F, en, fun v F1 H1 e1 h1 => ⟨n, by rw [show v = V.int n from h1], hn.1, hn.2, q _ F1 H1 e1 isw_rng⟩⟩
theorem c_range2 (c : XC P w K mg base k N sc vs ls X) {m n : Int} (h1 : DE X B Γ a rInt m) (h2 : DE X B Γ b rInt n) (hm : mg "range" = none) (hn : -(2 ^ 62) ≤ m ∧ m < 2 ^ 62 ∧ -(2 ^ 62) ≤ n ∧ n < 2 ^ 62) (hg : glB sc "range" = true := by decide +kernel)
    (hs : starEach [a, b] X.env = [(false, eval a X.env), (false, eval b X.env)] := by rfl) (hs2 : starEach [b] X.env = [(false, eval b X.env)] := by rfl) :
    DI X B Γ tg (.Call (.Name "range" p) [a, b] [] pos) rInt (rng m (n - m).toNat) :=
  pi_weak (pi_range2 (gl_of c.sc hg) (by rw [c.mg]; exact hm) (da_cons h1 (da_cons h2 da_nil hs2) (by rw [hs, hs2])) hs hs2) fun σ H R ⟨F, en, q⟩ => ⟨F, en, fun v F1 H1 e1 h1 => by
    obtain ⟨u, w, rfl, rfl, rfl⟩ := h1.two
    exact ⟨m, n, rfl, hn, q _ F1 H1 e1 isw_rng⟩⟩
theorem c_enum (c : XC P w K mg base k N sc vs ls X) {r : Rp α} {xs : List α} {tpos : Pos} {elts : List Expr} {kk : Nat} (h : DE X B Γ e (rList r) xs) (hm : mg "enumerate" = none) (hg : glB sc "enumerate" = true := by decide +kernel) (hs : starEach [e] X.env = [(false, eval e X.env)] := by rfl) :
    DI X B Γ (.Tuple elts kk tpos) (.Call (.Name "enumerate" p) [e] [] pos) (rPair rInt r) (enumL xs) :=
  di_enum (gl_of c.sc hg) (by rw [c.mg]; exact hm) (da_cons h da_nil hs) hs
theorem c_zip (c : XC P w K mg base k N sc vs ls X) {r : Rp α} {s : Rp β} {xs : List α} {ys : List β} {tpos : Pos} {elts : List Expr} {kk : Nat} (h1 : DE X B Γ a (rList r) xs) (h2 : DE X B Γ b (rList s) ys) (hm : mg "zip" = none) (hg : glB sc "zip" = true := by decide +kernel)
    (hs : starEach [a, b] X.env = (false, eval a X.env) :: starEach [b] X.env := by rfl) (hpl : (backTo pos (starEach [b] X.env)).any (·.1) = false := by rfl) (hs2 : starEach [b] X.env = [(false, eval b X.env)] := by rfl) :
    DI X B Γ (.Tuple elts kk tpos) (.Call (.Name "zip" p) [a, b] [] pos) (rPair r s) (xs.zip ys) :=
  di_zip (gl_of c.sc hg) (by rw [c.mg]; exact hm) (da_cons h1 (da_cons h2 da_nil hs2) hs) hs hpl

/-! ### targets -/
/-- Tgt: from which slots to which; js: the slots set -/
def gD {α : Type} (B : Bs) (r : Rp α) (Tgt : Ctx → α → Ctx → Prop) (js : List Nat) : TG := fun v σ H Q => ∃ Γ a Γ' F, Env B Γ σ F H ∧ r.rel F v a ∧ Tgt Γ a Γ' ∧ ∀ σ' : L2.St, Env B Γ' σ' F H → σ'.length = σ.length → (∀ i : Nat, i ∉ js → σ'[i]? = σ[i]?) → Q σ' H
abbrev DG {α : Type} (X : Cx) (B : Bs) (tg : Expr) (r : Rp α) (Tgt : Ctx → α → Ctx → Prop) (js : List Nat) : Prop := PG X tg (gD B r Tgt js)
theorem pg_weak {t t' : TG} (h : PG X tg t) (wk : ∀ v σ H Q, t' v σ H Q → t v σ H Q) : PG X tg t' := ⟨fun pins s σ H v u Q I r q => h.run pins s σ H v u Q I r (wk v σ H Q q)⟩
theorem c_tname (c : XC P w K mg base k N sc vs ls X) (i : Nat) {r : Rp α} (hN : N[i]? = some x := by rfl) (hl : ls.contains i = true := by rfl) : DG X B (.Name x pos) r (fun Γ a Γ' => To Γ i (.val r a) Γ') [i] := by
  have hN' : X.N[i]? = some x := by rw [c.N]; exact hN
  refine pg_weak (pg_name (i := i) c.nd hN' (c.loc i x hN' hl).1 (c.loc i x hN' hl).2) fun v σ H Q ⟨Γ, a, Γ', F, en, h1, t, q⟩ => ?_
  exact q _ (en.put t h1) (by simp) fun m hm => List.getElem?_set_ne fun z => hm (by simp [z])
theorem c_tpair (c : XC P w K mg base k N sc vs ls X) (i j : Nat) {x y : Str} {p1 p2 : Pos} {kk : Nat} {r : Rp α} {s : Rp β} (hN : N[i]? = some x := by rfl) (hl : ls.contains i = true := by rfl) (hN2 : N[j]? = some y := by rfl) (hl2 : ls.contains j = true := by rfl) :
    DG X B (.Tuple [.Name x p1, .Name y p2] kk pos) (rPair r s) (fun Γ a Γ' => ∃ Γ1, To Γ i (.val r a.1) Γ1 ∧ To Γ1 j (.val s a.2) Γ') [i, j] := by
  have hN' : X.N[i]? = some x := by rw [c.N]; exact hN
  have hN2' : X.N[j]? = some y := by rw [c.N]; exact hN2
  refine pg_weak (pg_tup c.calm (pgs_cons (pg_name (i := i) c.nd hN' (c.loc i x hN' hl).1 (c.loc i x hN' hl).2) (pgs_cons (pg_name (i := j) c.nd hN2' (c.loc j y hN2' hl2).1 (c.loc j y hN2' hl2).2) pgs_nil))) fun v σ H Q ⟨Γ, a, Γ', F, en, ⟨q, u, u', h1, h2, h3, h4⟩, ⟨Γ1, t1, t2⟩, kq⟩ => ?_
  refine ⟨q, _, h1, SqT.of (en.same _ _ h2), rfl, u, _, rfl, u', _, rfl, rfl, kq _ ((en.put t1 h3).put t2 h4) (by simp) fun m hm => ?_⟩
  rw [List.getElem?_set_ne fun z => hm (by simp [z]), List.getElem?_set_ne fun z => hm (by simp [z])]

/-! ### for -/
theorem pss_ex {I : Sort _} {Φ : I → Prop} {t : I → TS} (h : ∀ i, Φ i → PSs X ss (t i)) : PSs X ss (fun D σ H => ∃ i, Φ i ∧ t i D σ H) := ⟨fun pins s σ H D J ⟨i, hp, q⟩ => (h i hp).run pins s σ H D J q⟩
theorem pe_ex {I : Sort _} {Φ : I → Prop} {t : I → TE} (h : ∀ i, Φ i → PE X e (t i)) : PE X e (fun σ H Q => ∃ i, Φ i ∧ t i σ H Q) := ⟨fun pins s σ H Q J ⟨i, hp, q⟩ => (h i hp).run pins s σ H Q J q⟩
theorem pt_ex {I : Sort _} {Φ : I → Prop} {t : I → TT} (h : ∀ i, Φ i → PT X e (t i)) : PT X e (fun σ H Q => ∃ i, Φ i ∧ t i σ H Q) := ⟨fun pins s σ H Q J ⟨i, hp, q⟩ => (h i hp).run pins s σ H Q J q⟩
theorem Env.lo {L : Hp} {σ : L2.St} {F H : Hp} (h : Env B Γ σ F H) (l : Same L F) : Env (B.lo L) Γ σ F H := by
  obtain ⟨fp, h⟩ := h
  refine ⟨fp, h.len, h.base, h.same, l, fun i s hs => ?_, h.out, h.apart⟩
  have q := h.ok i s hs
  cases s with
  | un => exact q
  | val r a => exact q
  | own o a => exact q
theorem Env.hi {L : Hp} {σ : L2.St} {F H : Hp} (h : Env (B.lo L) Γ σ F H) (l : Same B.L F) : Env B Γ σ F H := by
  obtain ⟨fp, h⟩ := h
  refine ⟨fp, h.len, h.base, h.same, l, fun i s hs => ?_, h.out, h.apart⟩
  have q := h.ok i s hs
  cases s with
  | un => exact q
  | val r a => exact q
  | own o a => exact q
theorem Env.low {σ : L2.St} {F H : Hp} (h : Env B Γ σ F H) : Same B.L F := let ⟨_, x⟩ := h; x.low
/-- for: what is done, what is left, the loop's state s; Bk: a break's states -/
theorem sd_for (hpo : PassesOwn (model X.prog X.w) X.A X.env X.xe) (hcalm : X.calm = true) {r : Rp α} {xs : List α} {Tgt : Ctx → α → Ctx → Prop} {js : List Nat} {S : Type} (Γs : S → Ctx) (Inv : List α → List α → S → Prop) (Bk : S → Prop) (s0 : S) {Γb : S → α → Ctx}
    (hi : DI X B Γ tg iter r xs) (hg : ∀ L, DG X (B.lo L) tg r Tgt js) (h0 : ∀ σ F H, Env B Γ σ F H → Env B (Γs s0) σ F H) (i0 : Inv [] xs s0) (ht : ∀ s x, Tgt (Γs s) x (Γb s x))
    (hb : ∀ L pre x post s, xs = pre ++ x :: post → Inv pre (x :: post) s → SD X (B.lo L) (Γb s x) body { nx := fun σ H => ∃ s', Inv (pre ++ [x]) post s' ∧ EnvP (B.lo L) (Γs s') σ H, ct := fun σ H => ∃ s', Inv (pre ++ [x]) post s' ∧ EnvP (B.lo L) (Γs s') σ H, bk := fun σ H => ∃ s', Bk s' ∧ EnvP (B.lo L) (Γs s') σ H, rt := D.rt })
    (hr : ∀ s, Inv xs [] s ∨ Bk s → SD X B (Γs s) rest D) (hs : ∀ x, foldedSetIterable iter X.env x = pure x := by intro _; rfl) : SD X B Γ (.For tg iter body [] pos :: rest) D := by
  have HB := pss_ex (I := Hp × List α × α × List α × S) (Φ := fun i => xs = i.2.1 ++ i.2.2.1 :: i.2.2.2.1 ∧ Inv i.2.1 (i.2.2.1 :: i.2.2.2.1) i.2.2.2.2) fun i h => hb i.1 i.2.1 i.2.2.1 i.2.2.2.1 i.2.2.2.2 h.1 h.2
  have HR := pss_ex (I := S) (Φ := fun s => Inv xs [] s ∨ Bk s) hr
  have HG : PG X tg (fun v σ H Q => ∃ L, gD (B.lo L) r Tgt js v σ H Q) := ⟨fun pins s σ H v u Q J rv ⟨L, q⟩ => (hg L).run pins s σ H v u Q J rv q⟩
  refine pss_weak (pss_cons (ps_for hpo hcalm hi HG HB hs) HR) fun D' σ H ⟨hD, F, en⟩ => ?_
  refine ⟨F, en, fun J F1 H1 e1 iw => ?_⟩
  refine ⟨fun i m σ H => m = xs.length - i ∧ i ≤ xs.length ∧ ∃ s F, Inv (xs.take i) (xs.drop i) s ∧ Env (B.lo F1) (Γs s) σ F H, ⟨xs.length, by simp, Nat.zero_le _, s0, F1, by simpa using i0, (h0 _ _ _ (en.ext e1)).lo (Same.refl F1)⟩, ?_⟩
  rintro i m σ2 H2 ⟨rfl, hi2, s, F2, iv, en2⟩
  have lowB : Same B.L F1 := en.low.trans e1.f
  by_cases hlt : i < xs.length
  · refine .inr ⟨iw.go i F2 H2 hlt en2.low en2.same, fun σ H => ∃ s', Inv (xs.take (i + 1)) (xs.drop (i + 1)) s' ∧ EnvP (B.lo F1) (Γs s') σ H, fun σ' H' ⟨s', iv', F', en'⟩ => ⟨xs.length - (i + 1), by omega, rfl, hlt, s', F', iv', en'⟩, fun v H3 y => ?_⟩
    obtain ⟨F3, x, hx, e3, hv⟩ := iw.yld i F2 H2 v H3 hlt en2.low en2.same y
    refine ⟨F1, Γs s, x, Γb s x, F3, en2.ext e3, hv, ht s x, fun σ' en' _ _ => ?_⟩
    have ed : xs.drop i = x :: xs.drop (i + 1) := by
      rw [List.drop_eq_getElem_cons hlt]
      congr 1
      exact (List.getElem?_eq_some_iff.mp hx).2
    have et : xs.take (i + 1) = xs.take i ++ [x] := by
      rw [List.take_succ, hx]; rfl
    refine ⟨(F1, xs.take i, x, xs.drop (i + 1), s), ⟨by rw [← ed, List.take_append_drop], by rw [← ed]; exact iv⟩, ?_, F3, en'⟩
    rw [et]
    exact ⟨fun σ H h => h, fun v H h => hD.rt v H h, fun σ H ⟨s', hb', F', en''⟩ => ⟨s', .inr hb', hD, F', en''.hi (lowB.trans en''.low)⟩, fun σ H h => h⟩
  · have e : i = xs.length := by omega
    subst e
    refine .inl ⟨iw.stop F2 H2 en2.low en2.same, s, .inl (by simpa using iv), hD, F2, en2.hi (lowB.trans en2.low)⟩
/-! ### comprehensions -/
theorem wipe_get {σ : L2.St} {i : Nat} : ∀ {vs : List Nat}, (wipe σ vs)[i]? = if i ∈ vs then (σ[i]?).map (fun _ => none) else σ[i]?
  | [] => by simp [wipe]
  | v :: vs => by
    unfold wipe
    by_cases hv : v = i
    · subst hv
      rw [if_pos (by simp)]
      by_cases hl : v < (wipe σ vs).length
      · rw [List.getElem?_set_self hl]
        rw [wipe_length] at hl
        rw [List.getElem?_eq_getElem hl]; rfl
      · rw [List.getElem?_eq_none (by simpa using hl)]
        rw [wipe_length] at hl
        rw [List.getElem?_eq_none (by omega)]; rfl
    · rw [List.getElem?_set_ne hv, wipe_get (vs := vs)]
      have : (i ∈ v :: vs) ↔ i ∈ vs := by simp [Ne.symm hv]
      by_cases h : i ∈ vs
      · rw [if_pos h, if_pos (this.mpr h)]
      · rw [if_neg h, if_neg (fun z => h (this.mp z))]
theorem wipe_back {σ σ2 : L2.St} {vs : List Nat} (hl : σ2.length = (wipe σ vs).length) (h : ∀ i : Nat, i ∉ vs → σ2[i]? = (wipe σ vs)[i]?) : wipe σ2 vs = wipe σ vs := by
  apply List.ext_getElem?
  intro i
  rw [wipe_get, wipe_get]
  by_cases hi : i ∈ vs
  · rw [if_pos hi, if_pos hi]
    rw [wipe_length] at hl
    by_cases hz : i < σ.length
    · rw [List.getElem?_eq_getElem hz, List.getElem?_eq_getElem (by omega)]; rfl
    · rw [List.getElem?_eq_none (by omega), List.getElem?_eq_none (by omega)]
  · rw [if_neg hi, if_neg hi, h i hi, wipe_get, if_neg hi]
theorem EnvF.wipe {σ : L2.St} {F H : Hp} {fp : Nat → Addr → Prop} {ws : List Nat} (h : EnvF B Γ σ F H fp) (hu : ∀ i ∈ ws, Γ[i]? = some .un) : EnvF B Γ (wipe σ ws) F H fp := by
  refine ⟨by rw [wipe_length]; exact h.len, h.base, h.same, h.low, fun i s hs => ?_, h.out, h.apart⟩
  have q := h.ok i s hs
  rw [wipe_get]
  by_cases hi : i ∈ ws
  · rw [hu i hi] at hs
    cases hs
    exact q
  · rw [if_neg hi]; exact q
/-- a new object at D that is nobody's, written -/
theorem EnvF.side {σ : L2.St} {F H : Hp} {fp : Nat → Addr → Prop} {Dl : Addr} {o : HO} (h : EnvF B Γ σ F H fp) (hF : F Dl = none) (hB : B.H Dl = none) (hf : ∀ j, ¬ fp j Dl) : EnvF B Γ σ F (upd H Dl o) fp := by
  have ne : ∀ j b, fp j b → b ≠ Dl := fun j b q z => hf j (z ▸ q)
  have s2 : Same F (upd H Dl o) := fun b u q => by rw [upd_ne (ne_of_none q hF)]; exact h.same b u q
  refine ⟨h.len, ⟨h.base.f, fun b u q => by rw [upd_ne (ne_of_none q hB)]; exact h.base.h b u q, s2, h.base.d⟩, s2, h.low, fun i s hs => ?_, h.out, h.apart⟩
  have q := h.ok i s hs
  cases s with
  | un => exact q
  | val r a => exact q
  | own oo a =>
    obtain ⟨⟨v, q1, q2⟩, q3⟩ := q
    refine ⟨⟨v, q1, oo.mono (Same.refl F) (fun b hb => by rw [upd_ne (ne i b hb)]) q2⟩, fun b hb => ⟨(q3 b hb).1, ?_, (q3 b hb).2.2⟩⟩
    rw [upd_ne (ne i b hb)]
    exact (q3 b hb).2.1
def locC (N : List Str) (scope sc : Scope) (vs : List Nat) : Bool := vs.all fun i => match N[i]? with
  | some x => (match scope.names.lookup x, (relS scope sc).names.lookup x with | some .local, some .local => true | some .cell, some .cell => true | _, _ => false)
  | none => false
theorem locC_of {N : List Str} {scope sc : Scope} {vs : List Nat} (h : locC N scope sc vs = true) (i : Nat) (x : Str) (hN : N[i]? = some x) (hv : vs.contains i = true) :
    (scope.names.lookup x = some .local ∧ (relS scope sc).names.lookup x = some .local) ∨ (scope.names.lookup x = some .cell ∧ (relS scope sc).names.lookup x = some .cell) := by
  have q := List.all_eq_true.mp h i (by simpa using hv)
  rw [hN] at q
  dsimp only at q
  split at q
  · exact .inl ⟨by assumption, by assumption⟩
  · exact .inr ⟨by assumption, by assumption⟩
  · cases q
/-- the context of a comprehension's block -/
theorem xc_blk (c : XC P w K mg base k N sc vs ls X) {scope : Scope} {vs' ls' : List Nat} (hk : scope.kind = .function) (hv : visB N (relS scope sc) vs' = true) (hl : locC N scope sc ls' = true)
    (s : Shared) (H : Hp) (C : Addr) (cl : List (Str × Addr)) (fp : List Addr) : XC P w K mg base k N (relS scope sc) vs' ls' (X.blk s H scope (compEnvC scope cl C X.env) fp) := by
  have es : (compEnvC scope cl C X.env).scope = relS scope X.env.scope := rfl
  refine ⟨c.p, c.w, c.K, c.mg, c.b, c.N, by show relS scope X.env.scope = _; rw [c.sc], c.calm, c.room, hk, c.nd, PassesOwn.never, fun i x hN hc => ?_, fun i x hN hc => ?_⟩
  · have hN' : X.N[i]? = some x := hN
    rw [c.N] at hN'
    show Vis (relS scope X.env.scope) x
    rw [c.sc]
    exact vis_of hv i x hN' hc
  · have hN' : X.N[i]? = some x := hN
    rw [c.N] at hN'
    have z := locC_of hl i x hN' hc
    refine ⟨?_, ?_⟩
    · show L2.Loc (relS scope X.env.scope) x
      rw [c.sc]
      exact z.elim (fun z => .inl z.2) fun z => .inr z.2
    · rcases z with z | z
      · refine .inr ?_
        show (relS scope X.env.scope).names.lookup x = some .local
        rw [c.sc]
        exact z.2
      · refine .inl ?_
        show (scope.names.lookup x == some .cell) = true
        rw [z.1]; rfl
theorem Ext.side {F H F' H' : Hp} {p : Addr} {o : HO} (e : Ext F H F' H') (h1 : H p = none) (h2 : F' p = none) : Ext F H F' (upd H' p o) :=
  ⟨e.f, fun b u q => by rw [upd_ne (ne_of_none q h1)]; exact e.h b u q, fun b u q => by rw [upd_ne (ne_of_none q h2)]; exact e.i b u q, e.d⟩
/-- what a comprehension's reading asks, answered by its walk -/
theorem lc_read {r : Rp α} {s : Rp β} {xs : List α} {Tgt : Ctx → α → Ctx → Prop} {js ws : List Nat} {Γb : α → Ctx} (pf : α → Bool) (ff : α → β) (hjs : ∀ j ∈ js, j ∈ ws) (hu : ∀ i ∈ ws, Γ[i]? = some .un) (ht : ∀ x, Tgt Γ x (Γb x)) (hz : xs.length ≤ 1000000)
    (σ : L2.St) (H : Hp) (Q : VK) (h : tDM B Γ s ((xs.filter pf).map ff) σ H Q) :
    tLc (tDI B Γ r xs) (fun v σ H Q => ∃ L, gD (B.lo L) r Tgt js v σ H Q) (fun σ H Q => ∃ i : Hp × α, i.2 ∈ xs ∧ tDT (B.lo i.1) (Γb i.2) (pf i.2) σ H Q) (fun σ H Q => ∃ i : Hp × α, (i.2 ∈ xs ∧ pf i.2 = true) ∧ tD (B.lo i.1) (Γb i.2) s (ff i.2) σ H Q) ws σ H Q := by
  obtain ⟨F, ⟨fp, en⟩, kq⟩ := h
  refine ⟨F, ⟨fp, en⟩, fun J F1 H1 e1 iw Dl hD => ?_⟩
  have en1 := en.ext e1
  have hF1 : F1 Dl = none := e1.i.free hD
  have hBD : B.H Dl = none := en1.base.h.free hD
  have hfp : ∀ j, ¬ fp j Dl := fun j q => (en1.own_at q).2.1 hD
  let res : Nat → List β := fun i => ((xs.take i).filter pf).map ff
  have zlen : ∀ i, (res i).length ≤ 1000000 := fun i => by
    have h1 : (res i).length ≤ ((xs.take i).filter pf).length := by simp [res]
    have h2 := List.length_filter_le pf (xs.take i)
    have h3 : (xs.take i).length ≤ xs.length := by rw [List.length_take]; omega
    omega
  refine ⟨fun i m H => m = xs.length - i ∧ i ≤ xs.length ∧ ∃ F acc, EnvF (B.lo F1) Γ σ F H fp ∧ F Dl = none ∧ H Dl = some (.lst acc) ∧ Rl (s.rel F) acc (res i) ∧ Ext F1 H1 F H, ⟨xs.length, by simp, Nat.zero_le _, F1, [], ?_, hF1, upd_same, trivial, Ext.newH e1.i _ hD⟩, ?_⟩
  · have := en1.side (o := .lst []) hF1 hBD hfp
    exact ⟨this.len, this.base, this.same, Same.refl F1, fun i s hs => by
      have q := this.ok i s hs
      cases s with
      | un => exact q
      | val r a => exact q
      | own o a => exact q, this.out, this.apart⟩
  rintro i m H2 ⟨rfl, hi2, F2, acc, en2, hF2, hD2, ha, hs2⟩
  by_cases hlt : i < xs.length
  · refine .inr ⟨iw.go i F2 H2 hlt en2.low en2.same, fun H' => ∃ F acc, EnvF (B.lo F1) Γ σ F H' fp ∧ F Dl = none ∧ H' Dl = some (.lst acc) ∧ Rl (s.rel F) acc (res (i + 1)) ∧ Ext F1 H1 F H', fun H' ⟨F', acc', q⟩ => ⟨xs.length - (i + 1), by omega, rfl, hlt, F', acc', q⟩, fun v H3 y => ?_⟩
    obtain ⟨F3, x, hx, e3, hv⟩ := iw.yld i F2 H2 v H3 hlt en2.low en2.same y
    have mem : x ∈ xs := List.mem_of_getElem? hx
    have dne : ∀ {F F' H H' : Hp}, Ext F H F' H' → F Dl = none → (∃ acc, H Dl = some (HO.lst acc)) → F' Dl = none := fun {F F' H H'} e h1 ⟨acc, h2⟩ => e.d Dl h1 (by rw [h2]; intro z; cases z)
    have en3 := en2.ext e3
    refine ⟨F1, Γ, x, Γb x, F3, ⟨fp, en3.wipe hu⟩, hv, ht x, fun σ' en' hl' hk' => ⟨wipe_back hl' fun j hj => hk' j fun z => hj (hjs j z), ?_⟩⟩
    refine ⟨(F1, x), mem, F3, en', fun F4 H4 e4 => ?_⟩
    have et : xs.take (i + 1) = xs.take i ++ [x] := by rw [List.take_succ, hx]; rfl
    have hr : res (i + 1) = res i ++ (if pf x = true then [ff x] else []) := by
      show ((xs.take (i + 1)).filter pf).map ff = _
      rw [et, List.filter_append, List.map_append]
      congr 1
      by_cases hp : pf x = true
      · rw [if_pos hp]; simp [hp]
      · rw [if_neg hp]; simp [hp]
    have h3D : F3 Dl = none := dne e3 hF2 ⟨acc, hD2⟩
    have h3L : H3 Dl = some (.lst acc) := e3.h _ _ hD2
    have h4D : F4 Dl = none := dne e4 h3D ⟨acc, h3L⟩
    have h4L : H4 Dl = some (.lst acc) := e4.h _ _ h3L
    have en4 := en3.ext e4
    show if pf x = true then _ else _
    by_cases hp : pf x = true
    · rw [if_pos hp]
      refine ⟨(F1, x), ⟨mem, hp⟩, F4, en'.ext e4, fun y5 F5 H5 e5 h5 => ?_⟩
      have h5D : F5 Dl = none := dne e5 h4D ⟨acc, h4L⟩
      have h5L : H5 Dl = some (.lst acc) := e5.h _ _ h4L
      have en5 := en4.ext e5
      refine ⟨acc, h5L, ?_, F5, acc ++ [y5], en5.side h5D hBD hfp, h5D, upd_same, ?_, ?_⟩
      · rw [ha.length]; exact Nat.lt_of_le_of_lt (zlen i) (by decide)
      · rw [hr, if_pos hp]
        exact Rl.append (Rl.imp (fun _ _ => s.mono ((e3.f.trans e4.f).trans e5.f)) ha) (Rl.one h5)
      · exact (hs2.trans (e3.trans (e4.trans e5))).side hD h5D
    · rw [if_neg hp]
      refine ⟨F4, acc, en4, h4D, h4L, ?_, hs2.trans (e3.trans e4)⟩
      rw [hr, if_neg hp, List.append_nil]
      exact Rl.imp (fun _ _ => s.mono (e3.f.trans e4.f)) ha
  · have e : i = xs.length := by omega
    subst e
    refine .inl ⟨iw.stop F2 H2 en2.low en2.same, ?_⟩
    have hres : res xs.length = (xs.filter pf).map ff := by simp [res]
    rw [hres] at ha
    exact kq Dl acc F2 H2 (e1.trans hs2) hF2 (e1.h.free hD) hD2 ha
end
end DL
namespace DL
open PySem L2 PySem.Spec PyProof.Rows
section
variable {P : Program} {w : World} {K : PySem.W.Frag} {mg : Str → Option Value} {base : Heap} {k j : Nat} {N : List Str} {sc : Scope} {vs ls : List Nat} {X : Cx} {α β γ ι ρ : Type} {B : Bs} {Γ Γ' : Ctx} {e a b tg iter elt : Expr} {es ifs : List Expr} {D : Ends} {rest ss body : List Stmt} {p pos : Pos} {x : Str} {scope : Scope}
theorem Ext.frzNew {F H F' H' : Hp} {p : Addr} {o : HO} (e : Ext F H F' H') (h1 : F' p = none) (h2 : H p = none) (h3 : H' p = some o) : Ext F H (upd F' p o) H' :=
  ⟨e.f.trans (same_new h1), e.h, same_upd e.i h3, fun b hf hh => by
    have hb : b ≠ p := fun z => hh (by rw [z]; exact h2)
    rw [upd_ne hb]; exact e.d b hf hh⟩
/-- a comprehension's tests -/
abbrev DTs (X : Cx) (B : Bs) (Γ : Ctx) (ifs : List Expr) (b : Bool) : Prop := PTs X ifs (tDT B Γ b)
theorem dts_nil : DTs X B Γ [] true := ⟨fun pins s σ H Q I ⟨F, en, q⟩ => (pts_nil).run pins s σ H Q I (q F H (Ext.refl en.same))⟩
theorem dts_one {z : Bool} (h : DT X B Γ e z) : DTs X B Γ [e] z := pts_one h
/-- a comprehension whose parts are shown -/
def LcOk (X : Cx) (B : Bs) (Γ : Ctx) (elt tg iter : Expr) (ifs : List Expr) (scope : Scope) {β : Type} (s : Rp β) (res : List β) : Prop :=
  ∃ own wi g tt te, PI X tg iter wi ∧ BlkOk X.N X.env.scope scope own ∧ (∀ (s : Shared) (H : Hp) (C : Addr) (cl : List (Str × Addr)) (fp : List Addr), PG (X.blk s H scope (compEnvC scope cl C X.env) fp) tg g) ∧
    (∀ (s : Shared) (H : Hp) (C : Addr) (cl : List (Str × Addr)) (fp : List Addr), PTs (X.blk s H scope (compEnvC scope cl C X.env) fp) ifs tt) ∧
    (∀ (s : Shared) (H : Hp) (C : Addr) (cl : List (Str × Addr)) (fp : List Addr), PE (X.blk s H scope (compEnvC scope cl C X.env) fp) elt te) ∧ (∀ x, foldedSetIterable iter X.env x = pure x) ∧
    ∀ σ H Q, tDM B Γ s res σ H Q → tLc wi g tt te (own.map (·.2)) σ H Q
theorem pts_ex {I : Sort _} {Φ : I → Prop} {t : I → TT} (h : ∀ i, Φ i → PTs X ifs (t i)) : PTs X ifs (fun σ H Q => ∃ i, Φ i ∧ t i σ H Q) := ⟨fun pins s σ H Q J ⟨i, hp, q⟩ => (h i hp).run pins s σ H Q J q⟩
theorem c_lcF (c : XC P w K mg base k N sc vs ls X) {r : Rp α} {s : Rp β} {xs : List α} {Tgt : Ctx → α → Ctx → Prop} {js : List Nat} {Γb : α → Ctx} (own : List (Str × Nat)) (vs' ls' : List Nat) (pf : α → Bool) (ff : α → β)
    (hi : DI X B Γ tg iter r xs) (hg : ∀ X' L, XC P w K mg base k N (relS scope sc) vs' ls' X' → DG X' (B.lo L) tg r Tgt js) (ht : ∀ x, Tgt Γ x (Γb x))
    (hc : ∀ X' L x, XC P w K mg base k N (relS scope sc) vs' ls' X' → x ∈ xs → DTs X' (B.lo L) (Γb x) ifs (pf x))
    (he : ∀ X' L x, XC P w K mg base k N (relS scope sc) vs' ls' X' → x ∈ xs → pf x = true → DE X' (B.lo L) (Γb x) elt s (ff x))
    (hz : xs.length ≤ 1000000) (hu : ∀ i ∈ own.map (·.2), Γ[i]? = some .un := by decide)
    (hok : blkC N sc scope own = true := by decide +kernel) (hv : visB N (relS scope sc) vs' = true := by decide +kernel) (hl : locC N scope sc ls' = true := by decide +kernel) (hk : scope.kind = .function := by rfl)
    (hjs : ∀ j ∈ js, j ∈ own.map (·.2) := by decide) (hs : ∀ x, foldedSetIterable iter X.env x = pure x := by intro _; rfl) : LcOk X B Γ elt tg iter ifs scope s ((xs.filter pf).map ff) := by
  refine ⟨own, tDI B Γ r xs, (fun v σ H Q => ∃ L, gD (B.lo L) r Tgt js v σ H Q), (fun σ H Q => ∃ i : Hp × α, i.2 ∈ xs ∧ tDT (B.lo i.1) (Γb i.2) (pf i.2) σ H Q), (fun σ H Q => ∃ i : Hp × α, (i.2 ∈ xs ∧ pf i.2 = true) ∧ tD (B.lo i.1) (Γb i.2) s (ff i.2) σ H Q), hi, by rw [c.N, c.sc]; exact blkOk_by hok, fun s H C cl fp => ⟨fun pins s' σ H' v u Q J rv ⟨L, q⟩ => (hg _ L (xc_blk c hk hv hl s H C cl fp)).run pins s' σ H' v u Q J rv q⟩,
    fun s H C cl fp => pts_ex (I := Hp × α) (Φ := fun i => i.2 ∈ xs) fun i hm => hc _ i.1 i.2 (xc_blk c hk hv hl s H C cl fp) hm,
    fun s H C cl fp => pe_ex (I := Hp × α) (Φ := fun i => i.2 ∈ xs ∧ pf i.2 = true) fun i hm => he _ i.1 i.2 (xc_blk c hk hv hl s H C cl fp) hm.1 hm.2, hs, fun σ H Q h => ?_⟩
  exact lc_read pf ff hjs hu ht hz σ H Q h
theorem c_lc (c : XC P w K mg base k N sc vs ls X) {r : Rp α} {s : Rp β} {xs : List α} {Tgt : Ctx → α → Ctx → Prop} {js : List Nat} {Γb : α → Ctx} (own : List (Str × Nat)) (vs' ls' : List Nat) (ff : α → β)
    (hi : DI X B Γ tg iter r xs) (hg : ∀ X' L, XC P w K mg base k N (relS scope sc) vs' ls' X' → DG X' (B.lo L) tg r Tgt js) (ht : ∀ x, Tgt Γ x (Γb x))
    (he : ∀ X' L x, XC P w K mg base k N (relS scope sc) vs' ls' X' → x ∈ xs → DE X' (B.lo L) (Γb x) elt s (ff x))
    (hz : xs.length ≤ 1000000) (hu : ∀ i ∈ own.map (·.2), Γ[i]? = some .un := by decide)
    (hok : blkC N sc scope own = true := by decide +kernel) (hv : visB N (relS scope sc) vs' = true := by decide +kernel) (hl : locC N scope sc ls' = true := by decide +kernel) (hk : scope.kind = .function := by rfl)
    (hjs : ∀ j ∈ js, j ∈ own.map (·.2) := by decide) (hs : ∀ x, foldedSetIterable iter X.env x = pure x := by intro _; rfl) : LcOk X B Γ elt tg iter [] scope s (xs.map ff) := by
  have h := c_lcF (ifs := []) c own vs' ls' (fun _ => true) ff hi hg ht (fun X' L x _ _ => dts_nil) (fun X' L x c' hm _ => he X' L x c' hm) hz hu hok hv hl hk hjs hs
  have e : xs.filter (fun _ => true) = xs := by simp
  rw [e] at h
  exact h
theorem dm_lc (c : XC P w K mg base k N sc vs ls X) {s : Rp β} {res : List β} (h : LcOk X B Γ elt tg iter ifs scope s res) : DM X B Γ (.ListComp elt [⟨tg, iter, ifs, 0⟩] scope pos) s res := by
  obtain ⟨own, wi, g, tt, te, h1, h2, h3, h4, h5, h6, h7⟩ := h
  exact pe_weak (pe_lc c.calm c.nd h1 h2 h3 h4 h5 h6) h7
theorem sw_cell {gs : List Comprehension} {py : Pos} {y : Str} {l : Nat} {env : PySem.Env} (hy : env.scope.names.lookup y = some .cell) : swapsWith (.ListComp elt gs scope pos) (some (.Name y py)) l env = pure false := by
  have ky : env.kindOf y = some .cell := hy
  unfold swapsWith
  simp only [ky]
  have : (some NameKind.cell == some NameKind.local) = false := by decide
  simp [this]
/-- y = [..] -/
theorem ps_lc (c : XC P w K mg base k N sc vs ls X) (i : Nat) {y : Str} {py spos : Pos} {s : Rp β} {res : List β} (h : LcOk X B Γ elt tg iter ifs scope s res) (hN : N[i]? = some y) (hl : ls.contains i = true)
    (hsw : (py.line == pos.line) = true) (ha : (scope.names.any fun (n, k) => n == y && (k == .local || k == .cell)) = false) : PS X (.Assign [.Name y py] (.ListComp elt [⟨tg, iter, ifs, 0⟩] scope pos) spos) (tAsg (tDM B Γ s res) (gName i)) := by
  have hN' : X.N[i]? = some y := by rw [c.N]; exact hN
  obtain ⟨hloc, hfn⟩ := c.loc i y hN' hl
  rcases hloc with z | z
  · obtain ⟨own, wi, g, tt, te, h1, h2, h3, h4, h5, h6, h7⟩ := h
    exact ps_weak (ps_setLc c.calm c.nd hN' z (sw_true c.kind z hsw ha) h1 h2 h3 h4 h5 h6) fun D σ H q => h7 σ H _ q
  · exact ps_set c.nd hN' (.inr z) (dm_lc c h) (sw_cell z) hfn
theorem c_asgLc (c : XC P w K mg base k N sc vs ls X) (i : Nat) {y : Str} {py spos : Pos} {s : Rp β} {res : List β} {Γ' : List β → Ctx} (h : LcOk X B Γ elt tg iter ifs scope s res) (t : ∀ a, To Γ i (.val (rList s) a) (Γ' a)) (hr : ∀ a, a = res → SD X B (Γ' a) rest D)
    (hN : N[i]? = some y := by rfl) (hl : ls.contains i = true := by rfl) (hsw : (py.line == pos.line) = true := by rfl) (ha : (scope.names.any fun (n, k) => n == y && (k == .local || k == .cell)) = false := by decide +kernel) :
    SD X B Γ (.Assign [.Name y py] (.ListComp elt [⟨tg, iter, ifs, 0⟩] scope pos) spos :: rest) D :=
  sd_cons (ps_lc c i h hN hl hsw ha) (fun D' l σ H ⟨F, en⟩ => ⟨F, en, fun p us F' H' e1 h2 h3 h4 h5 => l.nx _ _ ⟨upd F' p (.lst us), (en.ext (e1.frzNew h2 h3 h4)).put (t res) ⟨p, us, rfl, upd_same, Rl.imp (fun _ _ => s.mono (same_new h2)) h5⟩⟩⟩) (hr res rfl)
theorem c_asgLcM (c : XC P w K mg base k N sc vs ls X) (i : Nat) {y : Str} {py spos : Pos} {s : Rp β} {res : List β} {Γ' : List β → Ctx} (h : LcOk X B Γ elt tg iter ifs scope s res) (t : ∀ a, To Γ i (.own (oList s) a) (Γ' a)) (hr : ∀ a, a = res → SD X B (Γ' a) rest D)
    (hN : N[i]? = some y := by rfl) (hl : ls.contains i = true := by rfl) (hsw : (py.line == pos.line) = true := by rfl) (ha : (scope.names.any fun (n, k) => n == y && (k == .local || k == .cell)) = false := by decide +kernel) :
    SD X B Γ (.Assign [.Name y py] (.ListComp elt [⟨tg, iter, ifs, 0⟩] scope pos) spos :: rest) D :=
  sd_cons (ps_lc c i h hN hl hsw ha) (fun D' l σ H ⟨F, en⟩ => ⟨F, en, fun p us F' H' e1 h2 h3 h4 h5 => l.nx _ _ ⟨F', en.putOwn (t res) e1 ⟨p, us, rfl, rfl, h4, h5⟩ (fun b hb => by subst hb; exact ⟨h2, h3, by rw [h4]; intro z; cases z⟩)⟩⟩) (hr res rfl)
end
end DL
namespace DL
open PySem L2 PySem.Spec PyProof.Rows

/-! ### looks at slots, in short -/
inductive Uns : Ctx → List Nat → Prop where
  | nil {Γ : Ctx} : Uns Γ []
  | cons {Γ : Ctx} {i : Nat} {is : List Nat} : At Γ i .un → Uns Γ is → Uns Γ (i :: is)
theorem Uns.all {Γ : Ctx} {is : List Nat} (h : Uns Γ is) : ∀ i ∈ is, Γ[i]? = some .un := by
  induction h with
  | nil => intro i hi; cases hi
  | cons a _ ih =>
    intro i hi
    rcases List.mem_cons.mp hi with rfl | hi
    · exact a.get
    · exact ih i hi
/-- from slots to slots: kept, forgotten, the same by an equation -/
inductive Cv : Ctx → Ctx → Prop where
  | nil : Cv [] []
  | k {s : Sl} {Γ Γ' : Ctx} : Cv Γ Γ' → Cv (s :: Γ) (s :: Γ')
  | u {s : Sl} {Γ Γ' : Ctx} : Cv Γ Γ' → Cv (s :: Γ) (.un :: Γ')
  | e {α : Type} {r : Rp α} {a a' : α} {Γ Γ' : Ctx} (h : a = a') : Cv Γ Γ' → Cv (.val r a :: Γ) (.val r a' :: Γ')
  | o {α : Type} {r : Own α} {a a' : α} {Γ Γ' : Ctx} (h : a = a') : Cv Γ Γ' → Cv (.own r a :: Γ) (.own r a' :: Γ')
theorem Cv.refl : ∀ Γ : Ctx, Cv Γ Γ
  | [] => .nil
  | _ :: Γ => .k (Cv.refl Γ)
theorem Cv.at_ {Γ Γ' : Ctx} (c : Cv Γ Γ') : Γ'.length = Γ.length ∧ ∀ (i : Nat) (s : Sl), Γ'[i]? = some s → Γ[i]? = some s ∨ s = .un := by
  induction c with
  | nil => exact ⟨rfl, fun i s h => .inl h⟩
  | k c ih =>
    refine ⟨by simp [ih.1], fun i s h => ?_⟩
    cases i with
    | zero => exact .inl h
    | succ i => exact ih.2 i s (by simpa using h)
  | u c ih =>
    refine ⟨by simp [ih.1], fun i s h => ?_⟩
    cases i with
    | zero => exact .inr (by simpa using h.symm)
    | succ i => exact ih.2 i s (by simpa using h)
  | e q c ih =>
    subst q
    refine ⟨by simp [ih.1], fun i s h => ?_⟩
    cases i with
    | zero => exact .inl h
    | succ i => exact ih.2 i s (by simpa using h)
  | o q c ih =>
    subst q
    refine ⟨by simp [ih.1], fun i s h => ?_⟩
    cases i with
    | zero => exact .inl h
    | succ i => exact ih.2 i s (by simpa using h)
theorem Env.cv {B : Bs} {Γ Γ' : Ctx} (c : Cv Γ Γ') (σ : L2.St) (F H : Hp) (h : Env B Γ σ F H) : Env B Γ' σ F H := by
  obtain ⟨fp, h⟩ := h
  obtain ⟨hl, hc⟩ := c.at_
  refine ⟨fun i => match Γ'[i]? with | some .un => fun _ => False | _ => fp i, by rw [hl]; exact h.len, h.base, h.same, h.low, fun i s hs => ?_, fun i hi b hb => ?_, fun i j hij b hb => ?_⟩
  · rcases hc i s hs with q | q
    · rw [hs]
      have z := h.ok i s q
      cases s with
      | un => exact fun _ w => w
      | val r a => exact z
      | own o a => exact z
    · subst q
      rw [hs]
      exact fun _ w => w
  · rw [hi] at hb
    refine h.out i ?_ b hb
    rw [List.getElem?_eq_none_iff] at hi ⊢
    omega
  · have q1 : fp i b := by
      revert hb
      cases Γ'[i]? with
      | none => exact fun z => z
      | some s => cases s with
        | un => exact fun z => z.elim
        | val r a => exact fun z => z
        | own o a => exact fun z => z
    intro hb2
    have q2 : fp j b := by
      revert hb2
      cases Γ'[j]? with
      | none => exact fun z => z
      | some s => cases s with
        | un => exact fun z => z.elim
        | val r a => exact fun z => z
        | own o a => exact fun z => z
    exact h.apart i j hij b q1 q2
theorem EnvP.cv {B : Bs} {Γ Γ' : Ctx} (c : Cv Γ Γ') (σ : L2.St) (H : Hp) (h : EnvP B Γ σ H) : EnvP B Γ' σ H := let ⟨F, x⟩ := h; ⟨F, x.cv c⟩
/-- the end of a block: on to the slots Γ' -/
theorem sd_go {X : Cx} {B : Bs} {Γ Γ' : Ctx} {D : Ends} (c : Cv Γ Γ') (h : ∀ σ H, EnvP B Γ' σ H → D.nx σ H) : SD X B Γ [] D := sd_nil fun σ H e => h σ H (EnvP.cv c σ H e)
/-- the end of a loop's turn -/
theorem sd_turn {X : Cx} {B : Bs} {Γ : Ctx} {D : Ends} {S : Type} {Γs : S → Ctx} {Φ : S → Prop} (s : S) (c : Cv Γ (Γs s)) (h : Φ s) (hn : D.nx = fun σ H => ∃ s', Φ s' ∧ EnvP B (Γs s') σ H := by rfl) : SD X B Γ [] D := sd_nil fun σ H e => by
  rw [hn]
  exact ⟨s, h, EnvP.cv c σ H e⟩
theorem sd_cv {X : Cx} {B : Bs} {Γ Γ' : Ctx} {D : Ends} {ss : List Stmt} (c : Cv Γ Γ') (h : SD X B Γ' ss D) : SD X B Γ ss D := sd_env (EnvP.cv c) h

/-! ### items -/
def gI {α : Type} [Inhabited α] (xs : List α) (i : Int) : α := (atI xs i).getD default
theorem atI_in {α : Type} [Inhabited α] {xs : List α} {i : Int} (h : -(xs.length : Int) ≤ i ∧ i < xs.length) : atI xs i = some (gI xs i) := by
  have : ∃ v, atI xs i = some v := by
    unfold atI ixN
    by_cases h0 : 0 ≤ i
    · rw [if_pos h0, if_pos h.2]
      exact ⟨xs[i.toNat]'(by omega), List.getElem?_eq_getElem (by omega)⟩
    · rw [if_neg h0, if_pos h.1]
      exact ⟨xs[(i + xs.length).toNat]'(by omega), List.getElem?_eq_getElem (by omega)⟩
  obtain ⟨v, hv⟩ := this
  unfold gI
  rw [hv]; rfl
theorem gI_nat {α : Type} [Inhabited α] {xs : List α} {i : Int} (h0 : 0 ≤ i) : gI xs i = xs.getD i.toNat default := by
  unfold gI atI ixN
  rw [if_pos h0]
  by_cases h : i < xs.length
  · rw [if_pos h]; simp [List.getD]
  · rw [if_neg h]
    have : xs[i.toNat]? = none := List.getElem?_eq_none (by omega)
    simp [List.getD, this]
theorem Rl.atI {α : Type} {R : V → α → Prop} {us : List V} {as : List α} {i : Int} {a : α} (h : Rl R us as) (q : L2.atI as i = some a) : ∃ v, L2.atI us i = some v ∧ R v a := by
  unfold L2.atI at q ⊢
  rw [h.length]
  cases z : ixN as.length i with
  | none => rw [z] at q; cases q
  | some j => rw [z] at q; exact h.get q
/-- xs[lo:hi] -/
def cutL {α : Type} (xs : List α) (lo hi : Option Int) : List α := (xs.drop (HT.sIx xs.length 0 lo)).take (HT.sIx xs.length xs.length hi - HT.sIx xs.length 0 lo)
theorem Rl.cut {α : Type} {R : V → α → Prop} {us : List V} {as : List α} {lo hi : Option Int} (h : Rl R us as) : Rl R (cutV us lo hi) (cutL as lo hi) := by
  unfold cutV cutL
  rw [h.length]
  exact Rl.take _ (Rl.drop _ h)

section
variable {P : Program} {w : World} {K : PySem.W.Frag} {mg : Str → Option Value} {base : Heap} {k j : Nat} {N : List Str} {sc : Scope} {vs ls : List Nat} {X : Cx} {α β γ ι ρ : Type} {B : Bs} {Γ Γ' : Ctx} {e a b : Expr} {es : List Expr} {D : Ends} {rest ss : List Stmt} {p pos : Pos} {x : Str}
theorem de_ixL [Inhabited α] {r : Rp α} {xs : List α} {i : Int} (ha : DE X B Γ a (rList r) xs) (hb : DE X B Γ b rInt i) (h : -(xs.length : Int) ≤ i ∧ i < xs.length) (hs : PlainIx b := by intro _ _; rfl) : DE X B Γ (.Subscript a b pos) r (gI xs i) :=
  pe_weak (pe_ix ix_list ha hb hs) fun σ H Q ⟨F, en, q⟩ => ⟨F, en, fun v F1 H1 e1 ⟨p, us, h1, h2, h3⟩ => ⟨F1, en.ext e1, fun u F2 H2 e2 h4 => by
    obtain ⟨v', q1, q2⟩ := h3.atI (atI_in h)
    exact ⟨p, us, i, v', h1, h4, SqL.of (e2.i _ _ (e2.f _ _ h2)), q1, q v' F2 H2 (e1.trans e2) (r.mono e2.f q2)⟩⟩⟩
theorem de_ixT [Inhabited α] {r : Rp α} {xs : List α} {i : Int} (ha : DE X B Γ a (rTup r) xs) (hb : DE X B Γ b rInt i) (h : -(xs.length : Int) ≤ i ∧ i < xs.length) (hs : PlainIx b := by intro _ _; rfl) : DE X B Γ (.Subscript a b pos) r (gI xs i) :=
  pe_weak (pe_ix ix_tup ha hb hs) fun σ H Q ⟨F, en, q⟩ => ⟨F, en, fun v F1 H1 e1 ⟨p, us, h1, h2, h3⟩ => ⟨F1, en.ext e1, fun u F2 H2 e2 h4 => by
    obtain ⟨v', q1, q2⟩ := h3.atI (atI_in h)
    exact ⟨p, us, i, v', h1, h4, SqT.of (e2.i _ _ (e2.f _ _ h2)), q1, q v' F2 H2 (e1.trans e2) (r.mono e2.f q2)⟩⟩⟩
theorem c_ixScr (c : XC P w K mg base k N sc vs ls X) {xs : List Int} {i : Int} (ha : DE X B Γ a (rScr K) xs) (hb : DE X B Γ b rInt i) (h : -(xs.length : Int) ≤ i ∧ i < xs.length) (hs : PlainIx b := by intro _ _; rfl) : DE X B Γ (.Subscript a b pos) rInt (gI xs i) :=
  pe_weak (pe_ix ix_list ha hb hs) fun σ H Q ⟨F, en, q⟩ => ⟨F, en, fun v F1 H1 e1 ⟨p, h1, h2⟩ => ⟨F1, en.ext e1, fun u F2 H2 e2 h4 => by
    have hr : Rl (fun v (n : Int) => v = V.int n) (xs.map V.int) xs := Rl.of_map (f := V.int) (fun a => rfl) xs
    obtain ⟨v', q1, q2⟩ := hr.atI (atI_in h)
    exact ⟨p, _, i, v', h1, h4, by rw [c.K]; exact e2.i.seq (e2.f.seq h2), q1, q v' F2 H2 (e1.trans e2) q2⟩⟩⟩
theorem de_ixP0 {r : Rp α} {s : Rp β} {z : α × β} {j p2} (ha : DE X B Γ a (rPair r s) z) : DE X B Γ (.Subscript a (.Constant (.int 0) j p2) pos) r z.1 :=
  pe_weak (pe_ix ix_tup ha pe_int (by intro _ _; rfl)) fun σ H Q ⟨F, en, q⟩ => ⟨F, en, fun v F1 H1 e1 ⟨p, u, u', h1, h2, h3, h4⟩ => ⟨p, [u, u'], 0, u, h1, rfl, SqT.of (e1.i _ _ h2), rfl, q u F1 H1 e1 h3⟩⟩
theorem de_ixP1 {r : Rp α} {s : Rp β} {z : α × β} {j p2} (ha : DE X B Γ a (rPair r s) z) : DE X B Γ (.Subscript a (.Constant (.int 1) j p2) pos) s z.2 :=
  pe_weak (pe_ix ix_tup ha pe_int (by intro _ _; rfl)) fun σ H Q ⟨F, en, q⟩ => ⟨F, en, fun v F1 H1 e1 ⟨p, u, u', h1, h2, h3, h4⟩ => ⟨p, [u, u'], 1, u', h1, rfl, SqT.of (e1.i _ _ h2), rfl, q u' F1 H1 e1 h4⟩⟩
/-! texts -/
theorem okT_append {s t : Txt} (h1 : okT s = true) (h2 : okT t = true) : okT (s ++ t) = true := by unfold okT at *; rw [List.all_append, h1, h2]; rfl
theorem okT_sub {s t : Txt} (h : ∀ c ∈ s, c ∈ t) (h2 : okT t = true) : okT s = true := List.all_eq_true.mpr fun c hc => List.all_eq_true.mp h2 c (h c hc)
theorem tx_len (t : Txt) : (tx t).length = t.length := by show t.toArray.size = _; simp
theorem tx_app (s t : Txt) : tx s ++ tx t = tx (s ++ t) := by
  show (⟨s.toArray ++ t.toArray⟩ : Str) = ⟨(s ++ t).toArray⟩
  congr 1
  simp
theorem de_ixS {t : Txt} {i : Int} (ha : DE X B Γ a rTxt t) (hb : DE X B Γ b rInt i) (h : -(t.length : Int) ≤ i ∧ i < t.length) (hz : t.length ≤ 1000000) (hs : PlainIx b := by intro _ _; rfl) : DE X B Γ (.Subscript a b pos) rTxt [gI t i] :=
  pe_weak (pe_ix ix_str ha hb hs) fun σ H Q ⟨F, en, q⟩ => ⟨F, en, fun v F1 H1 e1 h1 => ⟨F1, en.ext e1, fun u F2 H2 e2 h4 => by
    have q1 := atI_in h
    refine ⟨tx t, i, gI t i, h1.1, h4, ?_, ?_, q _ F2 H2 (e1.trans e2) ⟨rfl, okT_sub (fun c hc => ?_) h1.2⟩⟩
    · rw [tx_len]; exact Nat.le_trans hz (by decide)
    · show atI (t.toArray.toList) i = _; simpa using q1
    · have : c = gI t i := by simpa using hc
      subst this
      obtain ⟨j, _, hj, _⟩ := atI_get q1
      exact List.mem_of_getElem? hj⟩⟩
theorem de_catS {s t : Txt} (ha : DE X B Γ a rTxt s) (hb : DE X B Γ b rTxt t) (hz : s.length + t.length ≤ 1000000) : DE X B Γ (.BinOp a .Add b pos) rTxt (s ++ t) :=
  de_op (ra := rTxt) (rb := rTxt) (rc := rTxt) (x := s) (y := t) op_add_str (fun F H u v sm h1 h2 Q q => ⟨tx s, tx t, h1.1, h2.1, by rw [tx_len, tx_len]; exact Nat.le_trans hz (by decide), by rw [tx_app]; exact q _ F H (Ext.refl sm) ⟨rfl, okT_append h1.2 h2.2⟩⟩) ha hb
theorem tx_inj {s t : Txt} (h : tx s = tx t) : s = t := by
  have h1 : (tx s).cps.toList = (tx t).cps.toList := by rw [h]
  simpa [tx] using h1
theorem dc_eqS {s t : Txt} (ha : DE X B Γ a rTxt s) (hb : DE X B Γ b rTxt t) : DC X B Γ (.Compare a [.Eq] [b] pos) (decide (s = t)) :=
  dc_cmp (ra := rTxt) (rb := rTxt) op_eq (fun F H u v sm h1 h2 Q q => by
    rw [h1.1, h2.1]
    exact ⟨rfl, q _ F H (Ext.refl sm) (by
      show V.bl _ = V.bl _
      congr 1
      by_cases z : s = t
      · subst z; simp
      · have : ¬ V.str (tx s) = V.str (tx t) := fun w => z (tx_inj (V.str.inj w))
        simp [z, this])⟩) (nomark _) ha hb
theorem dc_neS {s t : Txt} (ha : DE X B Γ a rTxt s) (hb : DE X B Γ b rTxt t) : DC X B Γ (.Compare a [.NotEq] [b] pos) (!decide (s = t)) :=
  dc_cmp (ra := rTxt) (rb := rTxt) op_ne (fun F H u v sm h1 h2 Q q => by
    rw [h1.1, h2.1]
    exact ⟨rfl, q _ F H (Ext.refl sm) (by
      show V.bl _ = V.bl _
      congr 1
      by_cases z : s = t
      · subst z; simp
      · have : ¬ V.str (tx s) = V.str (tx t) := fun w => z (tx_inj (V.str.inj w))
        simp [z, this])⟩) (nomark _) ha hb
/-! slices -/
theorem c_slice {r3 : V → Option Int → Option Int → Hp → VK → Prop} {lo hi : Option Expr} {p2 : Pos} {tl th : TO} (hr : SlR X r3) {te : TE} (he : PE X e te) (hl : PO X lo tl) (hu : PO X hi th) : PE X (.Subscript e (.Slice lo hi none p2) pos) (tSl r3 te tl th) := pe_slice hr he hl hu
/-- an end of a slice -/
def tDO (B : Bs) (Γ : Ctx) (o : Option Int) : TO := fun σ H Q => ∃ F, Env B Γ σ F H ∧ ∀ F' H', Ext F H F' H' → Q o H'
abbrev DO (X : Cx) (B : Bs) (Γ : Ctx) (e : Option Expr) (o : Option Int) : Prop := PO X e (tDO B Γ o)
theorem do_none : DO X B Γ none none := ⟨fun pins s σ H Q I ⟨F, en, q⟩ => po_none.run pins s σ H Q I (q F H (Ext.refl en.same))⟩
theorem do_some {i : Int} (h : DE X B Γ e rInt i) : DO X B Γ (some e) (some i) := ⟨fun pins s σ H Q I ⟨F, en, q⟩ => (po_some h).run pins s σ H Q I ⟨F, en, fun v F1 H1 e1 h1 => ⟨i, h1, q F1 H1 e1⟩⟩⟩
theorem dm_sl {r : Rp α} {xs : List α} {lo hi : Option Expr} {l h : Option Int} {p2 : Pos} (he : DE X B Γ e (rList r) xs) (hl : DO X B Γ lo l) (hh : DO X B Γ hi h) : DM X B Γ (.Subscript e (.Slice lo hi none p2) pos) r (cutL xs l h) :=
  pe_weak (pe_slice sl_list he hl hh) fun σ H Q ⟨F, en, q⟩ => ⟨F, en, fun v F1 H1 e1 ⟨p, us, h1, h2, h3⟩ => ⟨F1, en.ext e1, fun F2 H2 e2 => ⟨F2, en.ext (e1.trans e2), fun F3 H3 e3 => by
    have s3 := e2.f.trans e3.f
    refine ⟨p, us, h1, SqL.of (e3.i _ _ (s3 _ _ h2)), fun p' hp' => ?_⟩
    have e4 := Ext.newH e3.i (.lst (cutV us l h)) hp'
    have eA := (e1.trans (e2.trans e3))
    exact q p' _ F3 _ (eA.trans e4) (e3.i.free hp') (eA.h.free hp') upd_same (Rl.imp (fun _ _ => r.mono s3) h3.cut)⟩⟩⟩
theorem tx_cut {t : Txt} {l h : Option Int} : cutS (tx t) l h = tx (cutL t l h) := by
  unfold cutS cutL
  rw [tx_len]
  show (⟨_⟩ : Str) = ⟨_⟩
  have : (tx t).cps.toList = t := by simp [tx]
  rw [this]
theorem de_slS {t : Txt} {lo hi : Option Expr} {l h : Option Int} {p2 : Pos} (he : DE X B Γ e rTxt t) (hl : DO X B Γ lo l) (hh : DO X B Γ hi h) (hz : t.length ≤ 1000000) : DE X B Γ (.Subscript e (.Slice lo hi none p2) pos) rTxt (cutL t l h) :=
  pe_weak (pe_slice sl_str he hl hh) fun σ H Q ⟨F, en, q⟩ => ⟨F, en, fun v F1 H1 e1 h1 => ⟨F1, en.ext e1, fun F2 H2 e2 => ⟨F2, en.ext (e1.trans e2), fun F3 H3 e3 => by
    refine ⟨tx t, h1.1, by rw [tx_len]; exact Nat.le_trans hz (by decide), q _ F3 H3 (e1.trans (e2.trans e3)) ⟨by rw [tx_cut], okT_sub (fun c hc => ?_) h1.2⟩⟩
    exact List.mem_of_mem_drop (List.mem_of_mem_take hc)⟩⟩⟩
/-! lists -/
theorem dm_cat {r : Rp α} {xs ys : List α} (ha : DE X B Γ a (rList r) xs) (hb : DE X B Γ b (rList r) ys) (hz : xs.length + ys.length ≤ 1000000) : DM X B Γ (.BinOp a .Add b pos) r (xs ++ ys) :=
  pe_weak (pe_op op_cat ha hb) fun σ H Q ⟨F, en, q⟩ => ⟨F, en, fun v F1 H1 e1 ⟨p, us, h1, h2, h3⟩ => ⟨F1, en.ext e1, fun v' F2 H2 e2 ⟨p', us', h1', h2', h3'⟩ => by
    refine ⟨p, p', us, us', h1, h1', e2.i _ _ (e2.f _ _ h2), e2.i _ _ h2', by rw [h3.length, h3'.length]; exact Nat.le_trans hz (by decide), fun p3 hp => ?_⟩
    have e3 := Ext.newH e2.i (.lst (us ++ us')) hp
    have eA := e1.trans e2
    exact q p3 _ F2 _ (eA.trans e3) (e2.i.free hp) (eA.h.free hp) upd_same (Rl.append (Rl.imp (fun _ _ => r.mono e2.f) h3) h3')⟩⟩
def repL {α : Type} (n : Int) (xs : List α) : List α := (List.replicate n.toNat xs).flatten
theorem Rl.rep {R : V → α → Prop} {us : List V} {as : List α} (h : Rl R us as) : ∀ n : Nat, Rl R (List.replicate n us).flatten (List.replicate n as).flatten
  | 0 => trivial
  | n + 1 => by rw [List.replicate_succ, List.replicate_succ, List.flatten_cons, List.flatten_cons]; exact Rl.append h (Rl.rep h n)
theorem dm_rev {r : Rp α} {xs : List α} {k : Nat} {p1 p2 p3 : Pos} (he : DE X B Γ e (rList r) xs) : DM X B Γ (.Subscript e (.Slice none none (some (.UnaryOp .USub (.Constant (.int 1) k p1) p2)) p3) pos) r xs.reverse :=
  pe_weak (pe_revL he) fun σ H Q ⟨F, en, q⟩ => ⟨F, en, fun v F1 H1 e1 ⟨p, us, h1, h2, h3⟩ => ⟨p, us, h1, SqL.of (e1.i _ _ h2), fun p' hp' => by
    have e3 := Ext.newH e1.i (.lst us.reverse) hp'
    exact q p' _ F1 _ (e1.trans e3) (e1.i.free hp') (e1.h.free hp') upd_same h3.reverse⟩⟩
/-- f(e), f a built-in function of one argument -/
theorem c_bi1 (c : XC P w K mg base k N sc vs ls X) {id : String} {r1 : List V → Hp → VK → Prop} {ra : Rp α} {y : α} (hc : CallR X (.builtin id) r1) (hm : mg x = none) (hv : bootBuiltins x = some (.builtin id)) (ha : DE X B Γ e ra y)
    {t : TE} (hr : ∀ σ H Q, t σ H Q → tCB r1 (tCons (tD B Γ ra y) tNil) σ H Q) (hg : glB sc x = true) (hn : x ≠ "__name__") (hdb : (x == ("__debug__" : Str)) = false) (he : starEach [e] X.env = [(false, eval e X.env)]) : PE X (.Call (.Name x p) [e] [] pos) t :=
  pe_weak (pe_callB hc (gl_of c.sc hg) (by rw [c.mg]; exact hm) hv (pa_cons ha pa_nil he) hn hdb he (by rfl)) hr
theorem c_len (c : XC P w K mg base k N sc vs ls X) {r : Rp α} {xs : List α} (ha : DE X B Γ e (rList r) xs) (hm : mg "len" = none) (hg : glB sc "len" = true := by decide +kernel) (he : starEach [e] X.env = [(false, eval e X.env)] := by rfl) : DE X B Γ (.Call (.Name "len" p) [e] [] pos) rInt (xs.length : Int) :=
  c_bi1 c call_len_seq hm PySem.boot_len ha (fun σ H Q ⟨F, en, q⟩ => ⟨F, en, fun v F1 H1 e1 ⟨p, us, h1, h2, h3⟩ => ⟨p, us, by rw [h1], .inl (SqL.of (e1.i _ _ h2)), q _ F1 H1 e1 (by rw [h3.length]; rfl)⟩⟩) hg (by decide) (by decide) he
theorem c_lenT (c : XC P w K mg base k N sc vs ls X) {r : Rp α} {xs : List α} (ha : DE X B Γ e (rTup r) xs) (hm : mg "len" = none) (hg : glB sc "len" = true := by decide +kernel) (he : starEach [e] X.env = [(false, eval e X.env)] := by rfl) : DE X B Γ (.Call (.Name "len" p) [e] [] pos) rInt (xs.length : Int) :=
  c_bi1 c call_len_seq hm PySem.boot_len ha (fun σ H Q ⟨F, en, q⟩ => ⟨F, en, fun v F1 H1 e1 ⟨p, us, h1, h2, h3⟩ => ⟨p, us, by rw [h1], .inr (SqT.of (e1.i _ _ h2)), q _ F1 H1 e1 (by rw [h3.length]; rfl)⟩⟩) hg (by decide) (by decide) he
theorem c_lenScr (c : XC P w K mg base k N sc vs ls X) {xs : List Int} (ha : DE X B Γ e (rScr K) xs) (hm : mg "len" = none) (hg : glB sc "len" = true := by decide +kernel) (he : starEach [e] X.env = [(false, eval e X.env)] := by rfl) : DE X B Γ (.Call (.Name "len" p) [e] [] pos) rInt (xs.length : Int) :=
  c_bi1 c call_len_seq hm PySem.boot_len ha (fun σ H Q ⟨F, en, q⟩ => ⟨F, en, fun v F1 H1 e1 ⟨p, h1, h2⟩ => ⟨p, _, by rw [h1], .inl (by rw [c.K]; exact e1.i.seq h2), q _ F1 H1 e1 (by simp; rfl)⟩⟩) hg (by decide) (by decide) he
theorem c_lenS (c : XC P w K mg base k N sc vs ls X) {t : Txt} (ha : DE X B Γ e rTxt t) (hm : mg "len" = none) (hz : t.length ≤ 1000000) (hg : glB sc "len" = true := by decide +kernel) (he : starEach [e] X.env = [(false, eval e X.env)] := by rfl) : DE X B Γ (.Call (.Name "len" p) [e] [] pos) rInt (t.length : Int) :=
  c_bi1 c call_len hm PySem.boot_len ha (fun σ H Q ⟨F, en, q⟩ => ⟨F, en, fun v F1 H1 e1 h1 => ⟨v, t.length, rfl, by rw [h1.1]; exact ⟨by rw [tx_len]; exact Nat.le_trans hz (by decide), by rw [tx_len]⟩, q _ F1 H1 e1 rfl⟩⟩) hg (by decide) (by decide) he
theorem boot_abs' : bootBuiltins "abs" = some (.builtin "abs") := by decide +kernel
theorem c_abs (c : XC P w K mg base k N sc vs ls X) {i : Int} (ha : DE X B Γ e rInt i) (hm : mg "abs" = none) (hg : glB sc "abs" = true := by decide +kernel) (he : starEach [e] X.env = [(false, eval e X.env)] := by rfl) : DE X B Γ (.Call (.Name "abs" p) [e] [] pos) rInt (if i < 0 then -i else i) :=
  c_bi1 c call_abs hm boot_abs' ha (fun σ H Q ⟨F, en, q⟩ => ⟨F, en, fun v F1 H1 e1 h1 => ⟨i, by rw [show v = V.int i from h1], q _ F1 H1 e1 rfl⟩⟩) hg (by decide) (by decide) he
/-- T(e), T a built-in type -/
theorem c_ty1 (c : XC P w K mg base k N sc vs ls X) {T : String} {r1 : List V → Hp → VK → Prop} {ra : Rp α} {y : α} (hc : CallR X (.type T) r1) (hm : mg x = none) (hv : bootBuiltins x = some (.type T)) (ha : DE X B Γ e ra y)
    {t : TE} (hr : ∀ σ H Q, t σ H Q → tCB r1 (tCons (tD B Γ ra y) tNil) σ H Q) (hg : glB sc x = true) (hn : x ≠ "__name__") (hdb : (x == ("__debug__" : Str)) = false) (he : starEach [e] X.env = [(false, eval e X.env)]) : PE X (.Call (.Name x p) [e] [] pos) t :=
  pe_weak (pe_callTy hc (gl_of c.sc hg) (by rw [c.mg]; exact hm) hv (pa_cons ha pa_nil he) hn hdb he (by rfl)) hr
theorem boot_list' : bootBuiltins "list" = some (.type "list") := by decide +kernel
theorem boot_int' : bootBuiltins "int" = some (.type "int") := by decide +kernel
theorem c_list (c : XC P w K mg base k N sc vs ls X) {r : Rp α} {xs : List α} (ha : DE X B Γ e (rList r) xs) (hm : mg "list" = none) (hg : glB sc "list" = true := by decide +kernel) (he : starEach [e] X.env = [(false, eval e X.env)] := by rfl) : DM X B Γ (.Call (.Name "list" p) [e] [] pos) r xs :=
  c_ty1 c call_list_of hm boot_list' ha (fun σ H Q ⟨F, en, q⟩ => ⟨F, en, fun v F1 H1 e1 ⟨p, us, h1, h2, h3⟩ => ⟨p, us, by rw [h1], .inl (SqL.of (e1.i _ _ h2)), fun l hl =>
    have e3 := Ext.newH e1.i (.lst us) hl
    q l us F1 _ (e1.trans e3) (e1.i.free hl) (e1.h.free hl) upd_same h3⟩⟩) hg (by decide) (by decide) he
theorem c_intB (c : XC P w K mg base k N sc vs ls X) {z : Bool} (ha : DE X B Γ e rBool z) (hm : mg "int" = none) (hg : glB sc "int" = true := by decide +kernel) (he : starEach [e] X.env = [(false, eval e X.env)] := by rfl) : DE X B Γ (.Call (.Name "int" p) [e] [] pos) rInt (if z = true then 1 else 0) :=
  c_ty1 c call_int1 hm boot_int' ha (fun σ H Q ⟨F, en, q⟩ => ⟨F, en, fun v F1 H1 e1 h1 => .inr ⟨z, by rw [show v = V.bl z from h1], q _ F1 H1 e1 rfl⟩⟩) hg (by decide) (by decide) he
theorem c_max2 (c : XC P w K mg base k N sc vs ls X) {i j : Int} (ha : DE X B Γ a rInt i) (hb : DE X B Γ b rInt j) (hm : mg "max" = none) (hg : glB sc "max" = true := by decide +kernel) (hs : starEach [a, b] X.env = (false, eval a X.env) :: starEach [b] X.env := by rfl) (hs2 : starEach [b] X.env = [(false, eval b X.env)] := by rfl)
    (hpl : (backTo pos (starEach [b] X.env)).any (·.1) = false := by rfl) : DE X B Γ (.Call (.Name "max" p) [a, b] [] pos) rInt (max i j) :=
  pe_weak (pe_callB (call_max2 c.calm) (gl_of c.sc hg) (by rw [c.mg]; exact hm) (by decide +kernel) (da_cons ha (da_cons hb da_nil hs2) hs) (by decide) (by decide) hs hpl) fun σ H Q ⟨F, en, q⟩ => ⟨F, en, fun us F1 H1 e1 h1 => by
    obtain ⟨u, v, rfl, h2, h3⟩ := h1.two
    refine ⟨i, j, by rw [show u = V.int i from h2, show v = V.int j from h3], q _ F1 H1 e1 ?_⟩
    show V.int _ = V.int _
    congr 1
    split <;> omega⟩
theorem c_min2 (c : XC P w K mg base k N sc vs ls X) {i j : Int} (ha : DE X B Γ a rInt i) (hb : DE X B Γ b rInt j) (hm : mg "min" = none) (hg : glB sc "min" = true := by decide +kernel) (hs : starEach [a, b] X.env = (false, eval a X.env) :: starEach [b] X.env := by rfl) (hs2 : starEach [b] X.env = [(false, eval b X.env)] := by rfl)
    (hpl : (backTo pos (starEach [b] X.env)).any (·.1) = false := by rfl) : DE X B Γ (.Call (.Name "min" p) [a, b] [] pos) rInt (min i j) :=
  pe_weak (pe_callB (call_min2 c.calm) (gl_of c.sc hg) (by rw [c.mg]; exact hm) (by decide +kernel) (da_cons ha (da_cons hb da_nil hs2) hs) (by decide) (by decide) hs hpl) fun σ H Q ⟨F, en, q⟩ => ⟨F, en, fun us F1 H1 e1 h1 => by
    obtain ⟨u, v, rfl, h2, h3⟩ := h1.two
    refine ⟨i, j, by rw [show u = V.int i from h2, show v = V.int j from h3], q _ F1 H1 e1 ?_⟩
    show V.int _ = V.int _
    congr 1
    split <;> omega⟩
theorem rl_bl {us : List V} {bs : List Bool} (h : Rl (fun v a => v = V.bl a) us bs) : us = bs.map V.bl := Rl.map_eq (fun _ _ z => z) h
theorem rl_int {us : List V} {bs : List Int} (h : Rl (fun v a => v = V.int a) us bs) : us = bs.map V.int := Rl.map_eq (fun _ _ z => z) h
theorem rl_str {us : List V} {bs : List Txt} {F : Hp} (h : Rl (rTxt.rel F) us bs) : us = (bs.map tx).map V.str := by
  rw [List.map_map]
  exact Rl.map_eq (fun _ _ z => z.1) h
theorem c_all (c : XC P w K mg base k N sc vs ls X) {xs : List Bool} (ha : DE X B Γ e (rList rBool) xs) (hm : mg "all" = none) (hg : glB sc "all" = true := by decide +kernel) (he : starEach [e] X.env = [(false, eval e X.env)] := by rfl) : DE X B Γ (.Call (.Name "all" p) [e] [] pos) rBool (xs.all id) :=
  c_bi1 c (cr_all c.calm) hm (by decide +kernel) ha (fun σ H Q ⟨F, en, q⟩ => ⟨F, en, fun v F1 H1 e1 ⟨p, us, h1, h2, h3⟩ => ⟨p, xs, by rw [h1], by rw [← rl_bl h3]; exact SqL.of (e1.i _ _ h2), q _ F1 H1 e1 rfl⟩⟩) hg (by decide) (by decide) he
theorem c_any (c : XC P w K mg base k N sc vs ls X) {xs : List Bool} (ha : DE X B Γ e (rList rBool) xs) (hm : mg "any" = none) (hg : glB sc "any" = true := by decide +kernel) (he : starEach [e] X.env = [(false, eval e X.env)] := by rfl) : DE X B Γ (.Call (.Name "any" p) [e] [] pos) rBool (xs.any id) :=
  c_bi1 c (cr_any c.calm) hm (by decide +kernel) ha (fun σ H Q ⟨F, en, q⟩ => ⟨F, en, fun v F1 H1 e1 ⟨p, us, h1, h2, h3⟩ => ⟨p, xs, by rw [h1], by rw [← rl_bl h3]; exact SqL.of (e1.i _ _ h2), q _ F1 H1 e1 rfl⟩⟩) hg (by decide) (by decide) he
theorem c_sum (c : XC P w K mg base k N sc vs ls X) {xs : List Int} (ha : DE X B Γ e (rList rInt) xs) (hm : mg "sum" = none) (hg : glB sc "sum" = true := by decide +kernel) (he : starEach [e] X.env = [(false, eval e X.env)] := by rfl) : DE X B Γ (.Call (.Name "sum" p) [e] [] pos) rInt xs.sum :=
  c_bi1 c (cr_sum c.calm) hm (by decide +kernel) ha (fun σ H Q ⟨F, en, q⟩ => ⟨F, en, fun v F1 H1 e1 ⟨p, us, h1, h2, h3⟩ => ⟨p, xs, by rw [h1], by rw [← rl_int h3]; exact SqL.of (e1.i _ _ h2), q _ F1 H1 e1 rfl⟩⟩) hg (by decide) (by decide) he
/-! order of lists of whole numbers -/
def ltL : List Int → List Int → Bool
  | _, [] => false
  | [], _ :: _ => true
  | x :: xs, y :: ys => if x = y then ltL xs ys else decide (x < y)
theorem firstLt_ltL (xs ys : List Int) : ∀ (n i : Nat), min xs.length ys.length = i + n → SeqAt.firstLt (fun j => decide (xs.getD j 0 = ys.getD j 0)) (fun j => decide (xs.getD j 0 < ys.getD j 0)) (decide (xs.length < ys.length)) ((List.range n).map (i + ·)) = ltL (xs.drop i) (ys.drop i)
  | 0, i, h => by
    show decide (xs.length < ys.length) = _
    by_cases hx : xs.length ≤ i
    · rw [List.drop_eq_nil_of_le hx]
      by_cases hy : ys.length ≤ i
      · rw [List.drop_eq_nil_of_le hy]
        show _ = false
        exact decide_eq_false (by omega)
      · rw [List.drop_eq_getElem_cons (by omega)]
        show _ = true
        exact decide_eq_true (by omega)
    · have hy : ys.length ≤ i := by omega
      rw [List.drop_eq_nil_of_le hy]
      have : ltL (xs.drop i) [] = false := by cases xs.drop i <;> rfl
      rw [this]
      exact decide_eq_false (by omega)
  | n + 1, i, h => by
    have hx : i < xs.length := by omega
    have hy : i < ys.length := by omega
    rw [List.drop_eq_getElem_cons hx, List.drop_eq_getElem_cons hy]
    have e : (List.range (n + 1)).map (i + ·) = i :: (List.range n).map (i + 1 + ·) := by
      rw [List.range_succ_eq_map, List.map_cons, List.map_map]
      congr 1
      refine List.map_congr_left fun a _ => ?_
      show i + (a + 1) = i + 1 + a
      omega
    rw [e]
    have gx : xs.getD i 0 = xs[i] := by simp [List.getD, hx]
    have gy : ys.getD i 0 = ys[i] := by simp [List.getD, hy]
    show (if (decide (xs.getD i 0 = ys.getD i 0)) = true then _ else decide (xs.getD i 0 < ys.getD i 0)) = (if xs[i] = ys[i] then _ else _)
    rw [gx, gy]
    by_cases q : xs[i] = ys[i]
    · rw [if_pos (decide_eq_true q), if_pos q]
      exact firstLt_ltL xs ys n (i + 1) (by omega)
    · rw [if_neg (by rw [decide_eq_false q]; decide), if_neg q]
theorem firstGt_ltL (xs ys : List Int) : SeqAt.firstLt (fun j => decide (xs.getD j 0 = ys.getD j 0)) (fun j => decide (ys.getD j 0 < xs.getD j 0)) (decide (ys.length < xs.length)) (List.range (min xs.length ys.length)) = ltL ys xs := by
  have h := firstLt_ltL ys xs (min xs.length ys.length) 0 (by omega)
  simp only [Nat.zero_add, List.map_id', List.drop_zero] at h
  rw [← h]
  congr 1
  funext j
  exact decide_eq_decide.mpr ⟨Eq.symm, Eq.symm⟩
theorem firstLt_ltL0 (xs ys : List Int) : SeqAt.firstLt (fun j => decide (xs.getD j 0 = ys.getD j 0)) (fun j => decide (xs.getD j 0 < ys.getD j 0)) (decide (xs.length < ys.length)) (List.range (min xs.length ys.length)) = ltL xs ys := by
  have h := firstLt_ltL xs ys (min xs.length ys.length) 0 (by omega)
  simpa only [Nat.zero_add, List.map_id', List.drop_zero] using h
def rCmpL (K : PySem.W.Frag) (f : List Int → List Int → Bool) : R2 := fun x y H Q => ∃ (a b : Addr) (ns ms : List Int), x = .ref a ∧ y = .ref b ∧ SqL K H a (ns.map V.int) ∧ SqL K H b (ms.map V.int) ∧ Q (.bl (f ns ms)) H
theorem op_ltL (hu : X.A.units < cLine) : OpR X (compareOp .Lt) (rCmpL X.K ltL) := by
  intro pins s σ H x y v u Q I rx ry h
  obtain ⟨a, b, ns, ms, rfl, rfl, ha, hb, q⟩ := h
  cases rx
  cases ry
  obtain ⟨its, r1, p1, _⟩ := I.list ha
  obtain ⟨its2, r2, p2, _⟩ := I.list hb
  have i1 : IntsAre its ns := Vals.ints r1
  have i2 : IntsAre its2 ms := Vals.ints r2
  have e1 : its.toArray.size = ns.length := by rw [List.size_toArray]; exact i1.length
  have e2 : its2.toArray.size = ms.length := by rw [List.size_toArray]; exact i2.length
  have at1 : ∀ j (h1 : j < its.toArray.size), ∃ t, its.toArray[j] = .int (ns.getD j 0) t := fun j h1 => PyProof.Rows.IntsAre.int_at i1 _ _ (by simp at h1; simp [h1])
  have at2 : ∀ j (h1 : j < its2.toArray.size), ∃ t, its2.toArray[j] = .int (ms.getD j 0) t := fun j h1 => PyProof.Rows.IntsAre.int_at i2 _ _ (by simp at h1; simp [h1])
  have R := SeqAt.RcLt.lists (A := X.A) (s := s) (e := fun j => decide (ns.getD j 0 = ms.getD j 0)) (r := fun j => decide (ns.getD j 0 < ms.getD j 0)) p1.isList p2.isList hu (fun j h1 h2 => by
    obtain ⟨t, et⟩ := at1 j h1
    obtain ⟨t', et'⟩ := at2 j h2
    rw [et, et']
    have z : (ns.getD j 0 == ms.getD j 0) = decide (ns.getD j 0 = ms.getD j 0) := by
      by_cases q : ns.getD j 0 = ms.getD j 0
      · rw [decide_eq_true q]; exact beq_iff_eq.mpr q
      · rw [decide_eq_false q]; exact beq_eq_false_iff_ne.mpr q
    rw [← z]
    exact SeqAt.EqAt.int_int _ _ _ _) (fun j h1 h2 _ => by
    obtain ⟨t, et⟩ := at1 j h1
    obtain ⟨t', et'⟩ := at2 j h2
    rw [et, et']
    exact fun _ _ _ _ h => PyProof.Rows.lt_int h)
  rw [e1, e2, firstLt_ltL0] at R
  have z : wpAny (model X.prog X.w) X.A (compareOp .Lt (.ref a) (.ref b)) (EP X pins σ Q) X.xe s := R X.prog X.w X.xe (EP X pins σ Q) ⟨.bl _, H, I, rfl, q⟩
  exact z
theorem op_gtL (hu : X.A.units < cLine) : OpR X (compareOp .Gt) (rCmpL X.K fun xs ys => ltL ys xs) := by
  intro pins s σ H x y v u Q I rx ry h
  obtain ⟨a, b, ns, ms, rfl, rfl, ha, hb, q⟩ := h
  cases rx
  cases ry
  obtain ⟨its, r1, p1, _⟩ := I.list ha
  obtain ⟨its2, r2, p2, _⟩ := I.list hb
  have i1 : IntsAre its ns := Vals.ints r1
  have i2 : IntsAre its2 ms := Vals.ints r2
  have e1 : its.toArray.size = ns.length := by rw [List.size_toArray]; exact i1.length
  have e2 : its2.toArray.size = ms.length := by rw [List.size_toArray]; exact i2.length
  have at1 : ∀ j (h1 : j < its.toArray.size), ∃ t, its.toArray[j] = .int (ns.getD j 0) t := fun j h1 => PyProof.Rows.IntsAre.int_at i1 _ _ (by simp at h1; simp [h1])
  have at2 : ∀ j (h1 : j < its2.toArray.size), ∃ t, its2.toArray[j] = .int (ms.getD j 0) t := fun j h1 => PyProof.Rows.IntsAre.int_at i2 _ _ (by simp at h1; simp [h1])
  have R := SeqAt.RcOp.lists_gt (A := X.A) (s := s) (e := fun j => decide (ns.getD j 0 = ms.getD j 0)) (r := fun j => decide (ms.getD j 0 < ns.getD j 0)) p1.isList p2.isList hu (fun j h1 h2 => by
    obtain ⟨t, et⟩ := at1 j h1
    obtain ⟨t', et'⟩ := at2 j h2
    rw [et, et']
    have z : (ns.getD j 0 == ms.getD j 0) = decide (ns.getD j 0 = ms.getD j 0) := by
      by_cases q : ns.getD j 0 = ms.getD j 0
      · rw [decide_eq_true q]; exact beq_iff_eq.mpr q
      · rw [decide_eq_false q]; exact beq_eq_false_iff_ne.mpr q
    rw [← z]
    exact SeqAt.EqAt.int_int _ _ _ _) (fun j h1 h2 _ => by
    obtain ⟨t, et⟩ := at1 j h1
    obtain ⟨t', et'⟩ := at2 j h2
    rw [et, et']
    exact fun _ _ _ _ h => PyProof.Rows.gt_int h)
  rw [e1, e2] at R
  have z : wpAny (model X.prog X.w) X.A (compareOp .Gt (.ref a) (.ref b)) (EP X pins σ Q) X.xe s := R X.prog X.w X.xe (EP X pins σ Q) ⟨.bl _, H, I, rfl, by
    have := firstGt_ltL ns ms
    rw [show (decide (ns.length > ms.length)) = decide (ms.length < ns.length) from rfl, this]
    exact q⟩
  exact z
theorem c_ltL (c : XC P w K mg base k N sc vs ls X) {xs ys : List Int} (ha : DE X B Γ a (rList rInt) xs) (hb : DE X B Γ b (rList rInt) ys) : DC X B Γ (.Compare a [.Lt] [b] pos) (ltL xs ys) :=
  dc_cmp (ra := rList rInt) (rb := rList rInt) (op_ltL c.room.units0) (fun F H u v s ⟨p, us, h1, h2, h3⟩ ⟨p', us', h1', h2', h3'⟩ Q q => ⟨p, p', xs, ys, h1, h1', by rw [← rl_int h3]; exact SqL.of (s _ _ h2), by rw [← rl_int h3']; exact SqL.of (s _ _ h2'), q _ F H (Ext.refl s) rfl⟩) (nomark _) ha hb
theorem c_gtL (c : XC P w K mg base k N sc vs ls X) {xs ys : List Int} (ha : DE X B Γ a (rList rInt) xs) (hb : DE X B Γ b (rList rInt) ys) : DC X B Γ (.Compare a [.Gt] [b] pos) (ltL ys xs) :=
  dc_cmp (ra := rList rInt) (rb := rList rInt) (op_gtL c.room.units0) (fun F H u v s ⟨p, us, h1, h2, h3⟩ ⟨p', us', h1', h2', h3'⟩ Q q => ⟨p, p', xs, ys, h1, h1', by rw [← rl_int h3]; exact SqL.of (s _ _ h2), by rw [← rl_int h3']; exact SqL.of (s _ _ h2'), q _ F H (Ext.refl s) rfl⟩) (nomark _) ha hb
end
end DL
namespace DL
open PySem L2 PySem.Spec PyProof.Rows

/-! ### instances -/
def rObj {α : Type} (cls : α → Addr) (names : List Str) (flds : α → Ctx) : Rp α :=
  ⟨fun F v a => ∃ (x dx : Addr) (fs : List (Str × V)), v = .ref x ∧ F x = some (.ins (cls a) dx fs) ∧ fs.map Prod.fst = names ∧ SlsOk F (fs.map Prod.snd) (flds a),
   fun e ⟨x, dx, fs, h1, h2, h3, h4⟩ => ⟨x, dx, fs, h1, e _ _ h2, h3, SlsOk.mono e h4⟩⟩
/-- an instance in the making: at x, its own dict at dx -/
def oObj (C : Addr) (names : List Str) (sls : Ctx) : Own (Addr × Addr) :=
  ⟨fun F H v a fp => v = .ref a.1 ∧ fp = (fun b => b = a.1) ∧ ∃ fs : List (Str × V), H a.1 = some (.ins C a.2 fs) ∧ fs.map Prod.fst = names ∧ SlsOk F (fs.map Prod.snd) sls,
   fun {F F' H H' v a fp} e k ⟨h1, h2, fs, h3, h4, h5⟩ => ⟨h1, h2, fs, by rw [k a.1 (by rw [h2])]; exact h3, h4, SlsOk.mono e h5⟩⟩
theorem look_at : ∀ {fs : List (Str × V)} {names : List Str} {i : Nat} {f : Str}, fs.map Prod.fst = names → names[i]? = some f → (names.take i).contains f = false → ∃ v, (fs.map Prod.snd)[i]? = some v ∧ fs.lookup f = some v
  | [], names, i, f, h1, h2, _ => by subst h1; simp at h2
  | (g, v) :: fs, names, 0, f, h1, h2, _ => by
    subst h1
    have e : g = f := by simpa using h2
    subst e
    exact ⟨v, rfl, by simp [List.lookup]⟩
  | (g, v) :: fs, names, i + 1, f, h1, h2, h3 => by
    subst h1
    simp only [List.map_cons, List.take_succ_cons, List.contains_cons, Bool.or_eq_false_iff] at h3
    obtain ⟨u, q1, q2⟩ := look_at (fs := fs) (i := i) (f := f) rfl (by simpa using h2) h3.2
    refine ⟨u, by simpa using q1, ?_⟩
    rw [List.lookup_cons, h3.1]
    exact q2
theorem look_no : ∀ {fs : List (Str × V)} {names : List Str} {f : Str}, fs.map Prod.fst = names → names.contains f = false → fs.lookup f = none
  | [], _, _, _, _ => rfl
  | (g, v) :: fs, names, f, h1, h3 => by
    subst h1
    simp only [List.map_cons, List.contains_cons, Bool.or_eq_false_iff] at h3
    rw [List.lookup_cons, h3.1]
    exact look_no (fs := fs) rfl h3.2
theorem putF_new : ∀ {fs : List (Str × V)} {names : List Str} {f : Str} {v : V}, fs.map Prod.fst = names → names.contains f = false → putF f v fs = fs ++ [(f, v)]
  | [], _, _, _, _, _ => rfl
  | (g, u) :: fs, names, f, v, h1, h3 => by
    subst h1
    simp only [List.map_cons, List.contains_cons, Bool.or_eq_false_iff] at h3
    have ne : ¬ g = f := fun z => by rw [z] at h3; simp at h3
    show (if g = f then _ else _) = _
    rw [if_neg ne, putF_new (fs := fs) rfl h3.2]
    rfl
theorem slsOk_app {F : Hp} : ∀ {us ws : List V} {Δ Θ : Ctx}, SlsOk F us Δ → SlsOk F ws Θ → SlsOk F (us ++ ws) (Δ ++ Θ)
  | [], _, [], _, _, y => y
  | v :: us, ws, s :: Δ, Θ, x, y => ⟨x.1, slsOk_app x.2 y⟩
  | [], _, _ :: _, _, x, _ => x.elim
  | _ :: _, _, [], _, x, _ => x.elim
/-- what a class must have -/
def FMe (P : Program) (w : World) (K : PySem.W.Frag) (mg : Str → Option Value) (base : Heap) (j : Nat) (C : Addr) (m : Str) (ps : List Str) (sp : Sp) : Prop :=
  ∃ fa fd, FnOk P w K mg base CX0 j fa fd ps sp ∧ Meth K C m fa ∧ Binds K fd ps [] ∧ Cls K C
def FMk (P : Program) (w : World) (K : PySem.W.Frag) (mg : Str → Option Value) (base : Heap) (j : Nat) (x : Str) (C : Addr) (ps : List Str) (sp : Sp) : Prop :=
  ∃ fa fd, FnOk P w K mg base CX0 j fa fd ps sp ∧ mg x = some (.ref C) ∧ Mk K C fa ∧ Binds K fd ps []
/-- __init__ of the class at C -/
def SpI {ι : Type} (C : Addr) (args : ι → Ctx) (pre : ι → Prop) (names : List Str) (flds : ι → Ctx) : Sp := fun vs H Q _ => ∃ F i x dx us, vs = .ref x :: us ∧ Same F H ∧ F x = none ∧ H x = some (.ins C dx []) ∧ SlsOk F us (args i) ∧ pre i ∧
  ∀ (F' H' : Hp) (fs : List (Str × V)), Same F F' → (∀ b o, b ≠ x → H b = some o → H' b = some o) → Same F' H' → F' x = none → (∀ b, F b = none → H b ≠ none → F' b = none) → H' x = some (.ins C dx fs) → fs.map Prod.fst = names → SlsOk F' (fs.map Prod.snd) (flds i) → Q .non H'
/-- the facts of a class for isinstance -/
structure ClsI (K : PySem.W.Frag) (C : Addr) : Prop where
  cl : Cls K C
  ha : PySem.W.findIn K (.ref C) "__class__" = some (some (.builtin "object.__class__"))
  hn : PySem.W.specialIn K (.builtin "object.__class__") "__get__" = some (some (.builtin "getset_descriptor.__get__"))
  htk : PySem.W.takesIn K (.builtin "object.__class__") = some true
  hm : PySem.W.mroIn K C (.type "object") = some true
section
variable {P : Program} {w : World} {K : PySem.W.Frag} {mg : Str → Option Value} {base : Heap} {k j : Nat} {N : List Str} {sc : Scope} {vs ls : List Nat} {X : Cx} {α β γ ι ρ : Type} {B : Bs} {Γ Γ' : Ctx} {e a b : Expr} {es : List Expr} {D : Ends} {rest ss : List Stmt} {p pos apos : Pos} {x f m : Str} {cls : α → Addr} {names : List Str} {flds : α → Ctx} {ps : List Str}
theorem c_fld (c : XC P w K mg base k N sc vs ls X) (i : Nat) {o : α} {r : Rp β} {v : β} (he : DE X B Γ e (rObj cls names flds) o) (ha : At (flds o) i (.val r v)) (hc : Cls K (cls o)) (hn : NoAttr K (cls o) f) (h1 : names[i]? = some f := by rfl) (h2 : (names.take i).contains f = false := by decide +kernel)
    (hb : attributeBase e f X.env (eval e X.env) = eval e X.env := by rfl) : DE X B Γ (.Attribute e f pos) r v :=
  pe_weak (pe_fld he hb) fun σ H Q ⟨F, en, q⟩ => ⟨F, en, fun u F1 H1 e1 ⟨y, dx, fs, g1, g2, g3, g4⟩ => by
    obtain ⟨z, q1, q2⟩ := look_at g3 h1 h2
    obtain ⟨z', q3, q4⟩ := g4.at_ ha.get
    have ez : z' = z := Option.some.inj (q3.symm.trans q1)
    subst ez
    exact ⟨y, cls o, dx, fs, z', g1, e1.i _ _ g2, by rw [c.K]; exact hc, by rw [c.K]; exact hn, q2, q z' F1 H1 e1 q4⟩⟩
/-- o.m(e, ..) -/
theorem c_meth (c : XC P w K mg base k N sc vs ls X) {pl : Sem Bool} {o : α} {rr : Rp ρ} {args : ι → Ctx} {pre : ι → Prop} {fn : ι → ρ} {Δ : Ctx} (i : ι) (h : FMe P w K mg base j (cls o) m ps (SpF args pre rr fn)) (he : DE X B Γ e (rObj cls names flds) o)
    (hΔ : args i = .val (rObj cls names flds) o :: Δ) (ha : DA X B Γ (a :: es) Δ) (hp : pre i) (hj : j ≤ k := by decide) (hnm : names.contains m = false := by decide +kernel)
    (hst : starEach (a :: es) X.env = (false, eval a X.env) :: starEach es X.env := by rfl) (hpl : (backTo pos (starEach es X.env)).any Prod.fst = false := by rfl)
    (ht : eval (.Call (.Attribute e m apos) (a :: es) [] pos) X.env = (do
      let ov ← eval e X.env
      standAt apos.atName
      let (f, first) ← holding [ov] (getMethod ov m pl)
      callWith pos f first (backTo pos (starEach (a :: es) X.env)) (backToKw pos (keywordEach [] X.env))) := by rfl) : DE X B Γ (.Call (.Attribute e m apos) (a :: es) [] pos) rr (fn i) := by
  obtain ⟨fa, fd, G, h1, h2, h3⟩ := h
  have G' : FnOk X.prog X.w X.K X.mg X.base CX0 j fa fd ps (SpF args pre rr fn) := by rw [c.p, c.w, c.K, c.mg, c.b]; exact G
  refine pe_weak (pe_meth (pl := pl) he (by rw [c.K]; exact h3) (by rw [c.K]; exact h1) G' (c.room.mono hj) (by rw [c.K]; exact h2) .nil pass0 ha hst hpl ht) fun σ H Q ⟨F, en, q⟩ => ⟨F, en, fun u F1 H1 e1 h4 => ?_⟩
  obtain ⟨y, dx, fs, g1, g2, g3, g4⟩ := id h4
  refine ⟨y, dx, fs, g1, e1.i _ _ g2, look_no g3 hnm, F1, en.ext e1, fun us F2 H2 e2 h5 => ?_⟩
  show SpF args pre rr fn (u :: (us ++ [])) H2 Q E0
  rw [List.append_nil]
  exact ⟨F2, i, e2.i, by rw [hΔ]; exact ⟨(rObj cls names flds).mono e2.f h4, h5⟩, hp, fun v F3 H3 e3 h6 => q v F3 H3 (e1.trans (e2.trans e3)) h6⟩
/-- o.m() -/
theorem c_meth0 (c : XC P w K mg base k N sc vs ls X) {pl : Sem Bool} {o : α} {rr : Rp ρ} {args : ι → Ctx} {pre : ι → Prop} {fn : ι → ρ} (i : ι) (h : FMe P w K mg base j (cls o) m ps (SpF args pre rr fn)) (he : DE X B Γ e (rObj cls names flds) o)
    (hΔ : args i = [.val (rObj cls names flds) o]) (hp : pre i) (hj : j ≤ k := by decide) (hnm : names.contains m = false := by decide +kernel)
    (ht : eval (.Call (.Attribute e m apos) [] [] pos) X.env = (do
      let ov ← eval e X.env
      standAt apos.atName
      let (f, first) ← holding [ov] (getMethod ov m pl)
      callWith pos f first (backTo pos (starEach [] X.env)) (backToKw pos (keywordEach [] X.env))) := by rfl) : DE X B Γ (.Call (.Attribute e m apos) [] [] pos) rr (fn i) := by
  obtain ⟨fa, fd, G, h1, h2, h3⟩ := h
  have G' : FnOk X.prog X.w X.K X.mg X.base CX0 j fa fd ps (SpF args pre rr fn) := by rw [c.p, c.w, c.K, c.mg, c.b]; exact G
  refine pe_weak (pe_meth0 (pl := pl) he (by rw [c.K]; exact h3) (by rw [c.K]; exact h1) G' (c.room.mono hj) (by rw [c.K]; exact h2) .nil pass0 ht) fun σ H Q ⟨F, en, q⟩ => ⟨F, en, fun u F1 H1 e1 h4 => ?_⟩
  obtain ⟨y, dx, fs, g1, g2, g3, g4⟩ := id h4
  refine ⟨y, dx, fs, g1, e1.i _ _ g2, look_no g3 hnm, ?_⟩
  show SpF args pre rr fn (u :: ([] ++ [])) H1 Q E0
  exact ⟨F1, i, e1.i, by rw [hΔ]; exact ⟨h4, trivial⟩, hp, fun v F3 H3 e3 h6 => q v F3 H3 (e1.trans e3) h6⟩
theorem c_methM0 (c : XC P w K mg base k N sc vs ls X) {pl : Sem Bool} {o : α} {r : Rp ρ} {args : ι → Ctx} {pre : ι → Prop} {fn : ι → List ρ} (i : ι) (h : FMe P w K mg base j (cls o) m ps (SpM args pre r fn)) (he : DE X B Γ e (rObj cls names flds) o)
    (hΔ : args i = [.val (rObj cls names flds) o]) (hp : pre i) (hj : j ≤ k := by decide) (hnm : names.contains m = false := by decide +kernel)
    (ht : eval (.Call (.Attribute e m apos) [] [] pos) X.env = (do
      let ov ← eval e X.env
      standAt apos.atName
      let (f, first) ← holding [ov] (getMethod ov m pl)
      callWith pos f first (backTo pos (starEach [] X.env)) (backToKw pos (keywordEach [] X.env))) := by rfl) : DM X B Γ (.Call (.Attribute e m apos) [] [] pos) r (fn i) := by
  obtain ⟨fa, fd, G, h1, h2, h3⟩ := h
  have G' : FnOk X.prog X.w X.K X.mg X.base CX0 j fa fd ps (SpM args pre r fn) := by rw [c.p, c.w, c.K, c.mg, c.b]; exact G
  refine pe_weak (pe_meth0 (pl := pl) he (by rw [c.K]; exact h3) (by rw [c.K]; exact h1) G' (c.room.mono hj) (by rw [c.K]; exact h2) .nil pass0 ht) fun σ H Q ⟨F, en, q⟩ => ⟨F, en, fun u F1 H1 e1 h4 => ?_⟩
  obtain ⟨y, dx, fs, g1, g2, g3, g4⟩ := id h4
  refine ⟨y, dx, fs, g1, e1.i _ _ g2, look_no g3 hnm, ?_⟩
  show SpM args pre r fn (u :: ([] ++ [])) H1 Q E0
  exact ⟨F1, i, e1.i, by rw [hΔ]; exact ⟨h4, trivial⟩, hp, fun p us F3 H3 e3 h6 h7 h8 h9 => q p us F3 H3 (e1.trans e3) h6 (e1.h.free h7) h8 h9⟩
/-- C(e, ..) -/
theorem c_make (c : XC P w K mg base k N sc vs ls X) {C : Addr} {args : ι → Ctx} {pre : ι → Prop} {fl : ι → Ctx} {o : α} (i : ι) (h : FMk P w K mg base j x C ps (SpI C args pre names fl)) (ha : DA X B Γ (a :: es) (args i)) (hp : pre i) (hC : cls o = C) (hf : flds o = fl i) (hj : j + 1 ≤ k := by decide) (hg : glB sc x = true := by decide +kernel)
    (hdb : (x == ("__debug__" : Str)) = false := by decide) (he : starEach (a :: es) X.env = (false, eval a X.env) :: starEach es X.env := by rfl) (hpl : (backTo pos (starEach es X.env)).any Prod.fst = false := by rfl) :
    DE X B Γ (.Call (.Name x p) (a :: es) [] pos) (rObj cls names flds) o := by
  obtain ⟨fa, fd, G, h1, h2, h3⟩ := h
  have G' : FnOk X.prog X.w X.K X.mg X.base CX0 j fa fd ps (SpI C args pre names fl) := by rw [c.p, c.w, c.K, c.mg, c.b]; exact G
  refine pe_weak (pe_make (by rw [c.K]; exact h2) G' (c.room.mono hj) (gl_of c.sc hg) (by rw [c.mg]; exact h1) (by rw [c.K]; exact h3) .nil pass0 ha hdb he hpl) fun σ H Q ⟨F, en, q⟩ => ⟨F, en, fun us F1 H1 e1 h5 => ?_⟩
  intro y dy n1 n2 ne
  rw [List.append_nil]
  have s1 : Same H1 (upd (upd H1 dy (.own y)) y (.ins C dy [])) := fun b u z => by rw [upd_ne (ne_of_none z n1), upd_ne (ne_of_none z n2)]; exact z
  have f1 : F1 y = none := e1.i.free n1
  refine ⟨F1, i, y, dy, us, rfl, e1.i.trans s1, f1, upd_same, h5, hp, fun F' H' fs g1 g2 g3 g4 g5 g6 g7 g8 => ⟨rfl, ?_⟩⟩
  have g2' : Same H1 H' := fun b u z => g2 b u (ne_of_none z n1) (s1 b u z)
  have ex : Ext F1 H1 F' H' := ⟨g1, g2', g3, fun b hb hh => g5 b hb (by
    cases z : H1 b with
    | none => exact absurd z hh
    | some u => rw [s1 b u z]; intro w; cases w)⟩
  have ex2 := ex.frzNew g4 n1 g6
  exact q (.ref y) _ H' (e1.trans ex2) ⟨y, dy, fs, rfl, by rw [hC]; exact upd_same, g7, by rw [hf]; exact SlsOk.mono (same_new g4) g8⟩
/-- self.f = e -/
theorem c_setF (c : XC P w K mg base k N sc vs ls X) (i : Nat) {C : Addr} {sls : Ctx} {xd : Addr × Addr} {r : Rp β} {v : β} {p1 p2 : Pos} (h : At Γ i (.own (oObj C names sls) xd)) (he : DE X B Γ e r v) (hc : Cls K C) (hn : NoAttr K C f)
    (t : To Γ i (.own (oObj C (names ++ [f]) (sls ++ [.val r v])) xd) Γ') (hr : SD X B Γ' rest D) (hnm : names.contains f = false := by decide +kernel) (hz : decide (names.length < 1000) = true := by decide +kernel) (hN : N[i]? = some x := by rfl) (hv : vs.contains i = true := by rfl)
    (hd : (x == ("__debug__" : Str)) = false := by decide) (hcd : (x == ("__classdict__" : Str)) = false := by decide) (hs : swapsWith e (some (.Attribute (.Name x p1) f p2)) pos.line X.env = pure false := by rfl) :
    SD X B Γ (.Assign [.Attribute (.Name x p1) f p2] e pos :: rest) D := by
  have hN' : X.N[i]? = some x := by rw [c.N]; exact hN
  refine sd_cons (ps_fld (pe_var hN' (c.vis i x hN' hv) hd hcd) he hs) (fun D' l σ H ⟨F, en⟩ => ⟨F, en, fun u F1 H1 e1 h1 => ?_⟩) hr
  obtain ⟨fp, en1⟩ := en.ext e1
  obtain ⟨⟨s, hs, rfl, hfp, fs, q3, q4, q5⟩, hown⟩ := en1.ok i _ h.get
  refine ⟨.ref xd.1, hs, xd.1, C, xd.2, fs, rfl, q3, by rw [c.K]; exact hc, by rw [c.K]; exact hn, by have := congrArg List.length q4; simp at this; rw [this]; exact of_decide_eq_true hz, l.nx _ _ ?_⟩
  have hx := hown xd.1 (by rw [hfp])
  refine ⟨F1, _, en1.putG (fi := fun b => b = xd.1) t rfl (fun j hj => rfl) ⟨en1.base.f, fun b o z => ?_, fun b o z => ?_, en1.base.d⟩ (fun b o z => ?_) (Same.refl F1) (fun j b hj z => ?_) ?_ (fun j b hj z w => ?_)⟩
  · rw [upd_ne (ne_of_none z hx.2.2)]; exact en1.base.h b o z
  · rw [upd_ne (ne_of_none z hx.1)]; exact en1.same b o z
  · rw [upd_ne (ne_of_none z hx.1)]; exact en1.same b o z
  · have nb : b ≠ xd.1 := fun w => en1.apart j i hj b z (by rw [hfp]; exact w)
    exact ⟨by rw [upd_ne nb], (en1.own_at z).1⟩
  · refine ⟨⟨.ref xd.1, hs, rfl, rfl, putF f u fs, upd_same, ?_, ?_⟩, fun b hb => ?_⟩
    · rw [putF_new q4 hnm, List.map_append, q4]; rfl
    · rw [putF_new q4 hnm, List.map_append]
      exact slsOk_app q5 ⟨h1, trivial⟩
    · subst hb
      exact ⟨hx.1, (by rw [upd_same]; intro w; cases w), hx.2.2⟩
  · subst w
    exact en1.apart j i hj xd.1 z (by rw [hfp])
end
end DL
namespace DL
open PySem L2 PySem.Spec PyProof.Rows

/-! ### defs: __init__, methods -/
def rAny : Rp Unit := ⟨fun _ _ _ => True, fun _ _ => trivial⟩
def FTk (K : PySem.W.Frag) (mg : Str → Option Value) (x q : Str) (C : Addr) (st : Stmt) (ps : List Str) : Prop :=
  ∃ fa fd, Fun K "__init__" q st fa fd ∧ mg x = some (.ref C) ∧ Mk K C fa ∧ Binds K fd ps []
def FTm (K : PySem.W.Frag) (m q : Str) (C : Addr) (st : Stmt) (ps : List Str) : Prop :=
  ∃ fa fd, Fun K m q st fa fd ∧ Meth K C m fa ∧ Binds K fd ps [] ∧ Cls K C
section
variable {P : Program} {w : World} {K : PySem.W.Frag} {mg : Str → Option Value} {base : Heap} {k : Nat} {N : List Str} {vs : List Nat} {ι ρ : Type} {args : ι → Ctx} {pre : ι → Prop} {ps : List Str} {x q m : Str} {st : Stmt} {C : Addr}
theorem meF {rr : Rp ρ} {f : ι → ρ} (Γ0 : ι → Ctx) (T : FTm K m q C st ps) (S : FnScope N ps (defScope st)) (hv : locB N (defScope st) vs = true) (hl : ∀ i, (args i).length = ps.length) (hΓ : ∀ i, args i ++ List.replicate (N.length - ps.length) .un = Γ0 i)
    (body : ∀ (X : Cx) (B : Bs) (D : Ends) (i : ι), XC P w K mg base k N (defScope st) vs vs X → pre i → RtOk B rr (f i) D → (∀ σ H, D.nx σ H → D.rt .non H) → SD X B (Γ0 i) (defBody st) { D with nx := fun _ H => D.rt .non H }) :
    FMe P w K mg base (k + 1) C m ps (SpF args pre rr f) := by
  obtain ⟨fa, fd, F, hm, hb, hc⟩ := T
  refine ⟨fa, fd, F.ok S (fun us H Q E ⟨F0, i, _, h, _⟩ => by rw [h.length, hl]) (fun cdv A outer s H us Q E hr ⟨F0, i, s0, h, hp, hk⟩ => ?_), hm, hb, hc⟩
  refine ⟨_, body _ ⟨F0, H, F0⟩ { nx := fun _ H' => Q .non H', rt := Q } i (xc_of S hv hr) hp hk (fun _ _ z => z), Le.refl _, F0, env_start s0 h (hl i) ?_ (hΓ i)⟩
  have := congrArg List.length S.pre; rw [List.length_take] at this; omega
theorem meM {r : Rp ρ} {f : ι → List ρ} (Γ0 : ι → Ctx) (T : FTm K m q C st ps) (S : FnScope N ps (defScope st)) (hv : locB N (defScope st) vs = true) (hl : ∀ i, (args i).length = ps.length) (hΓ : ∀ i, args i ++ List.replicate (N.length - ps.length) .un = Γ0 i)
    (body : ∀ (X : Cx) (B : Bs) (D : Ends) (i : ι), XC P w K mg base k N (defScope st) vs vs X → pre i → RtM B r (f i) D → SD X B (Γ0 i) (defBody st) D) :
    FMe P w K mg base (k + 1) C m ps (SpM args pre r f) := by
  obtain ⟨fa, fd, F, hm, hb, hc⟩ := T
  refine ⟨fa, fd, F.ok S (fun us H Q E ⟨F0, i, _, h, _⟩ => by rw [h.length, hl]) (fun cdv A outer s H us Q E hr ⟨F0, i, s0, h, hp, hk⟩ => ?_), hm, hb, hc⟩
  refine ⟨_, body _ ⟨F0, H, F0⟩ { nx := fun _ H' => Q .non H', rt := Q } i (xc_of S hv hr) hp hk, Le.refl _, F0, env_start s0 h (hl i) ?_ (hΓ i)⟩
  have := congrArg List.length S.pre; rw [List.length_take] at this; omega
theorem fnI {names : List Str} {fl : ι → Ctx} (Γ0 : ι → Addr × Addr → Ctx) (T : FTk K mg x q C st ps) (S : FnScope N ps (defScope st)) (hv : locB N (defScope st) vs = true) (hl : ∀ i, (args i).length + 1 = ps.length) (hΓ : ∀ i xd, .own (oObj C [] []) xd :: args i ++ List.replicate (N.length - ps.length) .un = Γ0 i xd)
    (body : ∀ (X : Cx) (B : Bs) (D : Ends) (i : ι) (xd : Addr × Addr), XC P w K mg base k N (defScope st) vs vs X → pre i → (∀ σ H' Γ', EnvP B (.own (oObj C names (fl i)) xd :: Γ') σ H' → D.nx σ H') → SD X B (Γ0 i xd) (defBody st) D) :
    FMk P w K mg base (k + 1) x C ps (SpI C args pre names fl) := by
  obtain ⟨fa, fd, F, hm, hk, hb⟩ := T
  refine ⟨fa, fd, F.ok S (fun us H Q E ⟨F0, i, x, dx, us', e, _, _, _, h, _⟩ => by rw [e, List.length_cons, h.length, hl]) (fun cdv A outer s H us Q E hr ⟨F0, i, y, dy, us', e, s0, hy, hH, h, hp, kq⟩ => ?_), hm, hk, hb⟩
  subst e
  have hN : ps.length ≤ N.length := by have := congrArg List.length S.pre; rw [List.length_take] at this; omega
  let H0 : Hp := fun b => if b = y then none else H b
  have h0y : H0 y = none := if_pos rfl
  have h0 : ∀ b, b ≠ y → H0 b = H b := fun b hb => if_neg hb
  refine ⟨_, body _ ⟨F0, H0, F0⟩ { nx := fun _ H' => Q .non H', rt := Q } i (y, dy) (xc_of S hv hr) hp (fun σ H' Γ' ⟨F', fp, en⟩ => ?_), Le.refl _, F0, ?_⟩
  · obtain ⟨⟨v, _, _, hfp, fs, g1, g2, g3⟩, hown⟩ := en.ok 0 _ rfl
    have hx := hown y (by rw [hfp])
    refine kq F' H' fs en.base.f (fun b o hb z => en.base.h b o (by show H0 b = _; rw [h0 b hb]; exact z)) en.same hx.1 (fun b hb hh => ?_) g1 g2 g3
    by_cases hby : b = y
    · rw [hby]; exact hx.1
    · exact en.base.d b hb (by show H0 b ≠ none; rw [h0 b hby]; exact hh)
  · have s00 : Same F0 H0 := fun b u z => by
      have hb : b ≠ y := fun w => by rw [w, hy] at z; cases z
      rw [h0 b hb]; exact s0 b u z
    obtain ⟨fp, en⟩ := env_start (N := N) (ps := ps) (us := .ref y :: us') (Δ := .val rAny () :: args i) (Γ0 := .val rAny () :: args i ++ List.replicate (N.length - ps.length) .un) (F := F0) (H := H0) s00 ⟨trivial, h⟩ (by rw [List.length_cons, hl]) hN rfl
    rw [← hΓ]
    have t : To (.val rAny () :: (args i ++ List.replicate (N.length - ps.length) .un)) 0 (.own (oObj C [] []) (y, dy)) (.own (oObj C [] []) (y, dy) :: (args i ++ List.replicate (N.length - ps.length) .un)) := .z
    have s0H : Same H0 H := fun b u z => by
      have hb : b ≠ y := fun w => by rw [w, h0y] at z; cases z
      rw [← h0 b hb]; exact z
    have hz : ∀ j b, fp j b → False := fun j b z => by
      cases q : (Sl.val rAny () :: args i ++ List.replicate (N.length - ps.length) Sl.un)[j]? with
      | none => exact en.out j q b z
      | some s =>
        have w := en.ok j s q
        cases s with
        | un => exact w b z
        | val r a => exact w.1 b z
        | own o a =>
          have hm := List.mem_of_getElem? q
          have : ∀ {us : List V} {Δ : Ctx}, SlsOk F0 us Δ → Sl.own o a ∉ Δ := fun {us Δ} h => by
            induction Δ generalizing us with
            | nil => simp
            | cons s Δ ih =>
              cases us with
              | nil => exact h.elim
              | cons v us =>
                intro z
                rcases List.mem_cons.mp z with z | z
                · subst z; exact h.1
                · exact ih h.2 z
          rcases List.mem_append.mp hm with hm | hm
          · rcases List.mem_cons.mp hm with hm | hm
            · cases hm
            · exact this h hm
          · have := List.eq_of_mem_replicate hm
            cases this
    refine ⟨_, en.putG (fi := fun b => b = y) t rfl (fun j hj => rfl) ⟨Same.refl F0, s0H, s0, fun b hb _ => hb⟩ s0 (Same.refl F0) (fun j b hj z => (hz j b z).elim) ?_ (fun j b hj z w => hz j b z)⟩
    have hs : (L2.start N (.ref y :: us'))[0]? = some (some (.ref y)) := by unfold L2.start; simp
    rw [hs]
    exact ⟨⟨_, rfl, rfl, rfl, [], hH, rfl, trivial⟩, fun b hb => by subst hb; exact ⟨hy, (by rw [hH]; intro w; cases w), h0y⟩⟩
end
/-! ### equality of data -/
structure Eqd {α : Type} [DecidableEq α] (r : Rp α) (d : Nat) where
  enc : α → PyData
  dp : ∀ K F v a, r.rel F v a → Dp K F v (enc a)
  sh : ∀ F v a, r.rel F v a → (enc a).canLay0 = true
  dep : ∀ a, (enc a).depth ≤ d
  eq : ∀ a b, PyData.eqv (enc a) (enc b) = decide (a = b)
def eqInt : Eqd rInt 0 := ⟨.int, fun K F v a h => by rw [show v = V.int a from h]; exact .int a, fun _ _ _ _ => rfl, fun _ => Nat.le_refl _, fun a b => by
  show (a == b) = _
  by_cases h : a = b
  · subst h; simp
  · simp [h]⟩
def eqBool : Eqd rBool 0 := ⟨.bool, fun K F v a h => by rw [show v = V.bl a from h]; exact .bl a, fun _ _ _ _ => rfl, fun _ => Nat.le_refl _, fun a b => by cases a <;> cases b <;> rfl⟩
theorem strOk_tx {t : Txt} (h : okT t = true) : PyData.strOk (tx t) = true := by
  unfold PyData.strOk
  show t.toArray.all _ = true
  rw [List.all_toArray]
  exact h
def eqTxt : Eqd rTxt 0 := ⟨fun t => .str (tx t), fun K F v a h => by rw [h.1]; exact .str _, fun F v a h => strOk_tx h.2, fun _ => Nat.le_refl _, fun a b => by
  show (tx a == tx b) = _
  by_cases h : a = b
  · subst h; simp
  · have : ¬ tx a = tx b := fun z => h (tx_inj z)
    simp [h, this]⟩
section
variable {α β : Type} [DecidableEq α] [DecidableEq β]
theorem dpAll {r : Rp α} {d : Nat} (E : Eqd r d) {K : PySem.W.Frag} {F : Hp} : ∀ {us : List V} {as : List α}, Rl (r.rel F) us as → DpAll K F us (as.map E.enc)
  | [], [], _ => .nil
  | v :: us, a :: as, h => .cons (E.dp K F v a h.1) (dpAll E h.2)
  | [], _ :: _, h => h.elim
  | _ :: _, [], h => h.elim
theorem shAll {r : Rp α} {d : Nat} (E : Eqd r d) {F : Hp} : ∀ {us : List V} {as : List α}, Rl (r.rel F) us as → PyData.canLayAll0 (as.map E.enc) = true
  | [], [], _ => rfl
  | v :: us, a :: as, h => by
    show ((E.enc a).canLay0 && PyData.canLayAll0 (as.map E.enc)) = true
    rw [E.sh F v a h.1, shAll E h.2]; rfl
  | [], _ :: _, h => h.elim
  | _ :: _, [], h => h.elim
theorem depAll {r : Rp α} {d : Nat} (E : Eqd r d) : ∀ as : List α, PyData.depthAll (as.map E.enc) ≤ d
  | [] => Nat.zero_le _
  | a :: as => Nat.max_le.mpr ⟨E.dep a, depAll E as⟩
theorem eqAll {r : Rp α} {d : Nat} (E : Eqd r d) : ∀ as bs : List α, PyData.eqvAll (as.map E.enc) (bs.map E.enc) = decide (as = bs)
  | [], [] => rfl
  | [], _ :: _ => rfl
  | _ :: _, [] => rfl
  | a :: as, b :: bs => by
    show (PyData.eqv (E.enc a) (E.enc b) && PyData.eqvAll (as.map E.enc) (bs.map E.enc)) = _
    rw [E.eq, eqAll E as bs]
    by_cases h : a = b
    · subst h
      by_cases h2 : as = bs
      · subst h2; simp
      · simp [h2]
    · simp [h]
def eqList {r : Rp α} {d : Nat} (E : Eqd r d) : Eqd (rList r) (d + 1) := ⟨fun as => .list (as.map E.enc), fun K F v a ⟨p, us, h1, h2, h3⟩ => by rw [h1]; exact .lst (SqL.of h2) (dpAll E h3), fun F v a ⟨p, us, h1, h2, h3⟩ => shAll E h3, fun a => Nat.succ_le_succ (depAll E a), fun a b => eqAll E a b⟩
def eqTup {r : Rp α} {d : Nat} (E : Eqd r d) : Eqd (rTup r) (d + 1) := ⟨fun as => .tuple (as.map E.enc), fun K F v a ⟨p, us, h1, h2, h3⟩ => by rw [h1]; exact .tup (SqT.of h2) (dpAll E h3), fun F v a ⟨p, us, h1, h2, h3⟩ => shAll E h3, fun a => Nat.succ_le_succ (depAll E a), fun a b => eqAll E a b⟩
def eqPair {r : Rp α} {s : Rp β} {d d' : Nat} (E : Eqd r d) (E' : Eqd s d') : Eqd (rPair r s) (max d d' + 1) := ⟨fun z => .tuple [E.enc z.1, E'.enc z.2],
  fun K F v a ⟨p, u, u', h1, h2, h3, h4⟩ => by rw [h1]; exact .tup (SqT.of h2) (.cons (E.dp K F u _ h3) (.cons (E'.dp K F u' _ h4) .nil)),
  fun F v a ⟨p, u, u', h1, h2, h3, h4⟩ => by
    show ((E.enc a.1).canLay0 && ((E'.enc a.2).canLay0 && true)) = true
    rw [E.sh F u _ h3, E'.sh F u' _ h4]; rfl,
  fun a => by
    show max (PyData.depth (E.enc a.1)) (max (PyData.depth (E'.enc a.2)) 0) + 1 ≤ _
    have := E.dep a.1
    have := E'.dep a.2
    omega,
  fun a b => by
    show (PyData.eqv (E.enc a.1) (E.enc b.1) && (PyData.eqv (E'.enc a.2) (E'.enc b.2) && true)) = _
    rw [E.eq, E'.eq]
    obtain ⟨a1, a2⟩ := a
    obtain ⟨b1, b2⟩ := b
    by_cases h : a1 = b1
    · subst h
      by_cases h2 : a2 = b2
      · subst h2; simp
      · simp [h2]
    · simp [h]⟩
end
section
variable {P : Program} {w : World} {K : PySem.W.Frag} {mg : Str → Option Value} {base : Heap} {k j : Nat} {N : List Str} {sc : Scope} {vs ls : List Nat} {X : Cx} {α β γ ι ρ : Type} {B : Bs} {Γ Γ' : Ctx} {e a b : Expr} {es : List Expr} {D : Ends} {rest ss : List Stmt} {p pos apos : Pos} {x f m : Str}
theorem shaped_of [DecidableEq α] {r : Rp α} {d : Nat} (E : Eqd r d) (hd : d ≤ 64) {F : Hp} {v : V} {z : α} (h : r.rel F v z) : SeqAt.shaped (E.enc z) = true := by
  unfold SeqAt.shaped
  rw [E.sh F v z h, decide_eq_true (Nat.le_trans (E.dep z) hd)]
  rfl
theorem c_eqD (c : XC P w K mg base k N sc vs ls X) [DecidableEq α] {r : Rp α} {d : Nat} (E : Eqd r d) {y z : α} (ha : DE X B Γ a r y) (hb : DE X B Γ b r z) (hd : d ≤ 64 := by decide) : DC X B Γ (.Compare a [.Eq] [b] pos) (decide (y = z)) :=
  dc_cmp (ra := r) (rb := r) (op_eqD c.room.units) (fun F H u v s h1 h2 Q q => ⟨E.enc y, E.enc z, E.dp _ H u y (r.mono s h1), E.dp _ H v z (r.mono s h2), shaped_of E hd h1, shaped_of E hd h2, q _ F H (Ext.refl s) (by show V.bl _ = V.bl _; rw [E.eq])⟩) (nomark _) ha hb
theorem c_neD (c : XC P w K mg base k N sc vs ls X) [DecidableEq α] {r : Rp α} {d : Nat} (E : Eqd r d) {y z : α} (ha : DE X B Γ a r y) (hb : DE X B Γ b r z) (hd : d ≤ 64 := by decide) : DC X B Γ (.Compare a [.NotEq] [b] pos) (!decide (y = z)) :=
  dc_cmp (ra := r) (rb := r) (op_neD c.room.units) (fun F H u v s h1 h2 Q q => ⟨E.enc y, E.enc z, E.dp _ H u y (r.mono s h1), E.dp _ H v z (r.mono s h2), shaped_of E hd h1, shaped_of E hd h2, q _ F H (Ext.refl s) (by show V.bl _ = V.bl _; rw [E.eq])⟩) (nomark _) ha hb
end
end DL
namespace DL
open PySem L2 PySem.Spec PyProof.Rows
section
variable {P : Program} {w : World} {K : PySem.W.Frag} {mg : Str → Option Value} {base : Heap} {k j : Nat} {N : List Str} {sc : Scope} {vs ls : List Nat} {X : Cx} {α β γ ι ρ : Type} {B : Bs} {Γ Γ' : Ctx} {e a b : Expr} {es : List Expr} {D : Ends} {rest ss : List Stmt} {p pos apos : Pos} {x f m : Str}
/-! ### isinstance -/
/-- a value's type -/
def TyR (K : PySem.W.Frag) {α : Type} (r : Rp α) (a : α) (t : Value) : Prop := ∀ F v, r.rel F v a → TyX K F v t
theorem ty_int {i : Int} : TyR K rInt i (.type "int") := fun F v h => by rw [show v = V.int i from h]; exact .base (.int i)
theorem ty_bool {i : Bool} : TyR K rBool i (.type "bool") := fun F v h => by rw [show v = V.bl i from h]; exact .base (.bl i)
theorem ty_txt {i : Txt} : TyR K rTxt i (.type "str") := fun F v h => by rw [h.1]; exact .base (.str _)
theorem ty_non {i : Unit} : TyR K rNon i (.type "NoneType") := fun F v h => by rw [show v = V.non from h]; exact .base .non
theorem ty_list {r : Rp α} {i : List α} : TyR K (rList r) i (.type "list") := fun F v ⟨p, us, h1, h2, _⟩ => by rw [h1]; exact .base (.lst h2)
theorem ty_tup {r : Rp α} {i : List α} : TyR K (rTup r) i (.type "tuple") := fun F v ⟨p, us, h1, h2, _⟩ => by rw [h1]; exact .base (.tup h2)
theorem ty_pair {r : Rp α} {s : Rp β} {i : α × β} : TyR K (rPair r s) i (.type "tuple") := fun F v ⟨p, u, u', h1, h2, _⟩ => by rw [h1]; exact .base (.tup h2)
theorem ty_obj {cls : α → Addr} {names : List Str} {flds : α → Ctx} {o : α} (h : ClsI K (cls o)) : TyR K (rObj cls names flds) o (.ref (cls o)) := fun F v ⟨y, dx, fs, h1, h2, _⟩ => by rw [h1]; exact .base (.ins h2 h.cl h.ha h.hn h.htk h.hm)
/-- isinstance(e, T), T a built-in type's name -/
theorem c_isi (c : XC P w K mg base k N sc vs ls X) {r : Rp α} {y : α} {t : Value} {T : Str} {T' : String} {b : Bool} {p2 : Pos} (he : DE X B Γ e r y) (ht : TyR K r y t) (hk : PySem.W.kitOne K t (.type T') = some b) (hm : mg "isinstance" = none) (hmT : mg T = none)
    (hbT : bootBuiltins T = some (.type T') := by decide +kernel) (hg : glB sc "isinstance" = true := by decide +kernel) (hgT : glB sc T = true := by decide +kernel) (hn : T ≠ "__name__" := by decide) (hd : (T == ("__debug__" : Str)) = false := by decide)
    (hs : starEach [e, .Name T p2] X.env = (false, eval e X.env) :: starEach [.Name T p2] X.env := by rfl) : DE X B Γ (.Call (.Name "isinstance" p) [e, .Name T p2] [] pos) rBool b :=
  pe_weak (pe_callB call_isi (gl_of c.sc hg) (by rw [c.mg]; exact hm) (by decide +kernel) (pa_cons he (pa_cons (pe_bltn (v := .ty T') (gl_of c.sc hgT) (by rw [c.mg]; exact hmT) hbT rfl hn hd) pa_nil) hs) (by decide) (by decide) hs) fun σ H Q ⟨F, en, q⟩ => ⟨F, en, fun v F1 H1 e1 h1 =>
    ⟨v, .ty T', t, .type T', b, rfl, .ty T', by rw [c.K]; exact ht H1 v (r.mono e1.i h1), by rw [c.K]; exact hk, q _ F1 H1 e1 rfl⟩⟩
/-- isinstance(e, C), C an own class -/
theorem c_isiC (c : XC P w K mg base k N sc vs ls X) {r : Rp α} {y : α} {t : Value} {T : Str} {C : Addr} {b : Bool} {p2 : Pos} (he : DE X B Γ e r y) (ht : TyR K r y t) (hk : PySem.W.kitOne K t (.ref C) = some b) (hm : mg "isinstance" = none) (hmT : mg T = some (.ref C))
    (hg : glB sc "isinstance" = true := by decide +kernel) (hgT : glB sc T = true := by decide +kernel) (hd : (T == ("__debug__" : Str)) = false := by decide)
    (hs : starEach [e, .Name T p2] X.env = (false, eval e X.env) :: starEach [.Name T p2] X.env := by rfl) : DE X B Γ (.Call (.Name "isinstance" p) [e, .Name T p2] [] pos) rBool b :=
  pe_weak (pe_callB call_isi (gl_of c.sc hg) (by rw [c.mg]; exact hm) (by decide +kernel) (pa_cons he (pa_cons (pe_glob (v := .ref C) (gl_of c.sc hgT) (by rw [c.mg]; exact hmT) rfl hd) pa_nil) hs) (by decide) (by decide) hs) fun σ H Q ⟨F, en, q⟩ => ⟨F, en, fun v F1 H1 e1 h1 =>
    ⟨v, .ref C, t, .ref C, b, rfl, .own C, by rw [c.K]; exact ht H1 v (r.mono e1.i h1), by rw [c.K]; exact hk, q _ F1 H1 e1 rfl⟩⟩
/-- a module's constant -/
theorem c_gint (c : XC P w K mg base k N sc vs ls X) {i : Int} {u : Value} (hm : mg x = some u) (hu : ∃ t, u = .int i t) (hg : glB sc x = true := by decide +kernel) (hd : (x == ("__debug__" : Str)) = false := by decide) : DE X B Γ (.Name x pos) rInt i :=
  pe_weak (pe_glob (v := .int i) (gl_of c.sc hg) (by rw [c.mg]; exact hm) hu hd) fun σ H Q ⟨F, en, q⟩ => q _ F H (Ext.refl en.same) rfl
theorem c_gstr (c : XC P w K mg base k N sc vs ls X) {s : Str} {t : Txt} {u : Value} (hm : mg x = some u) (hu : ∃ t, u = .str s t) (hs : s = tx t) (ok : okT t = true) (hg : glB sc x = true := by decide +kernel) (hd : (x == ("__debug__" : Str)) = false := by decide) : DE X B Γ (.Name x pos) rTxt t :=
  pe_weak (pe_glob (v := .str s) (gl_of c.sc hg) (by rw [c.mg]; exact hm) hu hd) fun σ H Q ⟨F, en, q⟩ => q _ F H (Ext.refl en.same) ⟨by rw [hs], ok⟩
/-- a < b < c -/
theorem de_chain {op op' : CmpOp} {r2 r2' : R2} {cc : Expr} {ra : Rp α} {rb : Rp β} {rc : Rp γ} {z z' : Bool} {x : α} {y : β} {y' : γ} (ho : OpR X (compareOp op) r2) (ho' : OpR X (compareOp op') r2')
    (hr : ∀ F H u v, Same F H → ra.rel F u x → rb.rel F v y → ∀ Q : VK, (∀ F' H', Ext F H F' H' → Q (.bl z) H') → r2 u v H Q) (hr' : z = true → ∀ F H u v, Same F H → rb.rel F u y → rc.rel F v y' → ∀ Q : VK, (∀ F' H', Ext F H F' H' → Q (.bl z') H') → r2' u v H Q)
    (ha : DE X B Γ a ra x) (hb : DE X B Γ b rb y) (hc : DE X B Γ cc rc y') (hm : lastMarks [op, op'] [b, cc] = false) : DE X B Γ (.Compare a [op, op'] [b, cc] pos) rBool (z && z') := by
  refine pe_weak (pe_chain ho ho' ha hb hc hm) fun σ H Q ⟨F, en, q⟩ => ⟨F, en, fun u F1 H1 e1 h1 => ⟨F1, en.ext e1, fun v F2 H2 e2 h2 => hr F2 H2 u v e2.i (ra.mono e2.f h1) h2 _ fun F3 H3 e3 => ⟨z, rfl, ?_⟩⟩⟩
  cases z with
  | true =>
    rw [if_pos rfl]
    exact ⟨F3, en.ext (e1.trans (e2.trans e3)), fun v' F4 H4 e4 h4 => hr' rfl F4 H4 v v' e4.i (rb.mono (e3.f.trans e4.f) h2) h4 _ fun F5 H5 e5 => q _ F5 H5 (e1.trans (e2.trans (e3.trans (e4.trans e5)))) rfl⟩
  | false =>
    rw [if_neg (by decide)]
    exact q _ F3 H3 (e1.trans (e2.trans e3)) rfl
theorem dt_chain {op op' : CmpOp} {r2 r2' : R2} {cc : Expr} {ra : Rp α} {rb : Rp β} {rc : Rp γ} {z z' : Bool} {x : α} {y : β} {y' : γ} (ho : OpR X (compareOp op) r2) (ho' : OpR X (compareOp op') r2')
    (hr : ∀ F H u v, Same F H → ra.rel F u x → rb.rel F v y → ∀ Q : VK, (∀ F' H', Ext F H F' H' → Q (.bl z) H') → r2 u v H Q) (hr' : z = true → ∀ F H u v, Same F H → rb.rel F u y → rc.rel F v y' → ∀ Q : VK, (∀ F' H', Ext F H F' H' → Q (.bl z') H') → r2' u v H Q)
    (ha : DE X B Γ a ra x) (hb : DE X B Γ b rb y) (hc : DE X B Γ cc rc y') (hm : lastMarks [op, op'] [b, cc] = false) : DT X B Γ (.Compare a [op, op'] [b, cc] pos) (z && z') := by
  refine pt_weak (pt_chain ho ho' ha hb hc hm) fun σ H Q ⟨F, en, q⟩ => ⟨F, en, fun u F1 H1 e1 h1 => ⟨F1, en.ext e1, fun v F2 H2 e2 h2 => hr F2 H2 u v e2.i (ra.mono e2.f h1) h2 _ fun F3 H3 e3 => ⟨z, rfl, ?_⟩⟩⟩
  cases z with
  | true =>
    rw [if_pos rfl]
    exact ⟨F3, en.ext (e1.trans (e2.trans e3)), fun v' F4 H4 e4 h4 => hr' rfl F4 H4 v v' e4.i (rb.mono (e3.f.trans e4.f) h2) h4 _ fun F5 H5 e5 => ⟨z', rfl, q F5 H5 (e1.trans (e2.trans (e3.trans (e4.trans e5))))⟩⟩
  | false =>
    rw [if_neg (by decide)]
    exact ⟨false, rfl, q F3 H3 (e1.trans (e2.trans e3))⟩
theorem dc_leLe {x y z : Int} {cc : Expr} (ha : DE X B Γ a rInt x) (hb : DE X B Γ b rInt y) (hc : DE X B Γ cc rInt z) (hm : lastMarks [.LtE, .LtE] [b, cc] = false := by with_unfolding_all rfl) : DC X B Γ (.Compare a [.LtE, .LtE] [b, cc] pos) (decide (x ≤ y) && decide (y ≤ z)) :=
  ⟨de_chain op_le op_le (fun F H u v s h1 h2 Q q => ⟨x, y, h1, h2, q F H (Ext.refl s)⟩) (fun _ F H u v s h1 h2 Q q => ⟨y, z, h1, h2, q F H (Ext.refl s)⟩) ha hb hc hm,
   dt_chain op_le op_le (fun F H u v s h1 h2 Q q => ⟨x, y, h1, h2, q F H (Ext.refl s)⟩) (fun _ F H u v s h1 h2 Q q => ⟨y, z, h1, h2, q F H (Ext.refl s)⟩) ha hb hc hm⟩
theorem dc_leLt {x y z : Int} {cc : Expr} (ha : DE X B Γ a rInt x) (hb : DE X B Γ b rInt y) (hc : DE X B Γ cc rInt z) (hm : lastMarks [.LtE, .Lt] [b, cc] = false := by with_unfolding_all rfl) : DC X B Γ (.Compare a [.LtE, .Lt] [b, cc] pos) (decide (x ≤ y) && decide (y < z)) :=
  ⟨de_chain op_le op_lt (fun F H u v s h1 h2 Q q => ⟨x, y, h1, h2, q F H (Ext.refl s)⟩) (fun _ F H u v s h1 h2 Q q => ⟨y, z, h1, h2, q F H (Ext.refl s)⟩) ha hb hc hm,
   dt_chain op_le op_lt (fun F H u v s h1 h2 Q q => ⟨x, y, h1, h2, q F H (Ext.refl s)⟩) (fun _ F H u v s h1 h2 Q q => ⟨y, z, h1, h2, q F H (Ext.refl s)⟩) ha hb hc hm⟩

/-! ### changes of own lists -/
theorem EnvF.setL {σ : L2.St} {F H : Hp} {fp : Nat → Addr → Prop} {i : Nat} {r : Rp α} {as as' : List α} (h : EnvF B Γ σ F H fp) (t : To Γ i (.own (oList r) as') Γ') (at_ : At Γ i (.own (oList r) as)) :
    ∃ p us, σ[i]? = some (some (.ref p)) ∧ H p = some (.lst us) ∧ Rl (r.rel F) us as ∧ ∀ us', Rl (r.rel F) us' as' → EnvF B Γ' σ F (upd H p (.lst us')) (fun j => if j = i then (fun b => b = p) else fp j) := by
  obtain ⟨⟨v, hv, p, us, e, h2, h3, h4⟩, hn⟩ := h.ok i _ at_.get
  subst e
  refine ⟨p, us, hv, h3, h4, fun us' h5 => ?_⟩
  have hx := hn p (by rw [h2])
  refine h.putG (fi := fun b => b = p) t rfl (fun j hj => rfl) ⟨h.base.f, fun b o z => ?_, fun b o z => ?_, h.base.d⟩ (fun b o z => ?_) (Same.refl F) (fun j b hj z => ?_) ?_ (fun j b hj z w => ?_)
  · rw [upd_ne (ne_of_none z hx.2.2)]; exact h.base.h b o z
  · rw [upd_ne (ne_of_none z hx.1)]; exact h.same b o z
  · rw [upd_ne (ne_of_none z hx.1)]; exact h.same b o z
  · have nb : b ≠ p := fun w => h.apart j i hj b z (by rw [h2]; exact w)
    exact ⟨by rw [upd_ne nb], (h.own_at z).1⟩
  · exact ⟨⟨.ref p, hv, p, us', rfl, rfl, upd_same, h5⟩, fun b hb => by subst hb; exact ⟨hx.1, (by rw [upd_same]; intro w; cases w), hx.2.2⟩⟩
  · exact h.apart j i hj b z (by rw [h2]; exact w)
/-- a statement that is the call of an own list's method -/
theorem sd_mut {i : Nat} {r : Rp α} {as as' : List α} {te : TE} (he : PE X e te) (hs : swapsWith e none pos.line X.env = pure false) (at_ : At Γ i (.own (oList r) as)) (t : To Γ i (.own (oList r) as') Γ')
    (hte : ∀ σ F H Q, Env B Γ σ F H → (∀ F1 H1 p us us' v, Env B Γ σ F1 H1 → σ[i]? = some (some (.ref p)) → H1 p = some (.lst us) → Rl (r.rel F1) us as → Rl (r.rel F1) us' as' → Q v (upd H1 p (.lst us'))) → te σ H Q)
    (hr : SD X B Γ' rest D) : SD X B Γ (.Expr e pos :: rest) D :=
  sd_cons (ps_expr he hs) (fun D' l σ H ⟨F, en⟩ => hte σ F H _ en fun F1 H1 p us us' v ⟨fp, en1⟩ hp hu h1 h2 => by
    obtain ⟨p', us0, g1, g2, g3, g4⟩ := en1.setL t at_
    have ep : p' = p := by rw [g1] at hp; cases hp; rfl
    subst ep
    exact l.nx _ _ ⟨F1, _, g4 us' h2⟩) hr
theorem c_append (c : XC P w K mg base k N sc vs ls X) (i : Nat) {r : Rp α} {as : List α} {y : α} {p1 : Pos} (at_ : At Γ i (.own (oList r) as)) (he : DE X B Γ e r y) (t : To Γ i (.own (oList r) (as ++ [y])) Γ') (hr : SD X B Γ' rest D) (hz : as.length ≤ 1000000) (hN : N[i]? = some x := by rfl) (hv : vs.contains i = true := by rfl)
    (hd : (x == ("__debug__" : Str)) = false := by decide) (hcd : (x == ("__classdict__" : Str)) = false := by decide)
    (hbase : attributeBase (.Name x p1) "append" X.env (eval (.Name x p1) X.env) = eval (.Name x p1) X.env := by rfl)
    (hfew : ((backTo p (starEach [e] X.env)).all (fun x => !x.1) && (backToKw p (keywordEach [] X.env)).all (fun x => x.1.isSome) && decide ([e].length + ([] : List Keyword).length + (if ([] : List Keyword).isEmpty then 0 else 1) < 30)) = true := by rfl)
    (hline : (apos.endLine == p.line) = true := by rfl) (hs : starEach [e] X.env = (false, eval e X.env) :: starEach [] X.env := by rfl) (hsw : swapsWith (.Call (.Attribute (.Name x p1) "append" apos) [e] [] p) none pos.line X.env = pure false := by rfl) :
    SD X B Γ (.Expr (.Call (.Attribute (.Name x p1) "append" apos) [e] [] p) pos :: rest) D := by
  have hN' : X.N[i]? = some x := by rw [c.N]; exact hN
  refine sd_mut (pe_bm PySem.F.plainAttrs_list PySem.F.slot_list_append PySem.F.type_list_append mt_append (pe_var hN' (c.vis i x hN' hv) hd hcd) (pa_cons he pa_nil hs) hbase hfew hline hs (by rfl)) hsw at_ t (fun σ F H Q en q => ?_) hr
  obtain ⟨fp, en0⟩ := id en
  obtain ⟨⟨v, hv, p, us, rfl, h2, h3, h4⟩, hn⟩ := en0.ok i _ at_.get
  refine ⟨_, hv, .inl ⟨rfl, us, SqL.of h3⟩, F, en, fun u F1 H1 e1 h1 => ?_⟩
  have h3' : H1 p = some (.lst us) := e1.h _ _ h3
  have h4' : Rl (r.rel F1) us as := Rl.imp (fun _ _ => r.mono e1.f) h4
  exact ⟨p, us, u, rfl, rfl, h3', by rw [h4.length]; exact Nat.lt_of_le_of_lt hz (by decide), q F1 H1 p us (us ++ [u]) _ (en.ext e1) hv h3' h4' (Rl.append h4' (Rl.one h1))⟩
/-- an expression for nothing -/
theorem sd_drop {r : Rp α} {y : α} (he : DE X B Γ e r y) (hr : SD X B Γ rest D) (hs : swapsWith e none pos.line X.env = pure false := by rfl) : SD X B Γ (.Expr e pos :: rest) D :=
  sd_cons (ps_expr he hs) (fun D' l σ H ⟨F, en⟩ => ⟨F, en, fun u F1 H1 e1 h1 => l.nx _ _ ⟨F1, en.ext e1⟩⟩) hr
/-- e.append(y) of a new list, for nothing -/
theorem sd_appendN {r : Rp α} {as : List α} {s : Rp β} {z : β} (he : DM X B Γ e r as) (ha : DE X B Γ a s z) (hr : SD X B Γ rest D) (hz : as.length ≤ 1000000)
    (hbase : attributeBase e "append" X.env (eval e X.env) = eval e X.env := by rfl)
    (hfew : ((backTo p (starEach [a] X.env)).all (fun x => !x.1) && (backToKw p (keywordEach [] X.env)).all (fun x => x.1.isSome) && decide ([a].length + ([] : List Keyword).length + (if ([] : List Keyword).isEmpty then 0 else 1) < 30)) = true := by rfl)
    (hline : (apos.endLine == p.line) = true := by rfl) (hs : starEach [a] X.env = (false, eval a X.env) :: starEach [] X.env := by rfl) (hsw : swapsWith (.Call (.Attribute e "append" apos) [a] [] p) none pos.line X.env = pure false := by rfl) :
    SD X B Γ (.Expr (.Call (.Attribute e "append" apos) [a] [] p) pos :: rest) D := by
  refine sd_cons (ps_expr (pe_bm PySem.F.plainAttrs_list PySem.F.slot_list_append PySem.F.type_list_append mt_append he (pa_cons ha pa_nil hs) hbase hfew hline hs (by rfl)) hsw) (fun D' l σ H ⟨F, en⟩ => ⟨F, en, fun p us F1 H1 e1 h1 h2 h3 h4 => ?_⟩) hr
  refine ⟨.inl ⟨rfl, us, SqL.of h3⟩, F1, en.ext e1, fun u F2 H2 e2 h5 => ?_⟩
  refine ⟨p, us, u, rfl, rfl, e2.h _ _ h3, by rw [h4.length]; exact Nat.lt_of_le_of_lt hz (by decide), l.nx _ _ ?_⟩
  obtain ⟨fp, en0⟩ := id en
  have en2 := en0.ext (e1.trans e2)
  have hp2 : F2 p = none := e2.d p h1 (by rw [h3]; intro w; cases w)
  have hpB : B.H p = none := en.base.h.free h2
  refine ⟨F2, fp, en2.side hp2 hpB fun j z => (en0.own_at z).2.1 h2⟩
end
end DL
namespace DL
open PySem L2 PySem.Spec PyProof.Rows
section
variable {P : Program} {w : World} {K : PySem.W.Frag} {mg : Str → Option Value} {base : Heap} {k j : Nat} {N : List Str} {sc : Scope} {vs ls : List Nat} {X : Cx} {β ρ : Type} {B : Bs} {Γ Γ' : Ctx} {D : Ends} {rest ss : List Stmt} {p pos apos : Pos} {x q f m : Str} {ps : List Str} {st : Stmt} {C : Addr}
abbrev SpF1 {α1 : Type} {ρ : Type} (r1 : Rp α1) (pre : α1 → Prop) (rr : Rp ρ) (f : α1 → ρ) : Sp := SpF (fun i : α1 => [.val r1 i]) (fun i => pre (i)) rr (fun i => f (i))
theorem c_callF1 (c : XC P w K mg base k N sc vs ls X) {α1 : Type} {r1 : Rp α1} {pre : α1 → Prop} {rr : Rp ρ} {f : α1 → ρ} {e1 : Expr} {x1 : α1} (h : FN P w K mg base CX0 j x ps (SpF1 r1 pre rr f)) (h1 : DE X B Γ e1 r1 x1) (hp : pre x1) (hj : j ≤ k := by decide) (hg : glB sc x = true := by decide +kernel)
    (hdb : (x == ("__debug__" : Str)) = false := by decide) (s1 : starEach [e1] X.env = (false, eval e1 X.env) :: starEach [] X.env := by rfl) (hpl : (backTo pos (starEach [] X.env)).any (·.1) = false := by rfl) :
    DE X B Γ (.Call (.Name x p) [e1] [] pos) rr (f x1) := c_call c h x1 (da_cons h1 da_nil s1) hp hj hg hdb s1 hpl
abbrev SpM1 {α1 : Type} {ρ : Type} (r1 : Rp α1) (pre : α1 → Prop) (rr : Rp ρ) (f : α1 → List ρ) : Sp := SpM (fun i : α1 => [.val r1 i]) (fun i => pre (i)) rr (fun i => f (i))
theorem c_callM1 (c : XC P w K mg base k N sc vs ls X) {α1 : Type} {r1 : Rp α1} {pre : α1 → Prop} {rr : Rp ρ} {f : α1 → List ρ} {e1 : Expr} {x1 : α1} (h : FN P w K mg base CX0 j x ps (SpM1 r1 pre rr f)) (h1 : DE X B Γ e1 r1 x1) (hp : pre x1) (hj : j ≤ k := by decide) (hg : glB sc x = true := by decide +kernel)
    (hdb : (x == ("__debug__" : Str)) = false := by decide) (s1 : starEach [e1] X.env = (false, eval e1 X.env) :: starEach [] X.env := by rfl) (hpl : (backTo pos (starEach [] X.env)).any (·.1) = false := by rfl) :
    DM X B Γ (.Call (.Name x p) [e1] [] pos) rr (f x1) := c_callM c h x1 (da_cons h1 da_nil s1) hp hj hg hdb s1 hpl
abbrev SpN1 {α1 : Type} {ρ : Type} (r1 : Rp α1) (pre : α1 → Prop) (rr : Rp ρ) (f : α1 → ρ) : Sp := SpN (fun i : α1 => [.val r1 i]) (fun i => pre (i)) rr (fun i => f (i))
theorem c_callN1 (c : XC P w K mg base k N sc vs ls X) {α1 : Type} {r1 : Rp α1} {pre : α1 → Prop} {rr : Rp ρ} {f : α1 → ρ} {e1 : Expr} {x1 : α1} (h : FN P w K mg base CX0 j x ps (SpN1 r1 pre rr f)) (h1 : DE X B Γ e1 r1 x1) (hp : pre x1) (hj : j ≤ k := by decide) (hg : glB sc x = true := by decide +kernel)
    (hdb : (x == ("__debug__" : Str)) = false := by decide) (s1 : starEach [e1] X.env = (false, eval e1 X.env) :: starEach [] X.env := by rfl) (hpl : (backTo pos (starEach [] X.env)).any (·.1) = false := by rfl) :
    DN X B Γ (.Call (.Name x p) [e1] [] pos) rr (f x1) := c_callN c h x1 (da_cons h1 da_nil s1) hp hj hg hdb s1 hpl
theorem fnF1 {α1 : Type} {r1 : Rp α1} {pre : α1 → Prop} {rr : Rp ρ} {f : α1 → ρ} (T : FT K mg x q st ps) (S : FnScope N ps (defScope st)) (hv : locB N (defScope st) vs = true) (Γu : Ctx) (hl : ps.length = 1 := by rfl) (hu : List.replicate (N.length - ps.length) .un = Γu := by rfl)
    (body : ∀ (X : Cx) (B : Bs) (D : Ends) (x1 : α1), XC P w K mg base k N (defScope st) vs vs X → pre x1 → RtOk B rr (f x1) D → (∀ σ H, D.nx σ H → D.rt .non H) → SD X B (.val r1 x1 :: Γu) (defBody st) { D with nx := fun _ H => D.rt .non H }) : FN P w K mg base CX0 (k + 1) x ps (SpF1 r1 pre rr f) :=
  fnF (fun i => .val r1 i :: Γu) T S hv (fun _ => hl.symm) (fun i => by rw [hu]; rfl) (fun X B D i c hp hD hn => body X B D (i) c hp hD hn)
theorem meF1 {α1 : Type} {r1 : Rp α1} {pre : α1 → Prop} {rr : Rp ρ} {f : α1 → ρ} (T : FTm K m q C st ps) (S : FnScope N ps (defScope st)) (hv : locB N (defScope st) vs = true) (Γu : Ctx) (hl : ps.length = 1 := by rfl) (hu : List.replicate (N.length - ps.length) .un = Γu := by rfl)
    (body : ∀ (X : Cx) (B : Bs) (D : Ends) (x1 : α1), XC P w K mg base k N (defScope st) vs vs X → pre x1 → RtOk B rr (f x1) D → (∀ σ H, D.nx σ H → D.rt .non H) → SD X B (.val r1 x1 :: Γu) (defBody st) { D with nx := fun _ H => D.rt .non H }) : FMe P w K mg base (k + 1) C m ps (SpF1 r1 pre rr f) :=
  meF (fun i => .val r1 i :: Γu) T S hv (fun _ => hl.symm) (fun i => by rw [hu]; rfl) (fun X B D i c hp hD hn => body X B D (i) c hp hD hn)
theorem fnM1 {α1 : Type} {r1 : Rp α1} {pre : α1 → Prop} {rr : Rp ρ} {f : α1 → List ρ} (T : FT K mg x q st ps) (S : FnScope N ps (defScope st)) (hv : locB N (defScope st) vs = true) (Γu : Ctx) (hl : ps.length = 1 := by rfl) (hu : List.replicate (N.length - ps.length) .un = Γu := by rfl)
    (body : ∀ (X : Cx) (B : Bs) (D : Ends) (x1 : α1), XC P w K mg base k N (defScope st) vs vs X → pre x1 → RtM B rr (f x1) D → SD X B (.val r1 x1 :: Γu) (defBody st) D) : FN P w K mg base CX0 (k + 1) x ps (SpM1 r1 pre rr f) :=
  fnM (fun i => .val r1 i :: Γu) T S hv (fun _ => hl.symm) (fun i => by rw [hu]; rfl) (fun X B D i c hp hD => body X B D (i) c hp hD)
theorem meM1 {α1 : Type} {r1 : Rp α1} {pre : α1 → Prop} {rr : Rp ρ} {f : α1 → List ρ} (T : FTm K m q C st ps) (S : FnScope N ps (defScope st)) (hv : locB N (defScope st) vs = true) (Γu : Ctx) (hl : ps.length = 1 := by rfl) (hu : List.replicate (N.length - ps.length) .un = Γu := by rfl)
    (body : ∀ (X : Cx) (B : Bs) (D : Ends) (x1 : α1), XC P w K mg base k N (defScope st) vs vs X → pre x1 → RtM B rr (f x1) D → SD X B (.val r1 x1 :: Γu) (defBody st) D) : FMe P w K mg base (k + 1) C m ps (SpM1 r1 pre rr f) :=
  meM (fun i => .val r1 i :: Γu) T S hv (fun _ => hl.symm) (fun i => by rw [hu]; rfl) (fun X B D i c hp hD => body X B D (i) c hp hD)
theorem fnN1 {α1 : Type} {r1 : Rp α1} {pre : α1 → Prop} {rr : Rp ρ} {f : α1 → ρ} (T : FT K mg x q st ps) (S : FnScope N ps (defScope st)) (hv : locB N (defScope st) vs = true) (Γu : Ctx) (hl : ps.length = 1 := by rfl) (hu : List.replicate (N.length - ps.length) .un = Γu := by rfl)
    (body : ∀ (X : Cx) (B : Bs) (D : Ends) (x1 : α1), XC P w K mg base k N (defScope st) vs vs X → pre x1 → RtN B rr (f x1) D → SD X B (.val r1 x1 :: Γu) (defBody st) D) : FN P w K mg base CX0 (k + 1) x ps (SpN1 r1 pre rr f) :=
  fnN (fun i => .val r1 i :: Γu) T S hv (fun _ => hl.symm) (fun i => by rw [hu]; rfl) (fun X B D i c hp hD => body X B D (i) c hp hD)
abbrev SpI1 {α1 : Type} (C : Addr) (r1 : Rp α1) (pre : α1 → Prop) (names : List Str) (fl : α1 → Ctx) : Sp := SpI C (fun i : α1 => [.val r1 i]) (fun i => pre (i)) names (fun i => fl (i))
theorem fnI1 {α1 : Type} {r1 : Rp α1} {pre : α1 → Prop} {names : List Str} {fl : α1 → Ctx} (T : FTk K mg x q C st ps) (S : FnScope N ps (defScope st)) (hv : locB N (defScope st) vs = true) (Γu : Ctx) (hl : ps.length = 2 := by rfl) (hu : List.replicate (N.length - ps.length) .un = Γu := by rfl)
    (body : ∀ (X : Cx) (B : Bs) (D : Ends) (x1 : α1) (xd : Addr × Addr), XC P w K mg base k N (defScope st) vs vs X → pre x1 → (∀ σ H' Γ', EnvP B (.own (oObj C names (fl x1)) xd :: Γ') σ H' → D.nx σ H') → SD X B (.own (oObj C [] []) xd :: .val r1 x1 :: Γu) (defBody st) D) : FMk P w K mg base (k + 1) x C ps (SpI1 C r1 pre names fl) :=
  fnI (fun i xd => .own (oObj C [] []) xd :: .val r1 i :: Γu) T S hv (fun _ => hl.symm) (fun i xd => by rw [hu]; rfl) (fun X B D i xd c hp hD => body X B D (i) xd c hp hD)
theorem c_make1 (c : XC P w K mg base k N sc vs ls X) {α1 : Type} {r1 : Rp α1} {pre : α1 → Prop} {names : List Str} {fl : α1 → Ctx} {cls : β → Addr} {flds : β → Ctx} {e1 : Expr} {x1 : α1} (o : β) (h : FMk P w K mg base j x C ps (SpI1 C r1 pre names fl)) (h1 : DE X B Γ e1 r1 x1) (hp : pre x1) (hC : cls o = C := by rfl) (hf : flds o = fl x1 := by rfl) (hj : j + 1 ≤ k := by decide) (hg : glB sc x = true := by decide +kernel)
    (hdb : (x == ("__debug__" : Str)) = false := by decide) (s1 : starEach [e1] X.env = (false, eval e1 X.env) :: starEach [] X.env := by rfl) (hpl : (backTo pos (starEach [] X.env)).any (·.1) = false := by rfl) :
    DE X B Γ (.Call (.Name x p) [e1] [] pos) (rObj cls names flds) o := c_make c x1 h (da_cons h1 da_nil s1) hp hC hf hj hg hdb s1 hpl
theorem c_methF1 (c : XC P w K mg base k N sc vs ls X) {pl : Sem Bool} {α1 : Type} {cls : α1 → Addr} {names : List Str} {flds : α1 → Ctx} {pre : α1 → Prop} {rr : Rp ρ} {f : α1 → ρ} {e1 : Expr} {x1 : α1} (h : FMe P w K mg base j (cls x1) m ps (SpF1 (rObj cls names flds) pre rr f)) (h1 : DE X B Γ e1 (rObj cls names flds) x1) (hp : pre x1) (hj : j ≤ k := by decide) (hnm : names.contains m = false := by decide +kernel)
    (ht : eval (.Call (.Attribute e1 m apos) [] [] pos) X.env = (do
      let ov ← eval e1 X.env
      standAt apos.atName
      let (f, first) ← holding [ov] (getMethod ov m pl)
      callWith pos f first (backTo pos (starEach [] X.env)) (backToKw pos (keywordEach [] X.env))) := by rfl) : DE X B Γ (.Call (.Attribute e1 m apos) [] [] pos) rr (f x1) := c_meth0 c x1 h h1 rfl hp hj hnm ht
theorem c_methM1 (c : XC P w K mg base k N sc vs ls X) {pl : Sem Bool} {α1 : Type} {cls : α1 → Addr} {names : List Str} {flds : α1 → Ctx} {pre : α1 → Prop} {rr : Rp ρ} {f : α1 → List ρ} {e1 : Expr} {x1 : α1} (h : FMe P w K mg base j (cls x1) m ps (SpM1 (rObj cls names flds) pre rr f)) (h1 : DE X B Γ e1 (rObj cls names flds) x1) (hp : pre x1) (hj : j ≤ k := by decide) (hnm : names.contains m = false := by decide +kernel)
    (ht : eval (.Call (.Attribute e1 m apos) [] [] pos) X.env = (do
      let ov ← eval e1 X.env
      standAt apos.atName
      let (f, first) ← holding [ov] (getMethod ov m pl)
      callWith pos f first (backTo pos (starEach [] X.env)) (backToKw pos (keywordEach [] X.env))) := by rfl) : DM X B Γ (.Call (.Attribute e1 m apos) [] [] pos) rr (f x1) := c_methM0 c x1 h h1 rfl hp hj hnm ht
abbrev SpF2 {α1 α2 : Type} {ρ : Type} (r1 : Rp α1) (r2 : Rp α2) (pre : α1 → α2 → Prop) (rr : Rp ρ) (f : α1 → α2 → ρ) : Sp := SpF (fun i : α1 × α2 => [.val r1 (i.1), .val r2 (i.2)]) (fun i => pre (i.1) (i.2)) rr (fun i => f (i.1) (i.2))
theorem c_callF2 (c : XC P w K mg base k N sc vs ls X) {α1 α2 : Type} {r1 : Rp α1} {r2 : Rp α2} {pre : α1 → α2 → Prop} {rr : Rp ρ} {f : α1 → α2 → ρ} {e1 e2 : Expr} {x1 : α1} {x2 : α2} (h : FN P w K mg base CX0 j x ps (SpF2 r1 r2 pre rr f)) (h1 : DE X B Γ e1 r1 x1) (h2 : DE X B Γ e2 r2 x2) (hp : pre x1 x2) (hj : j ≤ k := by decide) (hg : glB sc x = true := by decide +kernel)
    (hdb : (x == ("__debug__" : Str)) = false := by decide) (s1 : starEach [e1, e2] X.env = (false, eval e1 X.env) :: starEach [e2] X.env := by rfl) (s2 : starEach [e2] X.env = (false, eval e2 X.env) :: starEach [] X.env := by rfl) (hpl : (backTo pos (starEach [e2] X.env)).any (·.1) = false := by rfl) :
    DE X B Γ (.Call (.Name x p) [e1, e2] [] pos) rr (f x1 x2) := c_call c h (x1, x2) (da_cons h1 (da_cons h2 da_nil s2) s1) hp hj hg hdb s1 hpl
abbrev SpM2 {α1 α2 : Type} {ρ : Type} (r1 : Rp α1) (r2 : Rp α2) (pre : α1 → α2 → Prop) (rr : Rp ρ) (f : α1 → α2 → List ρ) : Sp := SpM (fun i : α1 × α2 => [.val r1 (i.1), .val r2 (i.2)]) (fun i => pre (i.1) (i.2)) rr (fun i => f (i.1) (i.2))
theorem c_callM2 (c : XC P w K mg base k N sc vs ls X) {α1 α2 : Type} {r1 : Rp α1} {r2 : Rp α2} {pre : α1 → α2 → Prop} {rr : Rp ρ} {f : α1 → α2 → List ρ} {e1 e2 : Expr} {x1 : α1} {x2 : α2} (h : FN P w K mg base CX0 j x ps (SpM2 r1 r2 pre rr f)) (h1 : DE X B Γ e1 r1 x1) (h2 : DE X B Γ e2 r2 x2) (hp : pre x1 x2) (hj : j ≤ k := by decide) (hg : glB sc x = true := by decide +kernel)
    (hdb : (x == ("__debug__" : Str)) = false := by decide) (s1 : starEach [e1, e2] X.env = (false, eval e1 X.env) :: starEach [e2] X.env := by rfl) (s2 : starEach [e2] X.env = (false, eval e2 X.env) :: starEach [] X.env := by rfl) (hpl : (backTo pos (starEach [e2] X.env)).any (·.1) = false := by rfl) :
    DM X B Γ (.Call (.Name x p) [e1, e2] [] pos) rr (f x1 x2) := c_callM c h (x1, x2) (da_cons h1 (da_cons h2 da_nil s2) s1) hp hj hg hdb s1 hpl
abbrev SpN2 {α1 α2 : Type} {ρ : Type} (r1 : Rp α1) (r2 : Rp α2) (pre : α1 → α2 → Prop) (rr : Rp ρ) (f : α1 → α2 → ρ) : Sp := SpN (fun i : α1 × α2 => [.val r1 (i.1), .val r2 (i.2)]) (fun i => pre (i.1) (i.2)) rr (fun i => f (i.1) (i.2))
theorem c_callN2 (c : XC P w K mg base k N sc vs ls X) {α1 α2 : Type} {r1 : Rp α1} {r2 : Rp α2} {pre : α1 → α2 → Prop} {rr : Rp ρ} {f : α1 → α2 → ρ} {e1 e2 : Expr} {x1 : α1} {x2 : α2} (h : FN P w K mg base CX0 j x ps (SpN2 r1 r2 pre rr f)) (h1 : DE X B Γ e1 r1 x1) (h2 : DE X B Γ e2 r2 x2) (hp : pre x1 x2) (hj : j ≤ k := by decide) (hg : glB sc x = true := by decide +kernel)
    (hdb : (x == ("__debug__" : Str)) = false := by decide) (s1 : starEach [e1, e2] X.env = (false, eval e1 X.env) :: starEach [e2] X.env := by rfl) (s2 : starEach [e2] X.env = (false, eval e2 X.env) :: starEach [] X.env := by rfl) (hpl : (backTo pos (starEach [e2] X.env)).any (·.1) = false := by rfl) :
    DN X B Γ (.Call (.Name x p) [e1, e2] [] pos) rr (f x1 x2) := c_callN c h (x1, x2) (da_cons h1 (da_cons h2 da_nil s2) s1) hp hj hg hdb s1 hpl
theorem fnF2 {α1 α2 : Type} {r1 : Rp α1} {r2 : Rp α2} {pre : α1 → α2 → Prop} {rr : Rp ρ} {f : α1 → α2 → ρ} (T : FT K mg x q st ps) (S : FnScope N ps (defScope st)) (hv : locB N (defScope st) vs = true) (Γu : Ctx) (hl : ps.length = 2 := by rfl) (hu : List.replicate (N.length - ps.length) .un = Γu := by rfl)
    (body : ∀ (X : Cx) (B : Bs) (D : Ends) (x1 : α1) (x2 : α2), XC P w K mg base k N (defScope st) vs vs X → pre x1 x2 → RtOk B rr (f x1 x2) D → (∀ σ H, D.nx σ H → D.rt .non H) → SD X B (.val r1 x1 :: .val r2 x2 :: Γu) (defBody st) { D with nx := fun _ H => D.rt .non H }) : FN P w K mg base CX0 (k + 1) x ps (SpF2 r1 r2 pre rr f) :=
  fnF (fun i => .val r1 (i.1) :: .val r2 (i.2) :: Γu) T S hv (fun _ => hl.symm) (fun i => by rw [hu]; rfl) (fun X B D i c hp hD hn => body X B D (i.1) (i.2) c hp hD hn)
theorem meF2 {α1 α2 : Type} {r1 : Rp α1} {r2 : Rp α2} {pre : α1 → α2 → Prop} {rr : Rp ρ} {f : α1 → α2 → ρ} (T : FTm K m q C st ps) (S : FnScope N ps (defScope st)) (hv : locB N (defScope st) vs = true) (Γu : Ctx) (hl : ps.length = 2 := by rfl) (hu : List.replicate (N.length - ps.length) .un = Γu := by rfl)
    (body : ∀ (X : Cx) (B : Bs) (D : Ends) (x1 : α1) (x2 : α2), XC P w K mg base k N (defScope st) vs vs X → pre x1 x2 → RtOk B rr (f x1 x2) D → (∀ σ H, D.nx σ H → D.rt .non H) → SD X B (.val r1 x1 :: .val r2 x2 :: Γu) (defBody st) { D with nx := fun _ H => D.rt .non H }) : FMe P w K mg base (k + 1) C m ps (SpF2 r1 r2 pre rr f) :=
  meF (fun i => .val r1 (i.1) :: .val r2 (i.2) :: Γu) T S hv (fun _ => hl.symm) (fun i => by rw [hu]; rfl) (fun X B D i c hp hD hn => body X B D (i.1) (i.2) c hp hD hn)
theorem fnM2 {α1 α2 : Type} {r1 : Rp α1} {r2 : Rp α2} {pre : α1 → α2 → Prop} {rr : Rp ρ} {f : α1 → α2 → List ρ} (T : FT K mg x q st ps) (S : FnScope N ps (defScope st)) (hv : locB N (defScope st) vs = true) (Γu : Ctx) (hl : ps.length = 2 := by rfl) (hu : List.replicate (N.length - ps.length) .un = Γu := by rfl)
    (body : ∀ (X : Cx) (B : Bs) (D : Ends) (x1 : α1) (x2 : α2), XC P w K mg base k N (defScope st) vs vs X → pre x1 x2 → RtM B rr (f x1 x2) D → SD X B (.val r1 x1 :: .val r2 x2 :: Γu) (defBody st) D) : FN P w K mg base CX0 (k + 1) x ps (SpM2 r1 r2 pre rr f) :=
  fnM (fun i => .val r1 (i.1) :: .val r2 (i.2) :: Γu) T S hv (fun _ => hl.symm) (fun i => by rw [hu]; rfl) (fun X B D i c hp hD => body X B D (i.1) (i.2) c hp hD)
theorem meM2 {α1 α2 : Type} {r1 : Rp α1} {r2 : Rp α2} {pre : α1 → α2 → Prop} {rr : Rp ρ} {f : α1 → α2 → List ρ} (T : FTm K m q C st ps) (S : FnScope N ps (defScope st)) (hv : locB N (defScope st) vs = true) (Γu : Ctx) (hl : ps.length = 2 := by rfl) (hu : List.replicate (N.length - ps.length) .un = Γu := by rfl)
    (body : ∀ (X : Cx) (B : Bs) (D : Ends) (x1 : α1) (x2 : α2), XC P w K mg base k N (defScope st) vs vs X → pre x1 x2 → RtM B rr (f x1 x2) D → SD X B (.val r1 x1 :: .val r2 x2 :: Γu) (defBody st) D) : FMe P w K mg base (k + 1) C m ps (SpM2 r1 r2 pre rr f) :=
  meM (fun i => .val r1 (i.1) :: .val r2 (i.2) :: Γu) T S hv (fun _ => hl.symm) (fun i => by rw [hu]; rfl) (fun X B D i c hp hD => body X B D (i.1) (i.2) c hp hD)
theorem fnN2 {α1 α2 : Type} {r1 : Rp α1} {r2 : Rp α2} {pre : α1 → α2 → Prop} {rr : Rp ρ} {f : α1 → α2 → ρ} (T : FT K mg x q st ps) (S : FnScope N ps (defScope st)) (hv : locB N (defScope st) vs = true) (Γu : Ctx) (hl : ps.length = 2 := by rfl) (hu : List.replicate (N.length - ps.length) .un = Γu := by rfl)
    (body : ∀ (X : Cx) (B : Bs) (D : Ends) (x1 : α1) (x2 : α2), XC P w K mg base k N (defScope st) vs vs X → pre x1 x2 → RtN B rr (f x1 x2) D → SD X B (.val r1 x1 :: .val r2 x2 :: Γu) (defBody st) D) : FN P w K mg base CX0 (k + 1) x ps (SpN2 r1 r2 pre rr f) :=
  fnN (fun i => .val r1 (i.1) :: .val r2 (i.2) :: Γu) T S hv (fun _ => hl.symm) (fun i => by rw [hu]; rfl) (fun X B D i c hp hD => body X B D (i.1) (i.2) c hp hD)
abbrev SpI2 {α1 α2 : Type} (C : Addr) (r1 : Rp α1) (r2 : Rp α2) (pre : α1 → α2 → Prop) (names : List Str) (fl : α1 → α2 → Ctx) : Sp := SpI C (fun i : α1 × α2 => [.val r1 (i.1), .val r2 (i.2)]) (fun i => pre (i.1) (i.2)) names (fun i => fl (i.1) (i.2))
theorem fnI2 {α1 α2 : Type} {r1 : Rp α1} {r2 : Rp α2} {pre : α1 → α2 → Prop} {names : List Str} {fl : α1 → α2 → Ctx} (T : FTk K mg x q C st ps) (S : FnScope N ps (defScope st)) (hv : locB N (defScope st) vs = true) (Γu : Ctx) (hl : ps.length = 3 := by rfl) (hu : List.replicate (N.length - ps.length) .un = Γu := by rfl)
    (body : ∀ (X : Cx) (B : Bs) (D : Ends) (x1 : α1) (x2 : α2) (xd : Addr × Addr), XC P w K mg base k N (defScope st) vs vs X → pre x1 x2 → (∀ σ H' Γ', EnvP B (.own (oObj C names (fl x1 x2)) xd :: Γ') σ H' → D.nx σ H') → SD X B (.own (oObj C [] []) xd :: .val r1 x1 :: .val r2 x2 :: Γu) (defBody st) D) : FMk P w K mg base (k + 1) x C ps (SpI2 C r1 r2 pre names fl) :=
  fnI (fun i xd => .own (oObj C [] []) xd :: .val r1 (i.1) :: .val r2 (i.2) :: Γu) T S hv (fun _ => hl.symm) (fun i xd => by rw [hu]; rfl) (fun X B D i xd c hp hD => body X B D (i.1) (i.2) xd c hp hD)
theorem c_make2 (c : XC P w K mg base k N sc vs ls X) {α1 α2 : Type} {r1 : Rp α1} {r2 : Rp α2} {pre : α1 → α2 → Prop} {names : List Str} {fl : α1 → α2 → Ctx} {cls : β → Addr} {flds : β → Ctx} {e1 e2 : Expr} {x1 : α1} {x2 : α2} (o : β) (h : FMk P w K mg base j x C ps (SpI2 C r1 r2 pre names fl)) (h1 : DE X B Γ e1 r1 x1) (h2 : DE X B Γ e2 r2 x2) (hp : pre x1 x2) (hC : cls o = C := by rfl) (hf : flds o = fl x1 x2 := by rfl) (hj : j + 1 ≤ k := by decide) (hg : glB sc x = true := by decide +kernel)
    (hdb : (x == ("__debug__" : Str)) = false := by decide) (s1 : starEach [e1, e2] X.env = (false, eval e1 X.env) :: starEach [e2] X.env := by rfl) (s2 : starEach [e2] X.env = (false, eval e2 X.env) :: starEach [] X.env := by rfl) (hpl : (backTo pos (starEach [e2] X.env)).any (·.1) = false := by rfl) :
    DE X B Γ (.Call (.Name x p) [e1, e2] [] pos) (rObj cls names flds) o := c_make c (x1, x2) h (da_cons h1 (da_cons h2 da_nil s2) s1) hp hC hf hj hg hdb s1 hpl
theorem c_methF2 (c : XC P w K mg base k N sc vs ls X) {pl : Sem Bool} {α1 α2 : Type} {cls : α1 → Addr} {names : List Str} {flds : α1 → Ctx} {r2 : Rp α2} {pre : α1 → α2 → Prop} {rr : Rp ρ} {f : α1 → α2 → ρ} {e1 e2 : Expr} {x1 : α1} {x2 : α2} (h : FMe P w K mg base j (cls x1) m ps (SpF2 (rObj cls names flds) r2 pre rr f)) (h1 : DE X B Γ e1 (rObj cls names flds) x1) (h2 : DE X B Γ e2 r2 x2) (hp : pre x1 x2) (hj : j ≤ k := by decide) (hnm : names.contains m = false := by decide +kernel)
    (s2 : starEach [e2] X.env = (false, eval e2 X.env) :: starEach [] X.env := by rfl) (hpl : (backTo pos (starEach [] X.env)).any (·.1) = false := by rfl)
    (ht : eval (.Call (.Attribute e1 m apos) [e2] [] pos) X.env = (do
      let ov ← eval e1 X.env
      standAt apos.atName
      let (f, first) ← holding [ov] (getMethod ov m pl)
      callWith pos f first (backTo pos (starEach [e2] X.env)) (backToKw pos (keywordEach [] X.env))) := by rfl) : DE X B Γ (.Call (.Attribute e1 m apos) [e2] [] pos) rr (f x1 x2) := c_meth c (x1, x2) h h1 rfl (da_cons h2 da_nil s2) hp hj hnm s2 hpl ht
abbrev SpF3 {α1 α2 α3 : Type} {ρ : Type} (r1 : Rp α1) (r2 : Rp α2) (r3 : Rp α3) (pre : α1 → α2 → α3 → Prop) (rr : Rp ρ) (f : α1 → α2 → α3 → ρ) : Sp := SpF (fun i : α1 × α2 × α3 => [.val r1 (i.1), .val r2 (i.2.1), .val r3 (i.2.2)]) (fun i => pre (i.1) (i.2.1) (i.2.2)) rr (fun i => f (i.1) (i.2.1) (i.2.2))
theorem c_callF3 (c : XC P w K mg base k N sc vs ls X) {α1 α2 α3 : Type} {r1 : Rp α1} {r2 : Rp α2} {r3 : Rp α3} {pre : α1 → α2 → α3 → Prop} {rr : Rp ρ} {f : α1 → α2 → α3 → ρ} {e1 e2 e3 : Expr} {x1 : α1} {x2 : α2} {x3 : α3} (h : FN P w K mg base CX0 j x ps (SpF3 r1 r2 r3 pre rr f)) (h1 : DE X B Γ e1 r1 x1) (h2 : DE X B Γ e2 r2 x2) (h3 : DE X B Γ e3 r3 x3) (hp : pre x1 x2 x3) (hj : j ≤ k := by decide) (hg : glB sc x = true := by decide +kernel)
    (hdb : (x == ("__debug__" : Str)) = false := by decide) (s1 : starEach [e1, e2, e3] X.env = (false, eval e1 X.env) :: starEach [e2, e3] X.env := by rfl) (s2 : starEach [e2, e3] X.env = (false, eval e2 X.env) :: starEach [e3] X.env := by rfl) (s3 : starEach [e3] X.env = (false, eval e3 X.env) :: starEach [] X.env := by rfl) (hpl : (backTo pos (starEach [e2, e3] X.env)).any (·.1) = false := by rfl) :
    DE X B Γ (.Call (.Name x p) [e1, e2, e3] [] pos) rr (f x1 x2 x3) := c_call c h (x1, x2, x3) (da_cons h1 (da_cons h2 (da_cons h3 da_nil s3) s2) s1) hp hj hg hdb s1 hpl
abbrev SpM3 {α1 α2 α3 : Type} {ρ : Type} (r1 : Rp α1) (r2 : Rp α2) (r3 : Rp α3) (pre : α1 → α2 → α3 → Prop) (rr : Rp ρ) (f : α1 → α2 → α3 → List ρ) : Sp := SpM (fun i : α1 × α2 × α3 => [.val r1 (i.1), .val r2 (i.2.1), .val r3 (i.2.2)]) (fun i => pre (i.1) (i.2.1) (i.2.2)) rr (fun i => f (i.1) (i.2.1) (i.2.2))
theorem c_callM3 (c : XC P w K mg base k N sc vs ls X) {α1 α2 α3 : Type} {r1 : Rp α1} {r2 : Rp α2} {r3 : Rp α3} {pre : α1 → α2 → α3 → Prop} {rr : Rp ρ} {f : α1 → α2 → α3 → List ρ} {e1 e2 e3 : Expr} {x1 : α1} {x2 : α2} {x3 : α3} (h : FN P w K mg base CX0 j x ps (SpM3 r1 r2 r3 pre rr f)) (h1 : DE X B Γ e1 r1 x1) (h2 : DE X B Γ e2 r2 x2) (h3 : DE X B Γ e3 r3 x3) (hp : pre x1 x2 x3) (hj : j ≤ k := by decide) (hg : glB sc x = true := by decide +kernel)
    (hdb : (x == ("__debug__" : Str)) = false := by decide) (s1 : starEach [e1, e2, e3] X.env = (false, eval e1 X.env) :: starEach [e2, e3] X.env := by rfl) (s2 : starEach [e2, e3] X.env = (false, eval e2 X.env) :: starEach [e3] X.env := by rfl) (s3 : starEach [e3] X.env = (false, eval e3 X.env) :: starEach [] X.env := by rfl) (hpl : (backTo pos (starEach [e2, e3] X.env)).any (·.1) = false := by rfl) :
    DM X B Γ (.Call (.Name x p) [e1, e2, e3] [] pos) rr (f x1 x2 x3) := c_callM c h (x1, x2, x3) (da_cons h1 (da_cons h2 (da_cons h3 da_nil s3) s2) s1) hp hj hg hdb s1 hpl
abbrev SpN3 {α1 α2 α3 : Type} {ρ : Type} (r1 : Rp α1) (r2 : Rp α2) (r3 : Rp α3) (pre : α1 → α2 → α3 → Prop) (rr : Rp ρ) (f : α1 → α2 → α3 → ρ) : Sp := SpN (fun i : α1 × α2 × α3 => [.val r1 (i.1), .val r2 (i.2.1), .val r3 (i.2.2)]) (fun i => pre (i.1) (i.2.1) (i.2.2)) rr (fun i => f (i.1) (i.2.1) (i.2.2))
theorem c_callN3 (c : XC P w K mg base k N sc vs ls X) {α1 α2 α3 : Type} {r1 : Rp α1} {r2 : Rp α2} {r3 : Rp α3} {pre : α1 → α2 → α3 → Prop} {rr : Rp ρ} {f : α1 → α2 → α3 → ρ} {e1 e2 e3 : Expr} {x1 : α1} {x2 : α2} {x3 : α3} (h : FN P w K mg base CX0 j x ps (SpN3 r1 r2 r3 pre rr f)) (h1 : DE X B Γ e1 r1 x1) (h2 : DE X B Γ e2 r2 x2) (h3 : DE X B Γ e3 r3 x3) (hp : pre x1 x2 x3) (hj : j ≤ k := by decide) (hg : glB sc x = true := by decide +kernel)
    (hdb : (x == ("__debug__" : Str)) = false := by decide) (s1 : starEach [e1, e2, e3] X.env = (false, eval e1 X.env) :: starEach [e2, e3] X.env := by rfl) (s2 : starEach [e2, e3] X.env = (false, eval e2 X.env) :: starEach [e3] X.env := by rfl) (s3 : starEach [e3] X.env = (false, eval e3 X.env) :: starEach [] X.env := by rfl) (hpl : (backTo pos (starEach [e2, e3] X.env)).any (·.1) = false := by rfl) :
    DN X B Γ (.Call (.Name x p) [e1, e2, e3] [] pos) rr (f x1 x2 x3) := c_callN c h (x1, x2, x3) (da_cons h1 (da_cons h2 (da_cons h3 da_nil s3) s2) s1) hp hj hg hdb s1 hpl
theorem fnF3 {α1 α2 α3 : Type} {r1 : Rp α1} {r2 : Rp α2} {r3 : Rp α3} {pre : α1 → α2 → α3 → Prop} {rr : Rp ρ} {f : α1 → α2 → α3 → ρ} (T : FT K mg x q st ps) (S : FnScope N ps (defScope st)) (hv : locB N (defScope st) vs = true) (Γu : Ctx) (hl : ps.length = 3 := by rfl) (hu : List.replicate (N.length - ps.length) .un = Γu := by rfl)
    (body : ∀ (X : Cx) (B : Bs) (D : Ends) (x1 : α1) (x2 : α2) (x3 : α3), XC P w K mg base k N (defScope st) vs vs X → pre x1 x2 x3 → RtOk B rr (f x1 x2 x3) D → (∀ σ H, D.nx σ H → D.rt .non H) → SD X B (.val r1 x1 :: .val r2 x2 :: .val r3 x3 :: Γu) (defBody st) { D with nx := fun _ H => D.rt .non H }) : FN P w K mg base CX0 (k + 1) x ps (SpF3 r1 r2 r3 pre rr f) :=
  fnF (fun i => .val r1 (i.1) :: .val r2 (i.2.1) :: .val r3 (i.2.2) :: Γu) T S hv (fun _ => hl.symm) (fun i => by rw [hu]; rfl) (fun X B D i c hp hD hn => body X B D (i.1) (i.2.1) (i.2.2) c hp hD hn)
theorem meF3 {α1 α2 α3 : Type} {r1 : Rp α1} {r2 : Rp α2} {r3 : Rp α3} {pre : α1 → α2 → α3 → Prop} {rr : Rp ρ} {f : α1 → α2 → α3 → ρ} (T : FTm K m q C st ps) (S : FnScope N ps (defScope st)) (hv : locB N (defScope st) vs = true) (Γu : Ctx) (hl : ps.length = 3 := by rfl) (hu : List.replicate (N.length - ps.length) .un = Γu := by rfl)
    (body : ∀ (X : Cx) (B : Bs) (D : Ends) (x1 : α1) (x2 : α2) (x3 : α3), XC P w K mg base k N (defScope st) vs vs X → pre x1 x2 x3 → RtOk B rr (f x1 x2 x3) D → (∀ σ H, D.nx σ H → D.rt .non H) → SD X B (.val r1 x1 :: .val r2 x2 :: .val r3 x3 :: Γu) (defBody st) { D with nx := fun _ H => D.rt .non H }) : FMe P w K mg base (k + 1) C m ps (SpF3 r1 r2 r3 pre rr f) :=
  meF (fun i => .val r1 (i.1) :: .val r2 (i.2.1) :: .val r3 (i.2.2) :: Γu) T S hv (fun _ => hl.symm) (fun i => by rw [hu]; rfl) (fun X B D i c hp hD hn => body X B D (i.1) (i.2.1) (i.2.2) c hp hD hn)
theorem fnM3 {α1 α2 α3 : Type} {r1 : Rp α1} {r2 : Rp α2} {r3 : Rp α3} {pre : α1 → α2 → α3 → Prop} {rr : Rp ρ} {f : α1 → α2 → α3 → List ρ} (T : FT K mg x q st ps) (S : FnScope N ps (defScope st)) (hv : locB N (defScope st) vs = true) (Γu : Ctx) (hl : ps.length = 3 := by rfl) (hu : List.replicate (N.length - ps.length) .un = Γu := by rfl)
    (body : ∀ (X : Cx) (B : Bs) (D : Ends) (x1 : α1) (x2 : α2) (x3 : α3), XC P w K mg base k N (defScope st) vs vs X → pre x1 x2 x3 → RtM B rr (f x1 x2 x3) D → SD X B (.val r1 x1 :: .val r2 x2 :: .val r3 x3 :: Γu) (defBody st) D) : FN P w K mg base CX0 (k + 1) x ps (SpM3 r1 r2 r3 pre rr f) :=
  fnM (fun i => .val r1 (i.1) :: .val r2 (i.2.1) :: .val r3 (i.2.2) :: Γu) T S hv (fun _ => hl.symm) (fun i => by rw [hu]; rfl) (fun X B D i c hp hD => body X B D (i.1) (i.2.1) (i.2.2) c hp hD)
theorem meM3 {α1 α2 α3 : Type} {r1 : Rp α1} {r2 : Rp α2} {r3 : Rp α3} {pre : α1 → α2 → α3 → Prop} {rr : Rp ρ} {f : α1 → α2 → α3 → List ρ} (T : FTm K m q C st ps) (S : FnScope N ps (defScope st)) (hv : locB N (defScope st) vs = true) (Γu : Ctx) (hl : ps.length = 3 := by rfl) (hu : List.replicate (N.length - ps.length) .un = Γu := by rfl)
    (body : ∀ (X : Cx) (B : Bs) (D : Ends) (x1 : α1) (x2 : α2) (x3 : α3), XC P w K mg base k N (defScope st) vs vs X → pre x1 x2 x3 → RtM B rr (f x1 x2 x3) D → SD X B (.val r1 x1 :: .val r2 x2 :: .val r3 x3 :: Γu) (defBody st) D) : FMe P w K mg base (k + 1) C m ps (SpM3 r1 r2 r3 pre rr f) :=
  meM (fun i => .val r1 (i.1) :: .val r2 (i.2.1) :: .val r3 (i.2.2) :: Γu) T S hv (fun _ => hl.symm) (fun i => by rw [hu]; rfl) (fun X B D i c hp hD => body X B D (i.1) (i.2.1) (i.2.2) c hp hD)
theorem fnN3 {α1 α2 α3 : Type} {r1 : Rp α1} {r2 : Rp α2} {r3 : Rp α3} {pre : α1 → α2 → α3 → Prop} {rr : Rp ρ} {f : α1 → α2 → α3 → ρ} (T : FT K mg x q st ps) (S : FnScope N ps (defScope st)) (hv : locB N (defScope st) vs = true) (Γu : Ctx) (hl : ps.length = 3 := by rfl) (hu : List.replicate (N.length - ps.length) .un = Γu := by rfl)
    (body : ∀ (X : Cx) (B : Bs) (D : Ends) (x1 : α1) (x2 : α2) (x3 : α3), XC P w K mg base k N (defScope st) vs vs X → pre x1 x2 x3 → RtN B rr (f x1 x2 x3) D → SD X B (.val r1 x1 :: .val r2 x2 :: .val r3 x3 :: Γu) (defBody st) D) : FN P w K mg base CX0 (k + 1) x ps (SpN3 r1 r2 r3 pre rr f) :=
  fnN (fun i => .val r1 (i.1) :: .val r2 (i.2.1) :: .val r3 (i.2.2) :: Γu) T S hv (fun _ => hl.symm) (fun i => by rw [hu]; rfl) (fun X B D i c hp hD => body X B D (i.1) (i.2.1) (i.2.2) c hp hD)
abbrev SpI3 {α1 α2 α3 : Type} (C : Addr) (r1 : Rp α1) (r2 : Rp α2) (r3 : Rp α3) (pre : α1 → α2 → α3 → Prop) (names : List Str) (fl : α1 → α2 → α3 → Ctx) : Sp := SpI C (fun i : α1 × α2 × α3 => [.val r1 (i.1), .val r2 (i.2.1), .val r3 (i.2.2)]) (fun i => pre (i.1) (i.2.1) (i.2.2)) names (fun i => fl (i.1) (i.2.1) (i.2.2))
theorem fnI3 {α1 α2 α3 : Type} {r1 : Rp α1} {r2 : Rp α2} {r3 : Rp α3} {pre : α1 → α2 → α3 → Prop} {names : List Str} {fl : α1 → α2 → α3 → Ctx} (T : FTk K mg x q C st ps) (S : FnScope N ps (defScope st)) (hv : locB N (defScope st) vs = true) (Γu : Ctx) (hl : ps.length = 4 := by rfl) (hu : List.replicate (N.length - ps.length) .un = Γu := by rfl)
    (body : ∀ (X : Cx) (B : Bs) (D : Ends) (x1 : α1) (x2 : α2) (x3 : α3) (xd : Addr × Addr), XC P w K mg base k N (defScope st) vs vs X → pre x1 x2 x3 → (∀ σ H' Γ', EnvP B (.own (oObj C names (fl x1 x2 x3)) xd :: Γ') σ H' → D.nx σ H') → SD X B (.own (oObj C [] []) xd :: .val r1 x1 :: .val r2 x2 :: .val r3 x3 :: Γu) (defBody st) D) : FMk P w K mg base (k + 1) x C ps (SpI3 C r1 r2 r3 pre names fl) :=
  fnI (fun i xd => .own (oObj C [] []) xd :: .val r1 (i.1) :: .val r2 (i.2.1) :: .val r3 (i.2.2) :: Γu) T S hv (fun _ => hl.symm) (fun i xd => by rw [hu]; rfl) (fun X B D i xd c hp hD => body X B D (i.1) (i.2.1) (i.2.2) xd c hp hD)
theorem c_make3 (c : XC P w K mg base k N sc vs ls X) {α1 α2 α3 : Type} {r1 : Rp α1} {r2 : Rp α2} {r3 : Rp α3} {pre : α1 → α2 → α3 → Prop} {names : List Str} {fl : α1 → α2 → α3 → Ctx} {cls : β → Addr} {flds : β → Ctx} {e1 e2 e3 : Expr} {x1 : α1} {x2 : α2} {x3 : α3} (o : β) (h : FMk P w K mg base j x C ps (SpI3 C r1 r2 r3 pre names fl)) (h1 : DE X B Γ e1 r1 x1) (h2 : DE X B Γ e2 r2 x2) (h3 : DE X B Γ e3 r3 x3) (hp : pre x1 x2 x3) (hC : cls o = C := by rfl) (hf : flds o = fl x1 x2 x3 := by rfl) (hj : j + 1 ≤ k := by decide) (hg : glB sc x = true := by decide +kernel)
    (hdb : (x == ("__debug__" : Str)) = false := by decide) (s1 : starEach [e1, e2, e3] X.env = (false, eval e1 X.env) :: starEach [e2, e3] X.env := by rfl) (s2 : starEach [e2, e3] X.env = (false, eval e2 X.env) :: starEach [e3] X.env := by rfl) (s3 : starEach [e3] X.env = (false, eval e3 X.env) :: starEach [] X.env := by rfl) (hpl : (backTo pos (starEach [e2, e3] X.env)).any (·.1) = false := by rfl) :
    DE X B Γ (.Call (.Name x p) [e1, e2, e3] [] pos) (rObj cls names flds) o := c_make c (x1, x2, x3) h (da_cons h1 (da_cons h2 (da_cons h3 da_nil s3) s2) s1) hp hC hf hj hg hdb s1 hpl
theorem c_methF3 (c : XC P w K mg base k N sc vs ls X) {pl : Sem Bool} {α1 α2 α3 : Type} {cls : α1 → Addr} {names : List Str} {flds : α1 → Ctx} {r2 : Rp α2} {r3 : Rp α3} {pre : α1 → α2 → α3 → Prop} {rr : Rp ρ} {f : α1 → α2 → α3 → ρ} {e1 e2 e3 : Expr} {x1 : α1} {x2 : α2} {x3 : α3} (h : FMe P w K mg base j (cls x1) m ps (SpF3 (rObj cls names flds) r2 r3 pre rr f)) (h1 : DE X B Γ e1 (rObj cls names flds) x1) (h2 : DE X B Γ e2 r2 x2) (h3 : DE X B Γ e3 r3 x3) (hp : pre x1 x2 x3) (hj : j ≤ k := by decide) (hnm : names.contains m = false := by decide +kernel)
    (s2 : starEach [e2, e3] X.env = (false, eval e2 X.env) :: starEach [e3] X.env := by rfl) (s3 : starEach [e3] X.env = (false, eval e3 X.env) :: starEach [] X.env := by rfl) (hpl : (backTo pos (starEach [e3] X.env)).any (·.1) = false := by rfl)
    (ht : eval (.Call (.Attribute e1 m apos) [e2, e3] [] pos) X.env = (do
      let ov ← eval e1 X.env
      standAt apos.atName
      let (f, first) ← holding [ov] (getMethod ov m pl)
      callWith pos f first (backTo pos (starEach [e2, e3] X.env)) (backToKw pos (keywordEach [] X.env))) := by rfl) : DE X B Γ (.Call (.Attribute e1 m apos) [e2, e3] [] pos) rr (f x1 x2 x3) := c_meth c (x1, x2, x3) h h1 rfl (da_cons h2 (da_cons h3 da_nil s3) s2) hp hj hnm s2 hpl ht
abbrev SpF4 {α1 α2 α3 α4 : Type} {ρ : Type} (r1 : Rp α1) (r2 : Rp α2) (r3 : Rp α3) (r4 : Rp α4) (pre : α1 → α2 → α3 → α4 → Prop) (rr : Rp ρ) (f : α1 → α2 → α3 → α4 → ρ) : Sp := SpF (fun i : α1 × α2 × α3 × α4 => [.val r1 (i.1), .val r2 (i.2.1), .val r3 (i.2.2.1), .val r4 (i.2.2.2)]) (fun i => pre (i.1) (i.2.1) (i.2.2.1) (i.2.2.2)) rr (fun i => f (i.1) (i.2.1) (i.2.2.1) (i.2.2.2))
theorem c_callF4 (c : XC P w K mg base k N sc vs ls X) {α1 α2 α3 α4 : Type} {r1 : Rp α1} {r2 : Rp α2} {r3 : Rp α3} {r4 : Rp α4} {pre : α1 → α2 → α3 → α4 → Prop} {rr : Rp ρ} {f : α1 → α2 → α3 → α4 → ρ} {e1 e2 e3 e4 : Expr} {x1 : α1} {x2 : α2} {x3 : α3} {x4 : α4} (h : FN P w K mg base CX0 j x ps (SpF4 r1 r2 r3 r4 pre rr f)) (h1 : DE X B Γ e1 r1 x1) (h2 : DE X B Γ e2 r2 x2) (h3 : DE X B Γ e3 r3 x3) (h4 : DE X B Γ e4 r4 x4) (hp : pre x1 x2 x3 x4) (hj : j ≤ k := by decide) (hg : glB sc x = true := by decide +kernel)
    (hdb : (x == ("__debug__" : Str)) = false := by decide) (s1 : starEach [e1, e2, e3, e4] X.env = (false, eval e1 X.env) :: starEach [e2, e3, e4] X.env := by rfl) (s2 : starEach [e2, e3, e4] X.env = (false, eval e2 X.env) :: starEach [e3, e4] X.env := by rfl) (s3 : starEach [e3, e4] X.env = (false, eval e3 X.env) :: starEach [e4] X.env := by rfl) (s4 : starEach [e4] X.env = (false, eval e4 X.env) :: starEach [] X.env := by rfl) (hpl : (backTo pos (starEach [e2, e3, e4] X.env)).any (·.1) = false := by rfl) :
    DE X B Γ (.Call (.Name x p) [e1, e2, e3, e4] [] pos) rr (f x1 x2 x3 x4) := c_call c h (x1, x2, x3, x4) (da_cons h1 (da_cons h2 (da_cons h3 (da_cons h4 da_nil s4) s3) s2) s1) hp hj hg hdb s1 hpl
abbrev SpM4 {α1 α2 α3 α4 : Type} {ρ : Type} (r1 : Rp α1) (r2 : Rp α2) (r3 : Rp α3) (r4 : Rp α4) (pre : α1 → α2 → α3 → α4 → Prop) (rr : Rp ρ) (f : α1 → α2 → α3 → α4 → List ρ) : Sp := SpM (fun i : α1 × α2 × α3 × α4 => [.val r1 (i.1), .val r2 (i.2.1), .val r3 (i.2.2.1), .val r4 (i.2.2.2)]) (fun i => pre (i.1) (i.2.1) (i.2.2.1) (i.2.2.2)) rr (fun i => f (i.1) (i.2.1) (i.2.2.1) (i.2.2.2))
theorem c_callM4 (c : XC P w K mg base k N sc vs ls X) {α1 α2 α3 α4 : Type} {r1 : Rp α1} {r2 : Rp α2} {r3 : Rp α3} {r4 : Rp α4} {pre : α1 → α2 → α3 → α4 → Prop} {rr : Rp ρ} {f : α1 → α2 → α3 → α4 → List ρ} {e1 e2 e3 e4 : Expr} {x1 : α1} {x2 : α2} {x3 : α3} {x4 : α4} (h : FN P w K mg base CX0 j x ps (SpM4 r1 r2 r3 r4 pre rr f)) (h1 : DE X B Γ e1 r1 x1) (h2 : DE X B Γ e2 r2 x2) (h3 : DE X B Γ e3 r3 x3) (h4 : DE X B Γ e4 r4 x4) (hp : pre x1 x2 x3 x4) (hj : j ≤ k := by decide) (hg : glB sc x = true := by decide +kernel)
    (hdb : (x == ("__debug__" : Str)) = false := by decide) (s1 : starEach [e1, e2, e3, e4] X.env = (false, eval e1 X.env) :: starEach [e2, e3, e4] X.env := by rfl) (s2 : starEach [e2, e3, e4] X.env = (false, eval e2 X.env) :: starEach [e3, e4] X.env := by rfl) (s3 : starEach [e3, e4] X.env = (false, eval e3 X.env) :: starEach [e4] X.env := by rfl) (s4 : starEach [e4] X.env = (false, eval e4 X.env) :: starEach [] X.env := by rfl) (hpl : (backTo pos (starEach [e2, e3, e4] X.env)).any (·.1) = false := by rfl) :
    DM X B Γ (.Call (.Name x p) [e1, e2, e3, e4] [] pos) rr (f x1 x2 x3 x4) := c_callM c h (x1, x2, x3, x4) (da_cons h1 (da_cons h2 (da_cons h3 (da_cons h4 da_nil s4) s3) s2) s1) hp hj hg hdb s1 hpl
abbrev SpN4 {α1 α2 α3 α4 : Type} {ρ : Type} (r1 : Rp α1) (r2 : Rp α2) (r3 : Rp α3) (r4 : Rp α4) (pre : α1 → α2 → α3 → α4 → Prop) (rr : Rp ρ) (f : α1 → α2 → α3 → α4 → ρ) : Sp := SpN (fun i : α1 × α2 × α3 × α4 => [.val r1 (i.1), .val r2 (i.2.1), .val r3 (i.2.2.1), .val r4 (i.2.2.2)]) (fun i => pre (i.1) (i.2.1) (i.2.2.1) (i.2.2.2)) rr (fun i => f (i.1) (i.2.1) (i.2.2.1) (i.2.2.2))
theorem c_callN4 (c : XC P w K mg base k N sc vs ls X) {α1 α2 α3 α4 : Type} {r1 : Rp α1} {r2 : Rp α2} {r3 : Rp α3} {r4 : Rp α4} {pre : α1 → α2 → α3 → α4 → Prop} {rr : Rp ρ} {f : α1 → α2 → α3 → α4 → ρ} {e1 e2 e3 e4 : Expr} {x1 : α1} {x2 : α2} {x3 : α3} {x4 : α4} (h : FN P w K mg base CX0 j x ps (SpN4 r1 r2 r3 r4 pre rr f)) (h1 : DE X B Γ e1 r1 x1) (h2 : DE X B Γ e2 r2 x2) (h3 : DE X B Γ e3 r3 x3) (h4 : DE X B Γ e4 r4 x4) (hp : pre x1 x2 x3 x4) (hj : j ≤ k := by decide) (hg : glB sc x = true := by decide +kernel)
    (hdb : (x == ("__debug__" : Str)) = false := by decide) (s1 : starEach [e1, e2, e3, e4] X.env = (false, eval e1 X.env) :: starEach [e2, e3, e4] X.env := by rfl) (s2 : starEach [e2, e3, e4] X.env = (false, eval e2 X.env) :: starEach [e3, e4] X.env := by rfl) (s3 : starEach [e3, e4] X.env = (false, eval e3 X.env) :: starEach [e4] X.env := by rfl) (s4 : starEach [e4] X.env = (false, eval e4 X.env) :: starEach [] X.env := by rfl) (hpl : (backTo pos (starEach [e2, e3, e4] X.env)).any (·.1) = false := by rfl) :
    DN X B Γ (.Call (.Name x p) [e1, e2, e3, e4] [] pos) rr (f x1 x2 x3 x4) := c_callN c h (x1, x2, x3, x4) (da_cons h1 (da_cons h2 (da_cons h3 (da_cons h4 da_nil s4) s3) s2) s1) hp hj hg hdb s1 hpl
theorem fnF4 {α1 α2 α3 α4 : Type} {r1 : Rp α1} {r2 : Rp α2} {r3 : Rp α3} {r4 : Rp α4} {pre : α1 → α2 → α3 → α4 → Prop} {rr : Rp ρ} {f : α1 → α2 → α3 → α4 → ρ} (T : FT K mg x q st ps) (S : FnScope N ps (defScope st)) (hv : locB N (defScope st) vs = true) (Γu : Ctx) (hl : ps.length = 4 := by rfl) (hu : List.replicate (N.length - ps.length) .un = Γu := by rfl)
    (body : ∀ (X : Cx) (B : Bs) (D : Ends) (x1 : α1) (x2 : α2) (x3 : α3) (x4 : α4), XC P w K mg base k N (defScope st) vs vs X → pre x1 x2 x3 x4 → RtOk B rr (f x1 x2 x3 x4) D → (∀ σ H, D.nx σ H → D.rt .non H) → SD X B (.val r1 x1 :: .val r2 x2 :: .val r3 x3 :: .val r4 x4 :: Γu) (defBody st) { D with nx := fun _ H => D.rt .non H }) : FN P w K mg base CX0 (k + 1) x ps (SpF4 r1 r2 r3 r4 pre rr f) :=
  fnF (fun i => .val r1 (i.1) :: .val r2 (i.2.1) :: .val r3 (i.2.2.1) :: .val r4 (i.2.2.2) :: Γu) T S hv (fun _ => hl.symm) (fun i => by rw [hu]; rfl) (fun X B D i c hp hD hn => body X B D (i.1) (i.2.1) (i.2.2.1) (i.2.2.2) c hp hD hn)
theorem meF4 {α1 α2 α3 α4 : Type} {r1 : Rp α1} {r2 : Rp α2} {r3 : Rp α3} {r4 : Rp α4} {pre : α1 → α2 → α3 → α4 → Prop} {rr : Rp ρ} {f : α1 → α2 → α3 → α4 → ρ} (T : FTm K m q C st ps) (S : FnScope N ps (defScope st)) (hv : locB N (defScope st) vs = true) (Γu : Ctx) (hl : ps.length = 4 := by rfl) (hu : List.replicate (N.length - ps.length) .un = Γu := by rfl)
    (body : ∀ (X : Cx) (B : Bs) (D : Ends) (x1 : α1) (x2 : α2) (x3 : α3) (x4 : α4), XC P w K mg base k N (defScope st) vs vs X → pre x1 x2 x3 x4 → RtOk B rr (f x1 x2 x3 x4) D → (∀ σ H, D.nx σ H → D.rt .non H) → SD X B (.val r1 x1 :: .val r2 x2 :: .val r3 x3 :: .val r4 x4 :: Γu) (defBody st) { D with nx := fun _ H => D.rt .non H }) : FMe P w K mg base (k + 1) C m ps (SpF4 r1 r2 r3 r4 pre rr f) :=
  meF (fun i => .val r1 (i.1) :: .val r2 (i.2.1) :: .val r3 (i.2.2.1) :: .val r4 (i.2.2.2) :: Γu) T S hv (fun _ => hl.symm) (fun i => by rw [hu]; rfl) (fun X B D i c hp hD hn => body X B D (i.1) (i.2.1) (i.2.2.1) (i.2.2.2) c hp hD hn)
theorem fnM4 {α1 α2 α3 α4 : Type} {r1 : Rp α1} {r2 : Rp α2} {r3 : Rp α3} {r4 : Rp α4} {pre : α1 → α2 → α3 → α4 → Prop} {rr : Rp ρ} {f : α1 → α2 → α3 → α4 → List ρ} (T : FT K mg x q st ps) (S : FnScope N ps (defScope st)) (hv : locB N (defScope st) vs = true) (Γu : Ctx) (hl : ps.length = 4 := by rfl) (hu : List.replicate (N.length - ps.length) .un = Γu := by rfl)
    (body : ∀ (X : Cx) (B : Bs) (D : Ends) (x1 : α1) (x2 : α2) (x3 : α3) (x4 : α4), XC P w K mg base k N (defScope st) vs vs X → pre x1 x2 x3 x4 → RtM B rr (f x1 x2 x3 x4) D → SD X B (.val r1 x1 :: .val r2 x2 :: .val r3 x3 :: .val r4 x4 :: Γu) (defBody st) D) : FN P w K mg base CX0 (k + 1) x ps (SpM4 r1 r2 r3 r4 pre rr f) :=
  fnM (fun i => .val r1 (i.1) :: .val r2 (i.2.1) :: .val r3 (i.2.2.1) :: .val r4 (i.2.2.2) :: Γu) T S hv (fun _ => hl.symm) (fun i => by rw [hu]; rfl) (fun X B D i c hp hD => body X B D (i.1) (i.2.1) (i.2.2.1) (i.2.2.2) c hp hD)
theorem meM4 {α1 α2 α3 α4 : Type} {r1 : Rp α1} {r2 : Rp α2} {r3 : Rp α3} {r4 : Rp α4} {pre : α1 → α2 → α3 → α4 → Prop} {rr : Rp ρ} {f : α1 → α2 → α3 → α4 → List ρ} (T : FTm K m q C st ps) (S : FnScope N ps (defScope st)) (hv : locB N (defScope st) vs = true) (Γu : Ctx) (hl : ps.length = 4 := by rfl) (hu : List.replicate (N.length - ps.length) .un = Γu := by rfl)
    (body : ∀ (X : Cx) (B : Bs) (D : Ends) (x1 : α1) (x2 : α2) (x3 : α3) (x4 : α4), XC P w K mg base k N (defScope st) vs vs X → pre x1 x2 x3 x4 → RtM B rr (f x1 x2 x3 x4) D → SD X B (.val r1 x1 :: .val r2 x2 :: .val r3 x3 :: .val r4 x4 :: Γu) (defBody st) D) : FMe P w K mg base (k + 1) C m ps (SpM4 r1 r2 r3 r4 pre rr f) :=
  meM (fun i => .val r1 (i.1) :: .val r2 (i.2.1) :: .val r3 (i.2.2.1) :: .val r4 (i.2.2.2) :: Γu) T S hv (fun _ => hl.symm) (fun i => by rw [hu]; rfl) (fun X B D i c hp hD => body X B D (i.1) (i.2.1) (i.2.2.1) (i.2.2.2) c hp hD)
theorem fnN4 {α1 α2 α3 α4 : Type} {r1 : Rp α1} {r2 : Rp α2} {r3 : Rp α3} {r4 : Rp α4} {pre : α1 → α2 → α3 → α4 → Prop} {rr : Rp ρ} {f : α1 → α2 → α3 → α4 → ρ} (T : FT K mg x q st ps) (S : FnScope N ps (defScope st)) (hv : locB N (defScope st) vs = true) (Γu : Ctx) (hl : ps.length = 4 := by rfl) (hu : List.replicate (N.length - ps.length) .un = Γu := by rfl)
    (body : ∀ (X : Cx) (B : Bs) (D : Ends) (x1 : α1) (x2 : α2) (x3 : α3) (x4 : α4), XC P w K mg base k N (defScope st) vs vs X → pre x1 x2 x3 x4 → RtN B rr (f x1 x2 x3 x4) D → SD X B (.val r1 x1 :: .val r2 x2 :: .val r3 x3 :: .val r4 x4 :: Γu) (defBody st) D) : FN P w K mg base CX0 (k + 1) x ps (SpN4 r1 r2 r3 r4 pre rr f) :=
  fnN (fun i => .val r1 (i.1) :: .val r2 (i.2.1) :: .val r3 (i.2.2.1) :: .val r4 (i.2.2.2) :: Γu) T S hv (fun _ => hl.symm) (fun i => by rw [hu]; rfl) (fun X B D i c hp hD => body X B D (i.1) (i.2.1) (i.2.2.1) (i.2.2.2) c hp hD)
abbrev SpI4 {α1 α2 α3 α4 : Type} (C : Addr) (r1 : Rp α1) (r2 : Rp α2) (r3 : Rp α3) (r4 : Rp α4) (pre : α1 → α2 → α3 → α4 → Prop) (names : List Str) (fl : α1 → α2 → α3 → α4 → Ctx) : Sp := SpI C (fun i : α1 × α2 × α3 × α4 => [.val r1 (i.1), .val r2 (i.2.1), .val r3 (i.2.2.1), .val r4 (i.2.2.2)]) (fun i => pre (i.1) (i.2.1) (i.2.2.1) (i.2.2.2)) names (fun i => fl (i.1) (i.2.1) (i.2.2.1) (i.2.2.2))
theorem fnI4 {α1 α2 α3 α4 : Type} {r1 : Rp α1} {r2 : Rp α2} {r3 : Rp α3} {r4 : Rp α4} {pre : α1 → α2 → α3 → α4 → Prop} {names : List Str} {fl : α1 → α2 → α3 → α4 → Ctx} (T : FTk K mg x q C st ps) (S : FnScope N ps (defScope st)) (hv : locB N (defScope st) vs = true) (Γu : Ctx) (hl : ps.length = 5 := by rfl) (hu : List.replicate (N.length - ps.length) .un = Γu := by rfl)
    (body : ∀ (X : Cx) (B : Bs) (D : Ends) (x1 : α1) (x2 : α2) (x3 : α3) (x4 : α4) (xd : Addr × Addr), XC P w K mg base k N (defScope st) vs vs X → pre x1 x2 x3 x4 → (∀ σ H' Γ', EnvP B (.own (oObj C names (fl x1 x2 x3 x4)) xd :: Γ') σ H' → D.nx σ H') → SD X B (.own (oObj C [] []) xd :: .val r1 x1 :: .val r2 x2 :: .val r3 x3 :: .val r4 x4 :: Γu) (defBody st) D) : FMk P w K mg base (k + 1) x C ps (SpI4 C r1 r2 r3 r4 pre names fl) :=
  fnI (fun i xd => .own (oObj C [] []) xd :: .val r1 (i.1) :: .val r2 (i.2.1) :: .val r3 (i.2.2.1) :: .val r4 (i.2.2.2) :: Γu) T S hv (fun _ => hl.symm) (fun i xd => by rw [hu]; rfl) (fun X B D i xd c hp hD => body X B D (i.1) (i.2.1) (i.2.2.1) (i.2.2.2) xd c hp hD)
theorem c_make4 (c : XC P w K mg base k N sc vs ls X) {α1 α2 α3 α4 : Type} {r1 : Rp α1} {r2 : Rp α2} {r3 : Rp α3} {r4 : Rp α4} {pre : α1 → α2 → α3 → α4 → Prop} {names : List Str} {fl : α1 → α2 → α3 → α4 → Ctx} {cls : β → Addr} {flds : β → Ctx} {e1 e2 e3 e4 : Expr} {x1 : α1} {x2 : α2} {x3 : α3} {x4 : α4} (o : β) (h : FMk P w K mg base j x C ps (SpI4 C r1 r2 r3 r4 pre names fl)) (h1 : DE X B Γ e1 r1 x1) (h2 : DE X B Γ e2 r2 x2) (h3 : DE X B Γ e3 r3 x3) (h4 : DE X B Γ e4 r4 x4) (hp : pre x1 x2 x3 x4) (hC : cls o = C := by rfl) (hf : flds o = fl x1 x2 x3 x4 := by rfl) (hj : j + 1 ≤ k := by decide) (hg : glB sc x = true := by decide +kernel)
    (hdb : (x == ("__debug__" : Str)) = false := by decide) (s1 : starEach [e1, e2, e3, e4] X.env = (false, eval e1 X.env) :: starEach [e2, e3, e4] X.env := by rfl) (s2 : starEach [e2, e3, e4] X.env = (false, eval e2 X.env) :: starEach [e3, e4] X.env := by rfl) (s3 : starEach [e3, e4] X.env = (false, eval e3 X.env) :: starEach [e4] X.env := by rfl) (s4 : starEach [e4] X.env = (false, eval e4 X.env) :: starEach [] X.env := by rfl) (hpl : (backTo pos (starEach [e2, e3, e4] X.env)).any (·.1) = false := by rfl) :
    DE X B Γ (.Call (.Name x p) [e1, e2, e3, e4] [] pos) (rObj cls names flds) o := c_make c (x1, x2, x3, x4) h (da_cons h1 (da_cons h2 (da_cons h3 (da_cons h4 da_nil s4) s3) s2) s1) hp hC hf hj hg hdb s1 hpl
theorem c_methF4 (c : XC P w K mg base k N sc vs ls X) {pl : Sem Bool} {α1 α2 α3 α4 : Type} {cls : α1 → Addr} {names : List Str} {flds : α1 → Ctx} {r2 : Rp α2} {r3 : Rp α3} {r4 : Rp α4} {pre : α1 → α2 → α3 → α4 → Prop} {rr : Rp ρ} {f : α1 → α2 → α3 → α4 → ρ} {e1 e2 e3 e4 : Expr} {x1 : α1} {x2 : α2} {x3 : α3} {x4 : α4} (h : FMe P w K mg base j (cls x1) m ps (SpF4 (rObj cls names flds) r2 r3 r4 pre rr f)) (h1 : DE X B Γ e1 (rObj cls names flds) x1) (h2 : DE X B Γ e2 r2 x2) (h3 : DE X B Γ e3 r3 x3) (h4 : DE X B Γ e4 r4 x4) (hp : pre x1 x2 x3 x4) (hj : j ≤ k := by decide) (hnm : names.contains m = false := by decide +kernel)
    (s2 : starEach [e2, e3, e4] X.env = (false, eval e2 X.env) :: starEach [e3, e4] X.env := by rfl) (s3 : starEach [e3, e4] X.env = (false, eval e3 X.env) :: starEach [e4] X.env := by rfl) (s4 : starEach [e4] X.env = (false, eval e4 X.env) :: starEach [] X.env := by rfl) (hpl : (backTo pos (starEach [e3, e4] X.env)).any (·.1) = false := by rfl)
    (ht : eval (.Call (.Attribute e1 m apos) [e2, e3, e4] [] pos) X.env = (do
      let ov ← eval e1 X.env
      standAt apos.atName
      let (f, first) ← holding [ov] (getMethod ov m pl)
      callWith pos f first (backTo pos (starEach [e2, e3, e4] X.env)) (backToKw pos (keywordEach [] X.env))) := by rfl) : DE X B Γ (.Call (.Attribute e1 m apos) [e2, e3, e4] [] pos) rr (f x1 x2 x3 x4) := c_meth c (x1, x2, x3, x4) h h1 rfl (da_cons h2 (da_cons h3 (da_cons h4 da_nil s4) s3) s2) hp hj hnm s2 hpl ht
abbrev SpF5 {α1 α2 α3 α4 α5 : Type} {ρ : Type} (r1 : Rp α1) (r2 : Rp α2) (r3 : Rp α3) (r4 : Rp α4) (r5 : Rp α5) (pre : α1 → α2 → α3 → α4 → α5 → Prop) (rr : Rp ρ) (f : α1 → α2 → α3 → α4 → α5 → ρ) : Sp := SpF (fun i : α1 × α2 × α3 × α4 × α5 => [.val r1 (i.1), .val r2 (i.2.1), .val r3 (i.2.2.1), .val r4 (i.2.2.2.1), .val r5 (i.2.2.2.2)]) (fun i => pre (i.1) (i.2.1) (i.2.2.1) (i.2.2.2.1) (i.2.2.2.2)) rr (fun i => f (i.1) (i.2.1) (i.2.2.1) (i.2.2.2.1) (i.2.2.2.2))
theorem c_callF5 (c : XC P w K mg base k N sc vs ls X) {α1 α2 α3 α4 α5 : Type} {r1 : Rp α1} {r2 : Rp α2} {r3 : Rp α3} {r4 : Rp α4} {r5 : Rp α5} {pre : α1 → α2 → α3 → α4 → α5 → Prop} {rr : Rp ρ} {f : α1 → α2 → α3 → α4 → α5 → ρ} {e1 e2 e3 e4 e5 : Expr} {x1 : α1} {x2 : α2} {x3 : α3} {x4 : α4} {x5 : α5} (h : FN P w K mg base CX0 j x ps (SpF5 r1 r2 r3 r4 r5 pre rr f)) (h1 : DE X B Γ e1 r1 x1) (h2 : DE X B Γ e2 r2 x2) (h3 : DE X B Γ e3 r3 x3) (h4 : DE X B Γ e4 r4 x4) (h5 : DE X B Γ e5 r5 x5) (hp : pre x1 x2 x3 x4 x5) (hj : j ≤ k := by decide) (hg : glB sc x = true := by decide +kernel)
    (hdb : (x == ("__debug__" : Str)) = false := by decide) (s1 : starEach [e1, e2, e3, e4, e5] X.env = (false, eval e1 X.env) :: starEach [e2, e3, e4, e5] X.env := by rfl) (s2 : starEach [e2, e3, e4, e5] X.env = (false, eval e2 X.env) :: starEach [e3, e4, e5] X.env := by rfl) (s3 : starEach [e3, e4, e5] X.env = (false, eval e3 X.env) :: starEach [e4, e5] X.env := by rfl) (s4 : starEach [e4, e5] X.env = (false, eval e4 X.env) :: starEach [e5] X.env := by rfl) (s5 : starEach [e5] X.env = (false, eval e5 X.env) :: starEach [] X.env := by rfl) (hpl : (backTo pos (starEach [e2, e3, e4, e5] X.env)).any (·.1) = false := by rfl) :
    DE X B Γ (.Call (.Name x p) [e1, e2, e3, e4, e5] [] pos) rr (f x1 x2 x3 x4 x5) := c_call c h (x1, x2, x3, x4, x5) (da_cons h1 (da_cons h2 (da_cons h3 (da_cons h4 (da_cons h5 da_nil s5) s4) s3) s2) s1) hp hj hg hdb s1 hpl
abbrev SpM5 {α1 α2 α3 α4 α5 : Type} {ρ : Type} (r1 : Rp α1) (r2 : Rp α2) (r3 : Rp α3) (r4 : Rp α4) (r5 : Rp α5) (pre : α1 → α2 → α3 → α4 → α5 → Prop) (rr : Rp ρ) (f : α1 → α2 → α3 → α4 → α5 → List ρ) : Sp := SpM (fun i : α1 × α2 × α3 × α4 × α5 => [.val r1 (i.1), .val r2 (i.2.1), .val r3 (i.2.2.1), .val r4 (i.2.2.2.1), .val r5 (i.2.2.2.2)]) (fun i => pre (i.1) (i.2.1) (i.2.2.1) (i.2.2.2.1) (i.2.2.2.2)) rr (fun i => f (i.1) (i.2.1) (i.2.2.1) (i.2.2.2.1) (i.2.2.2.2))
theorem c_callM5 (c : XC P w K mg base k N sc vs ls X) {α1 α2 α3 α4 α5 : Type} {r1 : Rp α1} {r2 : Rp α2} {r3 : Rp α3} {r4 : Rp α4} {r5 : Rp α5} {pre : α1 → α2 → α3 → α4 → α5 → Prop} {rr : Rp ρ} {f : α1 → α2 → α3 → α4 → α5 → List ρ} {e1 e2 e3 e4 e5 : Expr} {x1 : α1} {x2 : α2} {x3 : α3} {x4 : α4} {x5 : α5} (h : FN P w K mg base CX0 j x ps (SpM5 r1 r2 r3 r4 r5 pre rr f)) (h1 : DE X B Γ e1 r1 x1) (h2 : DE X B Γ e2 r2 x2) (h3 : DE X B Γ e3 r3 x3) (h4 : DE X B Γ e4 r4 x4) (h5 : DE X B Γ e5 r5 x5) (hp : pre x1 x2 x3 x4 x5) (hj : j ≤ k := by decide) (hg : glB sc x = true := by decide +kernel)
    (hdb : (x == ("__debug__" : Str)) = false := by decide) (s1 : starEach [e1, e2, e3, e4, e5] X.env = (false, eval e1 X.env) :: starEach [e2, e3, e4, e5] X.env := by rfl) (s2 : starEach [e2, e3, e4, e5] X.env = (false, eval e2 X.env) :: starEach [e3, e4, e5] X.env := by rfl) (s3 : starEach [e3, e4, e5] X.env = (false, eval e3 X.env) :: starEach [e4, e5] X.env := by rfl) (s4 : starEach [e4, e5] X.env = (false, eval e4 X.env) :: starEach [e5] X.env := by rfl) (s5 : starEach [e5] X.env = (false, eval e5 X.env) :: starEach [] X.env := by rfl) (hpl : (backTo pos (starEach [e2, e3, e4, e5] X.env)).any (·.1) = false := by rfl) :
    DM X B Γ (.Call (.Name x p) [e1, e2, e3, e4, e5] [] pos) rr (f x1 x2 x3 x4 x5) := c_callM c h (x1, x2, x3, x4, x5) (da_cons h1 (da_cons h2 (da_cons h3 (da_cons h4 (da_cons h5 da_nil s5) s4) s3) s2) s1) hp hj hg hdb s1 hpl
abbrev SpN5 {α1 α2 α3 α4 α5 : Type} {ρ : Type} (r1 : Rp α1) (r2 : Rp α2) (r3 : Rp α3) (r4 : Rp α4) (r5 : Rp α5) (pre : α1 → α2 → α3 → α4 → α5 → Prop) (rr : Rp ρ) (f : α1 → α2 → α3 → α4 → α5 → ρ) : Sp := SpN (fun i : α1 × α2 × α3 × α4 × α5 => [.val r1 (i.1), .val r2 (i.2.1), .val r3 (i.2.2.1), .val r4 (i.2.2.2.1), .val r5 (i.2.2.2.2)]) (fun i => pre (i.1) (i.2.1) (i.2.2.1) (i.2.2.2.1) (i.2.2.2.2)) rr (fun i => f (i.1) (i.2.1) (i.2.2.1) (i.2.2.2.1) (i.2.2.2.2))
theorem c_callN5 (c : XC P w K mg base k N sc vs ls X) {α1 α2 α3 α4 α5 : Type} {r1 : Rp α1} {r2 : Rp α2} {r3 : Rp α3} {r4 : Rp α4} {r5 : Rp α5} {pre : α1 → α2 → α3 → α4 → α5 → Prop} {rr : Rp ρ} {f : α1 → α2 → α3 → α4 → α5 → ρ} {e1 e2 e3 e4 e5 : Expr} {x1 : α1} {x2 : α2} {x3 : α3} {x4 : α4} {x5 : α5} (h : FN P w K mg base CX0 j x ps (SpN5 r1 r2 r3 r4 r5 pre rr f)) (h1 : DE X B Γ e1 r1 x1) (h2 : DE X B Γ e2 r2 x2) (h3 : DE X B Γ e3 r3 x3) (h4 : DE X B Γ e4 r4 x4) (h5 : DE X B Γ e5 r5 x5) (hp : pre x1 x2 x3 x4 x5) (hj : j ≤ k := by decide) (hg : glB sc x = true := by decide +kernel)
    (hdb : (x == ("__debug__" : Str)) = false := by decide) (s1 : starEach [e1, e2, e3, e4, e5] X.env = (false, eval e1 X.env) :: starEach [e2, e3, e4, e5] X.env := by rfl) (s2 : starEach [e2, e3, e4, e5] X.env = (false, eval e2 X.env) :: starEach [e3, e4, e5] X.env := by rfl) (s3 : starEach [e3, e4, e5] X.env = (false, eval e3 X.env) :: starEach [e4, e5] X.env := by rfl) (s4 : starEach [e4, e5] X.env = (false, eval e4 X.env) :: starEach [e5] X.env := by rfl) (s5 : starEach [e5] X.env = (false, eval e5 X.env) :: starEach [] X.env := by rfl) (hpl : (backTo pos (starEach [e2, e3, e4, e5] X.env)).any (·.1) = false := by rfl) :
    DN X B Γ (.Call (.Name x p) [e1, e2, e3, e4, e5] [] pos) rr (f x1 x2 x3 x4 x5) := c_callN c h (x1, x2, x3, x4, x5) (da_cons h1 (da_cons h2 (da_cons h3 (da_cons h4 (da_cons h5 da_nil s5) s4) s3) s2) s1) hp hj hg hdb s1 hpl
theorem fnF5 {α1 α2 α3 α4 α5 : Type} {r1 : Rp α1} {r2 : Rp α2} {r3 : Rp α3} {r4 : Rp α4} {r5 : Rp α5} {pre : α1 → α2 → α3 → α4 → α5 → Prop} {rr : Rp ρ} {f : α1 → α2 → α3 → α4 → α5 → ρ} (T : FT K mg x q st ps) (S : FnScope N ps (defScope st)) (hv : locB N (defScope st) vs = true) (Γu : Ctx) (hl : ps.length = 5 := by rfl) (hu : List.replicate (N.length - ps.length) .un = Γu := by rfl)
    (body : ∀ (X : Cx) (B : Bs) (D : Ends) (x1 : α1) (x2 : α2) (x3 : α3) (x4 : α4) (x5 : α5), XC P w K mg base k N (defScope st) vs vs X → pre x1 x2 x3 x4 x5 → RtOk B rr (f x1 x2 x3 x4 x5) D → (∀ σ H, D.nx σ H → D.rt .non H) → SD X B (.val r1 x1 :: .val r2 x2 :: .val r3 x3 :: .val r4 x4 :: .val r5 x5 :: Γu) (defBody st) { D with nx := fun _ H => D.rt .non H }) : FN P w K mg base CX0 (k + 1) x ps (SpF5 r1 r2 r3 r4 r5 pre rr f) :=
  fnF (fun i => .val r1 (i.1) :: .val r2 (i.2.1) :: .val r3 (i.2.2.1) :: .val r4 (i.2.2.2.1) :: .val r5 (i.2.2.2.2) :: Γu) T S hv (fun _ => hl.symm) (fun i => by rw [hu]; rfl) (fun X B D i c hp hD hn => body X B D (i.1) (i.2.1) (i.2.2.1) (i.2.2.2.1) (i.2.2.2.2) c hp hD hn)
theorem meF5 {α1 α2 α3 α4 α5 : Type} {r1 : Rp α1} {r2 : Rp α2} {r3 : Rp α3} {r4 : Rp α4} {r5 : Rp α5} {pre : α1 → α2 → α3 → α4 → α5 → Prop} {rr : Rp ρ} {f : α1 → α2 → α3 → α4 → α5 → ρ} (T : FTm K m q C st ps) (S : FnScope N ps (defScope st)) (hv : locB N (defScope st) vs = true) (Γu : Ctx) (hl : ps.length = 5 := by rfl) (hu : List.replicate (N.length - ps.length) .un = Γu := by rfl)
    (body : ∀ (X : Cx) (B : Bs) (D : Ends) (x1 : α1) (x2 : α2) (x3 : α3) (x4 : α4) (x5 : α5), XC P w K mg base k N (defScope st) vs vs X → pre x1 x2 x3 x4 x5 → RtOk B rr (f x1 x2 x3 x4 x5) D → (∀ σ H, D.nx σ H → D.rt .non H) → SD X B (.val r1 x1 :: .val r2 x2 :: .val r3 x3 :: .val r4 x4 :: .val r5 x5 :: Γu) (defBody st) { D with nx := fun _ H => D.rt .non H }) : FMe P w K mg base (k + 1) C m ps (SpF5 r1 r2 r3 r4 r5 pre rr f) :=
  meF (fun i => .val r1 (i.1) :: .val r2 (i.2.1) :: .val r3 (i.2.2.1) :: .val r4 (i.2.2.2.1) :: .val r5 (i.2.2.2.2) :: Γu) T S hv (fun _ => hl.symm) (fun i => by rw [hu]; rfl) (fun X B D i c hp hD hn => body X B D (i.1) (i.2.1) (i.2.2.1) (i.2.2.2.1) (i.2.2.2.2) c hp hD hn)
theorem fnM5 {α1 α2 α3 α4 α5 : Type} {r1 : Rp α1} {r2 : Rp α2} {r3 : Rp α3} {r4 : Rp α4} {r5 : Rp α5} {pre : α1 → α2 → α3 → α4 → α5 → Prop} {rr : Rp ρ} {f : α1 → α2 → α3 → α4 → α5 → List ρ} (T : FT K mg x q st ps) (S : FnScope N ps (defScope st)) (hv : locB N (defScope st) vs = true) (Γu : Ctx) (hl : ps.length = 5 := by rfl) (hu : List.replicate (N.length - ps.length) .un = Γu := by rfl)
    (body : ∀ (X : Cx) (B : Bs) (D : Ends) (x1 : α1) (x2 : α2) (x3 : α3) (x4 : α4) (x5 : α5), XC P w K mg base k N (defScope st) vs vs X → pre x1 x2 x3 x4 x5 → RtM B rr (f x1 x2 x3 x4 x5) D → SD X B (.val r1 x1 :: .val r2 x2 :: .val r3 x3 :: .val r4 x4 :: .val r5 x5 :: Γu) (defBody st) D) : FN P w K mg base CX0 (k + 1) x ps (SpM5 r1 r2 r3 r4 r5 pre rr f) :=
  fnM (fun i => .val r1 (i.1) :: .val r2 (i.2.1) :: .val r3 (i.2.2.1) :: .val r4 (i.2.2.2.1) :: .val r5 (i.2.2.2.2) :: Γu) T S hv (fun _ => hl.symm) (fun i => by rw [hu]; rfl) (fun X B D i c hp hD => body X B D (i.1) (i.2.1) (i.2.2.1) (i.2.2.2.1) (i.2.2.2.2) c hp hD)
theorem meM5 {α1 α2 α3 α4 α5 : Type} {r1 : Rp α1} {r2 : Rp α2} {r3 : Rp α3} {r4 : Rp α4} {r5 : Rp α5} {pre : α1 → α2 → α3 → α4 → α5 → Prop} {rr : Rp ρ} {f : α1 → α2 → α3 → α4 → α5 → List ρ} (T : FTm K m q C st ps) (S : FnScope N ps (defScope st)) (hv : locB N (defScope st) vs = true) (Γu : Ctx) (hl : ps.length = 5 := by rfl) (hu : List.replicate (N.length - ps.length) .un = Γu := by rfl)
    (body : ∀ (X : Cx) (B : Bs) (D : Ends) (x1 : α1) (x2 : α2) (x3 : α3) (x4 : α4) (x5 : α5), XC P w K mg base k N (defScope st) vs vs X → pre x1 x2 x3 x4 x5 → RtM B rr (f x1 x2 x3 x4 x5) D → SD X B (.val r1 x1 :: .val r2 x2 :: .val r3 x3 :: .val r4 x4 :: .val r5 x5 :: Γu) (defBody st) D) : FMe P w K mg base (k + 1) C m ps (SpM5 r1 r2 r3 r4 r5 pre rr f) :=
  meM (fun i => .val r1 (i.1) :: .val r2 (i.2.1) :: .val r3 (i.2.2.1) :: .val r4 (i.2.2.2.1) :: .val r5 (i.2.2.2.2) :: Γu) T S hv (fun _ => hl.symm) (fun i => by rw [hu]; rfl) (fun X B D i c hp hD => body X B D (i.1) (i.2.1) (i.2.2.1) (i.2.2.2.1) (i.2.2.2.2) c hp hD)
theorem fnN5 {α1 α2 α3 α4 α5 : Type} {r1 : Rp α1} {r2 : Rp α2} {r3 : Rp α3} {r4 : Rp α4} {r5 : Rp α5} {pre : α1 → α2 → α3 → α4 → α5 → Prop} {rr : Rp ρ} {f : α1 → α2 → α3 → α4 → α5 → ρ} (T : FT K mg x q st ps) (S : FnScope N ps (defScope st)) (hv : locB N (defScope st) vs = true) (Γu : Ctx) (hl : ps.length = 5 := by rfl) (hu : List.replicate (N.length - ps.length) .un = Γu := by rfl)
    (body : ∀ (X : Cx) (B : Bs) (D : Ends) (x1 : α1) (x2 : α2) (x3 : α3) (x4 : α4) (x5 : α5), XC P w K mg base k N (defScope st) vs vs X → pre x1 x2 x3 x4 x5 → RtN B rr (f x1 x2 x3 x4 x5) D → SD X B (.val r1 x1 :: .val r2 x2 :: .val r3 x3 :: .val r4 x4 :: .val r5 x5 :: Γu) (defBody st) D) : FN P w K mg base CX0 (k + 1) x ps (SpN5 r1 r2 r3 r4 r5 pre rr f) :=
  fnN (fun i => .val r1 (i.1) :: .val r2 (i.2.1) :: .val r3 (i.2.2.1) :: .val r4 (i.2.2.2.1) :: .val r5 (i.2.2.2.2) :: Γu) T S hv (fun _ => hl.symm) (fun i => by rw [hu]; rfl) (fun X B D i c hp hD => body X B D (i.1) (i.2.1) (i.2.2.1) (i.2.2.2.1) (i.2.2.2.2) c hp hD)
abbrev SpI5 {α1 α2 α3 α4 α5 : Type} (C : Addr) (r1 : Rp α1) (r2 : Rp α2) (r3 : Rp α3) (r4 : Rp α4) (r5 : Rp α5) (pre : α1 → α2 → α3 → α4 → α5 → Prop) (names : List Str) (fl : α1 → α2 → α3 → α4 → α5 → Ctx) : Sp := SpI C (fun i : α1 × α2 × α3 × α4 × α5 => [.val r1 (i.1), .val r2 (i.2.1), .val r3 (i.2.2.1), .val r4 (i.2.2.2.1), .val r5 (i.2.2.2.2)]) (fun i => pre (i.1) (i.2.1) (i.2.2.1) (i.2.2.2.1) (i.2.2.2.2)) names (fun i => fl (i.1) (i.2.1) (i.2.2.1) (i.2.2.2.1) (i.2.2.2.2))
theorem fnI5 {α1 α2 α3 α4 α5 : Type} {r1 : Rp α1} {r2 : Rp α2} {r3 : Rp α3} {r4 : Rp α4} {r5 : Rp α5} {pre : α1 → α2 → α3 → α4 → α5 → Prop} {names : List Str} {fl : α1 → α2 → α3 → α4 → α5 → Ctx} (T : FTk K mg x q C st ps) (S : FnScope N ps (defScope st)) (hv : locB N (defScope st) vs = true) (Γu : Ctx) (hl : ps.length = 6 := by rfl) (hu : List.replicate (N.length - ps.length) .un = Γu := by rfl)
    (body : ∀ (X : Cx) (B : Bs) (D : Ends) (x1 : α1) (x2 : α2) (x3 : α3) (x4 : α4) (x5 : α5) (xd : Addr × Addr), XC P w K mg base k N (defScope st) vs vs X → pre x1 x2 x3 x4 x5 → (∀ σ H' Γ', EnvP B (.own (oObj C names (fl x1 x2 x3 x4 x5)) xd :: Γ') σ H' → D.nx σ H') → SD X B (.own (oObj C [] []) xd :: .val r1 x1 :: .val r2 x2 :: .val r3 x3 :: .val r4 x4 :: .val r5 x5 :: Γu) (defBody st) D) : FMk P w K mg base (k + 1) x C ps (SpI5 C r1 r2 r3 r4 r5 pre names fl) :=
  fnI (fun i xd => .own (oObj C [] []) xd :: .val r1 (i.1) :: .val r2 (i.2.1) :: .val r3 (i.2.2.1) :: .val r4 (i.2.2.2.1) :: .val r5 (i.2.2.2.2) :: Γu) T S hv (fun _ => hl.symm) (fun i xd => by rw [hu]; rfl) (fun X B D i xd c hp hD => body X B D (i.1) (i.2.1) (i.2.2.1) (i.2.2.2.1) (i.2.2.2.2) xd c hp hD)
theorem c_make5 (c : XC P w K mg base k N sc vs ls X) {α1 α2 α3 α4 α5 : Type} {r1 : Rp α1} {r2 : Rp α2} {r3 : Rp α3} {r4 : Rp α4} {r5 : Rp α5} {pre : α1 → α2 → α3 → α4 → α5 → Prop} {names : List Str} {fl : α1 → α2 → α3 → α4 → α5 → Ctx} {cls : β → Addr} {flds : β → Ctx} {e1 e2 e3 e4 e5 : Expr} {x1 : α1} {x2 : α2} {x3 : α3} {x4 : α4} {x5 : α5} (o : β) (h : FMk P w K mg base j x C ps (SpI5 C r1 r2 r3 r4 r5 pre names fl)) (h1 : DE X B Γ e1 r1 x1) (h2 : DE X B Γ e2 r2 x2) (h3 : DE X B Γ e3 r3 x3) (h4 : DE X B Γ e4 r4 x4) (h5 : DE X B Γ e5 r5 x5) (hp : pre x1 x2 x3 x4 x5) (hC : cls o = C := by rfl) (hf : flds o = fl x1 x2 x3 x4 x5 := by rfl) (hj : j + 1 ≤ k := by decide) (hg : glB sc x = true := by decide +kernel)
    (hdb : (x == ("__debug__" : Str)) = false := by decide) (s1 : starEach [e1, e2, e3, e4, e5] X.env = (false, eval e1 X.env) :: starEach [e2, e3, e4, e5] X.env := by rfl) (s2 : starEach [e2, e3, e4, e5] X.env = (false, eval e2 X.env) :: starEach [e3, e4, e5] X.env := by rfl) (s3 : starEach [e3, e4, e5] X.env = (false, eval e3 X.env) :: starEach [e4, e5] X.env := by rfl) (s4 : starEach [e4, e5] X.env = (false, eval e4 X.env) :: starEach [e5] X.env := by rfl) (s5 : starEach [e5] X.env = (false, eval e5 X.env) :: starEach [] X.env := by rfl) (hpl : (backTo pos (starEach [e2, e3, e4, e5] X.env)).any (·.1) = false := by rfl) :
    DE X B Γ (.Call (.Name x p) [e1, e2, e3, e4, e5] [] pos) (rObj cls names flds) o := c_make c (x1, x2, x3, x4, x5) h (da_cons h1 (da_cons h2 (da_cons h3 (da_cons h4 (da_cons h5 da_nil s5) s4) s3) s2) s1) hp hC hf hj hg hdb s1 hpl
theorem c_methF5 (c : XC P w K mg base k N sc vs ls X) {pl : Sem Bool} {α1 α2 α3 α4 α5 : Type} {cls : α1 → Addr} {names : List Str} {flds : α1 → Ctx} {r2 : Rp α2} {r3 : Rp α3} {r4 : Rp α4} {r5 : Rp α5} {pre : α1 → α2 → α3 → α4 → α5 → Prop} {rr : Rp ρ} {f : α1 → α2 → α3 → α4 → α5 → ρ} {e1 e2 e3 e4 e5 : Expr} {x1 : α1} {x2 : α2} {x3 : α3} {x4 : α4} {x5 : α5} (h : FMe P w K mg base j (cls x1) m ps (SpF5 (rObj cls names flds) r2 r3 r4 r5 pre rr f)) (h1 : DE X B Γ e1 (rObj cls names flds) x1) (h2 : DE X B Γ e2 r2 x2) (h3 : DE X B Γ e3 r3 x3) (h4 : DE X B Γ e4 r4 x4) (h5 : DE X B Γ e5 r5 x5) (hp : pre x1 x2 x3 x4 x5) (hj : j ≤ k := by decide) (hnm : names.contains m = false := by decide +kernel)
    (s2 : starEach [e2, e3, e4, e5] X.env = (false, eval e2 X.env) :: starEach [e3, e4, e5] X.env := by rfl) (s3 : starEach [e3, e4, e5] X.env = (false, eval e3 X.env) :: starEach [e4, e5] X.env := by rfl) (s4 : starEach [e4, e5] X.env = (false, eval e4 X.env) :: starEach [e5] X.env := by rfl) (s5 : starEach [e5] X.env = (false, eval e5 X.env) :: starEach [] X.env := by rfl) (hpl : (backTo pos (starEach [e3, e4, e5] X.env)).any (·.1) = false := by rfl)
    (ht : eval (.Call (.Attribute e1 m apos) [e2, e3, e4, e5] [] pos) X.env = (do
      let ov ← eval e1 X.env
      standAt apos.atName
      let (f, first) ← holding [ov] (getMethod ov m pl)
      callWith pos f first (backTo pos (starEach [e2, e3, e4, e5] X.env)) (backToKw pos (keywordEach [] X.env))) := by rfl) : DE X B Γ (.Call (.Attribute e1 m apos) [e2, e3, e4, e5] [] pos) rr (f x1 x2 x3 x4 x5) := c_meth c (x1, x2, x3, x4, x5) h h1 rfl (da_cons h2 (da_cons h3 (da_cons h4 (da_cons h5 da_nil s5) s4) s3) s2) hp hj hnm s2 hpl ht
abbrev SpF6 {α1 α2 α3 α4 α5 α6 : Type} {ρ : Type} (r1 : Rp α1) (r2 : Rp α2) (r3 : Rp α3) (r4 : Rp α4) (r5 : Rp α5) (r6 : Rp α6) (pre : α1 → α2 → α3 → α4 → α5 → α6 → Prop) (rr : Rp ρ) (f : α1 → α2 → α3 → α4 → α5 → α6 → ρ) : Sp := SpF (fun i : α1 × α2 × α3 × α4 × α5 × α6 => [.val r1 (i.1), .val r2 (i.2.1), .val r3 (i.2.2.1), .val r4 (i.2.2.2.1), .val r5 (i.2.2.2.2.1), .val r6 (i.2.2.2.2.2)]) (fun i => pre (i.1) (i.2.1) (i.2.2.1) (i.2.2.2.1) (i.2.2.2.2.1) (i.2.2.2.2.2)) rr (fun i => f (i.1) (i.2.1) (i.2.2.1) (i.2.2.2.1) (i.2.2.2.2.1) (i.2.2.2.2.2))
theorem c_callF6 (c : XC P w K mg base k N sc vs ls X) {α1 α2 α3 α4 α5 α6 : Type} {r1 : Rp α1} {r2 : Rp α2} {r3 : Rp α3} {r4 : Rp α4} {r5 : Rp α5} {r6 : Rp α6} {pre : α1 → α2 → α3 → α4 → α5 → α6 → Prop} {rr : Rp ρ} {f : α1 → α2 → α3 → α4 → α5 → α6 → ρ} {e1 e2 e3 e4 e5 e6 : Expr} {x1 : α1} {x2 : α2} {x3 : α3} {x4 : α4} {x5 : α5} {x6 : α6} (h : FN P w K mg base CX0 j x ps (SpF6 r1 r2 r3 r4 r5 r6 pre rr f)) (h1 : DE X B Γ e1 r1 x1) (h2 : DE X B Γ e2 r2 x2) (h3 : DE X B Γ e3 r3 x3) (h4 : DE X B Γ e4 r4 x4) (h5 : DE X B Γ e5 r5 x5) (h6 : DE X B Γ e6 r6 x6) (hp : pre x1 x2 x3 x4 x5 x6) (hj : j ≤ k := by decide) (hg : glB sc x = true := by decide +kernel)
    (hdb : (x == ("__debug__" : Str)) = false := by decide) (s1 : starEach [e1, e2, e3, e4, e5, e6] X.env = (false, eval e1 X.env) :: starEach [e2, e3, e4, e5, e6] X.env := by rfl) (s2 : starEach [e2, e3, e4, e5, e6] X.env = (false, eval e2 X.env) :: starEach [e3, e4, e5, e6] X.env := by rfl) (s3 : starEach [e3, e4, e5, e6] X.env = (false, eval e3 X.env) :: starEach [e4, e5, e6] X.env := by rfl) (s4 : starEach [e4, e5, e6] X.env = (false, eval e4 X.env) :: starEach [e5, e6] X.env := by rfl) (s5 : starEach [e5, e6] X.env = (false, eval e5 X.env) :: starEach [e6] X.env := by rfl) (s6 : starEach [e6] X.env = (false, eval e6 X.env) :: starEach [] X.env := by rfl) (hpl : (backTo pos (starEach [e2, e3, e4, e5, e6] X.env)).any (·.1) = false := by rfl) :
    DE X B Γ (.Call (.Name x p) [e1, e2, e3, e4, e5, e6] [] pos) rr (f x1 x2 x3 x4 x5 x6) := c_call c h (x1, x2, x3, x4, x5, x6) (da_cons h1 (da_cons h2 (da_cons h3 (da_cons h4 (da_cons h5 (da_cons h6 da_nil s6) s5) s4) s3) s2) s1) hp hj hg hdb s1 hpl
abbrev SpM6 {α1 α2 α3 α4 α5 α6 : Type} {ρ : Type} (r1 : Rp α1) (r2 : Rp α2) (r3 : Rp α3) (r4 : Rp α4) (r5 : Rp α5) (r6 : Rp α6) (pre : α1 → α2 → α3 → α4 → α5 → α6 → Prop) (rr : Rp ρ) (f : α1 → α2 → α3 → α4 → α5 → α6 → List ρ) : Sp := SpM (fun i : α1 × α2 × α3 × α4 × α5 × α6 => [.val r1 (i.1), .val r2 (i.2.1), .val r3 (i.2.2.1), .val r4 (i.2.2.2.1), .val r5 (i.2.2.2.2.1), .val r6 (i.2.2.2.2.2)]) (fun i => pre (i.1) (i.2.1) (i.2.2.1) (i.2.2.2.1) (i.2.2.2.2.1) (i.2.2.2.2.2)) rr (fun i => f (i.1) (i.2.1) (i.2.2.1) (i.2.2.2.1) (i.2.2.2.2.1) (i.2.2.2.2.2))
theorem c_callM6 (c : XC P w K mg base k N sc vs ls X) {α1 α2 α3 α4 α5 α6 : Type} {r1 : Rp α1} {r2 : Rp α2} {r3 : Rp α3} {r4 : Rp α4} {r5 : Rp α5} {r6 : Rp α6} {pre : α1 → α2 → α3 → α4 → α5 → α6 → Prop} {rr : Rp ρ} {f : α1 → α2 → α3 → α4 → α5 → α6 → List ρ} {e1 e2 e3 e4 e5 e6 : Expr} {x1 : α1} {x2 : α2} {x3 : α3} {x4 : α4} {x5 : α5} {x6 : α6} (h : FN P w K mg base CX0 j x ps (SpM6 r1 r2 r3 r4 r5 r6 pre rr f)) (h1 : DE X B Γ e1 r1 x1) (h2 : DE X B Γ e2 r2 x2) (h3 : DE X B Γ e3 r3 x3) (h4 : DE X B Γ e4 r4 x4) (h5 : DE X B Γ e5 r5 x5) (h6 : DE X B Γ e6 r6 x6) (hp : pre x1 x2 x3 x4 x5 x6) (hj : j ≤ k := by decide) (hg : glB sc x = true := by decide +kernel)
    (hdb : (x == ("__debug__" : Str)) = false := by decide) (s1 : starEach [e1, e2, e3, e4, e5, e6] X.env = (false, eval e1 X.env) :: starEach [e2, e3, e4, e5, e6] X.env := by rfl) (s2 : starEach [e2, e3, e4, e5, e6] X.env = (false, eval e2 X.env) :: starEach [e3, e4, e5, e6] X.env := by rfl) (s3 : starEach [e3, e4, e5, e6] X.env = (false, eval e3 X.env) :: starEach [e4, e5, e6] X.env := by rfl) (s4 : starEach [e4, e5, e6] X.env = (false, eval e4 X.env) :: starEach [e5, e6] X.env := by rfl) (s5 : starEach [e5, e6] X.env = (false, eval e5 X.env) :: starEach [e6] X.env := by rfl) (s6 : starEach [e6] X.env = (false, eval e6 X.env) :: starEach [] X.env := by rfl) (hpl : (backTo pos (starEach [e2, e3, e4, e5, e6] X.env)).any (·.1) = false := by rfl) :
    DM X B Γ (.Call (.Name x p) [e1, e2, e3, e4, e5, e6] [] pos) rr (f x1 x2 x3 x4 x5 x6) := c_callM c h (x1, x2, x3, x4, x5, x6) (da_cons h1 (da_cons h2 (da_cons h3 (da_cons h4 (da_cons h5 (da_cons h6 da_nil s6) s5) s4) s3) s2) s1) hp hj hg hdb s1 hpl
abbrev SpN6 {α1 α2 α3 α4 α5 α6 : Type} {ρ : Type} (r1 : Rp α1) (r2 : Rp α2) (r3 : Rp α3) (r4 : Rp α4) (r5 : Rp α5) (r6 : Rp α6) (pre : α1 → α2 → α3 → α4 → α5 → α6 → Prop) (rr : Rp ρ) (f : α1 → α2 → α3 → α4 → α5 → α6 → ρ) : Sp := SpN (fun i : α1 × α2 × α3 × α4 × α5 × α6 => [.val r1 (i.1), .val r2 (i.2.1), .val r3 (i.2.2.1), .val r4 (i.2.2.2.1), .val r5 (i.2.2.2.2.1), .val r6 (i.2.2.2.2.2)]) (fun i => pre (i.1) (i.2.1) (i.2.2.1) (i.2.2.2.1) (i.2.2.2.2.1) (i.2.2.2.2.2)) rr (fun i => f (i.1) (i.2.1) (i.2.2.1) (i.2.2.2.1) (i.2.2.2.2.1) (i.2.2.2.2.2))
theorem c_callN6 (c : XC P w K mg base k N sc vs ls X) {α1 α2 α3 α4 α5 α6 : Type} {r1 : Rp α1} {r2 : Rp α2} {r3 : Rp α3} {r4 : Rp α4} {r5 : Rp α5} {r6 : Rp α6} {pre : α1 → α2 → α3 → α4 → α5 → α6 → Prop} {rr : Rp ρ} {f : α1 → α2 → α3 → α4 → α5 → α6 → ρ} {e1 e2 e3 e4 e5 e6 : Expr} {x1 : α1} {x2 : α2} {x3 : α3} {x4 : α4} {x5 : α5} {x6 : α6} (h : FN P w K mg base CX0 j x ps (SpN6 r1 r2 r3 r4 r5 r6 pre rr f)) (h1 : DE X B Γ e1 r1 x1) (h2 : DE X B Γ e2 r2 x2) (h3 : DE X B Γ e3 r3 x3) (h4 : DE X B Γ e4 r4 x4) (h5 : DE X B Γ e5 r5 x5) (h6 : DE X B Γ e6 r6 x6) (hp : pre x1 x2 x3 x4 x5 x6) (hj : j ≤ k := by decide) (hg : glB sc x = true := by decide +kernel)
    (hdb : (x == ("__debug__" : Str)) = false := by decide) (s1 : starEach [e1, e2, e3, e4, e5, e6] X.env = (false, eval e1 X.env) :: starEach [e2, e3, e4, e5, e6] X.env := by rfl) (s2 : starEach [e2, e3, e4, e5, e6] X.env = (false, eval e2 X.env) :: starEach [e3, e4, e5, e6] X.env := by rfl) (s3 : starEach [e3, e4, e5, e6] X.env = (false, eval e3 X.env) :: starEach [e4, e5, e6] X.env := by rfl) (s4 : starEach [e4, e5, e6] X.env = (false, eval e4 X.env) :: starEach [e5, e6] X.env := by rfl) (s5 : starEach [e5, e6] X.env = (false, eval e5 X.env) :: starEach [e6] X.env := by rfl) (s6 : starEach [e6] X.env = (false, eval e6 X.env) :: starEach [] X.env := by rfl) (hpl : (backTo pos (starEach [e2, e3, e4, e5, e6] X.env)).any (·.1) = false := by rfl) :
    DN X B Γ (.Call (.Name x p) [e1, e2, e3, e4, e5, e6] [] pos) rr (f x1 x2 x3 x4 x5 x6) := c_callN c h (x1, x2, x3, x4, x5, x6) (da_cons h1 (da_cons h2 (da_cons h3 (da_cons h4 (da_cons h5 (da_cons h6 da_nil s6) s5) s4) s3) s2) s1) hp hj hg hdb s1 hpl
theorem fnF6 {α1 α2 α3 α4 α5 α6 : Type} {r1 : Rp α1} {r2 : Rp α2} {r3 : Rp α3} {r4 : Rp α4} {r5 : Rp α5} {r6 : Rp α6} {pre : α1 → α2 → α3 → α4 → α5 → α6 → Prop} {rr : Rp ρ} {f : α1 → α2 → α3 → α4 → α5 → α6 → ρ} (T : FT K mg x q st ps) (S : FnScope N ps (defScope st)) (hv : locB N (defScope st) vs = true) (Γu : Ctx) (hl : ps.length = 6 := by rfl) (hu : List.replicate (N.length - ps.length) .un = Γu := by rfl)
    (body : ∀ (X : Cx) (B : Bs) (D : Ends) (x1 : α1) (x2 : α2) (x3 : α3) (x4 : α4) (x5 : α5) (x6 : α6), XC P w K mg base k N (defScope st) vs vs X → pre x1 x2 x3 x4 x5 x6 → RtOk B rr (f x1 x2 x3 x4 x5 x6) D → (∀ σ H, D.nx σ H → D.rt .non H) → SD X B (.val r1 x1 :: .val r2 x2 :: .val r3 x3 :: .val r4 x4 :: .val r5 x5 :: .val r6 x6 :: Γu) (defBody st) { D with nx := fun _ H => D.rt .non H }) : FN P w K mg base CX0 (k + 1) x ps (SpF6 r1 r2 r3 r4 r5 r6 pre rr f) :=
  fnF (fun i => .val r1 (i.1) :: .val r2 (i.2.1) :: .val r3 (i.2.2.1) :: .val r4 (i.2.2.2.1) :: .val r5 (i.2.2.2.2.1) :: .val r6 (i.2.2.2.2.2) :: Γu) T S hv (fun _ => hl.symm) (fun i => by rw [hu]; rfl) (fun X B D i c hp hD hn => body X B D (i.1) (i.2.1) (i.2.2.1) (i.2.2.2.1) (i.2.2.2.2.1) (i.2.2.2.2.2) c hp hD hn)
theorem meF6 {α1 α2 α3 α4 α5 α6 : Type} {r1 : Rp α1} {r2 : Rp α2} {r3 : Rp α3} {r4 : Rp α4} {r5 : Rp α5} {r6 : Rp α6} {pre : α1 → α2 → α3 → α4 → α5 → α6 → Prop} {rr : Rp ρ} {f : α1 → α2 → α3 → α4 → α5 → α6 → ρ} (T : FTm K m q C st ps) (S : FnScope N ps (defScope st)) (hv : locB N (defScope st) vs = true) (Γu : Ctx) (hl : ps.length = 6 := by rfl) (hu : List.replicate (N.length - ps.length) .un = Γu := by rfl)
    (body : ∀ (X : Cx) (B : Bs) (D : Ends) (x1 : α1) (x2 : α2) (x3 : α3) (x4 : α4) (x5 : α5) (x6 : α6), XC P w K mg base k N (defScope st) vs vs X → pre x1 x2 x3 x4 x5 x6 → RtOk B rr (f x1 x2 x3 x4 x5 x6) D → (∀ σ H, D.nx σ H → D.rt .non H) → SD X B (.val r1 x1 :: .val r2 x2 :: .val r3 x3 :: .val r4 x4 :: .val r5 x5 :: .val r6 x6 :: Γu) (defBody st) { D with nx := fun _ H => D.rt .non H }) : FMe P w K mg base (k + 1) C m ps (SpF6 r1 r2 r3 r4 r5 r6 pre rr f) :=
  meF (fun i => .val r1 (i.1) :: .val r2 (i.2.1) :: .val r3 (i.2.2.1) :: .val r4 (i.2.2.2.1) :: .val r5 (i.2.2.2.2.1) :: .val r6 (i.2.2.2.2.2) :: Γu) T S hv (fun _ => hl.symm) (fun i => by rw [hu]; rfl) (fun X B D i c hp hD hn => body X B D (i.1) (i.2.1) (i.2.2.1) (i.2.2.2.1) (i.2.2.2.2.1) (i.2.2.2.2.2) c hp hD hn)
theorem fnM6 {α1 α2 α3 α4 α5 α6 : Type} {r1 : Rp α1} {r2 : Rp α2} {r3 : Rp α3} {r4 : Rp α4} {r5 : Rp α5} {r6 : Rp α6} {pre : α1 → α2 → α3 → α4 → α5 → α6 → Prop} {rr : Rp ρ} {f : α1 → α2 → α3 → α4 → α5 → α6 → List ρ} (T : FT K mg x q st ps) (S : FnScope N ps (defScope st)) (hv : locB N (defScope st) vs = true) (Γu : Ctx) (hl : ps.length = 6 := by rfl) (hu : List.replicate (N.length - ps.length) .un = Γu := by rfl)
    (body : ∀ (X : Cx) (B : Bs) (D : Ends) (x1 : α1) (x2 : α2) (x3 : α3) (x4 : α4) (x5 : α5) (x6 : α6), XC P w K mg base k N (defScope st) vs vs X → pre x1 x2 x3 x4 x5 x6 → RtM B rr (f x1 x2 x3 x4 x5 x6) D → SD X B (.val r1 x1 :: .val r2 x2 :: .val r3 x3 :: .val r4 x4 :: .val r5 x5 :: .val r6 x6 :: Γu) (defBody st) D) : FN P w K mg base CX0 (k + 1) x ps (SpM6 r1 r2 r3 r4 r5 r6 pre rr f) :=
  fnM (fun i => .val r1 (i.1) :: .val r2 (i.2.1) :: .val r3 (i.2.2.1) :: .val r4 (i.2.2.2.1) :: .val r5 (i.2.2.2.2.1) :: .val r6 (i.2.2.2.2.2) :: Γu) T S hv (fun _ => hl.symm) (fun i => by rw [hu]; rfl) (fun X B D i c hp hD => body X B D (i.1) (i.2.1) (i.2.2.1) (i.2.2.2.1) (i.2.2.2.2.1) (i.2.2.2.2.2) c hp hD)
theorem meM6 {α1 α2 α3 α4 α5 α6 : Type} {r1 : Rp α1} {r2 : Rp α2} {r3 : Rp α3} {r4 : Rp α4} {r5 : Rp α5} {r6 : Rp α6} {pre : α1 → α2 → α3 → α4 → α5 → α6 → Prop} {rr : Rp ρ} {f : α1 → α2 → α3 → α4 → α5 → α6 → List ρ} (T : FTm K m q C st ps) (S : FnScope N ps (defScope st)) (hv : locB N (defScope st) vs = true) (Γu : Ctx) (hl : ps.length = 6 := by rfl) (hu : List.replicate (N.length - ps.length) .un = Γu := by rfl)
    (body : ∀ (X : Cx) (B : Bs) (D : Ends) (x1 : α1) (x2 : α2) (x3 : α3) (x4 : α4) (x5 : α5) (x6 : α6), XC P w K mg base k N (defScope st) vs vs X → pre x1 x2 x3 x4 x5 x6 → RtM B rr (f x1 x2 x3 x4 x5 x6) D → SD X B (.val r1 x1 :: .val r2 x2 :: .val r3 x3 :: .val r4 x4 :: .val r5 x5 :: .val r6 x6 :: Γu) (defBody st) D) : FMe P w K mg base (k + 1) C m ps (SpM6 r1 r2 r3 r4 r5 r6 pre rr f) :=
  meM (fun i => .val r1 (i.1) :: .val r2 (i.2.1) :: .val r3 (i.2.2.1) :: .val r4 (i.2.2.2.1) :: .val r5 (i.2.2.2.2.1) :: .val r6 (i.2.2.2.2.2) :: Γu) T S hv (fun _ => hl.symm) (fun i => by rw [hu]; rfl) (fun X B D i c hp hD => body X B D (i.1) (i.2.1) (i.2.2.1) (i.2.2.2.1) (i.2.2.2.2.1) (i.2.2.2.2.2) c hp hD)
theorem fnN6 {α1 α2 α3 α4 α5 α6 : Type} {r1 : Rp α1} {r2 : Rp α2} {r3 : Rp α3} {r4 : Rp α4} {r5 : Rp α5} {r6 : Rp α6} {pre : α1 → α2 → α3 → α4 → α5 → α6 → Prop} {rr : Rp ρ} {f : α1 → α2 → α3 → α4 → α5 → α6 → ρ} (T : FT K mg x q st ps) (S : FnScope N ps (defScope st)) (hv : locB N (defScope st) vs = true) (Γu : Ctx) (hl : ps.length = 6 := by rfl) (hu : List.replicate (N.length - ps.length) .un = Γu := by rfl)
    (body : ∀ (X : Cx) (B : Bs) (D : Ends) (x1 : α1) (x2 : α2) (x3 : α3) (x4 : α4) (x5 : α5) (x6 : α6), XC P w K mg base k N (defScope st) vs vs X → pre x1 x2 x3 x4 x5 x6 → RtN B rr (f x1 x2 x3 x4 x5 x6) D → SD X B (.val r1 x1 :: .val r2 x2 :: .val r3 x3 :: .val r4 x4 :: .val r5 x5 :: .val r6 x6 :: Γu) (defBody st) D) : FN P w K mg base CX0 (k + 1) x ps (SpN6 r1 r2 r3 r4 r5 r6 pre rr f) :=
  fnN (fun i => .val r1 (i.1) :: .val r2 (i.2.1) :: .val r3 (i.2.2.1) :: .val r4 (i.2.2.2.1) :: .val r5 (i.2.2.2.2.1) :: .val r6 (i.2.2.2.2.2) :: Γu) T S hv (fun _ => hl.symm) (fun i => by rw [hu]; rfl) (fun X B D i c hp hD => body X B D (i.1) (i.2.1) (i.2.2.1) (i.2.2.2.1) (i.2.2.2.2.1) (i.2.2.2.2.2) c hp hD)
abbrev SpI6 {α1 α2 α3 α4 α5 α6 : Type} (C : Addr) (r1 : Rp α1) (r2 : Rp α2) (r3 : Rp α3) (r4 : Rp α4) (r5 : Rp α5) (r6 : Rp α6) (pre : α1 → α2 → α3 → α4 → α5 → α6 → Prop) (names : List Str) (fl : α1 → α2 → α3 → α4 → α5 → α6 → Ctx) : Sp := SpI C (fun i : α1 × α2 × α3 × α4 × α5 × α6 => [.val r1 (i.1), .val r2 (i.2.1), .val r3 (i.2.2.1), .val r4 (i.2.2.2.1), .val r5 (i.2.2.2.2.1), .val r6 (i.2.2.2.2.2)]) (fun i => pre (i.1) (i.2.1) (i.2.2.1) (i.2.2.2.1) (i.2.2.2.2.1) (i.2.2.2.2.2)) names (fun i => fl (i.1) (i.2.1) (i.2.2.1) (i.2.2.2.1) (i.2.2.2.2.1) (i.2.2.2.2.2))
theorem fnI6 {α1 α2 α3 α4 α5 α6 : Type} {r1 : Rp α1} {r2 : Rp α2} {r3 : Rp α3} {r4 : Rp α4} {r5 : Rp α5} {r6 : Rp α6} {pre : α1 → α2 → α3 → α4 → α5 → α6 → Prop} {names : List Str} {fl : α1 → α2 → α3 → α4 → α5 → α6 → Ctx} (T : FTk K mg x q C st ps) (S : FnScope N ps (defScope st)) (hv : locB N (defScope st) vs = true) (Γu : Ctx) (hl : ps.length = 7 := by rfl) (hu : List.replicate (N.length - ps.length) .un = Γu := by rfl)
    (body : ∀ (X : Cx) (B : Bs) (D : Ends) (x1 : α1) (x2 : α2) (x3 : α3) (x4 : α4) (x5 : α5) (x6 : α6) (xd : Addr × Addr), XC P w K mg base k N (defScope st) vs vs X → pre x1 x2 x3 x4 x5 x6 → (∀ σ H' Γ', EnvP B (.own (oObj C names (fl x1 x2 x3 x4 x5 x6)) xd :: Γ') σ H' → D.nx σ H') → SD X B (.own (oObj C [] []) xd :: .val r1 x1 :: .val r2 x2 :: .val r3 x3 :: .val r4 x4 :: .val r5 x5 :: .val r6 x6 :: Γu) (defBody st) D) : FMk P w K mg base (k + 1) x C ps (SpI6 C r1 r2 r3 r4 r5 r6 pre names fl) :=
  fnI (fun i xd => .own (oObj C [] []) xd :: .val r1 (i.1) :: .val r2 (i.2.1) :: .val r3 (i.2.2.1) :: .val r4 (i.2.2.2.1) :: .val r5 (i.2.2.2.2.1) :: .val r6 (i.2.2.2.2.2) :: Γu) T S hv (fun _ => hl.symm) (fun i xd => by rw [hu]; rfl) (fun X B D i xd c hp hD => body X B D (i.1) (i.2.1) (i.2.2.1) (i.2.2.2.1) (i.2.2.2.2.1) (i.2.2.2.2.2) xd c hp hD)
theorem c_make6 (c : XC P w K mg base k N sc vs ls X) {α1 α2 α3 α4 α5 α6 : Type} {r1 : Rp α1} {r2 : Rp α2} {r3 : Rp α3} {r4 : Rp α4} {r5 : Rp α5} {r6 : Rp α6} {pre : α1 → α2 → α3 → α4 → α5 → α6 → Prop} {names : List Str} {fl : α1 → α2 → α3 → α4 → α5 → α6 → Ctx} {cls : β → Addr} {flds : β → Ctx} {e1 e2 e3 e4 e5 e6 : Expr} {x1 : α1} {x2 : α2} {x3 : α3} {x4 : α4} {x5 : α5} {x6 : α6} (o : β) (h : FMk P w K mg base j x C ps (SpI6 C r1 r2 r3 r4 r5 r6 pre names fl)) (h1 : DE X B Γ e1 r1 x1) (h2 : DE X B Γ e2 r2 x2) (h3 : DE X B Γ e3 r3 x3) (h4 : DE X B Γ e4 r4 x4) (h5 : DE X B Γ e5 r5 x5) (h6 : DE X B Γ e6 r6 x6) (hp : pre x1 x2 x3 x4 x5 x6) (hC : cls o = C := by rfl) (hf : flds o = fl x1 x2 x3 x4 x5 x6 := by rfl) (hj : j + 1 ≤ k := by decide) (hg : glB sc x = true := by decide +kernel)
    (hdb : (x == ("__debug__" : Str)) = false := by decide) (s1 : starEach [e1, e2, e3, e4, e5, e6] X.env = (false, eval e1 X.env) :: starEach [e2, e3, e4, e5, e6] X.env := by rfl) (s2 : starEach [e2, e3, e4, e5, e6] X.env = (false, eval e2 X.env) :: starEach [e3, e4, e5, e6] X.env := by rfl) (s3 : starEach [e3, e4, e5, e6] X.env = (false, eval e3 X.env) :: starEach [e4, e5, e6] X.env := by rfl) (s4 : starEach [e4, e5, e6] X.env = (false, eval e4 X.env) :: starEach [e5, e6] X.env := by rfl) (s5 : starEach [e5, e6] X.env = (false, eval e5 X.env) :: starEach [e6] X.env := by rfl) (s6 : starEach [e6] X.env = (false, eval e6 X.env) :: starEach [] X.env := by rfl) (hpl : (backTo pos (starEach [e2, e3, e4, e5, e6] X.env)).any (·.1) = false := by rfl) :
    DE X B Γ (.Call (.Name x p) [e1, e2, e3, e4, e5, e6] [] pos) (rObj cls names flds) o := c_make c (x1, x2, x3, x4, x5, x6) h (da_cons h1 (da_cons h2 (da_cons h3 (da_cons h4 (da_cons h5 (da_cons h6 da_nil s6) s5) s4) s3) s2) s1) hp hC hf hj hg hdb s1 hpl
theorem c_methF6 (c : XC P w K mg base k N sc vs ls X) {pl : Sem Bool} {α1 α2 α3 α4 α5 α6 : Type} {cls : α1 → Addr} {names : List Str} {flds : α1 → Ctx} {r2 : Rp α2} {r3 : Rp α3} {r4 : Rp α4} {r5 : Rp α5} {r6 : Rp α6} {pre : α1 → α2 → α3 → α4 → α5 → α6 → Prop} {rr : Rp ρ} {f : α1 → α2 → α3 → α4 → α5 → α6 → ρ} {e1 e2 e3 e4 e5 e6 : Expr} {x1 : α1} {x2 : α2} {x3 : α3} {x4 : α4} {x5 : α5} {x6 : α6} (h : FMe P w K mg base j (cls x1) m ps (SpF6 (rObj cls names flds) r2 r3 r4 r5 r6 pre rr f)) (h1 : DE X B Γ e1 (rObj cls names flds) x1) (h2 : DE X B Γ e2 r2 x2) (h3 : DE X B Γ e3 r3 x3) (h4 : DE X B Γ e4 r4 x4) (h5 : DE X B Γ e5 r5 x5) (h6 : DE X B Γ e6 r6 x6) (hp : pre x1 x2 x3 x4 x5 x6) (hj : j ≤ k := by decide) (hnm : names.contains m = false := by decide +kernel)
    (s2 : starEach [e2, e3, e4, e5, e6] X.env = (false, eval e2 X.env) :: starEach [e3, e4, e5, e6] X.env := by rfl) (s3 : starEach [e3, e4, e5, e6] X.env = (false, eval e3 X.env) :: starEach [e4, e5, e6] X.env := by rfl) (s4 : starEach [e4, e5, e6] X.env = (false, eval e4 X.env) :: starEach [e5, e6] X.env := by rfl) (s5 : starEach [e5, e6] X.env = (false, eval e5 X.env) :: starEach [e6] X.env := by rfl) (s6 : starEach [e6] X.env = (false, eval e6 X.env) :: starEach [] X.env := by rfl) (hpl : (backTo pos (starEach [e3, e4, e5, e6] X.env)).any (·.1) = false := by rfl)
    (ht : eval (.Call (.Attribute e1 m apos) [e2, e3, e4, e5, e6] [] pos) X.env = (do
      let ov ← eval e1 X.env
      standAt apos.atName
      let (f, first) ← holding [ov] (getMethod ov m pl)
      callWith pos f first (backTo pos (starEach [e2, e3, e4, e5, e6] X.env)) (backToKw pos (keywordEach [] X.env))) := by rfl) : DE X B Γ (.Call (.Attribute e1 m apos) [e2, e3, e4, e5, e6] [] pos) rr (f x1 x2 x3 x4 x5 x6) := c_meth c (x1, x2, x3, x4, x5, x6) h h1 rfl (da_cons h2 (da_cons h3 (da_cons h4 (da_cons h5 (da_cons h6 da_nil s6) s5) s4) s3) s2) hp hj hnm s2 hpl ht
abbrev SpF7 {α1 α2 α3 α4 α5 α6 α7 : Type} {ρ : Type} (r1 : Rp α1) (r2 : Rp α2) (r3 : Rp α3) (r4 : Rp α4) (r5 : Rp α5) (r6 : Rp α6) (r7 : Rp α7) (pre : α1 → α2 → α3 → α4 → α5 → α6 → α7 → Prop) (rr : Rp ρ) (f : α1 → α2 → α3 → α4 → α5 → α6 → α7 → ρ) : Sp := SpF (fun i : α1 × α2 × α3 × α4 × α5 × α6 × α7 => [.val r1 (i.1), .val r2 (i.2.1), .val r3 (i.2.2.1), .val r4 (i.2.2.2.1), .val r5 (i.2.2.2.2.1), .val r6 (i.2.2.2.2.2.1), .val r7 (i.2.2.2.2.2.2)]) (fun i => pre (i.1) (i.2.1) (i.2.2.1) (i.2.2.2.1) (i.2.2.2.2.1) (i.2.2.2.2.2.1) (i.2.2.2.2.2.2)) rr (fun i => f (i.1) (i.2.1) (i.2.2.1) (i.2.2.2.1) (i.2.2.2.2.1) (i.2.2.2.2.2.1) (i.2.2.2.2.2.2))
theorem c_callF7 (c : XC P w K mg base k N sc vs ls X) {α1 α2 α3 α4 α5 α6 α7 : Type} {r1 : Rp α1} {r2 : Rp α2} {r3 : Rp α3} {r4 : Rp α4} {r5 : Rp α5} {r6 : Rp α6} {r7 : Rp α7} {pre : α1 → α2 → α3 → α4 → α5 → α6 → α7 → Prop} {rr : Rp ρ} {f : α1 → α2 → α3 → α4 → α5 → α6 → α7 → ρ} {e1 e2 e3 e4 e5 e6 e7 : Expr} {x1 : α1} {x2 : α2} {x3 : α3} {x4 : α4} {x5 : α5} {x6 : α6} {x7 : α7} (h : FN P w K mg base CX0 j x ps (SpF7 r1 r2 r3 r4 r5 r6 r7 pre rr f)) (h1 : DE X B Γ e1 r1 x1) (h2 : DE X B Γ e2 r2 x2) (h3 : DE X B Γ e3 r3 x3) (h4 : DE X B Γ e4 r4 x4) (h5 : DE X B Γ e5 r5 x5) (h6 : DE X B Γ e6 r6 x6) (h7 : DE X B Γ e7 r7 x7) (hp : pre x1 x2 x3 x4 x5 x6 x7) (hj : j ≤ k := by decide) (hg : glB sc x = true := by decide +kernel)
    (hdb : (x == ("__debug__" : Str)) = false := by decide) (s1 : starEach [e1, e2, e3, e4, e5, e6, e7] X.env = (false, eval e1 X.env) :: starEach [e2, e3, e4, e5, e6, e7] X.env := by rfl) (s2 : starEach [e2, e3, e4, e5, e6, e7] X.env = (false, eval e2 X.env) :: starEach [e3, e4, e5, e6, e7] X.env := by rfl) (s3 : starEach [e3, e4, e5, e6, e7] X.env = (false, eval e3 X.env) :: starEach [e4, e5, e6, e7] X.env := by rfl) (s4 : starEach [e4, e5, e6, e7] X.env = (false, eval e4 X.env) :: starEach [e5, e6, e7] X.env := by rfl) (s5 : starEach [e5, e6, e7] X.env = (false, eval e5 X.env) :: starEach [e6, e7] X.env := by rfl) (s6 : starEach [e6, e7] X.env = (false, eval e6 X.env) :: starEach [e7] X.env := by rfl) (s7 : starEach [e7] X.env = (false, eval e7 X.env) :: starEach [] X.env := by rfl) (hpl : (backTo pos (starEach [e2, e3, e4, e5, e6, e7] X.env)).any (·.1) = false := by rfl) :
    DE X B Γ (.Call (.Name x p) [e1, e2, e3, e4, e5, e6, e7] [] pos) rr (f x1 x2 x3 x4 x5 x6 x7) := c_call c h (x1, x2, x3, x4, x5, x6, x7) (da_cons h1 (da_cons h2 (da_cons h3 (da_cons h4 (da_cons h5 (da_cons h6 (da_cons h7 da_nil s7) s6) s5) s4) s3) s2) s1) hp hj hg hdb s1 hpl
abbrev SpM7 {α1 α2 α3 α4 α5 α6 α7 : Type} {ρ : Type} (r1 : Rp α1) (r2 : Rp α2) (r3 : Rp α3) (r4 : Rp α4) (r5 : Rp α5) (r6 : Rp α6) (r7 : Rp α7) (pre : α1 → α2 → α3 → α4 → α5 → α6 → α7 → Prop) (rr : Rp ρ) (f : α1 → α2 → α3 → α4 → α5 → α6 → α7 → List ρ) : Sp := SpM (fun i : α1 × α2 × α3 × α4 × α5 × α6 × α7 => [.val r1 (i.1), .val r2 (i.2.1), .val r3 (i.2.2.1), .val r4 (i.2.2.2.1), .val r5 (i.2.2.2.2.1), .val r6 (i.2.2.2.2.2.1), .val r7 (i.2.2.2.2.2.2)]) (fun i => pre (i.1) (i.2.1) (i.2.2.1) (i.2.2.2.1) (i.2.2.2.2.1) (i.2.2.2.2.2.1) (i.2.2.2.2.2.2)) rr (fun i => f (i.1) (i.2.1) (i.2.2.1) (i.2.2.2.1) (i.2.2.2.2.1) (i.2.2.2.2.2.1) (i.2.2.2.2.2.2))
theorem c_callM7 (c : XC P w K mg base k N sc vs ls X) {α1 α2 α3 α4 α5 α6 α7 : Type} {r1 : Rp α1} {r2 : Rp α2} {r3 : Rp α3} {r4 : Rp α4} {r5 : Rp α5} {r6 : Rp α6} {r7 : Rp α7} {pre : α1 → α2 → α3 → α4 → α5 → α6 → α7 → Prop} {rr : Rp ρ} {f : α1 → α2 → α3 → α4 → α5 → α6 → α7 → List ρ} {e1 e2 e3 e4 e5 e6 e7 : Expr} {x1 : α1} {x2 : α2} {x3 : α3} {x4 : α4} {x5 : α5} {x6 : α6} {x7 : α7} (h : FN P w K mg base CX0 j x ps (SpM7 r1 r2 r3 r4 r5 r6 r7 pre rr f)) (h1 : DE X B Γ e1 r1 x1) (h2 : DE X B Γ e2 r2 x2) (h3 : DE X B Γ e3 r3 x3) (h4 : DE X B Γ e4 r4 x4) (h5 : DE X B Γ e5 r5 x5) (h6 : DE X B Γ e6 r6 x6) (h7 : DE X B Γ e7 r7 x7) (hp : pre x1 x2 x3 x4 x5 x6 x7) (hj : j ≤ k := by decide) (hg : glB sc x = true := by decide +kernel)
    (hdb : (x == ("__debug__" : Str)) = false := by decide) (s1 : starEach [e1, e2, e3, e4, e5, e6, e7] X.env = (false, eval e1 X.env) :: starEach [e2, e3, e4, e5, e6, e7] X.env := by rfl) (s2 : starEach [e2, e3, e4, e5, e6, e7] X.env = (false, eval e2 X.env) :: starEach [e3, e4, e5, e6, e7] X.env := by rfl) (s3 : starEach [e3, e4, e5, e6, e7] X.env = (false, eval e3 X.env) :: starEach [e4, e5, e6, e7] X.env := by rfl) (s4 : starEach [e4, e5, e6, e7] X.env = (false, eval e4 X.env) :: starEach [e5, e6, e7] X.env := by rfl) (s5 : starEach [e5, e6, e7] X.env = (false, eval e5 X.env) :: starEach [e6, e7] X.env := by rfl) (s6 : starEach [e6, e7] X.env = (false, eval e6 X.env) :: starEach [e7] X.env := by rfl) (s7 : starEach [e7] X.env = (false, eval e7 X.env) :: starEach [] X.env := by rfl) (hpl : (backTo pos (starEach [e2, e3, e4, e5, e6, e7] X.env)).any (·.1) = false := by rfl) :
    DM X B Γ (.Call (.Name x p) [e1, e2, e3, e4, e5, e6, e7] [] pos) rr (f x1 x2 x3 x4 x5 x6 x7) := c_callM c h (x1, x2, x3, x4, x5, x6, x7) (da_cons h1 (da_cons h2 (da_cons h3 (da_cons h4 (da_cons h5 (da_cons h6 (da_cons h7 da_nil s7) s6) s5) s4) s3) s2) s1) hp hj hg hdb s1 hpl
abbrev SpN7 {α1 α2 α3 α4 α5 α6 α7 : Type} {ρ : Type} (r1 : Rp α1) (r2 : Rp α2) (r3 : Rp α3) (r4 : Rp α4) (r5 : Rp α5) (r6 : Rp α6) (r7 : Rp α7) (pre : α1 → α2 → α3 → α4 → α5 → α6 → α7 → Prop) (rr : Rp ρ) (f : α1 → α2 → α3 → α4 → α5 → α6 → α7 → ρ) : Sp := SpN (fun i : α1 × α2 × α3 × α4 × α5 × α6 × α7 => [.val r1 (i.1), .val r2 (i.2.1), .val r3 (i.2.2.1), .val r4 (i.2.2.2.1), .val r5 (i.2.2.2.2.1), .val r6 (i.2.2.2.2.2.1), .val r7 (i.2.2.2.2.2.2)]) (fun i => pre (i.1) (i.2.1) (i.2.2.1) (i.2.2.2.1) (i.2.2.2.2.1) (i.2.2.2.2.2.1) (i.2.2.2.2.2.2)) rr (fun i => f (i.1) (i.2.1) (i.2.2.1) (i.2.2.2.1) (i.2.2.2.2.1) (i.2.2.2.2.2.1) (i.2.2.2.2.2.2))
theorem c_callN7 (c : XC P w K mg base k N sc vs ls X) {α1 α2 α3 α4 α5 α6 α7 : Type} {r1 : Rp α1} {r2 : Rp α2} {r3 : Rp α3} {r4 : Rp α4} {r5 : Rp α5} {r6 : Rp α6} {r7 : Rp α7} {pre : α1 → α2 → α3 → α4 → α5 → α6 → α7 → Prop} {rr : Rp ρ} {f : α1 → α2 → α3 → α4 → α5 → α6 → α7 → ρ} {e1 e2 e3 e4 e5 e6 e7 : Expr} {x1 : α1} {x2 : α2} {x3 : α3} {x4 : α4} {x5 : α5} {x6 : α6} {x7 : α7} (h : FN P w K mg base CX0 j x ps (SpN7 r1 r2 r3 r4 r5 r6 r7 pre rr f)) (h1 : DE X B Γ e1 r1 x1) (h2 : DE X B Γ e2 r2 x2) (h3 : DE X B Γ e3 r3 x3) (h4 : DE X B Γ e4 r4 x4) (h5 : DE X B Γ e5 r5 x5) (h6 : DE X B Γ e6 r6 x6) (h7 : DE X B Γ e7 r7 x7) (hp : pre x1 x2 x3 x4 x5 x6 x7) (hj : j ≤ k := by decide) (hg : glB sc x = true := by decide +kernel)
    (hdb : (x == ("__debug__" : Str)) = false := by decide) (s1 : starEach [e1, e2, e3, e4, e5, e6, e7] X.env = (false, eval e1 X.env) :: starEach [e2, e3, e4, e5, e6, e7] X.env := by rfl) (s2 : starEach [e2, e3, e4, e5, e6, e7] X.env = (false, eval e2 X.env) :: starEach [e3, e4, e5, e6, e7] X.env := by rfl) (s3 : starEach [e3, e4, e5, e6, e7] X.env = (false, eval e3 X.env) :: starEach [e4, e5, e6, e7] X.env := by rfl) (s4 : starEach [e4, e5, e6, e7] X.env = (false, eval e4 X.env) :: starEach [e5, e6, e7] X.env := by rfl) (s5 : starEach [e5, e6, e7] X.env = (false, eval e5 X.env) :: starEach [e6, e7] X.env := by rfl) (s6 : starEach [e6, e7] X.env = (false, eval e6 X.env) :: starEach [e7] X.env := by rfl) (s7 : starEach [e7] X.env = (false, eval e7 X.env) :: starEach [] X.env := by rfl) (hpl : (backTo pos (starEach [e2, e3, e4, e5, e6, e7] X.env)).any (·.1) = false := by rfl) :
    DN X B Γ (.Call (.Name x p) [e1, e2, e3, e4, e5, e6, e7] [] pos) rr (f x1 x2 x3 x4 x5 x6 x7) := c_callN c h (x1, x2, x3, x4, x5, x6, x7) (da_cons h1 (da_cons h2 (da_cons h3 (da_cons h4 (da_cons h5 (da_cons h6 (da_cons h7 da_nil s7) s6) s5) s4) s3) s2) s1) hp hj hg hdb s1 hpl
theorem fnF7 {α1 α2 α3 α4 α5 α6 α7 : Type} {r1 : Rp α1} {r2 : Rp α2} {r3 : Rp α3} {r4 : Rp α4} {r5 : Rp α5} {r6 : Rp α6} {r7 : Rp α7} {pre : α1 → α2 → α3 → α4 → α5 → α6 → α7 → Prop} {rr : Rp ρ} {f : α1 → α2 → α3 → α4 → α5 → α6 → α7 → ρ} (T : FT K mg x q st ps) (S : FnScope N ps (defScope st)) (hv : locB N (defScope st) vs = true) (Γu : Ctx) (hl : ps.length = 7 := by rfl) (hu : List.replicate (N.length - ps.length) .un = Γu := by rfl)
    (body : ∀ (X : Cx) (B : Bs) (D : Ends) (x1 : α1) (x2 : α2) (x3 : α3) (x4 : α4) (x5 : α5) (x6 : α6) (x7 : α7), XC P w K mg base k N (defScope st) vs vs X → pre x1 x2 x3 x4 x5 x6 x7 → RtOk B rr (f x1 x2 x3 x4 x5 x6 x7) D → (∀ σ H, D.nx σ H → D.rt .non H) → SD X B (.val r1 x1 :: .val r2 x2 :: .val r3 x3 :: .val r4 x4 :: .val r5 x5 :: .val r6 x6 :: .val r7 x7 :: Γu) (defBody st) { D with nx := fun _ H => D.rt .non H }) : FN P w K mg base CX0 (k + 1) x ps (SpF7 r1 r2 r3 r4 r5 r6 r7 pre rr f) :=
  fnF (fun i => .val r1 (i.1) :: .val r2 (i.2.1) :: .val r3 (i.2.2.1) :: .val r4 (i.2.2.2.1) :: .val r5 (i.2.2.2.2.1) :: .val r6 (i.2.2.2.2.2.1) :: .val r7 (i.2.2.2.2.2.2) :: Γu) T S hv (fun _ => hl.symm) (fun i => by rw [hu]; rfl) (fun X B D i c hp hD hn => body X B D (i.1) (i.2.1) (i.2.2.1) (i.2.2.2.1) (i.2.2.2.2.1) (i.2.2.2.2.2.1) (i.2.2.2.2.2.2) c hp hD hn)
theorem meF7 {α1 α2 α3 α4 α5 α6 α7 : Type} {r1 : Rp α1} {r2 : Rp α2} {r3 : Rp α3} {r4 : Rp α4} {r5 : Rp α5} {r6 : Rp α6} {r7 : Rp α7} {pre : α1 → α2 → α3 → α4 → α5 → α6 → α7 → Prop} {rr : Rp ρ} {f : α1 → α2 → α3 → α4 → α5 → α6 → α7 → ρ} (T : FTm K m q C st ps) (S : FnScope N ps (defScope st)) (hv : locB N (defScope st) vs = true) (Γu : Ctx) (hl : ps.length = 7 := by rfl) (hu : List.replicate (N.length - ps.length) .un = Γu := by rfl)
    (body : ∀ (X : Cx) (B : Bs) (D : Ends) (x1 : α1) (x2 : α2) (x3 : α3) (x4 : α4) (x5 : α5) (x6 : α6) (x7 : α7), XC P w K mg base k N (defScope st) vs vs X → pre x1 x2 x3 x4 x5 x6 x7 → RtOk B rr (f x1 x2 x3 x4 x5 x6 x7) D → (∀ σ H, D.nx σ H → D.rt .non H) → SD X B (.val r1 x1 :: .val r2 x2 :: .val r3 x3 :: .val r4 x4 :: .val r5 x5 :: .val r6 x6 :: .val r7 x7 :: Γu) (defBody st) { D with nx := fun _ H => D.rt .non H }) : FMe P w K mg base (k + 1) C m ps (SpF7 r1 r2 r3 r4 r5 r6 r7 pre rr f) :=
  meF (fun i => .val r1 (i.1) :: .val r2 (i.2.1) :: .val r3 (i.2.2.1) :: .val r4 (i.2.2.2.1) :: .val r5 (i.2.2.2.2.1) :: .val r6 (i.2.2.2.2.2.1) :: .val r7 (i.2.2.2.2.2.2) :: Γu) T S hv (fun _ => hl.symm) (fun i => by rw [hu]; rfl) (fun X B D i c hp hD hn => body X B D (i.1) (i.2.1) (i.2.2.1) (i.2.2.2.1) (i.2.2.2.2.1) (i.2.2.2.2.2.1) (i.2.2.2.2.2.2) c hp hD hn)
theorem fnM7 {α1 α2 α3 α4 α5 α6 α7 : Type} {r1 : Rp α1} {r2 : Rp α2} {r3 : Rp α3} {r4 : Rp α4} {r5 : Rp α5} {r6 : Rp α6} {r7 : Rp α7} {pre : α1 → α2 → α3 → α4 → α5 → α6 → α7 → Prop} {rr : Rp ρ} {f : α1 → α2 → α3 → α4 → α5 → α6 → α7 → List ρ} (T : FT K mg x q st ps) (S : FnScope N ps (defScope st)) (hv : locB N (defScope st) vs = true) (Γu : Ctx) (hl : ps.length = 7 := by rfl) (hu : List.replicate (N.length - ps.length) .un = Γu := by rfl)
    (body : ∀ (X : Cx) (B : Bs) (D : Ends) (x1 : α1) (x2 : α2) (x3 : α3) (x4 : α4) (x5 : α5) (x6 : α6) (x7 : α7), XC P w K mg base k N (defScope st) vs vs X → pre x1 x2 x3 x4 x5 x6 x7 → RtM B rr (f x1 x2 x3 x4 x5 x6 x7) D → SD X B (.val r1 x1 :: .val r2 x2 :: .val r3 x3 :: .val r4 x4 :: .val r5 x5 :: .val r6 x6 :: .val r7 x7 :: Γu) (defBody st) D) : FN P w K mg base CX0 (k + 1) x ps (SpM7 r1 r2 r3 r4 r5 r6 r7 pre rr f) :=
  fnM (fun i => .val r1 (i.1) :: .val r2 (i.2.1) :: .val r3 (i.2.2.1) :: .val r4 (i.2.2.2.1) :: .val r5 (i.2.2.2.2.1) :: .val r6 (i.2.2.2.2.2.1) :: .val r7 (i.2.2.2.2.2.2) :: Γu) T S hv (fun _ => hl.symm) (fun i => by rw [hu]; rfl) (fun X B D i c hp hD => body X B D (i.1) (i.2.1) (i.2.2.1) (i.2.2.2.1) (i.2.2.2.2.1) (i.2.2.2.2.2.1) (i.2.2.2.2.2.2) c hp hD)
theorem meM7 {α1 α2 α3 α4 α5 α6 α7 : Type} {r1 : Rp α1} {r2 : Rp α2} {r3 : Rp α3} {r4 : Rp α4} {r5 : Rp α5} {r6 : Rp α6} {r7 : Rp α7} {pre : α1 → α2 → α3 → α4 → α5 → α6 → α7 → Prop} {rr : Rp ρ} {f : α1 → α2 → α3 → α4 → α5 → α6 → α7 → List ρ} (T : FTm K m q C st ps) (S : FnScope N ps (defScope st)) (hv : locB N (defScope st) vs = true) (Γu : Ctx) (hl : ps.length = 7 := by rfl) (hu : List.replicate (N.length - ps.length) .un = Γu := by rfl)
    (body : ∀ (X : Cx) (B : Bs) (D : Ends) (x1 : α1) (x2 : α2) (x3 : α3) (x4 : α4) (x5 : α5) (x6 : α6) (x7 : α7), XC P w K mg base k N (defScope st) vs vs X → pre x1 x2 x3 x4 x5 x6 x7 → RtM B rr (f x1 x2 x3 x4 x5 x6 x7) D → SD X B (.val r1 x1 :: .val r2 x2 :: .val r3 x3 :: .val r4 x4 :: .val r5 x5 :: .val r6 x6 :: .val r7 x7 :: Γu) (defBody st) D) : FMe P w K mg base (k + 1) C m ps (SpM7 r1 r2 r3 r4 r5 r6 r7 pre rr f) :=
  meM (fun i => .val r1 (i.1) :: .val r2 (i.2.1) :: .val r3 (i.2.2.1) :: .val r4 (i.2.2.2.1) :: .val r5 (i.2.2.2.2.1) :: .val r6 (i.2.2.2.2.2.1) :: .val r7 (i.2.2.2.2.2.2) :: Γu) T S hv (fun _ => hl.symm) (fun i => by rw [hu]; rfl) (fun X B D i c hp hD => body X B D (i.1) (i.2.1) (i.2.2.1) (i.2.2.2.1) (i.2.2.2.2.1) (i.2.2.2.2.2.1) (i.2.2.2.2.2.2) c hp hD)
theorem fnN7 {α1 α2 α3 α4 α5 α6 α7 : Type} {r1 : Rp α1} {r2 : Rp α2} {r3 : Rp α3} {r4 : Rp α4} {r5 : Rp α5} {r6 : Rp α6} {r7 : Rp α7} {pre : α1 → α2 → α3 → α4 → α5 → α6 → α7 → Prop} {rr : Rp ρ} {f : α1 → α2 → α3 → α4 → α5 → α6 → α7 → ρ} (T : FT K mg x q st ps) (S : FnScope N ps (defScope st)) (hv : locB N (defScope st) vs = true) (Γu : Ctx) (hl : ps.length = 7 := by rfl) (hu : List.replicate (N.length - ps.length) .un = Γu := by rfl)
    (body : ∀ (X : Cx) (B : Bs) (D : Ends) (x1 : α1) (x2 : α2) (x3 : α3) (x4 : α4) (x5 : α5) (x6 : α6) (x7 : α7), XC P w K mg base k N (defScope st) vs vs X → pre x1 x2 x3 x4 x5 x6 x7 → RtN B rr (f x1 x2 x3 x4 x5 x6 x7) D → SD X B (.val r1 x1 :: .val r2 x2 :: .val r3 x3 :: .val r4 x4 :: .val r5 x5 :: .val r6 x6 :: .val r7 x7 :: Γu) (defBody st) D) : FN P w K mg base CX0 (k + 1) x ps (SpN7 r1 r2 r3 r4 r5 r6 r7 pre rr f) :=
  fnN (fun i => .val r1 (i.1) :: .val r2 (i.2.1) :: .val r3 (i.2.2.1) :: .val r4 (i.2.2.2.1) :: .val r5 (i.2.2.2.2.1) :: .val r6 (i.2.2.2.2.2.1) :: .val r7 (i.2.2.2.2.2.2) :: Γu) T S hv (fun _ => hl.symm) (fun i => by rw [hu]; rfl) (fun X B D i c hp hD => body X B D (i.1) (i.2.1) (i.2.2.1) (i.2.2.2.1) (i.2.2.2.2.1) (i.2.2.2.2.2.1) (i.2.2.2.2.2.2) c hp hD)
abbrev SpI7 {α1 α2 α3 α4 α5 α6 α7 : Type} (C : Addr) (r1 : Rp α1) (r2 : Rp α2) (r3 : Rp α3) (r4 : Rp α4) (r5 : Rp α5) (r6 : Rp α6) (r7 : Rp α7) (pre : α1 → α2 → α3 → α4 → α5 → α6 → α7 → Prop) (names : List Str) (fl : α1 → α2 → α3 → α4 → α5 → α6 → α7 → Ctx) : Sp := SpI C (fun i : α1 × α2 × α3 × α4 × α5 × α6 × α7 => [.val r1 (i.1), .val r2 (i.2.1), .val r3 (i.2.2.1), .val r4 (i.2.2.2.1), .val r5 (i.2.2.2.2.1), .val r6 (i.2.2.2.2.2.1), .val r7 (i.2.2.2.2.2.2)]) (fun i => pre (i.1) (i.2.1) (i.2.2.1) (i.2.2.2.1) (i.2.2.2.2.1) (i.2.2.2.2.2.1) (i.2.2.2.2.2.2)) names (fun i => fl (i.1) (i.2.1) (i.2.2.1) (i.2.2.2.1) (i.2.2.2.2.1) (i.2.2.2.2.2.1) (i.2.2.2.2.2.2))
theorem fnI7 {α1 α2 α3 α4 α5 α6 α7 : Type} {r1 : Rp α1} {r2 : Rp α2} {r3 : Rp α3} {r4 : Rp α4} {r5 : Rp α5} {r6 : Rp α6} {r7 : Rp α7} {pre : α1 → α2 → α3 → α4 → α5 → α6 → α7 → Prop} {names : List Str} {fl : α1 → α2 → α3 → α4 → α5 → α6 → α7 → Ctx} (T : FTk K mg x q C st ps) (S : FnScope N ps (defScope st)) (hv : locB N (defScope st) vs = true) (Γu : Ctx) (hl : ps.length = 8 := by rfl) (hu : List.replicate (N.length - ps.length) .un = Γu := by rfl)
    (body : ∀ (X : Cx) (B : Bs) (D : Ends) (x1 : α1) (x2 : α2) (x3 : α3) (x4 : α4) (x5 : α5) (x6 : α6) (x7 : α7) (xd : Addr × Addr), XC P w K mg base k N (defScope st) vs vs X → pre x1 x2 x3 x4 x5 x6 x7 → (∀ σ H' Γ', EnvP B (.own (oObj C names (fl x1 x2 x3 x4 x5 x6 x7)) xd :: Γ') σ H' → D.nx σ H') → SD X B (.own (oObj C [] []) xd :: .val r1 x1 :: .val r2 x2 :: .val r3 x3 :: .val r4 x4 :: .val r5 x5 :: .val r6 x6 :: .val r7 x7 :: Γu) (defBody st) D) : FMk P w K mg base (k + 1) x C ps (SpI7 C r1 r2 r3 r4 r5 r6 r7 pre names fl) :=
  fnI (fun i xd => .own (oObj C [] []) xd :: .val r1 (i.1) :: .val r2 (i.2.1) :: .val r3 (i.2.2.1) :: .val r4 (i.2.2.2.1) :: .val r5 (i.2.2.2.2.1) :: .val r6 (i.2.2.2.2.2.1) :: .val r7 (i.2.2.2.2.2.2) :: Γu) T S hv (fun _ => hl.symm) (fun i xd => by rw [hu]; rfl) (fun X B D i xd c hp hD => body X B D (i.1) (i.2.1) (i.2.2.1) (i.2.2.2.1) (i.2.2.2.2.1) (i.2.2.2.2.2.1) (i.2.2.2.2.2.2) xd c hp hD)
theorem c_make7 (c : XC P w K mg base k N sc vs ls X) {α1 α2 α3 α4 α5 α6 α7 : Type} {r1 : Rp α1} {r2 : Rp α2} {r3 : Rp α3} {r4 : Rp α4} {r5 : Rp α5} {r6 : Rp α6} {r7 : Rp α7} {pre : α1 → α2 → α3 → α4 → α5 → α6 → α7 → Prop} {names : List Str} {fl : α1 → α2 → α3 → α4 → α5 → α6 → α7 → Ctx} {cls : β → Addr} {flds : β → Ctx} {e1 e2 e3 e4 e5 e6 e7 : Expr} {x1 : α1} {x2 : α2} {x3 : α3} {x4 : α4} {x5 : α5} {x6 : α6} {x7 : α7} (o : β) (h : FMk P w K mg base j x C ps (SpI7 C r1 r2 r3 r4 r5 r6 r7 pre names fl)) (h1 : DE X B Γ e1 r1 x1) (h2 : DE X B Γ e2 r2 x2) (h3 : DE X B Γ e3 r3 x3) (h4 : DE X B Γ e4 r4 x4) (h5 : DE X B Γ e5 r5 x5) (h6 : DE X B Γ e6 r6 x6) (h7 : DE X B Γ e7 r7 x7) (hp : pre x1 x2 x3 x4 x5 x6 x7) (hC : cls o = C := by rfl) (hf : flds o = fl x1 x2 x3 x4 x5 x6 x7 := by rfl) (hj : j + 1 ≤ k := by decide) (hg : glB sc x = true := by decide +kernel)
    (hdb : (x == ("__debug__" : Str)) = false := by decide) (s1 : starEach [e1, e2, e3, e4, e5, e6, e7] X.env = (false, eval e1 X.env) :: starEach [e2, e3, e4, e5, e6, e7] X.env := by rfl) (s2 : starEach [e2, e3, e4, e5, e6, e7] X.env = (false, eval e2 X.env) :: starEach [e3, e4, e5, e6, e7] X.env := by rfl) (s3 : starEach [e3, e4, e5, e6, e7] X.env = (false, eval e3 X.env) :: starEach [e4, e5, e6, e7] X.env := by rfl) (s4 : starEach [e4, e5, e6, e7] X.env = (false, eval e4 X.env) :: starEach [e5, e6, e7] X.env := by rfl) (s5 : starEach [e5, e6, e7] X.env = (false, eval e5 X.env) :: starEach [e6, e7] X.env := by rfl) (s6 : starEach [e6, e7] X.env = (false, eval e6 X.env) :: starEach [e7] X.env := by rfl) (s7 : starEach [e7] X.env = (false, eval e7 X.env) :: starEach [] X.env := by rfl) (hpl : (backTo pos (starEach [e2, e3, e4, e5, e6, e7] X.env)).any (·.1) = false := by rfl) :
    DE X B Γ (.Call (.Name x p) [e1, e2, e3, e4, e5, e6, e7] [] pos) (rObj cls names flds) o := c_make c (x1, x2, x3, x4, x5, x6, x7) h (da_cons h1 (da_cons h2 (da_cons h3 (da_cons h4 (da_cons h5 (da_cons h6 (da_cons h7 da_nil s7) s6) s5) s4) s3) s2) s1) hp hC hf hj hg hdb s1 hpl
theorem c_methF7 (c : XC P w K mg base k N sc vs ls X) {pl : Sem Bool} {α1 α2 α3 α4 α5 α6 α7 : Type} {cls : α1 → Addr} {names : List Str} {flds : α1 → Ctx} {r2 : Rp α2} {r3 : Rp α3} {r4 : Rp α4} {r5 : Rp α5} {r6 : Rp α6} {r7 : Rp α7} {pre : α1 → α2 → α3 → α4 → α5 → α6 → α7 → Prop} {rr : Rp ρ} {f : α1 → α2 → α3 → α4 → α5 → α6 → α7 → ρ} {e1 e2 e3 e4 e5 e6 e7 : Expr} {x1 : α1} {x2 : α2} {x3 : α3} {x4 : α4} {x5 : α5} {x6 : α6} {x7 : α7} (h : FMe P w K mg base j (cls x1) m ps (SpF7 (rObj cls names flds) r2 r3 r4 r5 r6 r7 pre rr f)) (h1 : DE X B Γ e1 (rObj cls names flds) x1) (h2 : DE X B Γ e2 r2 x2) (h3 : DE X B Γ e3 r3 x3) (h4 : DE X B Γ e4 r4 x4) (h5 : DE X B Γ e5 r5 x5) (h6 : DE X B Γ e6 r6 x6) (h7 : DE X B Γ e7 r7 x7) (hp : pre x1 x2 x3 x4 x5 x6 x7) (hj : j ≤ k := by decide) (hnm : names.contains m = false := by decide +kernel)
    (s2 : starEach [e2, e3, e4, e5, e6, e7] X.env = (false, eval e2 X.env) :: starEach [e3, e4, e5, e6, e7] X.env := by rfl) (s3 : starEach [e3, e4, e5, e6, e7] X.env = (false, eval e3 X.env) :: starEach [e4, e5, e6, e7] X.env := by rfl) (s4 : starEach [e4, e5, e6, e7] X.env = (false, eval e4 X.env) :: starEach [e5, e6, e7] X.env := by rfl) (s5 : starEach [e5, e6, e7] X.env = (false, eval e5 X.env) :: starEach [e6, e7] X.env := by rfl) (s6 : starEach [e6, e7] X.env = (false, eval e6 X.env) :: starEach [e7] X.env := by rfl) (s7 : starEach [e7] X.env = (false, eval e7 X.env) :: starEach [] X.env := by rfl) (hpl : (backTo pos (starEach [e3, e4, e5, e6, e7] X.env)).any (·.1) = false := by rfl)
    (ht : eval (.Call (.Attribute e1 m apos) [e2, e3, e4, e5, e6, e7] [] pos) X.env = (do
      let ov ← eval e1 X.env
      standAt apos.atName
      let (f, first) ← holding [ov] (getMethod ov m pl)
      callWith pos f first (backTo pos (starEach [e2, e3, e4, e5, e6, e7] X.env)) (backToKw pos (keywordEach [] X.env))) := by rfl) : DE X B Γ (.Call (.Attribute e1 m apos) [e2, e3, e4, e5, e6, e7] [] pos) rr (f x1 x2 x3 x4 x5 x6 x7) := c_meth c (x1, x2, x3, x4, x5, x6, x7) h h1 rfl (da_cons h2 (da_cons h3 (da_cons h4 (da_cons h5 (da_cons h6 (da_cons h7 da_nil s7) s6) s5) s4) s3) s2) hp hj hnm s2 hpl ht
end
end DL
namespace DL
open PySem L2 PySem.Spec PyProof.Rows
section
variable {P : Program} {w : World} {K : PySem.W.Frag} {mg : Str → Option Value} {base : Heap} {k j : Nat} {N : List Str} {sc : Scope} {vs ls : List Nat} {X : Cx} {α β γ ι ρ : Type} {B : Bs} {Γ Γ' : Ctx} {e a b tg iter : Expr} {es : List Expr} {D : Ends} {rest ss body : List Stmt} {p pos apos : Pos} {x y f m : Str}
/-- where no exception leaves -/
theorem po_never (h : X.xe = fun _ _ => False) : PassesOwn (model X.prog X.w) X.A X.env X.xe := by rw [h]; exact PassesOwn.never
theorem sd_le' {D0 : Ends} (k : SD X B Γ ss D0) (l : Le D0 D) : SD X B Γ ss D := sd_le l k
/-- for, as a fold -/
theorem sd_forF (hpo : PassesOwn (model X.prog X.w) X.A X.env X.xe) (hcalm : X.calm = true) {r : Rp α} {xs : List α} {Tgt : Ctx → α → Ctx → Prop} {js : List Nat} {S : Type} (Γs : S → Ctx) (fn : S → α → S) (s0 : S) {Γb : S → α → Ctx}
    (hi : DI X B Γ tg iter r xs) (hg : ∀ L, DG X (B.lo L) tg r Tgt js) (h0 : Cv Γ (Γs s0)) (ht : ∀ s x, Tgt (Γs s) x (Γb s x))
    (hb : ∀ L pre x post s, xs = pre ++ x :: post → s = pre.foldl fn s0 → SD X (B.lo L) (Γb s x) body { nx := EnvP (B.lo L) (Γs (fn s x)), ct := EnvP (B.lo L) (Γs (fn s x)), bk := fun _ _ => False, rt := D.rt })
    (hr : ∀ s, s = xs.foldl fn s0 → SD X B (Γs s) rest D) (hs : ∀ x, foldedSetIterable iter X.env x = pure x := by intro _; rfl) : SD X B Γ (.For tg iter body [] pos :: rest) D :=
  sd_for hpo hcalm Γs (fun pre _ s => s = pre.foldl fn s0) (fun _ => False) s0 hi hg (Env.cv h0) rfl ht
    (fun L pre x post s h1 h2 => sd_le' (hb L pre x post s h1 h2) (by
      have e : fn s x = (pre ++ [x]).foldl fn s0 := by rw [List.foldl_append, ← h2]; rfl
      exact ⟨fun σ H h => ⟨fn s x, e, h⟩, fun _ _ h => h, fun _ _ h => h.elim, fun σ H h => ⟨fn s x, e, h⟩⟩))
    (fun s h => h.elim (hr s) False.elim) hs
/-- for, by what is left: go (what is left) s is the end's answer -/
theorem sd_forR (hpo : PassesOwn (model X.prog X.w) X.A X.env X.xe) (hcalm : X.calm = true) {r : Rp α} {xs : List α} {Tgt : Ctx → α → Ctx → Prop} {js : List Nat} {S R : Type} (Γs : S → Ctx) (go : List α → S → R) (res : R) (s0 : S) {Γb : S → α → Ctx}
    (hi : DI X B Γ tg iter r xs) (hg : ∀ L, DG X (B.lo L) tg r Tgt js) (h0 : Cv Γ (Γs s0)) (i0 : go xs s0 = res) (ht : ∀ s x, Tgt (Γs s) x (Γb s x))
    (hb : ∀ L x post s, x ∈ xs → (∀ y ∈ post, y ∈ xs) → go (x :: post) s = res → SD X (B.lo L) (Γb s x) body { nx := fun σ H => ∃ s', go post s' = res ∧ EnvP (B.lo L) (Γs s') σ H, ct := fun σ H => ∃ s', go post s' = res ∧ EnvP (B.lo L) (Γs s') σ H, bk := fun _ _ => False, rt := D.rt })
    (hr : ∀ s, go [] s = res → SD X B (Γs s) rest D) (hs : ∀ x, foldedSetIterable iter X.env x = pure x := by intro _; rfl) : SD X B Γ (.For tg iter body [] pos :: rest) D :=
  sd_for hpo hcalm Γs (fun _ post s => go post s = res) (fun _ => False) s0 hi hg (Env.cv h0) i0 ht
    (fun L pre x post s h1 h2 => sd_le' (hb L x post s (by rw [h1]; simp) (fun y hy => by rw [h1]; simp [hy]) h2) ⟨fun σ H h => h, fun _ _ h => h, fun _ _ h => h.elim, fun σ H h => h⟩)
    (fun s h => h.elim (hr s) False.elim) hs
/-! ### values for slots -/
def Sto (F H F' H' : Hp) (v : V) : Sl → Prop
  | .un => True
  | .val r a => r.rel F' v a
  | .own o a => ∃ fi, o.rel F' H' v a fi ∧ ∀ b, fi b → F' b = none ∧ H b = none ∧ H' b ≠ none
theorem Env.sto {σ : L2.St} {F H F' H' : Hp} {i : Nat} {v : V} {s : Sl} (h : Env B Γ σ F H) (t : To Γ i s Γ') (e : Ext F H F' H') (hs : Sto F H F' H' v s) : Env B Γ' (σ.set i (some v)) F' H' := by
  cases s with
  | un =>
    obtain ⟨fp, x⟩ := h.ext e
    exact x.put t (fun _ z => z)
  | val r a => exact (h.ext e).put t hs
  | own o a =>
    obtain ⟨fi, h1, h2⟩ := hs
    exact h.putOwn t e h1 h2
def tV (B : Bs) (Γ : Ctx) (s : Sl) : TE := fun σ H Q => ∃ F, Env B Γ σ F H ∧ ∀ v F' H', Ext F H F' H' → Sto F H F' H' v s → Q v H'
abbrev VE (X : Cx) (B : Bs) (Γ : Ctx) (e : Expr) (s : Sl) : Prop := PE X e (tV B Γ s)
theorem ve_d {r : Rp α} {v : α} (h : DE X B Γ e r v) : VE X B Γ e (.val r v) := h
theorem ve_m {r : Rp α} {v : List α} (h : DM X B Γ e r v) : VE X B Γ e (.own (oList r) v) := pe_weak h fun σ H Q ⟨F, en, q⟩ => ⟨F, en, fun p us F' H' e1 h1 h2 h3 h4 => q (.ref p) F' H' e1 ⟨fun b => b = p, ⟨p, us, rfl, rfl, h3, h4⟩, fun b hb => by subst hb; exact ⟨h1, h2, by rw [h3]; intro z; cases z⟩⟩⟩
theorem ve_n {r : Rp α} {v : α} (h : DN X B Γ e r v) : VE X B Γ e (.own (oAll r) v) := pe_weak h fun σ H Q ⟨F, en, q⟩ => ⟨F, en, fun u G H' s1 s2 s3 h4 => q u F H' ⟨Same.refl F, s1, en.same.trans s1, fun b hf _ => hf⟩
    ⟨fun b => G b ≠ none, ⟨G, fun b u q => ⟨(by show G b ≠ none; rw [q]; intro z; cases z), s2 b u q⟩, h4⟩, fun b hb => ⟨en.same.free (s3 b hb), s3 b hb, by
      cases z : G b with
      | none => exact absurd z hb
      | some o => rw [s2 b o z]; intro z; cases z⟩⟩⟩
def setL (σ : L2.St) : List Nat → List V → L2.St
  | i :: is, v :: vs => setL (σ.set i (some v)) is vs
  | _, _ => σ
/-- values for slots is, from Γa (as stored so far) to Γb -/
def tVA (B : Bs) (Γ Γa : Ctx) (is : List Nat) (Γb : Ctx) : TA := fun σ H Q => ∃ F σa, Env B Γ σ F H ∧ Env B Γa σa F H ∧ ∀ vs F' H', Ext F H F' H' → Env B Γb (setL σa is vs) F' H' → vs.length = is.length → Q vs H'
abbrev VA (X : Cx) (B : Bs) (Γ Γa : Ctx) (es : List Expr) (is : List Nat) (Γb : Ctx) : Prop := PA X es (tVA B Γ Γa is Γb)
theorem va_nil {Γa : Ctx} : VA X B Γ Γa [] [] Γa := pa_weak pa_nil fun σ H Q ⟨F, σa, e, ea, k⟩ => k [] F H (Ext.refl e.same) ea rfl
theorem va_cons {Γa Γ1 Γb : Ctx} {i : Nat} {is : List Nat} {s : Sl} (h : VE X B Γ e s) (t : To Γa i s Γ1) (hr : VA X B Γ Γ1 es is Γb) (hs : starEach (e :: es) X.env = (false, eval e X.env) :: starEach es X.env := by rfl) : VA X B Γ Γa (e :: es) (i :: is) Γb :=
  pa_weak (pa_cons h hr hs) fun σ H Q ⟨F, σa, en, ea, k⟩ => ⟨F, en, fun u F1 H1 e1 h1 => ⟨F1, σa.set i (some u), en.ext e1, ea.sto t e1 h1, fun vs F2 H2 e2 en2 hl => k (u :: vs) F2 H2 (e1.trans e2) en2 (by simp [hl])⟩⟩
theorem sw_par2 {env : PySem.Env} {x y : Str} {px py pt pt2 : Pos} {kt k2 : Nat} {e1 e2 : Expr} (hk : env.scope.kind = .function) (hx : env.kindOf x = some .local) (hy : env.kindOf y = some .local) (hl : (py.line == px.line) = true) (hne : (y == x) = false)
    (h1 : (([e1, e2] : List Expr).any fun | .Starred .. => true | _ => false) = false) (h2 : ([e1, e2] : List Expr).all (foldedForSure 8) = false) (h3 : ([e1, e2] : List Expr).all (constantsAlone 8) = false) :
    swappedStores [.Tuple [.Name x px, .Name y py] kt pt] (.Tuple [e1, e2] k2 pt2) env = pure (some [x, y]) := by
  have hb : env.blockKind = .function := by unfold Env.blockKind; rw [hk]; rfl
  unfold swappedStores
  have e0 : (some NameKind.local == some NameKind.local) = true := by decide
  have hxl : (px.line == px.line) = true := by simp
  have he : ([x, y] : List Str).eraseDups = [x, y] := by
    simp [List.eraseDups, List.eraseDupsBy, List.eraseDupsBy.loop, hne]
  have hl' : py.line = px.line := by simpa using hl
  have h1' := h1
  have h2' := h2
  have h3' := h3
  simp only [List.any_cons, List.any_nil, Bool.or_false, Bool.or_eq_false_iff] at h1'
  simp [hb, hx, hy, hl', Expr.pos, he, List.filterMap_cons, h1'.1, h1'.2, -List.all_cons, h2, h3]
  intro hh
  exfalso
  rcases hh with h | h
  · have z := h1'.1
    cases e1 <;> first | exact Bool.noConfusion h | exact Bool.noConfusion z
  · have z := h1'.2
    cases e2 <;> first | exact Bool.noConfusion h | exact Bool.noConfusion z
/-- a, b = e1, e2 (two local names) -/
theorem c_par (c : XC P w K mg base k N sc vs ls X) (i j : Nat) {e1 e2 : Expr} {px py pt pt2 : Pos} {kt k2 : Nat} {Γb : Ctx} (h : VA X B Γ Γ [e1, e2] [i, j] Γb) (hr : SD X B Γb rest D) (hij : i ≠ j := by decide) (hN : N[i]? = some x := by rfl) (hN2 : N[j]? = some y := by rfl)
    (hx : (match sc.names.lookup x with | some .local => true | _ => false) = true := by decide +kernel) (hy : (match sc.names.lookup y with | some .local => true | _ => false) = true := by decide +kernel)
    (hline : (py.line == px.line) = true := by rfl) (hne : (y == x) = false := by decide +kernel)
    (w1 : (([e1, e2] : List Expr).any fun | .Starred .. => true | _ => false) = false := by rfl) (w2 : ([e1, e2] : List Expr).all (foldedForSure 8) = false := by rfl) (w3 : ([e1, e2] : List Expr).all (constantsAlone 8) = false := by rfl)
    (hs : swapsWithSole [.Tuple [.Name x px, .Name y py] kt pt] (.Tuple [e1, e2] k2 pt2) pos.line X.env = pure false := by rfl) :
    SD X B Γ (.Assign [.Tuple [.Name x px, .Name y py] kt pt] (.Tuple [e1, e2] k2 pt2) pos :: rest) D := by
  have hN' : X.N[i]? = some x := by rw [c.N]; exact hN
  have hN2' : X.N[j]? = some y := by rw [c.N]; exact hN2
  have lx : X.env.scope.names.lookup x = some .local := by
    rw [c.sc]
    split at hx
    · assumption
    · cases hx
  have ly : X.env.scope.names.lookup y = some .local := by
    rw [c.sc]
    split at hy
    · assumption
    · cases hy
  refine sd_cons (ps_par c.calm c.nd hN' hN2' hij lx ly h (sw_par2 c.kind lx ly hline hne w1 w2 w3) hs) (fun D' l σ H ⟨F, en⟩ => ⟨F, σ, en, en, fun vs F' H' e1 en1 hl => ?_⟩) hr
  match vs, hl with
  | [u, v], _ => exact ⟨u, v, rfl, l.nx _ _ ⟨F', en1⟩⟩
theorem sd_gen {Γf : α → Ctx} (v : α) (h : ∀ a, a = v → SD X B (Γf a) ss D) : SD X B (Γf v) ss D := h v rfl
/-- if whose test fails -/
theorem sd_ifF {z : Bool} {cnd : Expr} {bd : List Stmt} (hc : DT X B Γ cnd z) (hp : z = false) (h2 : SD X B Γ rest D) : SD X B Γ (.If cnd bd [] pos :: rest) D := by
  subst hp
  refine pss_weak (pss_cons (ps_if hc (pss_never (sts := bd)) pss_nil) h2) fun D' σ H ⟨hd, F, en⟩ => ?_
  refine ⟨F, en, fun F1 H1 e1 => ?_⟩
  show if false = true then _ else _
  rw [if_neg (by decide)]
  exact ⟨hd, F1, en.ext e1⟩
/-- (a, b) = a pair -/
theorem c_asgP (c : XC P w K mg base k N sc vs ls X) (i j : Nat) {p1 p2 p3 : Pos} {kk : Nat} {r : Rp α} {s : Rp β} {z : α × β} {Γ1 Γ2 : α × β → Ctx} (he : DE X B Γ e (rPair r s) z) (t1 : ∀ z : α × β, To Γ i (.val r z.1) (Γ1 z)) (t2 : ∀ z : α × β, To (Γ1 z) j (.val s z.2) (Γ2 z)) (hr : ∀ z', z' = z → SD X B (Γ2 z') rest D)
    (hN : N[i]? = some x := by rfl) (hl : ls.contains i = true := by rfl) (hN2 : N[j]? = some y := by rfl) (hl2 : ls.contains j = true := by rfl)
    (hs : swapsWithSole [.Tuple [.Name x p1, .Name y p2] kk p3] e pos.line X.env = pure false := by rfl) (hw : swappedStores [.Tuple [.Name x p1, .Name y p2] kk p3] e X.env = pure none := by rfl) :
    SD X B Γ (.Assign [.Tuple [.Name x p1, .Name y p2] kk p3] e pos :: rest) D :=
  sd_cons (ps_asg he (c_tpair (B := B) (r := r) (s := s) c i j hN hl hN2 hl2) hs hw) (fun D' l σ H ⟨F, en⟩ => ⟨F, en, fun u F1 H1 e1 h1 => ⟨Γ, z, Γ2 z, F1, en.ext e1, h1, ⟨Γ1 z, t1 z, t2 z⟩, fun σ' en' _ _ => l.nx _ _ ⟨F1, en'⟩⟩⟩) (hr z rfl)
end
end DL
namespace DL
open PySem L2 PySem.Spec PyProof.Rows
/-- an instance in the making, all within it new -/
def oObjN (C : Addr) (names : List Str) (sls : Ctx) : Own (Addr × Addr) :=
  ⟨fun F H v a fp => v = .ref a.1 ∧ fp a.1 ∧ ∃ (G : Hp) (fs : List (Str × V)), (∀ b u, G b = some u → fp b ∧ H b = some u) ∧ G a.1 = none ∧ H a.1 = some (.ins C a.2 fs) ∧ fs.map Prod.fst = names ∧ SlsOk G (fs.map Prod.snd) sls,
   fun {F F' H H' v a fp} e k ⟨h1, h2, G, fs, h3, h4, h5, h6, h7⟩ => ⟨h1, h2, G, fs, fun b u q => ⟨(h3 b u q).1, by rw [k b (h3 b u q).1]; exact (h3 b u q).2⟩, h4, by rw [k a.1 h2]; exact h5, h6, h7⟩⟩
def SpIN {ι : Type} (C : Addr) (args : ι → Ctx) (pre : ι → Prop) (names : List Str) (flds : ι → Ctx) : Sp := fun vs H Q _ => ∃ F i x dx us, vs = .ref x :: us ∧ Same F H ∧ F x = none ∧ H x = some (.ins C dx []) ∧ SlsOk F us (args i) ∧ pre i ∧
  ∀ (G H' : Hp) (fs : List (Str × V)), (∀ b o, b ≠ x → H b = some o → H' b = some o) → Same G H' → (∀ b, G b ≠ none → H b = none) → H' x = some (.ins C dx fs) → fs.map Prod.fst = names → SlsOk G (fs.map Prod.snd) (flds i) → Q .non H'
section
variable {P : Program} {w : World} {K : PySem.W.Frag} {mg : Str → Option Value} {base : Heap} {k j : Nat} {N : List Str} {sc : Scope} {vs ls : List Nat} {X : Cx} {α β γ ι ρ : Type} {B : Bs} {Γ Γ' : Ctx} {e a b : Expr} {es : List Expr} {D : Ends} {rest ss : List Stmt} {p pos apos : Pos} {x f m q : Str} {cls : α → Addr} {names : List Str} {flds : α → Ctx} {ps : List Str} {C : Addr} {st : Stmt} {args : ι → Ctx} {pre : ι → Prop}
/-- self.f = e, e all new -/
theorem c_setFN (c : XC P w K mg base k N sc vs ls X) (i : Nat) {sls : Ctx} {xd : Addr × Addr} {r : Rp β} {v : β} {p1 p2 : Pos} (h : At Γ i (.own (oObjN C names sls) xd)) (he : DN X B Γ e r v) (hc : Cls K C) (hn : NoAttr K C f)
    (t : To Γ i (.own (oObjN C (names ++ [f]) (sls ++ [.val r v])) xd) Γ') (hr : SD X B Γ' rest D) (hnm : names.contains f = false := by decide +kernel) (hz : decide (names.length < 1000) = true := by decide +kernel) (hN : N[i]? = some x := by rfl) (hv : vs.contains i = true := by rfl)
    (hd : (x == ("__debug__" : Str)) = false := by decide) (hcd : (x == ("__classdict__" : Str)) = false := by decide) (hs : swapsWith e (some (.Attribute (.Name x p1) f p2)) pos.line X.env = pure false := by rfl) :
    SD X B Γ (.Assign [.Attribute (.Name x p1) f p2] e pos :: rest) D := by
  have hN' : X.N[i]? = some x := by rw [c.N]; exact hN
  refine sd_cons (ps_fld (pe_var hN' (c.vis i x hN' hv) hd hcd) he hs) (fun D' l σ H ⟨F, en⟩ => ⟨F, en, fun u G1 H1 s1 s2 s3 h1 => ?_⟩) hr
  have ex : Ext F H F H1 := ⟨Same.refl F, s1, en.same.trans s1, fun b hf _ => hf⟩
  obtain ⟨fp, en0⟩ := en
  have en1 := en0.ext ex
  obtain ⟨⟨s, hs, rfl, hfp, G, fs, q3, q4, q5, q6, q7⟩, hown⟩ := en1.ok i _ h.get
  refine ⟨.ref xd.1, hs, xd.1, C, xd.2, fs, rfl, q5, by rw [c.K]; exact hc, by rw [c.K]; exact hn, by have := congrArg List.length q6; simp at this; rw [this]; exact of_decide_eq_true hz, l.nx _ _ ?_⟩
  have hx := hown xd.1 hfp
  have g1new : ∀ j b, fp j b → G1 b = none := fun j b z => by
    cases w : G1 b with
    | none => rfl
    | some o => exact absurd (s3 b (by rw [w]; intro z; cases z)) (en0.own_at z).2.1
  have gx : G1 xd.1 = none := g1new i xd.1 hfp
  refine ⟨F, _, en1.putG (fi := fun b => fp i b ∨ G1 b ≠ none) t rfl (fun j hj => rfl) ⟨en1.base.f, fun b o z => ?_, fun b o z => ?_, en1.base.d⟩ (fun b o z => ?_) (Same.refl F) (fun j b hj z => ?_) ?_ (fun j b hj z w => ?_)⟩
  · rw [upd_ne (ne_of_none z hx.2.2)]; exact en1.base.h b o z
  · rw [upd_ne (ne_of_none z hx.1)]; exact en1.same b o z
  · rw [upd_ne (ne_of_none z hx.1)]; exact en1.same b o z
  · have nb : b ≠ xd.1 := fun w => en1.apart j i hj b z (by rw [w]; exact hfp)
    exact ⟨by rw [upd_ne nb], (en1.own_at z).1⟩
  · refine ⟨⟨.ref xd.1, hs, rfl, .inl hfp, join G G1, putF f u fs, fun b o z => ?_, ?_, upd_same, ?_, ?_⟩, fun b hb => ?_⟩
    · have nb : b ≠ xd.1 := fun w => by
        rw [w] at z
        unfold join at z
        rw [gx, q4] at z
        cases z
      rw [upd_ne nb]
      unfold join at z
      cases w : G1 b with
      | none => rw [w] at z; exact ⟨.inl (q3 b o z).1, (q3 b o z).2⟩
      | some o' => rw [w] at z; cases z; exact ⟨.inr (by rw [w]; intro z; cases z), s2 b _ w⟩
    · unfold join; rw [gx]; exact q4
    · rw [putF_new q6 hnm, List.map_append, q6]; rfl
    · rw [putF_new q6 hnm, List.map_append]
      refine slsOk_app (SlsOk.mono (fun b o z => ?_) q7) ⟨r.mono (fun b o z => by unfold join; rw [z]) h1, trivial⟩
      unfold join
      rw [g1new i b (q3 b o z).1]
      exact z
    · have hb' : F b = none ∧ H1 b ≠ none ∧ B.H b = none := by
        rcases hb with hb | hb
        · exact hown b hb
        · have hH : H b = none := s3 b hb
          refine ⟨en0.same.free hH, ?_, en0.base.h.free hH⟩
          cases w : G1 b with
          | none => exact absurd w hb
          | some o => rw [s2 b o w]; intro z; cases z
      refine ⟨hb'.1, ?_, hb'.2.2⟩
      by_cases z : b = xd.1
      · rw [z, upd_same]; intro w; cases w
      · rw [upd_ne z]; exact hb'.2.1
  · rcases w with w | w
    · exact en1.apart j i hj b z w
    · exact w (g1new j b z)
theorem fnIN {fl : ι → Ctx} (Γ0 : ι → Addr × Addr → Ctx) (T : FTk K mg x q C st ps) (S : FnScope N ps (defScope st)) (hv : locB N (defScope st) vs = true) (hl : ∀ i, (args i).length + 1 = ps.length) (hΓ : ∀ i xd, .own (oObjN C [] []) xd :: args i ++ List.replicate (N.length - ps.length) .un = Γ0 i xd)
    (body : ∀ (X : Cx) (B : Bs) (D : Ends) (i : ι) (xd : Addr × Addr), XC P w K mg base k N (defScope st) vs vs X → pre i → (∀ σ H' Γ', EnvP B (.own (oObjN C names (fl i)) xd :: Γ') σ H' → D.nx σ H') → SD X B (Γ0 i xd) (defBody st) D) :
    FMk P w K mg base (k + 1) x C ps (SpIN C args pre names fl) := by
  obtain ⟨fa, fd, F, hm, hk, hb⟩ := T
  refine ⟨fa, fd, F.ok S (fun us H Q E ⟨F0, i, x, dx, us', e, _, _, _, h, _⟩ => by rw [e, List.length_cons, h.length, hl]) (fun cdv A outer s H us Q E hr ⟨F0, i, y, dy, us', e, s0, hy, hH, h, hp, kq⟩ => ?_), hm, hk, hb⟩
  subst e
  have hN : ps.length ≤ N.length := by have := congrArg List.length S.pre; rw [List.length_take] at this; omega
  let H0 : Hp := fun b => if b = y then none else H b
  have h0y : H0 y = none := if_pos rfl
  have h0 : ∀ b, b ≠ y → H0 b = H b := fun b hb => if_neg hb
  refine ⟨_, body _ ⟨F0, H0, F0⟩ { nx := fun _ H' => Q .non H', rt := Q } i (y, dy) (xc_of S hv hr) hp (fun σ H' Γ' ⟨F', fp, en⟩ => ?_), Le.refl _, F0, ?_⟩
  · obtain ⟨⟨v, _, _, hfp, G, fs, g0, g00, g1, g2, g3⟩, hown⟩ := en.ok 0 _ rfl
    refine kq G H' fs (fun b o hb z => en.base.h b o (by show H0 b = _; rw [h0 b hb]; exact z)) (fun b o z => (g0 b o z).2) (fun b hb => ?_) g1 g2 g3
    cases w : G b with
    | none => exact absurd w hb
    | some o =>
      have z := (hown b (g0 b o w).1).2.2
      have nb : b ≠ y := fun e => by rw [e] at w; rw [g00] at w; cases w
      have z' : H0 b = none := z
      rw [h0 b nb] at z'
      exact z'
  · have s00 : Same F0 H0 := fun b u z => by
      have hb : b ≠ y := fun w => by rw [w, hy] at z; cases z
      rw [h0 b hb]; exact s0 b u z
    obtain ⟨fp, en⟩ := env_start (N := N) (ps := ps) (us := .ref y :: us') (Δ := .val rAny () :: args i) (Γ0 := .val rAny () :: args i ++ List.replicate (N.length - ps.length) .un) (F := F0) (H := H0) s00 ⟨trivial, h⟩ (by rw [List.length_cons, hl]) hN rfl
    rw [← hΓ]
    have t : To (.val rAny () :: (args i ++ List.replicate (N.length - ps.length) .un)) 0 (.own (oObjN C [] []) (y, dy)) (.own (oObjN C [] []) (y, dy) :: (args i ++ List.replicate (N.length - ps.length) .un)) := .z
    have s0H : Same H0 H := fun b u z => by
      have hb : b ≠ y := fun w => by rw [w, h0y] at z; cases z
      rw [← h0 b hb]; exact z
    have hz : ∀ j b, fp j b → False := fun j b z => by
      cases q : (Sl.val rAny () :: args i ++ List.replicate (N.length - ps.length) Sl.un)[j]? with
      | none => exact en.out j q b z
      | some s =>
        have w := en.ok j s q
        cases s with
        | un => exact w b z
        | val r a => exact w.1 b z
        | own o a =>
          have hm := List.mem_of_getElem? q
          have : ∀ {us : List V} {Δ : Ctx}, SlsOk F0 us Δ → Sl.own o a ∉ Δ := fun {us Δ} h => by
            induction Δ generalizing us with
            | nil => simp
            | cons s Δ ih =>
              cases us with
              | nil => exact h.elim
              | cons v us =>
                intro z
                rcases List.mem_cons.mp z with z | z
                · subst z; exact h.1
                · exact ih h.2 z
          rcases List.mem_append.mp hm with hm | hm
          · rcases List.mem_cons.mp hm with hm | hm
            · cases hm
            · exact this h hm
          · have := List.eq_of_mem_replicate hm
            cases this
    refine ⟨_, en.putG (fi := fun b => b = y) t rfl (fun j hj => rfl) ⟨Same.refl F0, s0H, s0, fun b hb _ => hb⟩ s0 (Same.refl F0) (fun j b hj z => (hz j b z).elim) ?_ (fun j b hj z w => hz j b z)⟩
    have hs : (L2.start N (.ref y :: us'))[0]? = some (some (.ref y)) := by unfold L2.start; simp
    rw [hs]
    exact ⟨⟨_, rfl, rfl, rfl, fun _ => none, [], (fun b u z => by cases z), rfl, hH, rfl, trivial⟩, fun b hb => by subst hb; exact ⟨hy, (by rw [hH]; intro w; cases w), h0y⟩⟩
theorem c_makeN (c : XC P w K mg base k N sc vs ls X) {fl : ι → Ctx} {o : α} (i : ι) (h : FMk P w K mg base j x C ps (SpIN C args pre names fl)) (ha : DA X B Γ (a :: es) (args i)) (hp : pre i) (hC : cls o = C) (hf : flds o = fl i) (hj : j + 1 ≤ k := by decide) (hg : glB sc x = true := by decide +kernel)
    (hdb : (x == ("__debug__" : Str)) = false := by decide) (he : starEach (a :: es) X.env = (false, eval a X.env) :: starEach es X.env := by rfl) (hpl : (backTo pos (starEach es X.env)).any (·.1) = false := by rfl) :
    DN X B Γ (.Call (.Name x p) (a :: es) [] pos) (rObj cls names flds) o := by
  obtain ⟨fa, fd, G, h1, h2, h3⟩ := h
  have G' : FnOk X.prog X.w X.K X.mg X.base CX0 j fa fd ps (SpIN C args pre names fl) := by rw [c.p, c.w, c.K, c.mg, c.b]; exact G
  refine pe_weak (pe_make (by rw [c.K]; exact h2) G' (c.room.mono hj) (gl_of c.sc hg) (by rw [c.mg]; exact h1) (by rw [c.K]; exact h3) .nil pass0 ha hdb he hpl) fun σ H Q ⟨F, en, q⟩ => ⟨F, en, fun us F1 H1 e1 h5 => ?_⟩
  intro y dy n1 n2 ne
  rw [List.append_nil]
  have s1 : Same H1 (upd (upd H1 dy (.own y)) y (.ins C dy [])) := fun b u z => by rw [upd_ne (ne_of_none z n1), upd_ne (ne_of_none z n2)]; exact z
  have f1 : F1 y = none := e1.i.free n1
  refine ⟨F1, i, y, dy, us, rfl, e1.i.trans s1, f1, upd_same, h5, hp, fun G H' fs g2 g3 g5 g6 g7 g8 => ⟨rfl, ?_⟩⟩
  have gy : G y = none := by
    cases w : G y with
    | none => rfl
    | some o =>
      have z := g5 y (by rw [w]; intro z; cases z)
      rw [upd_same] at z
      cases z
  have g2' : Same H1 H' := fun b u z => g2 b u (ne_of_none z n1) (s1 b u z)
  refine q (.ref y) (upd G y (.ins C dy fs)) H' (e1.h.trans g2') (same_upd g3 g6) (fun b hb => ?_) ⟨y, dy, fs, rfl, by rw [hC]; exact upd_same, g7, by rw [hf]; exact SlsOk.mono (same_new gy) g8⟩
  by_cases hby : b = y
  · rw [hby]; exact e1.h.free n1
  · rw [upd_ne hby] at hb
    exact e1.h.free (s1.free (g5 b hb))
end
end DL
namespace DL
open PySem L2 PySem.Spec PyProof.Rows
section
variable {P : Program} {w : World} {K : PySem.W.Frag} {mg : Str → Option Value} {base : Heap} {k j : Nat} {N : List Str} {sc : Scope} {vs ls : List Nat} {X : Cx} {β ρ : Type} {B : Bs} {Γ Γ' : Ctx} {D : Ends} {rest ss : List Stmt} {p pos apos : Pos} {x q f m : Str} {ps : List Str} {st : Stmt} {C : Addr}
abbrev SpIN1 {α1 : Type} (C : Addr) (r1 : Rp α1) (pre : α1 → Prop) (names : List Str) (fl : α1 → Ctx) : Sp := SpIN C (fun i : α1 => [.val r1 i]) (fun i => pre (i)) names (fun i => fl (i))
theorem fnIN1 {α1 : Type} {r1 : Rp α1} {pre : α1 → Prop} {names : List Str} {fl : α1 → Ctx} (T : FTk K mg x q C st ps) (S : FnScope N ps (defScope st)) (hv : locB N (defScope st) vs = true) (Γu : Ctx) (hl : ps.length = 2 := by rfl) (hu : List.replicate (N.length - ps.length) .un = Γu := by rfl)
    (body : ∀ (X : Cx) (B : Bs) (D : Ends) (x1 : α1) (xd : Addr × Addr), XC P w K mg base k N (defScope st) vs vs X → pre x1 → (∀ σ H' Γ', EnvP B (.own (oObjN C names (fl x1)) xd :: Γ') σ H' → D.nx σ H') → SD X B (.own (oObjN C [] []) xd :: .val r1 x1 :: Γu) (defBody st) D) : FMk P w K mg base (k + 1) x C ps (SpIN1 C r1 pre names fl) :=
  fnIN (fun i xd => .own (oObjN C [] []) xd :: .val r1 i :: Γu) T S hv (fun _ => hl.symm) (fun i xd => by rw [hu]; rfl) (fun X B D i xd c hp hD => body X B D (i) xd c hp hD)
theorem c_makeN1 (c : XC P w K mg base k N sc vs ls X) {α1 : Type} {r1 : Rp α1} {pre : α1 → Prop} {names : List Str} {fl : α1 → Ctx} {cls : β → Addr} {flds : β → Ctx} {e1 : Expr} {x1 : α1} (o : β) (h : FMk P w K mg base j x C ps (SpIN1 C r1 pre names fl)) (h1 : DE X B Γ e1 r1 x1) (hp : pre x1) (hC : cls o = C := by rfl) (hf : flds o = fl x1 := by rfl) (hj : j + 1 ≤ k := by decide) (hg : glB sc x = true := by decide +kernel)
    (hdb : (x == ("__debug__" : Str)) = false := by decide) (s1 : starEach [e1] X.env = (false, eval e1 X.env) :: starEach [] X.env := by rfl) (hpl : (backTo pos (starEach [] X.env)).any (·.1) = false := by rfl) :
    DN X B Γ (.Call (.Name x p) [e1] [] pos) (rObj cls names flds) o := c_makeN c x1 h (da_cons h1 da_nil s1) hp hC hf hj hg hdb s1 hpl
abbrev SpIN2 {α1 α2 : Type} (C : Addr) (r1 : Rp α1) (r2 : Rp α2) (pre : α1 → α2 → Prop) (names : List Str) (fl : α1 → α2 → Ctx) : Sp := SpIN C (fun i : α1 × α2 => [.val r1 (i.1), .val r2 (i.2)]) (fun i => pre (i.1) (i.2)) names (fun i => fl (i.1) (i.2))
theorem fnIN2 {α1 α2 : Type} {r1 : Rp α1} {r2 : Rp α2} {pre : α1 → α2 → Prop} {names : List Str} {fl : α1 → α2 → Ctx} (T : FTk K mg x q C st ps) (S : FnScope N ps (defScope st)) (hv : locB N (defScope st) vs = true) (Γu : Ctx) (hl : ps.length = 3 := by rfl) (hu : List.replicate (N.length - ps.length) .un = Γu := by rfl)
    (body : ∀ (X : Cx) (B : Bs) (D : Ends) (x1 : α1) (x2 : α2) (xd : Addr × Addr), XC P w K mg base k N (defScope st) vs vs X → pre x1 x2 → (∀ σ H' Γ', EnvP B (.own (oObjN C names (fl x1 x2)) xd :: Γ') σ H' → D.nx σ H') → SD X B (.own (oObjN C [] []) xd :: .val r1 x1 :: .val r2 x2 :: Γu) (defBody st) D) : FMk P w K mg base (k + 1) x C ps (SpIN2 C r1 r2 pre names fl) :=
  fnIN (fun i xd => .own (oObjN C [] []) xd :: .val r1 (i.1) :: .val r2 (i.2) :: Γu) T S hv (fun _ => hl.symm) (fun i xd => by rw [hu]; rfl) (fun X B D i xd c hp hD => body X B D (i.1) (i.2) xd c hp hD)
theorem c_makeN2 (c : XC P w K mg base k N sc vs ls X) {α1 α2 : Type} {r1 : Rp α1} {r2 : Rp α2} {pre : α1 → α2 → Prop} {names : List Str} {fl : α1 → α2 → Ctx} {cls : β → Addr} {flds : β → Ctx} {e1 e2 : Expr} {x1 : α1} {x2 : α2} (o : β) (h : FMk P w K mg base j x C ps (SpIN2 C r1 r2 pre names fl)) (h1 : DE X B Γ e1 r1 x1) (h2 : DE X B Γ e2 r2 x2) (hp : pre x1 x2) (hC : cls o = C := by rfl) (hf : flds o = fl x1 x2 := by rfl) (hj : j + 1 ≤ k := by decide) (hg : glB sc x = true := by decide +kernel)
    (hdb : (x == ("__debug__" : Str)) = false := by decide) (s1 : starEach [e1, e2] X.env = (false, eval e1 X.env) :: starEach [e2] X.env := by rfl) (s2 : starEach [e2] X.env = (false, eval e2 X.env) :: starEach [] X.env := by rfl) (hpl : (backTo pos (starEach [e2] X.env)).any (·.1) = false := by rfl) :
    DN X B Γ (.Call (.Name x p) [e1, e2] [] pos) (rObj cls names flds) o := c_makeN c (x1, x2) h (da_cons h1 (da_cons h2 da_nil s2) s1) hp hC hf hj hg hdb s1 hpl
abbrev SpIN3 {α1 α2 α3 : Type} (C : Addr) (r1 : Rp α1) (r2 : Rp α2) (r3 : Rp α3) (pre : α1 → α2 → α3 → Prop) (names : List Str) (fl : α1 → α2 → α3 → Ctx) : Sp := SpIN C (fun i : α1 × α2 × α3 => [.val r1 (i.1), .val r2 (i.2.1), .val r3 (i.2.2)]) (fun i => pre (i.1) (i.2.1) (i.2.2)) names (fun i => fl (i.1) (i.2.1) (i.2.2))
theorem fnIN3 {α1 α2 α3 : Type} {r1 : Rp α1} {r2 : Rp α2} {r3 : Rp α3} {pre : α1 → α2 → α3 → Prop} {names : List Str} {fl : α1 → α2 → α3 → Ctx} (T : FTk K mg x q C st ps) (S : FnScope N ps (defScope st)) (hv : locB N (defScope st) vs = true) (Γu : Ctx) (hl : ps.length = 4 := by rfl) (hu : List.replicate (N.length - ps.length) .un = Γu := by rfl)
    (body : ∀ (X : Cx) (B : Bs) (D : Ends) (x1 : α1) (x2 : α2) (x3 : α3) (xd : Addr × Addr), XC P w K mg base k N (defScope st) vs vs X → pre x1 x2 x3 → (∀ σ H' Γ', EnvP B (.own (oObjN C names (fl x1 x2 x3)) xd :: Γ') σ H' → D.nx σ H') → SD X B (.own (oObjN C [] []) xd :: .val r1 x1 :: .val r2 x2 :: .val r3 x3 :: Γu) (defBody st) D) : FMk P w K mg base (k + 1) x C ps (SpIN3 C r1 r2 r3 pre names fl) :=
  fnIN (fun i xd => .own (oObjN C [] []) xd :: .val r1 (i.1) :: .val r2 (i.2.1) :: .val r3 (i.2.2) :: Γu) T S hv (fun _ => hl.symm) (fun i xd => by rw [hu]; rfl) (fun X B D i xd c hp hD => body X B D (i.1) (i.2.1) (i.2.2) xd c hp hD)
theorem c_makeN3 (c : XC P w K mg base k N sc vs ls X) {α1 α2 α3 : Type} {r1 : Rp α1} {r2 : Rp α2} {r3 : Rp α3} {pre : α1 → α2 → α3 → Prop} {names : List Str} {fl : α1 → α2 → α3 → Ctx} {cls : β → Addr} {flds : β → Ctx} {e1 e2 e3 : Expr} {x1 : α1} {x2 : α2} {x3 : α3} (o : β) (h : FMk P w K mg base j x C ps (SpIN3 C r1 r2 r3 pre names fl)) (h1 : DE X B Γ e1 r1 x1) (h2 : DE X B Γ e2 r2 x2) (h3 : DE X B Γ e3 r3 x3) (hp : pre x1 x2 x3) (hC : cls o = C := by rfl) (hf : flds o = fl x1 x2 x3 := by rfl) (hj : j + 1 ≤ k := by decide) (hg : glB sc x = true := by decide +kernel)
    (hdb : (x == ("__debug__" : Str)) = false := by decide) (s1 : starEach [e1, e2, e3] X.env = (false, eval e1 X.env) :: starEach [e2, e3] X.env := by rfl) (s2 : starEach [e2, e3] X.env = (false, eval e2 X.env) :: starEach [e3] X.env := by rfl) (s3 : starEach [e3] X.env = (false, eval e3 X.env) :: starEach [] X.env := by rfl) (hpl : (backTo pos (starEach [e2, e3] X.env)).any (·.1) = false := by rfl) :
    DN X B Γ (.Call (.Name x p) [e1, e2, e3] [] pos) (rObj cls names flds) o := c_makeN c (x1, x2, x3) h (da_cons h1 (da_cons h2 (da_cons h3 da_nil s3) s2) s1) hp hC hf hj hg hdb s1 hpl
abbrev SpIN4 {α1 α2 α3 α4 : Type} (C : Addr) (r1 : Rp α1) (r2 : Rp α2) (r3 : Rp α3) (r4 : Rp α4) (pre : α1 → α2 → α3 → α4 → Prop) (names : List Str) (fl : α1 → α2 → α3 → α4 → Ctx) : Sp := SpIN C (fun i : α1 × α2 × α3 × α4 => [.val r1 (i.1), .val r2 (i.2.1), .val r3 (i.2.2.1), .val r4 (i.2.2.2)]) (fun i => pre (i.1) (i.2.1) (i.2.2.1) (i.2.2.2)) names (fun i => fl (i.1) (i.2.1) (i.2.2.1) (i.2.2.2))
theorem fnIN4 {α1 α2 α3 α4 : Type} {r1 : Rp α1} {r2 : Rp α2} {r3 : Rp α3} {r4 : Rp α4} {pre : α1 → α2 → α3 → α4 → Prop} {names : List Str} {fl : α1 → α2 → α3 → α4 → Ctx} (T : FTk K mg x q C st ps) (S : FnScope N ps (defScope st)) (hv : locB N (defScope st) vs = true) (Γu : Ctx) (hl : ps.length = 5 := by rfl) (hu : List.replicate (N.length - ps.length) .un = Γu := by rfl)
    (body : ∀ (X : Cx) (B : Bs) (D : Ends) (x1 : α1) (x2 : α2) (x3 : α3) (x4 : α4) (xd : Addr × Addr), XC P w K mg base k N (defScope st) vs vs X → pre x1 x2 x3 x4 → (∀ σ H' Γ', EnvP B (.own (oObjN C names (fl x1 x2 x3 x4)) xd :: Γ') σ H' → D.nx σ H') → SD X B (.own (oObjN C [] []) xd :: .val r1 x1 :: .val r2 x2 :: .val r3 x3 :: .val r4 x4 :: Γu) (defBody st) D) : FMk P w K mg base (k + 1) x C ps (SpIN4 C r1 r2 r3 r4 pre names fl) :=
  fnIN (fun i xd => .own (oObjN C [] []) xd :: .val r1 (i.1) :: .val r2 (i.2.1) :: .val r3 (i.2.2.1) :: .val r4 (i.2.2.2) :: Γu) T S hv (fun _ => hl.symm) (fun i xd => by rw [hu]; rfl) (fun X B D i xd c hp hD => body X B D (i.1) (i.2.1) (i.2.2.1) (i.2.2.2) xd c hp hD)
theorem c_makeN4 (c : XC P w K mg base k N sc vs ls X) {α1 α2 α3 α4 : Type} {r1 : Rp α1} {r2 : Rp α2} {r3 : Rp α3} {r4 : Rp α4} {pre : α1 → α2 → α3 → α4 → Prop} {names : List Str} {fl : α1 → α2 → α3 → α4 → Ctx} {cls : β → Addr} {flds : β → Ctx} {e1 e2 e3 e4 : Expr} {x1 : α1} {x2 : α2} {x3 : α3} {x4 : α4} (o : β) (h : FMk P w K mg base j x C ps (SpIN4 C r1 r2 r3 r4 pre names fl)) (h1 : DE X B Γ e1 r1 x1) (h2 : DE X B Γ e2 r2 x2) (h3 : DE X B Γ e3 r3 x3) (h4 : DE X B Γ e4 r4 x4) (hp : pre x1 x2 x3 x4) (hC : cls o = C := by rfl) (hf : flds o = fl x1 x2 x3 x4 := by rfl) (hj : j + 1 ≤ k := by decide) (hg : glB sc x = true := by decide +kernel)
    (hdb : (x == ("__debug__" : Str)) = false := by decide) (s1 : starEach [e1, e2, e3, e4] X.env = (false, eval e1 X.env) :: starEach [e2, e3, e4] X.env := by rfl) (s2 : starEach [e2, e3, e4] X.env = (false, eval e2 X.env) :: starEach [e3, e4] X.env := by rfl) (s3 : starEach [e3, e4] X.env = (false, eval e3 X.env) :: starEach [e4] X.env := by rfl) (s4 : starEach [e4] X.env = (false, eval e4 X.env) :: starEach [] X.env := by rfl) (hpl : (backTo pos (starEach [e2, e3, e4] X.env)).any (·.1) = false := by rfl) :
    DN X B Γ (.Call (.Name x p) [e1, e2, e3, e4] [] pos) (rObj cls names flds) o := c_makeN c (x1, x2, x3, x4) h (da_cons h1 (da_cons h2 (da_cons h3 (da_cons h4 da_nil s4) s3) s2) s1) hp hC hf hj hg hdb s1 hpl
abbrev SpIN5 {α1 α2 α3 α4 α5 : Type} (C : Addr) (r1 : Rp α1) (r2 : Rp α2) (r3 : Rp α3) (r4 : Rp α4) (r5 : Rp α5) (pre : α1 → α2 → α3 → α4 → α5 → Prop) (names : List Str) (fl : α1 → α2 → α3 → α4 → α5 → Ctx) : Sp := SpIN C (fun i : α1 × α2 × α3 × α4 × α5 => [.val r1 (i.1), .val r2 (i.2.1), .val r3 (i.2.2.1), .val r4 (i.2.2.2.1), .val r5 (i.2.2.2.2)]) (fun i => pre (i.1) (i.2.1) (i.2.2.1) (i.2.2.2.1) (i.2.2.2.2)) names (fun i => fl (i.1) (i.2.1) (i.2.2.1) (i.2.2.2.1) (i.2.2.2.2))
theorem fnIN5 {α1 α2 α3 α4 α5 : Type} {r1 : Rp α1} {r2 : Rp α2} {r3 : Rp α3} {r4 : Rp α4} {r5 : Rp α5} {pre : α1 → α2 → α3 → α4 → α5 → Prop} {names : List Str} {fl : α1 → α2 → α3 → α4 → α5 → Ctx} (T : FTk K mg x q C st ps) (S : FnScope N ps (defScope st)) (hv : locB N (defScope st) vs = true) (Γu : Ctx) (hl : ps.length = 6 := by rfl) (hu : List.replicate (N.length - ps.length) .un = Γu := by rfl)
    (body : ∀ (X : Cx) (B : Bs) (D : Ends) (x1 : α1) (x2 : α2) (x3 : α3) (x4 : α4) (x5 : α5) (xd : Addr × Addr), XC P w K mg base k N (defScope st) vs vs X → pre x1 x2 x3 x4 x5 → (∀ σ H' Γ', EnvP B (.own (oObjN C names (fl x1 x2 x3 x4 x5)) xd :: Γ') σ H' → D.nx σ H') → SD X B (.own (oObjN C [] []) xd :: .val r1 x1 :: .val r2 x2 :: .val r3 x3 :: .val r4 x4 :: .val r5 x5 :: Γu) (defBody st) D) : FMk P w K mg base (k + 1) x C ps (SpIN5 C r1 r2 r3 r4 r5 pre names fl) :=
  fnIN (fun i xd => .own (oObjN C [] []) xd :: .val r1 (i.1) :: .val r2 (i.2.1) :: .val r3 (i.2.2.1) :: .val r4 (i.2.2.2.1) :: .val r5 (i.2.2.2.2) :: Γu) T S hv (fun _ => hl.symm) (fun i xd => by rw [hu]; rfl) (fun X B D i xd c hp hD => body X B D (i.1) (i.2.1) (i.2.2.1) (i.2.2.2.1) (i.2.2.2.2) xd c hp hD)
theorem c_makeN5 (c : XC P w K mg base k N sc vs ls X) {α1 α2 α3 α4 α5 : Type} {r1 : Rp α1} {r2 : Rp α2} {r3 : Rp α3} {r4 : Rp α4} {r5 : Rp α5} {pre : α1 → α2 → α3 → α4 → α5 → Prop} {names : List Str} {fl : α1 → α2 → α3 → α4 → α5 → Ctx} {cls : β → Addr} {flds : β → Ctx} {e1 e2 e3 e4 e5 : Expr} {x1 : α1} {x2 : α2} {x3 : α3} {x4 : α4} {x5 : α5} (o : β) (h : FMk P w K mg base j x C ps (SpIN5 C r1 r2 r3 r4 r5 pre names fl)) (h1 : DE X B Γ e1 r1 x1) (h2 : DE X B Γ e2 r2 x2) (h3 : DE X B Γ e3 r3 x3) (h4 : DE X B Γ e4 r4 x4) (h5 : DE X B Γ e5 r5 x5) (hp : pre x1 x2 x3 x4 x5) (hC : cls o = C := by rfl) (hf : flds o = fl x1 x2 x3 x4 x5 := by rfl) (hj : j + 1 ≤ k := by decide) (hg : glB sc x = true := by decide +kernel)
    (hdb : (x == ("__debug__" : Str)) = false := by decide) (s1 : starEach [e1, e2, e3, e4, e5] X.env = (false, eval e1 X.env) :: starEach [e2, e3, e4, e5] X.env := by rfl) (s2 : starEach [e2, e3, e4, e5] X.env = (false, eval e2 X.env) :: starEach [e3, e4, e5] X.env := by rfl) (s3 : starEach [e3, e4, e5] X.env = (false, eval e3 X.env) :: starEach [e4, e5] X.env := by rfl) (s4 : starEach [e4, e5] X.env = (false, eval e4 X.env) :: starEach [e5] X.env := by rfl) (s5 : starEach [e5] X.env = (false, eval e5 X.env) :: starEach [] X.env := by rfl) (hpl : (backTo pos (starEach [e2, e3, e4, e5] X.env)).any (·.1) = false := by rfl) :
    DN X B Γ (.Call (.Name x p) [e1, e2, e3, e4, e5] [] pos) (rObj cls names flds) o := c_makeN c (x1, x2, x3, x4, x5) h (da_cons h1 (da_cons h2 (da_cons h3 (da_cons h4 (da_cons h5 da_nil s5) s4) s3) s2) s1) hp hC hf hj hg hdb s1 hpl
abbrev SpIN6 {α1 α2 α3 α4 α5 α6 : Type} (C : Addr) (r1 : Rp α1) (r2 : Rp α2) (r3 : Rp α3) (r4 : Rp α4) (r5 : Rp α5) (r6 : Rp α6) (pre : α1 → α2 → α3 → α4 → α5 → α6 → Prop) (names : List Str) (fl : α1 → α2 → α3 → α4 → α5 → α6 → Ctx) : Sp := SpIN C (fun i : α1 × α2 × α3 × α4 × α5 × α6 => [.val r1 (i.1), .val r2 (i.2.1), .val r3 (i.2.2.1), .val r4 (i.2.2.2.1), .val r5 (i.2.2.2.2.1), .val r6 (i.2.2.2.2.2)]) (fun i => pre (i.1) (i.2.1) (i.2.2.1) (i.2.2.2.1) (i.2.2.2.2.1) (i.2.2.2.2.2)) names (fun i => fl (i.1) (i.2.1) (i.2.2.1) (i.2.2.2.1) (i.2.2.2.2.1) (i.2.2.2.2.2))
theorem fnIN6 {α1 α2 α3 α4 α5 α6 : Type} {r1 : Rp α1} {r2 : Rp α2} {r3 : Rp α3} {r4 : Rp α4} {r5 : Rp α5} {r6 : Rp α6} {pre : α1 → α2 → α3 → α4 → α5 → α6 → Prop} {names : List Str} {fl : α1 → α2 → α3 → α4 → α5 → α6 → Ctx} (T : FTk K mg x q C st ps) (S : FnScope N ps (defScope st)) (hv : locB N (defScope st) vs = true) (Γu : Ctx) (hl : ps.length = 7 := by rfl) (hu : List.replicate (N.length - ps.length) .un = Γu := by rfl)
    (body : ∀ (X : Cx) (B : Bs) (D : Ends) (x1 : α1) (x2 : α2) (x3 : α3) (x4 : α4) (x5 : α5) (x6 : α6) (xd : Addr × Addr), XC P w K mg base k N (defScope st) vs vs X → pre x1 x2 x3 x4 x5 x6 → (∀ σ H' Γ', EnvP B (.own (oObjN C names (fl x1 x2 x3 x4 x5 x6)) xd :: Γ') σ H' → D.nx σ H') → SD X B (.own (oObjN C [] []) xd :: .val r1 x1 :: .val r2 x2 :: .val r3 x3 :: .val r4 x4 :: .val r5 x5 :: .val r6 x6 :: Γu) (defBody st) D) : FMk P w K mg base (k + 1) x C ps (SpIN6 C r1 r2 r3 r4 r5 r6 pre names fl) :=
  fnIN (fun i xd => .own (oObjN C [] []) xd :: .val r1 (i.1) :: .val r2 (i.2.1) :: .val r3 (i.2.2.1) :: .val r4 (i.2.2.2.1) :: .val r5 (i.2.2.2.2.1) :: .val r6 (i.2.2.2.2.2) :: Γu) T S hv (fun _ => hl.symm) (fun i xd => by rw [hu]; rfl) (fun X B D i xd c hp hD => body X B D (i.1) (i.2.1) (i.2.2.1) (i.2.2.2.1) (i.2.2.2.2.1) (i.2.2.2.2.2) xd c hp hD)
theorem c_makeN6 (c : XC P w K mg base k N sc vs ls X) {α1 α2 α3 α4 α5 α6 : Type} {r1 : Rp α1} {r2 : Rp α2} {r3 : Rp α3} {r4 : Rp α4} {r5 : Rp α5} {r6 : Rp α6} {pre : α1 → α2 → α3 → α4 → α5 → α6 → Prop} {names : List Str} {fl : α1 → α2 → α3 → α4 → α5 → α6 → Ctx} {cls : β → Addr} {flds : β → Ctx} {e1 e2 e3 e4 e5 e6 : Expr} {x1 : α1} {x2 : α2} {x3 : α3} {x4 : α4} {x5 : α5} {x6 : α6} (o : β) (h : FMk P w K mg base j x C ps (SpIN6 C r1 r2 r3 r4 r5 r6 pre names fl)) (h1 : DE X B Γ e1 r1 x1) (h2 : DE X B Γ e2 r2 x2) (h3 : DE X B Γ e3 r3 x3) (h4 : DE X B Γ e4 r4 x4) (h5 : DE X B Γ e5 r5 x5) (h6 : DE X B Γ e6 r6 x6) (hp : pre x1 x2 x3 x4 x5 x6) (hC : cls o = C := by rfl) (hf : flds o = fl x1 x2 x3 x4 x5 x6 := by rfl) (hj : j + 1 ≤ k := by decide) (hg : glB sc x = true := by decide +kernel)
    (hdb : (x == ("__debug__" : Str)) = false := by decide) (s1 : starEach [e1, e2, e3, e4, e5, e6] X.env = (false, eval e1 X.env) :: starEach [e2, e3, e4, e5, e6] X.env := by rfl) (s2 : starEach [e2, e3, e4, e5, e6] X.env = (false, eval e2 X.env) :: starEach [e3, e4, e5, e6] X.env := by rfl) (s3 : starEach [e3, e4, e5, e6] X.env = (false, eval e3 X.env) :: starEach [e4, e5, e6] X.env := by rfl) (s4 : starEach [e4, e5, e6] X.env = (false, eval e4 X.env) :: starEach [e5, e6] X.env := by rfl) (s5 : starEach [e5, e6] X.env = (false, eval e5 X.env) :: starEach [e6] X.env := by rfl) (s6 : starEach [e6] X.env = (false, eval e6 X.env) :: starEach [] X.env := by rfl) (hpl : (backTo pos (starEach [e2, e3, e4, e5, e6] X.env)).any (·.1) = false := by rfl) :
    DN X B Γ (.Call (.Name x p) [e1, e2, e3, e4, e5, e6] [] pos) (rObj cls names flds) o := c_makeN c (x1, x2, x3, x4, x5, x6) h (da_cons h1 (da_cons h2 (da_cons h3 (da_cons h4 (da_cons h5 (da_cons h6 da_nil s6) s5) s4) s3) s2) s1) hp hC hf hj hg hdb s1 hpl
abbrev SpIN7 {α1 α2 α3 α4 α5 α6 α7 : Type} (C : Addr) (r1 : Rp α1) (r2 : Rp α2) (r3 : Rp α3) (r4 : Rp α4) (r5 : Rp α5) (r6 : Rp α6) (r7 : Rp α7) (pre : α1 → α2 → α3 → α4 → α5 → α6 → α7 → Prop) (names : List Str) (fl : α1 → α2 → α3 → α4 → α5 → α6 → α7 → Ctx) : Sp := SpIN C (fun i : α1 × α2 × α3 × α4 × α5 × α6 × α7 => [.val r1 (i.1), .val r2 (i.2.1), .val r3 (i.2.2.1), .val r4 (i.2.2.2.1), .val r5 (i.2.2.2.2.1), .val r6 (i.2.2.2.2.2.1), .val r7 (i.2.2.2.2.2.2)]) (fun i => pre (i.1) (i.2.1) (i.2.2.1) (i.2.2.2.1) (i.2.2.2.2.1) (i.2.2.2.2.2.1) (i.2.2.2.2.2.2)) names (fun i => fl (i.1) (i.2.1) (i.2.2.1) (i.2.2.2.1) (i.2.2.2.2.1) (i.2.2.2.2.2.1) (i.2.2.2.2.2.2))
theorem fnIN7 {α1 α2 α3 α4 α5 α6 α7 : Type} {r1 : Rp α1} {r2 : Rp α2} {r3 : Rp α3} {r4 : Rp α4} {r5 : Rp α5} {r6 : Rp α6} {r7 : Rp α7} {pre : α1 → α2 → α3 → α4 → α5 → α6 → α7 → Prop} {names : List Str} {fl : α1 → α2 → α3 → α4 → α5 → α6 → α7 → Ctx} (T : FTk K mg x q C st ps) (S : FnScope N ps (defScope st)) (hv : locB N (defScope st) vs = true) (Γu : Ctx) (hl : ps.length = 8 := by rfl) (hu : List.replicate (N.length - ps.length) .un = Γu := by rfl)
    (body : ∀ (X : Cx) (B : Bs) (D : Ends) (x1 : α1) (x2 : α2) (x3 : α3) (x4 : α4) (x5 : α5) (x6 : α6) (x7 : α7) (xd : Addr × Addr), XC P w K mg base k N (defScope st) vs vs X → pre x1 x2 x3 x4 x5 x6 x7 → (∀ σ H' Γ', EnvP B (.own (oObjN C names (fl x1 x2 x3 x4 x5 x6 x7)) xd :: Γ') σ H' → D.nx σ H') → SD X B (.own (oObjN C [] []) xd :: .val r1 x1 :: .val r2 x2 :: .val r3 x3 :: .val r4 x4 :: .val r5 x5 :: .val r6 x6 :: .val r7 x7 :: Γu) (defBody st) D) : FMk P w K mg base (k + 1) x C ps (SpIN7 C r1 r2 r3 r4 r5 r6 r7 pre names fl) :=
  fnIN (fun i xd => .own (oObjN C [] []) xd :: .val r1 (i.1) :: .val r2 (i.2.1) :: .val r3 (i.2.2.1) :: .val r4 (i.2.2.2.1) :: .val r5 (i.2.2.2.2.1) :: .val r6 (i.2.2.2.2.2.1) :: .val r7 (i.2.2.2.2.2.2) :: Γu) T S hv (fun _ => hl.symm) (fun i xd => by rw [hu]; rfl) (fun X B D i xd c hp hD => body X B D (i.1) (i.2.1) (i.2.2.1) (i.2.2.2.1) (i.2.2.2.2.1) (i.2.2.2.2.2.1) (i.2.2.2.2.2.2) xd c hp hD)
theorem c_makeN7 (c : XC P w K mg base k N sc vs ls X) {α1 α2 α3 α4 α5 α6 α7 : Type} {r1 : Rp α1} {r2 : Rp α2} {r3 : Rp α3} {r4 : Rp α4} {r5 : Rp α5} {r6 : Rp α6} {r7 : Rp α7} {pre : α1 → α2 → α3 → α4 → α5 → α6 → α7 → Prop} {names : List Str} {fl : α1 → α2 → α3 → α4 → α5 → α6 → α7 → Ctx} {cls : β → Addr} {flds : β → Ctx} {e1 e2 e3 e4 e5 e6 e7 : Expr} {x1 : α1} {x2 : α2} {x3 : α3} {x4 : α4} {x5 : α5} {x6 : α6} {x7 : α7} (o : β) (h : FMk P w K mg base j x C ps (SpIN7 C r1 r2 r3 r4 r5 r6 r7 pre names fl)) (h1 : DE X B Γ e1 r1 x1) (h2 : DE X B Γ e2 r2 x2) (h3 : DE X B Γ e3 r3 x3) (h4 : DE X B Γ e4 r4 x4) (h5 : DE X B Γ e5 r5 x5) (h6 : DE X B Γ e6 r6 x6) (h7 : DE X B Γ e7 r7 x7) (hp : pre x1 x2 x3 x4 x5 x6 x7) (hC : cls o = C := by rfl) (hf : flds o = fl x1 x2 x3 x4 x5 x6 x7 := by rfl) (hj : j + 1 ≤ k := by decide) (hg : glB sc x = true := by decide +kernel)
    (hdb : (x == ("__debug__" : Str)) = false := by decide) (s1 : starEach [e1, e2, e3, e4, e5, e6, e7] X.env = (false, eval e1 X.env) :: starEach [e2, e3, e4, e5, e6, e7] X.env := by rfl) (s2 : starEach [e2, e3, e4, e5, e6, e7] X.env = (false, eval e2 X.env) :: starEach [e3, e4, e5, e6, e7] X.env := by rfl) (s3 : starEach [e3, e4, e5, e6, e7] X.env = (false, eval e3 X.env) :: starEach [e4, e5, e6, e7] X.env := by rfl) (s4 : starEach [e4, e5, e6, e7] X.env = (false, eval e4 X.env) :: starEach [e5, e6, e7] X.env := by rfl) (s5 : starEach [e5, e6, e7] X.env = (false, eval e5 X.env) :: starEach [e6, e7] X.env := by rfl) (s6 : starEach [e6, e7] X.env = (false, eval e6 X.env) :: starEach [e7] X.env := by rfl) (s7 : starEach [e7] X.env = (false, eval e7 X.env) :: starEach [] X.env := by rfl) (hpl : (backTo pos (starEach [e2, e3, e4, e5, e6, e7] X.env)).any (·.1) = false := by rfl) :
    DN X B Γ (.Call (.Name x p) [e1, e2, e3, e4, e5, e6, e7] [] pos) (rObj cls names flds) o := c_makeN c (x1, x2, x3, x4, x5, x6, x7) h (da_cons h1 (da_cons h2 (da_cons h3 (da_cons h4 (da_cons h5 (da_cons h6 (da_cons h7 da_nil s7) s6) s5) s4) s3) s2) s1) hp hC hf hj hg hdb s1 hpl
end
end DL
namespace DL
open PySem L2 PySem.Spec PyProof.Rows
section
variable {P : Program} {w : World} {K : PySem.W.Frag} {mg : Str → Option Value} {base : Heap} {k j : Nat} {N : List Str} {sc : Scope} {vs ls : List Nat} {X : Cx} {α β γ ι ρ : Type} {B : Bs} {Γ Γ' : Ctx} {e a b : Expr} {es : List Expr} {D : Ends} {rest ss : List Stmt} {p pos apos : Pos} {x y f m : Str}
theorem c_par2 (c : XC P w K mg base k N sc vs ls X) (i j : Nat) {e1 e2 : Expr} {px py pt pt2 : Pos} {kt k2 : Nat} {s1 : α → Sl} {s2 : β → Sl} {v1 : α} {v2 : β} {Γ1 : α → Ctx} {Γ2 : α → β → Ctx} (h1 : VE X B Γ e1 (s1 v1)) (h2 : VE X B Γ e2 (s2 v2)) (t1 : ∀ a, To Γ i (s1 a) (Γ1 a)) (t2 : ∀ a b, To (Γ1 a) j (s2 b) (Γ2 a b))
    (hr : ∀ a b, a = v1 → b = v2 → SD X B (Γ2 a b) rest D) (hij : i ≠ j := by decide) (hN : N[i]? = some x := by rfl) (hN2 : N[j]? = some y := by rfl)
    (hx : (match sc.names.lookup x with | some .local => true | _ => false) = true := by decide +kernel) (hy : (match sc.names.lookup y with | some .local => true | _ => false) = true := by decide +kernel)
    (hline : (py.line == px.line) = true := by rfl) (hne : (y == x) = false := by decide +kernel)
    (w1 : (([e1, e2] : List Expr).any fun | .Starred .. => true | _ => false) = false := by rfl) (w2 : ([e1, e2] : List Expr).all (foldedForSure 8) = false := by rfl) (w3 : ([e1, e2] : List Expr).all (constantsAlone 8) = false := by rfl)
    (hs : swapsWithSole [.Tuple [.Name x px, .Name y py] kt pt] (.Tuple [e1, e2] k2 pt2) pos.line X.env = pure false := by rfl)
    (hs1 : starEach [e1, e2] X.env = (false, eval e1 X.env) :: starEach [e2] X.env := by rfl) (hs2 : starEach [e2] X.env = (false, eval e2 X.env) :: starEach [] X.env := by rfl) :
    SD X B Γ (.Assign [.Tuple [.Name x px, .Name y py] kt pt] (.Tuple [e1, e2] k2 pt2) pos :: rest) D :=
  c_par c i j (va_cons h1 (t1 v1) (va_cons h2 (t2 v1 v2) va_nil hs2) hs1) (hr v1 v2 rfl rfl) hij hN hN2 hx hy hline hne w1 w2 w3 hs
theorem sw_none2 {env : PySem.Env} {x y : Str} {px py pt pt2 : Pos} {kt k2 : Nat} {e1 e2 : Expr} (hk : env.scope.kind = .function) (hc : (match env.scope.names.lookup x, env.scope.names.lookup y with | some .local, some .local => false | _, _ => true) = true)
    (h1 : (([e1, e2] : List Expr).any fun | .Starred .. => true | _ => false) = false) :
    swappedStores [.Tuple [.Name x px, .Name y py] kt pt] (.Tuple [e1, e2] k2 pt2) env = pure none := by
  have hb : env.blockKind = .function := by unfold Env.blockKind; rw [hk]; rfl
  have hc' : (match env.kindOf x, env.kindOf y with | some .local, some .local => false | _, _ => true) = true := hc
  have hn : ¬ (env.kindOf x = some .local ∧ env.kindOf y = some .local) := fun h => by rw [h.1, h.2] at hc'; cases hc'
  unfold swappedStores
  simp only [List.any_cons, List.any_nil, Bool.or_false, Bool.or_eq_false_iff] at h1
  by_cases hx : env.kindOf x = some .local
  · have hy : ¬ env.kindOf y = some .local := fun h => hn ⟨hx, h⟩
    simp [hb, hx, hy, Expr.pos, List.filterMap_cons]
  · by_cases hy : env.kindOf y = some .local
    · by_cases hl : py.line = px.line
      · simp [hb, hx, hy, hl, Expr.pos, List.filterMap_cons]
      · simp [hb, hx, hy, hl, Expr.pos, List.filterMap_cons]
    · simp [hb, hx, hy, Expr.pos, List.filterMap_cons]
/-- the same by a tuple that is made (a name is captured) -/
theorem c_parT2 (c : XC P w K mg base k N sc vs ls X) (i j : Nat) {e1 e2 : Expr} {px py pt pt2 : Pos} {kt k2 : Nat} {s1 : α → Sl} {s2 : β → Sl} {v1 : α} {v2 : β} {Γ1 : α → Ctx} {Γ2 : α → β → Ctx} (h1 : VE X B Γ e1 (s1 v1)) (h2 : VE X B Γ e2 (s2 v2)) (t1 : ∀ a, To Γ i (s1 a) (Γ1 a)) (t2 : ∀ a b, To (Γ1 a) j (s2 b) (Γ2 a b))
    (hr : ∀ a b, a = v1 → b = v2 → SD X B (Γ2 a b) rest D) (hN : N[i]? = some x := by rfl) (hN2 : N[j]? = some y := by rfl) (hl : ls.contains i = true := by rfl) (hl2 : ls.contains j = true := by rfl)
    (hcell : (match sc.names.lookup x, sc.names.lookup y with | some .local, some .local => false | _, _ => true) = true := by decide +kernel)
    (hs : swapsWithSole [.Tuple [.Name x px, .Name y py] kt pt] (.Tuple [e1, e2] k2 pt2) pos.line X.env = pure false := by rfl)
    (w1 : (([e1, e2] : List Expr).any fun | .Starred .. => true | _ => false) = false := by rfl)
    (hs1 : starEach [e1, e2] X.env = (false, eval e1 X.env) :: starEach [e2] X.env := by rfl) (hs2 : starEach [e2] X.env = (false, eval e2 X.env) :: starEach [] X.env := by rfl) :
    SD X B Γ (.Assign [.Tuple [.Name x px, .Name y py] kt pt] (.Tuple [e1, e2] k2 pt2) pos :: rest) D := by
  have hN' : X.N[i]? = some x := by rw [c.N]; exact hN
  have hN2' : X.N[j]? = some y := by rw [c.N]; exact hN2
  refine sd_cons (ps_asg (pe_tup (va_cons h1 (t1 v1) (va_cons h2 (t2 v1 v2) va_nil hs2) hs1)) (pg_tup c.calm (pgs_cons (pg_name (i := i) c.nd hN' (c.loc i x hN' hl).1 (c.loc i x hN' hl).2) (pgs_cons (pg_name (i := j) c.nd hN2' (c.loc j y hN2' hl2).1 (c.loc j y hN2' hl2).2) pgs_nil))) hs (sw_none2 c.kind (by rw [c.sc]; exact hcell) w1))
    (fun D' l σ H ⟨F, en⟩ => ⟨F, σ, en, en, fun us F' H' e1 en1 hl => ?_⟩) (hr v1 v2 rfl rfl)
  match us, hl with
  | [u, v], _ =>
    refine ⟨by show 2 ≤ sizeLine; decide, fun q hq => ?_⟩
    have e2 := Ext.new en1.same (.tup [u, v]) hq
    exact ⟨q, _, rfl, SqT.of upd_same, rfl, u, _, rfl, v, _, rfl, rfl, l.nx _ _ ⟨_, en1.ext e2⟩⟩
theorem c_gintE (c : XC P w K mg base k N sc vs ls X) {i : Int} (h : ∃ t, mg x = some (.int i t)) (hg : glB sc x = true := by decide +kernel) (hd : (x == ("__debug__" : Str)) = false := by decide) : DE X B Γ (.Name x pos) rInt i :=
  let ⟨t, ht⟩ := h; c_gint c ht ⟨t, rfl⟩ hg hd
theorem c_gstrE (c : XC P w K mg base k N sc vs ls X) {s : Str} {t : Txt} (h : ∃ u, mg x = some (.str s u)) (hs : s = tx t) (ok : okT t = true) (hg : glB sc x = true := by decide +kernel) (hd : (x == ("__debug__" : Str)) = false := by decide) : DE X B Γ (.Name x pos) rTxt t :=
  let ⟨u, hu⟩ := h; c_gstr c hu ⟨u, rfl⟩ hs ok hg hd
/-- e is f of truths -/
theorem c_isB (c : XC P w K mg base k N sc vs ls X) {y z : Bool} (ha : DE X B Γ a rBool y) (hb : DE X B Γ b rBool z) : DC X B Γ (.Compare a [.Is] [b] pos) (decide (y = z)) :=
  dc_cmp (ra := rBool) (rb := rBool) op_is_bl (fun F H u v s h1 h2 Q q => ⟨y, z, h1, h2, q _ F H (Ext.refl s) rfl⟩) (nomark _) ha hb
theorem c_nisB (c : XC P w K mg base k N sc vs ls X) {y z : Bool} (ha : DE X B Γ a rBool y) (hb : DE X B Γ b rBool z) : DC X B Γ (.Compare a [.IsNot] [b] pos) (!decide (y = z)) :=
  dc_cmp (ra := rBool) (rb := rBool) op_isnot_bl (fun F H u v s h1 h2 Q q => ⟨y, z, h1, h2, q _ F H (Ext.refl s) rfl⟩) (nomark _) ha hb
end
theorem kit_sub {K : PySem.W.Frag} {C C' : Addr} {b : Bool} (h1 : PySem.W.isClsIn K C' = true) (h2 : PySem.W.typeIn K (.ref C') = some (.type "type")) (h3 : PySem.W.subIn K (.ref C) (.ref C') = some b) (h4 : PySem.W.subIn K (.ref C) (.ref C) = some true) : PySem.W.kitOne K (.ref C) (.ref C') = some b := by
  unfold PySem.W.kitOne
  by_cases h : C = C'
  · subst h
    rw [h4] at h3
    rw [if_pos (by simp)]
    exact h3
  · rw [if_neg (by simpa using h)]
    show (if ((PySem.W.clsIn K C').isSome && PySem.W.typeIn K (.ref C') == some (.type "type")) = true then _ else _) = _
    have h1' : (PySem.W.clsIn K C').isSome = true := h1
    rw [if_pos (by rw [h1', h2]; rfl)]
    exact h3
/-! ### the law -/
def spLaw (K : PySem.W.Frag) : Sp := fun vs H Q _ => ∃ (a : Addr) (ns : List Int), vs = [.ref a] ∧ SqL K H a (ns.map V.int) ∧ ns.length ≤ 63 ∧ ∀ H', Q (.bl true) H'
theorem law_of {P : Program} {w : World} {K : PySem.W.Frag} {mg : Str → Option Value} {base : Heap} {j : Nat} {fa : Addr} {x : Str} (hfa : mg "law" = some (.ref fa)) (h : FN P w K mg base CX0 j "law" [x] (SpF1 (rScr K) (fun ns => ns.length ≤ 63) rBool (fun _ => true))) :
    ∃ fd, FnOk P w K mg base CX0 j fa fd [x] (spLaw K) := by
  obtain ⟨fa', fd, G, h1, _, _⟩ := h
  rw [hfa] at h1
  cases h1
  refine ⟨fd, G.imp fun vs H Q E ⟨a, ns, hv, hs, hl, q⟩ => ?_⟩
  subst hv
  exact ⟨H, ns, Same.refl H, ⟨⟨a, rfl, hs⟩, trivial⟩, hl, fun v F' H' _ hv => by rw [show v = V.bl true from hv]; exact q H'⟩
theorem law_is {P : Program} {w : World} {K : PySem.W.Frag} {mg : Str → Option Value} {base : Heap} {j : Nat} {fa : Addr} {x : Str} {o : Value} {od : Option Addr} {fd : FuncData} {sl : Array (Option Value)} (hfa : mg "law" = some (.ref fa)) (l : K.lookup fa = some ⟨o, od, .func fd, sl⟩)
    (h : FN P w K mg base CX0 j "law" [x] (SpF1 (rScr K) (fun ns => ns.length ≤ 63) rBool (fun _ => true))) : FnOk P w K mg base CX0 j fa fd [x] (spLaw K) := by
  obtain ⟨fa', fd', G, h1, _, _, o', od', sl', h2⟩ := h
  rw [hfa] at h1
  cases h1
  rw [l] at h2
  cases h2
  exact G.imp fun vs H Q E ⟨a, ns, hv, hs, hl, q⟩ => by
    subst hv
    exact ⟨H, ns, Same.refl H, ⟨⟨a, rfl, hs⟩, trivial⟩, hl, fun v F' H' _ hv => by rw [show v = V.bl true from hv]; exact q H'⟩
/-- a weaker promise -/
theorem SpF.imp {ι ρ : Type} {args : ι → Ctx} {pre pre' : ι → Prop} {rr : Rp ρ} {f f' : ι → ρ} (h : ∀ i, pre' i → pre i ∧ f i = f' i) : ∀ vs H Q E, SpF args pre' rr f' vs H Q E → SpF args pre rr f vs H Q E :=
  fun vs H Q E ⟨F, i, s, a, p, q⟩ => ⟨F, i, s, a, (h i p).1, fun v F' H' e r => q v F' H' e (by rw [← (h i p).2]; exact r)⟩
end DL
namespace Law
open PySem L2 DL PySem.Spec PyProof.Rows
def top (i : Nat) : Stmt := PySem.Challenge.pw_filedcards_k01_levels.main.body.getD i (.Pass ⟨0, 0, 0, 0⟩)
/-! ### what the defs reckon -/
def withinI (t l h : Int) : Bool := decide (l ≤ t) && decide (t ≤ h)
def areWithin (xs : List Int) (l h : Int) : Bool := xs.all fun t => withinI t l h
def weighedL (a b : List Int) : Int := (if ltL b a = true then 1 else 0) - (if ltL a b = true then 1 else 0)
def cellAt (s : List Int) (k : Int) : Int := if k < s.length then gI s k else 0
def primesL : List Int := [1000003, 1000033, 1000037, 1000039, 1000081, 1000099, 1000117, 1000121, 1000133, 1000151, 1000159, 1000171, 1000183, 1000187, 1000193, 1000199]
def draw (cell k most : Int) : Int := (cell * 48271 + k * 69621) % gI primesL (k % 16) % most
theorem prime_pos (k : Int) : 0 < gI primesL (k % 16) := by
  have h0 : 0 ≤ k % 16 := Int.emod_nonneg _ (by decide)
  have h1 : k % 16 < 16 := Int.emod_lt_of_pos _ (by decide)
  rw [gI_nat h0]
  have h2 : (k % 16).toNat < 16 := by omega
  generalize (k % 16).toNat = n at h2
  have : ∀ n < 16, 0 < primesL.getD n default := by decide
  exact this n h2
def number (cell k limit : Int) : Int :=
  if 0 < (rng 0 (k % 24).toNat).foldl (fun r _ => r / 1009) (cell - 10 ^ 18) then (rng 0 (k % 24).toNat).foldl (fun r _ => r / 1009) (cell - 10 ^ 18) % 1009 % limit
  else draw ((cell % 1000003 + 977 * k) * (cell % 1000003 + 31 * k + 5)) (k % 9 + 1) 999983 % limit
theorem number_in (cell k : Int) {limit : Int} (h : 0 < limit) : 0 ≤ number cell k limit ∧ number cell k limit < limit := by
  unfold number
  split
  · exact ⟨Int.emod_nonneg _ (by omega), Int.emod_lt_of_pos _ h⟩
  · exact ⟨Int.emod_nonneg _ (by omega), Int.emod_lt_of_pos _ h⟩
/-! ### levels -/
def lvC (CL CB : Addr) (o : Bool × List Int) : Addr := cond o.1 CB CL
abbrev rLv (CL CB : Addr) : Rp (Bool × List Int) := rObj (lvC CL CB) ["held"] (fun o => [.val (rList rInt) o.2])
structure TLev (K : PySem.W.Frag) (mg : Str → Option Value) (CL CB : Addr) : Prop where
  ci : ∀ o, ClsI K (lvC CL CB o)
  cl : ∀ o, Cls K (lvC CL CB o)
  na : ∀ o, NoAttr K (lvC CL CB o) "held"
  kL : ∀ o, PySem.W.kitOne K (.ref (lvC CL CB o)) (.ref CL) = some true
  kB : ∀ o, PySem.W.kitOne K (.ref (lvC CL CB o)) (.ref CB) = some o.1
theorem cutL_len {α : Type} (xs : List α) (l h : Option Int) : (cutL xs l h).length ≤ xs.length := by
  unfold cutL
  rw [List.length_take, List.length_drop]
  omega
theorem ranks_ok (cell : Int) (n : Nat) : areWithin ((rng 0 n).map fun k => number cell (k + 3) 100) 0 99 = true := by
  unfold areWithin withinI
  rw [List.all_eq_true]
  intro x hx
  obtain ⟨k, _, rfl⟩ := List.mem_map.mp hx
  have := number_in cell (k + 3) (limit := 100) (by decide)
  simp
  omega
def seenL (back : Bool) (row : List Int) : List Int := cond back row.reverse row
def okRanks (rs : List Int) : Prop := 1 ≤ rs.length ∧ rs.length ≤ 8 ∧ areWithin rs 0 99 = true
def dueGo (m t : List Int) : List (Int × Int) → Unit → Int
  | [], _ => (if t.length < m.length then 1 else 0) - (if m.length < t.length then 1 else 0)
  | z :: r, u => if z.1 ≠ z.2 then (if z.1 < z.2 then -1 else 1) else dueGo m t r u
def dueL (one other : List Int) (back : Bool) : Int := dueGo (if back = true then (one.reverse, other.reverse) else (one, other)).1 (if back = true then (one.reverse, other.reverse) else (one, other)).2
  ((if back = true then (one.reverse, other.reverse) else (one, other)).1.zip (if back = true then (one.reverse, other.reverse) else (one, other)).2) ()
theorem weigh_go (M T : List Int) : ∀ (a b : List Int) (n : Nat), M.length = a.length + n → T.length = b.length + n → weighedL a b = dueGo M T (a.zip b) ()
  | [], [], n, h1, h2 => by
    simp only [List.zip_nil_left, dueGo, weighedL, ltL]
    simp at h1 h2
    rw [if_neg (by omega), if_neg (by omega)]; rfl
  | [], b :: bs, n, h1, h2 => by
    simp at h1 h2
    show (if ltL (b :: bs) [] = true then 1 else 0) - (if ltL [] (b :: bs) = true then (1 : Int) else 0) = (if T.length < M.length then 1 else 0) - (if M.length < T.length then 1 else 0)
    rw [if_neg (by simp [ltL]), if_pos (by simp [ltL]), if_neg (by omega), if_pos (by omega)]
  | a :: as, [], n, h1, h2 => by
    simp at h1 h2
    show (if ltL [] (a :: as) = true then 1 else 0) - (if ltL (a :: as) [] = true then (1 : Int) else 0) = (if T.length < M.length then 1 else 0) - (if M.length < T.length then 1 else 0)
    rw [if_pos (by simp [ltL]), if_neg (by simp [ltL]), if_pos (by omega), if_neg (by omega)]
  | a :: as, b :: bs, n, h1, h2 => by
    simp at h1 h2
    simp only [List.zip_cons_cons, dueGo]
    by_cases q : a = b
    · subst q
      simp only [ne_eq, not_true, if_false]
      rw [← weigh_go M T as bs (n + 1) (by omega) (by omega)]
      simp [weighedL, ltL]
    · rw [if_pos q]
      simp only [weighedL, ltL, if_neg q, if_neg (Ne.symm q)]
      by_cases l : a < b
      · have l2 : ¬ b < a := by omega
        simp [l, l2]
      · have l2 : b < a := by omega
        simp [l, l2]
theorem weigh_anti (a b : List Int) : weighedL b a = - weighedL a b := by unfold weighedL; omega
theorem weigh_due (a b : List Int) (back : Bool) : weighedL (seenL back a) (seenL back b) = dueL a b back := by
  unfold dueL seenL
  cases back
  · exact weigh_go _ _ _ _ 0 rfl rfl
  · exact weigh_go _ _ _ _ 0 rfl rfl
section
variable {P : Program} {w : World} {K : PySem.W.Frag} {mg : Str → Option Value} {base : Heap}
abbrev s_within : Stmt := top 3
theorem sc_s_within : FnScope ["thing", "low", "high"] ["thing", "low", "high"] (defScope s_within) := ⟨rfl, rfl, rfl, by decide +kernel, rfl, by decide +kernel, by decide +kernel⟩
abbrev P_within (P : Program) (w : World) (K : PySem.W.Frag) (mg : Str → Option Value) (base : Heap) : Prop := FN P w K mg base CX0 1 "within" ["thing", "low", "high"] (SpF3 rInt rInt rInt (fun _ _ _ => True) rBool (withinI))
set_option maxHeartbeats 4000000 in
theorem ok_within (b_bool : mg "bool" = none) (b_int : mg "int" = none) (b_isinstance : mg "isinstance" = none) (T : FT K mg "within" "within" s_within ["thing", "low", "high"]) : P_within P w K mg base :=
  fnF3 T sc_s_within (vs := [0, 1, 2]) (by decide +kernel) [] (body := fun X B D v_thing v_low v_high c hp hD hn =>
  (sd_retC hD (de_and (c_isi (T' := "int") (b := true) c (c_var c 0 (.z)) ty_int (kit_ty (by decide +kernel)) b_isinstance b_int) (fun h1 => (de_and (de_not (c_isi (T' := "bool") (b := false) c (c_var c 0 (.z)) ty_int (kit_ty (by decide +kernel)) b_isinstance b_bool)) (fun h2 => (de_one ((dc_leLe (c_var c 1 (.s (.z))) (c_var c 0 (.z)) (c_var c 2 (.s (.s (.z)))))).v))))) (by /- ret 1 -/ simp [withinI])))
abbrev s_are_within : Stmt := top 4
theorem sc_s_are_within : FnScope ["thing", "low", "high", "one"] ["thing", "low", "high"] (defScope s_are_within) := ⟨rfl, rfl, rfl, by decide +kernel, rfl, by decide +kernel, by decide +kernel⟩
abbrev P_are_within (P : Program) (w : World) (K : PySem.W.Frag) (mg : Str → Option Value) (base : Heap) : Prop := FN P w K mg base CX0 2 "are_within" ["thing", "low", "high"] (SpF3 (rList rInt) rInt rInt (fun xs _ _ => xs.length ≤ 1000000) rBool (areWithin))
set_option maxHeartbeats 4000000 in
theorem ok_are_within (h_within : P_within P w K mg base) (b_all : mg "all" = none) (b_isinstance : mg "isinstance" = none) (b_list : mg "list" = none) (T : FT K mg "are_within" "are_within" s_are_within ["thing", "low", "high"]) : P_are_within P w K mg base :=
  fnF3 T sc_s_are_within (vs := [0, 1, 2]) (by decide +kernel) [.un] (body := fun X B D v_thing v_low v_high c hp hD hn =>
  (sd_retC hD (de_and (c_isi (T' := "list") (b := true) c (c_var c 0 (.z)) ty_list (kit_ty (by decide +kernel)) b_isinstance b_list) (fun h1 => (de_one (c_all c (de_of_dm (dm_lc c (c_lc c [("one", 3)] [1, 2, 3] [3] _ (di_list (c_var c 0 (.z))) (fun _ _ c1 => (c_tname c1 3)) (fun _ => .s (.s (.s (.z)))) (fun _ _ x1 c1 hx1 => (c_callF3 c1 h_within (c_var c1 3 (.s (.s (.s (.z))))) (c_var c1 1 (.s (.z))) (c_var c1 2 (.s (.s (.z)))) (by /- 0 -/ first | trivial | omega | decide | assumption | rfl))) (by /- 1 -/ first | trivial | omega | decide | assumption | rfl) (Uns.all (.cons (.s (.s (.s (.z)))) .nil))))) b_all)))) (by /- ret 1 -/ simp [areWithin, List.all_map, Function.comp_def])))
abbrev s_weighed : Stmt := top 5
theorem sc_s_weighed : FnScope ["one", "other"] ["one", "other"] (defScope s_weighed) := ⟨rfl, rfl, rfl, by decide +kernel, rfl, by decide +kernel, by decide +kernel⟩
abbrev P_weighed (P : Program) (w : World) (K : PySem.W.Frag) (mg : Str → Option Value) (base : Heap) : Prop := FN P w K mg base CX0 1 "weighed" ["one", "other"] (SpF2 (rList rInt) (rList rInt) (fun _ _ => True) rInt (weighedL))
set_option maxHeartbeats 4000000 in
theorem ok_weighed (b_int : mg "int" = none) (T : FT K mg "weighed" "weighed" s_weighed ["one", "other"]) : P_weighed P w K mg base :=
  fnF2 T sc_s_weighed (vs := [0, 1]) (by decide +kernel) [] (body := fun X B D v_one v_other c hp hD hn =>
  (sd_retC hD (de_sub (c_intB c ((c_gtL c (c_var c 0 (.z)) (c_var c 1 (.s (.z))))).v b_int) (c_intB c ((c_ltL c (c_var c 0 (.z)) (c_var c 1 (.s (.z))))).v b_int)) (by /- ret 1 -/ rfl)))
abbrev s__law_cell_at : Stmt := top 14
theorem sc_s__law_cell_at : FnScope ["_law_script", "_law_k"] ["_law_script", "_law_k"] (defScope s__law_cell_at) := ⟨rfl, rfl, rfl, by decide +kernel, rfl, by decide +kernel, by decide +kernel⟩
abbrev P__law_cell_at (P : Program) (w : World) (K : PySem.W.Frag) (mg : Str → Option Value) (base : Heap) : Prop := FN P w K mg base CX0 1 "_law_cell_at" ["_law_script", "_law_k"] (SpF2 (rScr K) rInt (fun _ k => 0 ≤ k) rInt (cellAt))
set_option maxHeartbeats 4000000 in
theorem ok__law_cell_at (b_len : mg "len" = none) (T : FT K mg "_law_cell_at" "_law_cell_at" s__law_cell_at ["_law_script", "_law_k"]) : P__law_cell_at P w K mg base :=
  fnF2 T sc_s__law_cell_at (vs := [0, 1]) (by decide +kernel) [] (body := fun X B D v_script v_k c hp hD hn =>
  (sd_ifT ((dc_lt (c_var c 1 (.s (.z))) (c_lenScr c (c_var c 0 (.z)) b_len))).t (fun ht1 => (sd_retC hD (c_ixScr c (c_var c 0 (.z)) (c_var c 1 (.s (.z))) (by /- 0 -/ have := of_decide_eq_true ht1; omega)) (by /- ret 1 -/ exact (if_pos (of_decide_eq_true ht1)).symm))) (fun he1 =>
  (sd_retC hD de_int (by /- ret 2 -/ exact (if_neg (of_decide_eq_false he1)).symm)))))
abbrev s__law_draw : Stmt := top 15
theorem sc_s__law_draw : FnScope ["_law_cell", "_law_k", "_law_most", "_law_primes"] ["_law_cell", "_law_k", "_law_most"] (defScope s__law_draw) := ⟨rfl, rfl, rfl, by decide +kernel, rfl, by decide +kernel, by decide +kernel⟩
abbrev P__law_draw (P : Program) (w : World) (K : PySem.W.Frag) (mg : Str → Option Value) (base : Heap) : Prop := FN P w K mg base CX0 1 "_law_draw" ["_law_cell", "_law_k", "_law_most"] (SpF3 rInt rInt rInt (fun _ _ m => 0 < m) rInt (draw))
set_option maxHeartbeats 4000000 in
theorem ok__law_draw  (T : FT K mg "_law_draw" "_law_draw" s__law_draw ["_law_cell", "_law_k", "_law_most"]) : P__law_draw P w K mg base :=
  fnF3 T sc_s__law_draw (vs := [0, 1, 2, 3]) (by decide +kernel) [.un] (body := fun X B D v_cell v_k v_most c hp hD hn =>
  (c_asg c 3 (de_tupL (dl_cons de_int (dl_cons de_int (dl_cons de_int (dl_cons de_int (dl_cons de_int (dl_cons de_int (dl_cons de_int (dl_cons de_int (dl_cons de_int (dl_cons de_int (dl_cons de_int (dl_cons de_int (dl_cons de_int (dl_cons de_int (dl_cons de_int (dl_cons de_int dl_nil))))))))))))))))) (fun _ => .s (.s (.s (.z)))) (fun v_primes e_v_primes =>
  (sd_retC hD (de_mod (de_mod (de_add (de_mul (c_var c 0 (.z)) de_int (by /- 0 -/ first | trivial | omega | decide | assumption | rfl)) (de_mul (c_var c 1 (.s (.z))) de_int (by /- 1 -/ first | trivial | omega | decide | assumption | rfl))) (de_ixT (c_var c 3 (.s (.s (.s (.z))))) (de_mod (c_var c 1 (.s (.z))) de_int (by /- 2 -/ first | trivial | omega | decide | assumption | rfl)) (by /- 3 -/ subst_vars; simp; omega)) (by /- 4 -/ subst_vars; exact prime_pos _)) (c_var c 2 (.s (.s (.z)))) (by /- 5 -/ exact hp)) (by /- ret 1 -/ subst_vars; rfl)))))
abbrev s__law_number : Stmt := top 16
theorem sc_s__law_number : FnScope ["_law_cell", "_law_k", "_law_limit", "_law_rest", "_law_turn", "_law_small"] ["_law_cell", "_law_k", "_law_limit"] (defScope s__law_number) := ⟨rfl, rfl, rfl, by decide +kernel, rfl, by decide +kernel, by decide +kernel⟩
abbrev P__law_number (P : Program) (w : World) (K : PySem.W.Frag) (mg : Str → Option Value) (base : Heap) : Prop := FN P w K mg base CX0 2 "_law_number" ["_law_cell", "_law_k", "_law_limit"] (SpF3 rInt rInt rInt (fun _ k m => 0 ≤ k ∧ k ≤ 1000000 ∧ 0 < m) rInt (number))
set_option maxHeartbeats 4000000 in
theorem ok__law_number (h__law_draw : P__law_draw P w K mg base) (b_range : mg "range" = none) (T : FT K mg "_law_number" "_law_number" s__law_number ["_law_cell", "_law_k", "_law_limit"]) : P__law_number P w K mg base :=
  fnF3 T sc_s__law_number (vs := [0, 1, 2, 3, 4, 5]) (by decide +kernel) [.un, .un, .un] (body := fun X B D v_cell v_k v_limit c hp hD hn =>
  (c_asg c 3 (de_sub (c_var c 0 (.z)) (de_pow de_int de_int (by /- 0 -/ first | trivial | omega | decide | assumption | rfl))) (fun _ => .s (.s (.s (.z)))) (fun v_rest e_v_rest =>
  (sd_forF c.po c.calm (S := Int) (fun s1 => [.val rInt v_cell, .val rInt v_k, .val rInt v_limit, .val rInt s1, .un, .un]) (fun r _ => r / 1009) (v_rest) (c_range1 c (de_mod (c_var c 1 (.s (.z))) de_int (by /- 1 -/ first | trivial | omega | decide | assumption | rfl)) b_range (by /- 2 -/ first | trivial | omega | decide | assumption | rfl)) (fun _ => (c_tname c 4)) (.k (.k (.k (.k (.k (.k .nil)))))) (fun _ => fun _ => .s (.s (.s (.s (.z))))) (fun _ pre1 y1 post1 s1 hp1 hs1 =>
    (have hr_y1 := mem_rng (by rw [hp1]; simp : y1 ∈ _); (c_asg c 3 (de_fdiv (c_var c 3 (.s (.s (.s (.z))))) de_int (by /- 3 -/ first | trivial | omega | decide | assumption | rfl)) (fun _ => .s (.s (.s (.z)))) (fun v_rest_1 e_v_rest_1 =>
    (sd_go (.k (.k (.k (.e (by /- 4 -/ subst_vars; rfl) (.u (.k .nil)))))) (fun _ _ h => h))))))
  (fun s1 hs1 =>
  (sd_ifT ((dc_gt (c_var c 3 (.s (.s (.s (.z))))) de_int)).t (fun ht1 => (sd_retC hD (de_mod (de_mod (c_var c 3 (.s (.s (.s (.z))))) de_int (by /- 5 -/ first | trivial | omega | decide | assumption | rfl)) (c_var c 2 (.s (.s (.z)))) (by /- 6 -/ first | trivial | omega | decide | assumption | rfl)) (by /- ret 1 -/ subst_vars; exact (if_pos (of_decide_eq_true ht1)).symm))) (fun he1 =>
  (c_asg c 5 (de_mod (c_var c 0 (.z)) de_int (by /- 7 -/ first | trivial | omega | decide | assumption | rfl)) (fun _ => .s (.s (.s (.s (.s (.z)))))) (fun v_small e_v_small =>
  (sd_retC hD (de_mod (c_callF3 c h__law_draw (de_mul (de_add (c_var c 5 (.s (.s (.s (.s (.s (.z))))))) (de_mul de_int (c_var c 1 (.s (.z))) (by /- 8 -/ first | trivial | omega | decide | assumption | rfl))) (de_add (de_add (c_var c 5 (.s (.s (.s (.s (.s (.z))))))) (de_mul de_int (c_var c 1 (.s (.z))) (by /- 9 -/ first | trivial | omega | decide | assumption | rfl))) de_int) (by /- 10 -/ left; subst_vars; constructor <;> omega)) (de_add (de_mod (c_var c 1 (.s (.z))) de_int (by /- 11 -/ first | trivial | omega | decide | assumption | rfl)) de_int) de_int (by /- 12 -/ first | trivial | omega | decide | assumption | rfl)) (c_var c 2 (.s (.s (.z)))) (by /- 13 -/ first | trivial | omega | decide | assumption | rfl)) (by /- ret 2 -/ subst_vars; exact (if_neg (of_decide_eq_false he1)).symm)))))))))))
abbrev s_Level___init__ : Stmt := inClass (top 11) 0
theorem sc_s_Level___init__ : FnScope ["self", "ranks"] ["self", "ranks"] (defScope s_Level___init__) := ⟨rfl, rfl, rfl, by decide +kernel, rfl, by decide +kernel, by decide +kernel⟩
abbrev I_Level (P : Program) (w : World) (K : PySem.W.Frag) (mg : Str → Option Value) (base : Heap) (CL CB : Addr) : Prop := FMk P w K mg base 3 "Level" CL ["self", "ranks"] (SpIN1 CL (rList rInt) (okRanks) ["held"] (fun rs => [.val (rList rInt) rs]))
set_option maxHeartbeats 4000000 in
theorem ok_Level_init {CL CB : Addr} (h_are_within : P_are_within P w K mg base) (b_len : mg "len" = none) (b_list : mg "list" = none) (m_GREATEST : ∃ t, mg "GREATEST" = some (.int 99 t)) (m_MOST_SIGNS : ∃ t, mg "MOST_SIGNS" = some (.int 8 t)) (hc : Cls K CL) (hn : NoAttr K CL "held") (T : FTk K mg "Level" "Level.__init__" CL s_Level___init__ ["self", "ranks"]) : I_Level P w K mg base CL CB :=
  fnIN1 T sc_s_Level___init__ (vs := [0, 1]) (by decide +kernel) [] (body := fun X B D v_ranks xd c hp hD =>
  (sd_ifF (dw_pt (dw_or (dt_not (dt_val (c_callF3 c h_are_within (c_var c 1 (.s (.z))) de_int (c_gintE c m_GREATEST) (by /- 0 -/ have := hp.2.1; omega)))) (fun h1 => (dw_or1 (dt_not ((dc_leLe de_int (c_len c (c_var c 1 (.s (.z))) b_len) (c_gintE c m_MOST_SIGNS))).t))))) (by /- 1 -/ have := hp.2.2; have := hp.1; have := hp.2.1; simp_all; omega)
  (c_setFN c 0 (.z) (dn_of_dm sc_int (c_list c (c_var c 1 (.s (.z))) b_list)) hc hn (.z)
  (sd_nil (fun σ H e => hD σ H _ e)))))
abbrev I_Backward (P : Program) (w : World) (K : PySem.W.Frag) (mg : Str → Option Value) (base : Heap) (CL CB : Addr) : Prop := FMk P w K mg base 3 "Backward" CB ["self", "ranks"] (SpIN1 CB (rList rInt) (okRanks) ["held"] (fun rs => [.val (rList rInt) rs]))
set_option maxHeartbeats 4000000 in
theorem ok_Backward_init {CL CB : Addr} (h_are_within : P_are_within P w K mg base) (b_len : mg "len" = none) (b_list : mg "list" = none) (m_GREATEST : ∃ t, mg "GREATEST" = some (.int 99 t)) (m_MOST_SIGNS : ∃ t, mg "MOST_SIGNS" = some (.int 8 t)) (hc : Cls K CB) (hn : NoAttr K CB "held") (T : FTk K mg "Backward" "Level.__init__" CB s_Level___init__ ["self", "ranks"]) : I_Backward P w K mg base CL CB :=
  fnIN1 T sc_s_Level___init__ (vs := [0, 1]) (by decide +kernel) [] (body := fun X B D v_ranks xd c hp hD =>
  (sd_ifF (dw_pt (dw_or (dt_not (dt_val (c_callF3 c h_are_within (c_var c 1 (.s (.z))) de_int (c_gintE c m_GREATEST) (by /- 0 -/ have := hp.2.1; omega)))) (fun h1 => (dw_or1 (dt_not ((dc_leLe de_int (c_len c (c_var c 1 (.s (.z))) b_len) (c_gintE c m_MOST_SIGNS))).t))))) (by /- 1 -/ have := hp.2.2; have := hp.1; have := hp.2.1; simp_all; omega)
  (c_setFN c 0 (.z) (dn_of_dm sc_int (c_list c (c_var c 1 (.s (.z))) b_list)) hc hn (.z)
  (sd_nil (fun σ H e => hD σ H _ e)))))
abbrev s_Level_ranks : Stmt := inClass (top 11) 1
theorem sc_s_Level_ranks : FnScope ["self"] ["self"] (defScope s_Level_ranks) := ⟨rfl, rfl, rfl, by decide +kernel, rfl, by decide +kernel, by decide +kernel⟩
set_option maxHeartbeats 4000000 in
theorem ok_Level_ranks {CL CB : Addr} (o : Bool × List Int) (b_list : mg "list" = none) (TL : TLev K mg CL CB) (T : FTm K "ranks" "Level.ranks" (lvC CL CB o) s_Level_ranks ["self"]) : FMe P w K mg base 1 (lvC CL CB o) "ranks" ["self"] (SpM1 (rLv CL CB) (fun _ => True) rInt (fun o => o.2)) :=
  meM1 T sc_s_Level_ranks (vs := [0]) (by decide +kernel) [] (body := fun X B D v_self c hp hD =>
  (sd_retM hD (c_list c (c_fld c 0 (c_var c 0 (.z)) (.z) (TL.cl _) (TL.na _)) b_list) (by /- ret 1 -/ rfl)))
abbrev M_Level_ranks (P : Program) (w : World) (K : PySem.W.Frag) (mg : Str → Option Value) (base : Heap) (CL CB : Addr) : Prop := ∀ o : Bool × List Int, FMe P w K mg base 1 (lvC CL CB o) "ranks" ["self"] (SpM1 (rLv CL CB) (fun _ => True) rInt (fun o => o.2))
abbrev s_Level_seen : Stmt := inClass (top 11) 2
theorem sc_s_Level_seen : FnScope ["self", "row"] ["self", "row"] (defScope s_Level_seen) := ⟨rfl, rfl, rfl, by decide +kernel, rfl, by decide +kernel, by decide +kernel⟩
set_option maxHeartbeats 4000000 in
theorem ok_Level_seen {CL CB : Addr}   (T : FTm K "seen" "Level.seen" CL s_Level_seen ["self", "row"]) : FMe P w K mg base 1 CL "seen" ["self", "row"] (SpF2 (rLv CL CB) (rList rInt) (fun o _ => o.1 = false) (rList rInt) (fun o row => seenL o.1 row)) :=
  meF2 T sc_s_Level_seen (vs := [0, 1]) (by decide +kernel) [] (body := fun X B D v_self v_row c hp hD hn =>
  (sd_retC hD (c_var c 1 (.s (.z))) (by /- ret 1 -/ rw [hp]; rfl)))
abbrev s_Backward_seen : Stmt := inClass (top 12) 0
theorem sc_s_Backward_seen : FnScope ["self", "row"] ["self", "row"] (defScope s_Backward_seen) := ⟨rfl, rfl, rfl, by decide +kernel, rfl, by decide +kernel, by decide +kernel⟩
set_option maxHeartbeats 4000000 in
theorem ok_Backward_seen {CL CB : Addr}   (T : FTm K "seen" "Backward.seen" CB s_Backward_seen ["self", "row"]) : FMe P w K mg base 1 CB "seen" ["self", "row"] (SpF2 (rLv CL CB) (rList rInt) (fun o _ => o.1 = true) (rList rInt) (fun o row => seenL o.1 row)) :=
  meF2 T sc_s_Backward_seen (vs := [0, 1]) (by decide +kernel) [] (body := fun X B D v_self v_row c hp hD hn =>
  (sd_retC hD (de_of_dm (dm_rev (c_var c 1 (.s (.z))))) (by /- ret 1 -/ rw [hp]; rfl)))
abbrev M_Level_seen (P : Program) (w : World) (K : PySem.W.Frag) (mg : Str → Option Value) (base : Heap) (CL CB : Addr) : Prop := ∀ o : Bool × List Int, FMe P w K mg base 1 (lvC CL CB o) "seen" ["self", "row"] (SpF2 (rLv CL CB) (rList rInt) (fun o' _ => o'.1 = o.1) (rList rInt) (fun o row => seenL o.1 row))
theorem all_seen {CL CB : Addr} (h1 : FMe P w K mg base 1 CL "seen" ["self", "row"] (SpF2 (rLv CL CB) (rList rInt) (fun o _ => o.1 = false) (rList rInt) (fun o row => seenL o.1 row))) (h2 : FMe P w K mg base 1 CB "seen" ["self", "row"] (SpF2 (rLv CL CB) (rList rInt) (fun o _ => o.1 = true) (rList rInt) (fun o row => seenL o.1 row))) : M_Level_seen P w K mg base CL CB := fun o => match o with
  | (false, _) => h1
  | (true, _) => h2
abbrev s_Level_weigh : Stmt := inClass (top 11) 4
theorem sc_s_Level_weigh : FnScope ["self", "one", "other"] ["self", "one", "other"] (defScope s_Level_weigh) := ⟨rfl, rfl, rfl, by decide +kernel, rfl, by decide +kernel, by decide +kernel⟩
set_option maxHeartbeats 4000000 in
theorem ok_Level_weigh {CL CB : Addr} (o : Bool × List Int) (h_Level_seen : M_Level_seen P w K mg base CL CB) (h_weighed : P_weighed P w K mg base) (T : FTm K "weigh" "Level.weigh" (lvC CL CB o) s_Level_weigh ["self", "one", "other"]) : FMe P w K mg base 2 (lvC CL CB o) "weigh" ["self", "one", "other"] (SpF3 (rLv CL CB) (rList rInt) (rList rInt) (fun _ _ _ => True) rInt (fun o a b => weighedL (seenL o.1 a) (seenL o.1 b))) :=
  meF3 T sc_s_Level_weigh (vs := [0, 1, 2]) (by decide +kernel) [] (body := fun X B D v_self v_one v_other c hp hD hn =>
  (sd_retC hD (c_callF2 c h_weighed (c_methF2 c (h_Level_seen _) (c_var c 0 (.z)) (c_var c 1 (.s (.z))) (by /- 0 -/ first | trivial | omega | decide | assumption | rfl)) (c_methF2 c (h_Level_seen _) (c_var c 0 (.z)) (c_var c 2 (.s (.s (.z)))) (by /- 1 -/ first | trivial | omega | decide | assumption | rfl)) (by /- 2 -/ first | trivial | omega | decide | assumption | rfl)) (by /- ret 1 -/ rfl)))
abbrev M_Level_weigh (P : Program) (w : World) (K : PySem.W.Frag) (mg : Str → Option Value) (base : Heap) (CL CB : Addr) : Prop := ∀ o : Bool × List Int, FMe P w K mg base 2 (lvC CL CB o) "weigh" ["self", "one", "other"] (SpF3 (rLv CL CB) (rList rInt) (rList rInt) (fun _ _ _ => True) rInt (fun o a b => weighedL (seenL o.1 a) (seenL o.1 b)))
abbrev s__law_due : Stmt := top 17
theorem sc_s__law_due : FnScope ["_law_one", "_law_other", "_law_back", "_law_mine", "_law_theirs", "_law_a", "_law_b"] ["_law_one", "_law_other", "_law_back"] (defScope s__law_due) := ⟨rfl, rfl, rfl, by decide +kernel, rfl, by decide +kernel, by decide +kernel⟩
abbrev P__law_due (P : Program) (w : World) (K : PySem.W.Frag) (mg : Str → Option Value) (base : Heap) : Prop := FN P w K mg base CX0 1 "_law_due" ["_law_one", "_law_other", "_law_back"] (SpF3 (rList rInt) (rList rInt) rBool (fun _ _ _ => True) rInt (dueL))
set_option maxHeartbeats 4000000 in
theorem ok__law_due (b_int : mg "int" = none) (b_len : mg "len" = none) (b_zip : mg "zip" = none) (T : FT K mg "_law_due" "_law_due" s__law_due ["_law_one", "_law_other", "_law_back"]) : P__law_due P w K mg base :=
  fnF3 T sc_s__law_due (vs := [0, 1, 2, 3, 4, 5, 6]) (by decide +kernel) [.un, .un, .un, .un] (body := fun X B D v_one v_other v_back c hp hD hn =>
  (c_asgP c 3 4 (de_ifExp (dt_val (c_var c 2 (.s (.s (.z))))) (fun h1 => (de_pair (da_cons (de_of_dm (dm_rev (c_var c 0 (.z)))) (da_cons (de_of_dm (dm_rev (c_var c 1 (.s (.z))))) da_nil)))) (fun h2 => (de_pair (da_cons (c_var c 0 (.z)) (da_cons (c_var c 1 (.s (.z))) da_nil))))) (fun _ => .s (.s (.s (.z)))) (fun _ => .s (.s (.s (.s (.z))))) (fun v_mine_theirs e_v_mine_theirs =>
  (sd_forR c.po c.calm (S := Unit) (fun s1 => [.val (rList rInt) v_one, .val (rList rInt) v_other, .val rBool v_back, .val (rList rInt) v_mine_theirs.1, .val (rList rInt) v_mine_theirs.2, .un, .un]) (dueGo v_mine_theirs.1 v_mine_theirs.2) (dueL v_one v_other v_back) () (c_zip c (c_var c 3 (.s (.s (.s (.z))))) (c_var c 4 (.s (.s (.s (.s (.z)))))) b_zip) (fun _ => (c_tpair c 5 6)) (.k (.k (.k (.k (.k (.k (.k .nil))))))) (by /- 1 -/ rw [e_v_mine_theirs]; rfl) (fun _ => fun _ => ⟨_, .s (.s (.s (.s (.s (.z))))), .s (.s (.s (.s (.s (.s (.z))))))⟩) (fun _ y1 post1 s1 hm1 hq1 hs1 =>
    (sd_ifT ((dc_neI (c_var c 5 (.s (.s (.s (.s (.s (.z))))))) (c_var c 6 (.s (.s (.s (.s (.s (.s (.z)))))))))).t (fun ht1 => (sd_retC hD (de_ifExp ((dc_lt (c_var c 5 (.s (.s (.s (.s (.s (.z))))))) (c_var c 6 (.s (.s (.s (.s (.s (.s (.z)))))))))).t (fun h3 => (de_neg de_int)) (fun h4 => de_int)) (by /- ret 1 -/ unfold dueGo at hs1; rw [if_pos (by simpa using ht1)] at hs1; rw [← hs1]; simp))) (fun he1 =>
    (sd_turn (Γs := fun s1 => [.val (rList rInt) v_one, .val (rList rInt) v_other, .val rBool v_back, .val (rList rInt) v_mine_theirs.1, .val (rList rInt) v_mine_theirs.2, .un, .un]) (Φ := fun s1 => (dueGo v_mine_theirs.1 v_mine_theirs.2) post1 s1 = (dueL v_one v_other v_back)) () (.k (.k (.k (.k (.k (.u (.u .nil))))))) (by /- 0 -/ unfold dueGo at hs1; rw [if_neg (by simpa using he1)] at hs1; exact hs1)))))
  (fun s1 hs1 =>
  (sd_retC hD (de_sub (c_intB c ((dc_gt (c_len c (c_var c 3 (.s (.s (.s (.z))))) b_len) (c_len c (c_var c 4 (.s (.s (.s (.s (.z)))))) b_len))).v b_int) (c_intB c ((dc_lt (c_len c (c_var c 3 (.s (.s (.s (.z))))) b_len) (c_len c (c_var c 4 (.s (.s (.s (.s (.z)))))) b_len))).v b_int)) (by /- ret 2 -/ rw [← hs1]; unfold dueGo; simp)))))))
abbrev s__law_right : Stmt := top 18
theorem sc_s__law_right : FnScope ["_law_level", "_law_one", "_law_other", "_law_back", "_law_mine", "_law_theirs", "_law_found", "_law_turned"] ["_law_level", "_law_one", "_law_other", "_law_back"] (defScope s__law_right) := ⟨rfl, rfl, rfl, by decide +kernel, rfl, by decide +kernel, by decide +kernel⟩
abbrev P__law_right (P : Program) (w : World) (K : PySem.W.Frag) (mg : Str → Option Value) (base : Heap) (CL CB : Addr) : Prop := FN P w K mg base CX0 3 "_law_right" ["_law_level", "_law_one", "_law_other", "_law_back"] (SpF4 (rLv CL CB) (rList rInt) (rList rInt) rBool (fun l a b back => l.1 = back ∧ a.length ≤ 100 ∧ b.length ≤ 100) rBool (fun _ _ _ _ => true))
set_option maxHeartbeats 4000000 in
theorem ok__law_right {CL CB : Addr} (h_Level_weigh : M_Level_weigh P w K mg base CL CB) (h__law_due : P__law_due P w K mg base) (b_bool : mg "bool" = none) (b_int : mg "int" = none) (b_isinstance : mg "isinstance" = none) (b_list : mg "list" = none) (T : FT K mg "_law_right" "_law_right" s__law_right ["_law_level", "_law_one", "_law_other", "_law_back"]) : P__law_right P w K mg base CL CB :=
  fnF4 T sc_s__law_right (vs := [0, 1, 2, 3, 4, 5, 6, 7]) (by decide +kernel) [.un, .un, .un, .un] (body := fun X B D v_level v_one v_other v_back c hp hD hn =>
  (c_par2 c 4 5 (s1 := fun a => .val (rList rInt) a) (s2 := fun a => .val (rList rInt) a) (ve_d (de_of_dm (c_list c (c_var c 1 (.s (.z))) b_list))) (ve_d (de_of_dm (c_list c (c_var c 2 (.s (.s (.z)))) b_list))) (fun _ => .s (.s (.s (.s (.z))))) (fun _ _ => .s (.s (.s (.s (.s (.z)))))) (fun v_mine v_theirs e_v_mine e_v_theirs =>
  (c_par2 c 6 7 (s1 := fun a => .val rInt a) (s2 := fun a => .val rInt a) (ve_d (c_methF3 c (h_Level_weigh _) (c_var c 0 (.z)) (c_var c 4 (.s (.s (.s (.s (.z)))))) (c_var c 5 (.s (.s (.s (.s (.s (.z))))))) (by /- 0 -/ first | trivial | omega | decide | assumption | rfl))) (ve_d (c_methF3 c (h_Level_weigh _) (c_var c 0 (.z)) (c_var c 5 (.s (.s (.s (.s (.s (.z))))))) (c_var c 4 (.s (.s (.s (.s (.z)))))) (by /- 1 -/ first | trivial | omega | decide | assumption | rfl))) (fun _ => .s (.s (.s (.s (.s (.s (.z))))))) (fun _ _ => .s (.s (.s (.s (.s (.s (.s (.z)))))))) (fun v_found v_turned e_v_found e_v_turned =>
  (sd_ifF (dw_pt (dw_or (dt_val (c_isi (T' := "bool") (b := false) c (c_var c 6 (.s (.s (.s (.s (.s (.s (.z)))))))) ty_int (kit_ty (by decide +kernel)) b_isinstance b_bool)) (fun h1 => (dw_or (dt_not (dt_val (c_isi (T' := "int") (b := true) c (c_var c 6 (.s (.s (.s (.s (.s (.s (.z)))))))) ty_int (kit_ty (by decide +kernel)) b_isinstance b_int))) (fun h2 => (dw_or1 ((c_neD c (eqList (eqList eqInt)) (de_of_dm (dm_list (dl_cons (c_var c 4 (.s (.s (.s (.s (.z)))))) (dl_cons (c_var c 5 (.s (.s (.s (.s (.s (.z))))))) dl_nil)))) (de_of_dm (dm_list (dl_cons (c_var c 1 (.s (.z))) (dl_cons (c_var c 2 (.s (.s (.z)))) dl_nil)))))).t)))))) (by /- if 1 -/ subst_vars; simp)
  (sd_retC hD (de_and ((dc_eqI (c_var c 6 (.s (.s (.s (.s (.s (.s (.z)))))))) (c_callF3 c h__law_due (c_var c 1 (.s (.z))) (c_var c 2 (.s (.s (.z)))) (c_var c 3 (.s (.s (.s (.z))))) (by /- 2 -/ first | trivial | omega | decide | assumption | rfl)))).v (fun h3 => (de_one ((dc_eqI (c_var c 7 (.s (.s (.s (.s (.s (.s (.s (.z))))))))) (de_neg (c_var c 6 (.s (.s (.s (.s (.s (.s (.z))))))))))).v))) (by /- ret 1 -/ subst_vars; rw [hp.1, weigh_due, weigh_anti, weigh_due]; simp))))))))
abbrev s_law : Stmt := top 19
theorem sc_s_law : FnScope ["_law_script", "_law_by", "_law_cell", "_law_ranks", "_law_handed", "_law_far", "_law_plain", "_law_back", "_law_one", "_law_other", "_law_at", "_law_near", "_law_some", "_law_k"] ["_law_script"] (defScope s_law) := ⟨rfl, rfl, rfl, by decide +kernel, rfl, by decide +kernel, by decide +kernel⟩
abbrev P_law (P : Program) (w : World) (K : PySem.W.Frag) (mg : Str → Option Value) (base : Heap) (CL CB : Addr) : Prop := FN P w K mg base CX0 5 "law" ["_law_script"] (SpF1 (rScr K) (fun ns => ns.length ≤ 63) rBool (fun _ => true))
set_option maxHeartbeats 4000000 in
theorem ok_law {CL CB : Addr} (h_Backward : I_Backward P w K mg base CL CB) (h_Level : I_Level P w K mg base CL CB) (h_Level_ranks : M_Level_ranks P w K mg base CL CB) (h_Level_weigh : M_Level_weigh P w K mg base CL CB) (h__law_cell_at : P__law_cell_at P w K mg base) (h__law_number : P__law_number P w K mg base) (h__law_right : P__law_right P w K mg base CL CB) (b_abs : mg "abs" = none) (b_isinstance : mg "isinstance" = none) (b_len : mg "len" = none) (b_list : mg "list" = none) (b_range : mg "range" = none) (TL : TLev K mg CL CB) (m_Level : mg "Level" = some (.ref CL)) (m_Backward : mg "Backward" = some (.ref CB)) (T : FT K mg "law" "law" s_law ["_law_script"]) : P_law P w K mg base CL CB :=
  fnF1 T sc_s_law (vs := [0, 1, 2, 3, 4, 5, 6, 7, 8, 9, 10, 11, 12]) (by decide +kernel) [.un, .un, .un, .un, .un, .un, .un, .un, .un, .un, .un, .un, .un] (body := fun X B D v_script c hp hD hn =>
  (sd_forR c.po c.calm (S := Unit) (fun s1 => [.val (rScr K) v_script, .un, .un, .un, .un, .un, .un, .un, .un, .un, .un, .un, .un, .un]) (fun _ _ => true) true () (c_range1 c de_int b_range (by /- 0 -/ first | trivial | omega | (simp only [rng_len]; omega) | (simp only [List.length_append, List.length_cons, List.length_nil]; omega) | decide | assumption | exact ⟨by rw [e_v_plain], by omega, hnear _ hm2⟩ | exact ⟨by rw [e_v_back], by omega, hnear _ hm2⟩ | (rw [e_v_near]; simp; done) | (rw [e_v_plain]; show v_handed.length ≤ _; rw [e_v_handed]; omega) | (rw [e_v_back]; show v_handed.length ≤ _; rw [e_v_handed]; omega) | (rw [e_v_handed]; exact okr) | (rw [e_v_handed]; omega))) (fun _ => (c_tname c 1)) (.k (.k (.k (.k (.k (.k (.k (.k (.k (.k (.k (.k (.k (.k .nil)))))))))))))) (by /- 40 -/ first | trivial | omega | (simp only [rng_len]; omega) | (simp only [List.length_append, List.length_cons, List.length_nil]; omega) | decide | assumption | exact ⟨by rw [e_v_plain], by omega, hnear _ hm2⟩ | exact ⟨by rw [e_v_back], by omega, hnear _ hm2⟩ | (rw [e_v_near]; simp; done) | (rw [e_v_plain]; show v_handed.length ≤ _; rw [e_v_handed]; omega) | (rw [e_v_back]; show v_handed.length ≤ _; rw [e_v_handed]; omega) | (rw [e_v_handed]; exact okr) | (rw [e_v_handed]; omega)) (fun _ => fun _ => .s (.z)) (fun _ y1 post1 s1 hm1 hq1 hs1 =>
    (have hr_y1 := mem_rng hm1; (c_asg c 2 (c_callF2 c h__law_cell_at (c_var c 0 (.z)) (c_var c 1 (.s (.z))) (by /- 1 -/ first | trivial | omega | (simp only [rng_len]; omega) | (simp only [List.length_append, List.length_cons, List.length_nil]; omega) | decide | assumption | exact ⟨by rw [e_v_plain], by omega, hnear _ hm2⟩ | exact ⟨by rw [e_v_back], by omega, hnear _ hm2⟩ | (rw [e_v_near]; simp; done) | (rw [e_v_plain]; show v_handed.length ≤ _; rw [e_v_handed]; omega) | (rw [e_v_back]; show v_handed.length ≤ _; rw [e_v_handed]; omega) | (rw [e_v_handed]; exact okr) | (rw [e_v_handed]; omega))) (fun _ => .s (.s (.z))) (fun v_cell e_v_cell =>
    (have q1 := number_in v_cell 1 (limit := 8) (by decide)
    have q12 := number_in v_cell 12 (limit := 12) (by decide)
    have q13 := number_in v_cell 13 (limit := 12) (by decide)
    (c_asgLc c 3 (c_lc c [("_law_k", 13)] [2, 13] [13] _ (c_range1 c (de_add de_int (c_callF3 c h__law_number (c_var c 2 (.s (.s (.z)))) de_int de_int (by /- 2 -/ first | trivial | omega | (simp only [rng_len]; omega) | (simp only [List.length_append, List.length_cons, List.length_nil]; omega) | decide | assumption | exact ⟨by rw [e_v_plain], by omega, hnear _ hm2⟩ | exact ⟨by rw [e_v_back], by omega, hnear _ hm2⟩ | (rw [e_v_near]; simp; done) | (rw [e_v_plain]; show v_handed.length ≤ _; rw [e_v_handed]; omega) | (rw [e_v_back]; show v_handed.length ≤ _; rw [e_v_handed]; omega) | (rw [e_v_handed]; exact okr) | (rw [e_v_handed]; omega)))) b_range (by /- 3 -/ first | trivial | omega | (simp only [rng_len]; omega) | (simp only [List.length_append, List.length_cons, List.length_nil]; omega) | decide | assumption | exact ⟨by rw [e_v_plain], by omega, hnear _ hm2⟩ | exact ⟨by rw [e_v_back], by omega, hnear _ hm2⟩ | (rw [e_v_near]; simp; done) | (rw [e_v_plain]; show v_handed.length ≤ _; rw [e_v_handed]; omega) | (rw [e_v_back]; show v_handed.length ≤ _; rw [e_v_handed]; omega) | (rw [e_v_handed]; exact okr) | (rw [e_v_handed]; omega))) (fun _ _ c1 => (c_tname c1 13)) (fun _ => .s (.s (.s (.s (.s (.s (.s (.s (.s (.s (.s (.s (.s (.z)))))))))))))) (fun _ _ x1 c1 hx1 => (have hr_x1 := mem_rng hx1; (c_callF3 c1 h__law_number (c_var c1 2 (.s (.s (.z)))) (de_add (c_var c1 13 (.s (.s (.s (.s (.s (.s (.s (.s (.s (.s (.s (.s (.s (.z))))))))))))))) de_int) de_int (by /- 4 -/ first | trivial | omega | (simp only [rng_len]; omega) | (simp only [List.length_append, List.length_cons, List.length_nil]; omega) | decide | assumption | exact ⟨by rw [e_v_plain], by omega, hnear _ hm2⟩ | exact ⟨by rw [e_v_back], by omega, hnear _ hm2⟩ | (rw [e_v_near]; simp; done) | (rw [e_v_plain]; show v_handed.length ≤ _; rw [e_v_handed]; omega) | (rw [e_v_back]; show v_handed.length ≤ _; rw [e_v_handed]; omega) | (rw [e_v_handed]; exact okr) | (rw [e_v_handed]; omega))))) (by /- 5 -/ first | trivial | omega | (simp only [rng_len]; omega) | (simp only [List.length_append, List.length_cons, List.length_nil]; omega) | decide | assumption | exact ⟨by rw [e_v_plain], by omega, hnear _ hm2⟩ | exact ⟨by rw [e_v_back], by omega, hnear _ hm2⟩ | (rw [e_v_near]; simp; done) | (rw [e_v_plain]; show v_handed.length ≤ _; rw [e_v_handed]; omega) | (rw [e_v_back]; show v_handed.length ≤ _; rw [e_v_handed]; omega) | (rw [e_v_handed]; exact okr) | (rw [e_v_handed]; omega)) (Uns.all (.cons (.s (.s (.s (.s (.s (.s (.s (.s (.s (.s (.s (.s (.s (.z)))))))))))))) .nil))) (fun _ => .s (.s (.s (.z)))) (fun v_ranks e_v_ranks =>
    (have lr : v_ranks.length = (1 + number v_cell 1 8).toNat := by rw [e_v_ranks]; simp [rng_len]
    have okr : okRanks v_ranks := ⟨by omega, by omega, by rw [e_v_ranks]; exact ranks_ok _ _⟩
    (c_par2 c 4 5 (s1 := fun a => .own (oList rInt) a) (s2 := fun a => .val rInt a) (ve_m (c_list c (c_var c 3 (.s (.s (.s (.z))))) b_list)) (ve_d (de_ixT (de_tupL (dl_cons (de_pow de_int de_int (by /- 6 -/ first | trivial | omega | (simp only [rng_len]; omega) | (simp only [List.length_append, List.length_cons, List.length_nil]; omega) | decide | assumption | exact ⟨by rw [e_v_plain], by omega, hnear _ hm2⟩ | exact ⟨by rw [e_v_back], by omega, hnear _ hm2⟩ | (rw [e_v_near]; simp; done) | (rw [e_v_plain]; show v_handed.length ≤ _; rw [e_v_handed]; omega) | (rw [e_v_back]; show v_handed.length ≤ _; rw [e_v_handed]; omega) | (rw [e_v_handed]; exact okr) | (rw [e_v_handed]; omega))) (dl_cons (de_pow de_int de_int (by /- 7 -/ first | trivial | omega | (simp only [rng_len]; omega) | (simp only [List.length_append, List.length_cons, List.length_nil]; omega) | decide | assumption | exact ⟨by rw [e_v_plain], by omega, hnear _ hm2⟩ | exact ⟨by rw [e_v_back], by omega, hnear _ hm2⟩ | (rw [e_v_near]; simp; done) | (rw [e_v_plain]; show v_handed.length ≤ _; rw [e_v_handed]; omega) | (rw [e_v_back]; show v_handed.length ≤ _; rw [e_v_handed]; omega) | (rw [e_v_handed]; exact okr) | (rw [e_v_handed]; omega))) (dl_cons (de_pow de_int de_int (by /- 8 -/ first | trivial | omega | (simp only [rng_len]; omega) | (simp only [List.length_append, List.length_cons, List.length_nil]; omega) | decide | assumption | exact ⟨by rw [e_v_plain], by omega, hnear _ hm2⟩ | exact ⟨by rw [e_v_back], by omega, hnear _ hm2⟩ | (rw [e_v_near]; simp; done) | (rw [e_v_plain]; show v_handed.length ≤ _; rw [e_v_handed]; omega) | (rw [e_v_back]; show v_handed.length ≤ _; rw [e_v_handed]; omega) | (rw [e_v_handed]; exact okr) | (rw [e_v_handed]; omega))) dl_nil)))) (c_var c 1 (.s (.z))) (by /- 9 -/ first | trivial | omega | (simp only [rng_len]; omega) | (simp only [List.length_append, List.length_cons, List.length_nil]; omega) | decide | assumption | exact ⟨by rw [e_v_plain], by omega, hnear _ hm2⟩ | exact ⟨by rw [e_v_back], by omega, hnear _ hm2⟩ | (rw [e_v_near]; simp; done) | (rw [e_v_plain]; show v_handed.length ≤ _; rw [e_v_handed]; omega) | (rw [e_v_back]; show v_handed.length ≤ _; rw [e_v_handed]; omega) | (rw [e_v_handed]; exact okr) | (rw [e_v_handed]; omega)))) (fun _ => .s (.s (.s (.s (.z))))) (fun _ _ => .s (.s (.s (.s (.s (.z)))))) (fun v_handed v_far e_v_handed e_v_far =>
    (c_par2 c 6 7 (s1 := fun a => .val (rLv CL CB) a) (s2 := fun a => .val (rLv CL CB) a) (ve_d (de_of_dn (dn_thaw (frz_list _) (.s (.s (.s (.s (.z))))) (.s (.s (.s (.s (.z))))) (c_makeN1 c (false, _) h_Level (c_var c 4 (.s (.s (.s (.s (.z)))))) (by /- 10 -/ first | trivial | omega | (simp only [rng_len]; omega) | (simp only [List.length_append, List.length_cons, List.length_nil]; omega) | decide | assumption | exact ⟨by rw [e_v_plain], by omega, hnear _ hm2⟩ | exact ⟨by rw [e_v_back], by omega, hnear _ hm2⟩ | (rw [e_v_near]; simp; done) | (rw [e_v_plain]; show v_handed.length ≤ _; rw [e_v_handed]; omega) | (rw [e_v_back]; show v_handed.length ≤ _; rw [e_v_handed]; omega) | (rw [e_v_handed]; exact okr) | (rw [e_v_handed]; omega)))))) (ve_d (de_of_dn (dn_thaw (frz_list _) (.s (.s (.s (.s (.z))))) (.s (.s (.s (.s (.z))))) (c_makeN1 c (true, _) h_Backward (c_var c 4 (.s (.s (.s (.s (.z)))))) (by /- 11 -/ first | trivial | omega | (simp only [rng_len]; omega) | (simp only [List.length_append, List.length_cons, List.length_nil]; omega) | decide | assumption | exact ⟨by rw [e_v_plain], by omega, hnear _ hm2⟩ | exact ⟨by rw [e_v_back], by omega, hnear _ hm2⟩ | (rw [e_v_near]; simp; done) | (rw [e_v_plain]; show v_handed.length ≤ _; rw [e_v_handed]; omega) | (rw [e_v_back]; show v_handed.length ≤ _; rw [e_v_handed]; omega) | (rw [e_v_handed]; exact okr) | (rw [e_v_handed]; omega)))))) (fun _ => .s (.s (.s (.s (.s (.s (.z))))))) (fun _ _ => .s (.s (.s (.s (.s (.s (.s (.z)))))))) (fun v_plain v_back e_v_plain e_v_back =>
    (c_append c 4 (.s (.s (.s (.s (.z))))) de_int (.s (.s (.s (.s (.z))))) (sd_gen (Γf := fun v_handed_1 => [.val (rScr K) v_script, .val rInt y1, .val rInt v_cell, .val (rList rInt) v_ranks, .own (oList rInt) v_handed_1, .val rInt v_far, .val (rLv CL CB) v_plain, .val (rLv CL CB) v_back, .un, .un, .un, .un, .un, .un]) _ (fun v_handed_1 e_v_handed_1 =>
    (sd_ifF (dw_pt (dw_or ((c_neD c (eqList (eqList eqInt)) (de_of_dm (dm_list (dl_cons (de_of_dm (c_methM1 c (h_Level_ranks _) (c_var c 6 (.s (.s (.s (.s (.s (.s (.z)))))))) (by /- 12 -/ first | trivial | omega | (simp only [rng_len]; omega) | (simp only [List.length_append, List.length_cons, List.length_nil]; omega) | decide | assumption | exact ⟨by rw [e_v_plain], by omega, hnear _ hm2⟩ | exact ⟨by rw [e_v_back], by omega, hnear _ hm2⟩ | (rw [e_v_near]; simp; done) | (rw [e_v_plain]; show v_handed.length ≤ _; rw [e_v_handed]; omega) | (rw [e_v_back]; show v_handed.length ≤ _; rw [e_v_handed]; omega) | (rw [e_v_handed]; exact okr) | (rw [e_v_handed]; omega)))) (dl_cons (de_of_dm (c_methM1 c (h_Level_ranks _) (c_var c 7 (.s (.s (.s (.s (.s (.s (.s (.z))))))))) (by /- 13 -/ first | trivial | omega | (simp only [rng_len]; omega) | (simp only [List.length_append, List.length_cons, List.length_nil]; omega) | decide | assumption | exact ⟨by rw [e_v_plain], by omega, hnear _ hm2⟩ | exact ⟨by rw [e_v_back], by omega, hnear _ hm2⟩ | (rw [e_v_near]; simp; done) | (rw [e_v_plain]; show v_handed.length ≤ _; rw [e_v_handed]; omega) | (rw [e_v_back]; show v_handed.length ≤ _; rw [e_v_handed]; omega) | (rw [e_v_handed]; exact okr) | (rw [e_v_handed]; omega)))) dl_nil)))) (de_of_dm (dm_list (dl_cons (c_var c 3 (.s (.s (.s (.z))))) (dl_cons (c_var c 3 (.s (.s (.s (.z))))) dl_nil)))))).t (fun h1 => (dw_or1 (dt_val (c_isiC c (c_var c 6 (.s (.s (.s (.s (.s (.s (.z)))))))) (ty_obj (TL.ci _)) (TL.kB _) b_isinstance m_Backward)))))) (by /- if 1 -/ subst_vars; simp)
    (sd_appendN (c_methM1 c (h_Level_ranks _) (c_var c 6 (.s (.s (.s (.s (.s (.s (.z)))))))) (by /- 14 -/ first | trivial | omega | (simp only [rng_len]; omega) | (simp only [List.length_append, List.length_cons, List.length_nil]; omega) | decide | assumption | exact ⟨by rw [e_v_plain], by omega, hnear _ hm2⟩ | exact ⟨by rw [e_v_back], by omega, hnear _ hm2⟩ | (rw [e_v_near]; simp; done) | (rw [e_v_plain]; show v_handed.length ≤ _; rw [e_v_handed]; omega) | (rw [e_v_back]; show v_handed.length ≤ _; rw [e_v_handed]; omega) | (rw [e_v_handed]; exact okr) | (rw [e_v_handed]; omega))) de_int
    (sd_ifF (dw_pt (dw_or ((c_neD c (eqList eqInt) (de_of_dm (c_methM1 c (h_Level_ranks _) (c_var c 6 (.s (.s (.s (.s (.s (.s (.z)))))))) (by /- 15 -/ first | trivial | omega | (simp only [rng_len]; omega) | (simp only [List.length_append, List.length_cons, List.length_nil]; omega) | decide | assumption | exact ⟨by rw [e_v_plain], by omega, hnear _ hm2⟩ | exact ⟨by rw [e_v_back], by omega, hnear _ hm2⟩ | (rw [e_v_near]; simp; done) | (rw [e_v_plain]; show v_handed.length ≤ _; rw [e_v_handed]; omega) | (rw [e_v_back]; show v_handed.length ≤ _; rw [e_v_handed]; omega) | (rw [e_v_handed]; exact okr) | (rw [e_v_handed]; omega)))) (c_var c 3 (.s (.s (.s (.z))))))).t (fun h2 => (dw_or (dt_not (dt_val (c_isiC c (c_var c 7 (.s (.s (.s (.s (.s (.s (.s (.z))))))))) (ty_obj (TL.ci _)) (TL.kL _) b_isinstance m_Level))) (fun h3 => (dw_or1 (dt_not (dt_val (c_isiC c (c_var c 7 (.s (.s (.s (.s (.s (.s (.s (.z))))))))) (ty_obj (TL.ci _)) (TL.kB _) b_isinstance m_Backward))))))))) (by /- if 2 -/ subst_vars; simp)
    (c_asgLc c 8 (c_lc c [("_law_k", 13)] [0, 1, 13] [13] _ (c_range1 c (c_callF3 c h__law_number (c_var c 2 (.s (.s (.z)))) de_int de_int (by /- 16 -/ first | trivial | omega | (simp only [rng_len]; omega) | (simp only [List.length_append, List.length_cons, List.length_nil]; omega) | decide | assumption | exact ⟨by rw [e_v_plain], by omega, hnear _ hm2⟩ | exact ⟨by rw [e_v_back], by omega, hnear _ hm2⟩ | (rw [e_v_near]; simp; done) | (rw [e_v_plain]; show v_handed.length ≤ _; rw [e_v_handed]; omega) | (rw [e_v_back]; show v_handed.length ≤ _; rw [e_v_handed]; omega) | (rw [e_v_handed]; exact okr) | (rw [e_v_handed]; omega))) b_range (by /- 17 -/ first | trivial | omega | (simp only [rng_len]; omega) | (simp only [List.length_append, List.length_cons, List.length_nil]; omega) | decide | assumption | exact ⟨by rw [e_v_plain], by omega, hnear _ hm2⟩ | exact ⟨by rw [e_v_back], by omega, hnear _ hm2⟩ | (rw [e_v_near]; simp; done) | (rw [e_v_plain]; show v_handed.length ≤ _; rw [e_v_handed]; omega) | (rw [e_v_back]; show v_handed.length ≤ _; rw [e_v_handed]; omega) | (rw [e_v_handed]; exact okr) | (rw [e_v_handed]; omega))) (fun _ _ c2 => (c_tname c2 13)) (fun _ => .s (.s (.s (.s (.s (.s (.s (.s (.s (.s (.s (.s (.s (.z)))))))))))))) (fun _ _ x2 c2 hx2 => (have hr_x2 := mem_rng hx2; (c_callF3 c2 h__law_number (c_callF2 c2 h__law_cell_at (c_var c2 0 (.z)) (de_add (c_var c2 1 (.s (.z))) (c_var c2 13 (.s (.s (.s (.s (.s (.s (.s (.s (.s (.s (.s (.s (.s (.z)))))))))))))))) (by /- 18 -/ first | trivial | omega | (simp only [rng_len]; omega) | (simp only [List.length_append, List.length_cons, List.length_nil]; omega) | decide | assumption | exact ⟨by rw [e_v_plain], by omega, hnear _ hm2⟩ | exact ⟨by rw [e_v_back], by omega, hnear _ hm2⟩ | (rw [e_v_near]; simp; done) | (rw [e_v_plain]; show v_handed.length ≤ _; rw [e_v_handed]; omega) | (rw [e_v_back]; show v_handed.length ≤ _; rw [e_v_handed]; omega) | (rw [e_v_handed]; exact okr) | (rw [e_v_handed]; omega))) (de_add (c_var c2 13 (.s (.s (.s (.s (.s (.s (.s (.s (.s (.s (.s (.s (.s (.z))))))))))))))) de_int) de_int (by /- 19 -/ first | trivial | omega | (simp only [rng_len]; omega) | (simp only [List.length_append, List.length_cons, List.length_nil]; omega) | decide | assumption | exact ⟨by rw [e_v_plain], by omega, hnear _ hm2⟩ | exact ⟨by rw [e_v_back], by omega, hnear _ hm2⟩ | (rw [e_v_near]; simp; done) | (rw [e_v_plain]; show v_handed.length ≤ _; rw [e_v_handed]; omega) | (rw [e_v_back]; show v_handed.length ≤ _; rw [e_v_handed]; omega) | (rw [e_v_handed]; exact okr) | (rw [e_v_handed]; omega))))) (by /- 20 -/ first | trivial | omega | (simp only [rng_len]; omega) | (simp only [List.length_append, List.length_cons, List.length_nil]; omega) | decide | assumption | exact ⟨by rw [e_v_plain], by omega, hnear _ hm2⟩ | exact ⟨by rw [e_v_back], by omega, hnear _ hm2⟩ | (rw [e_v_near]; simp; done) | (rw [e_v_plain]; show v_handed.length ≤ _; rw [e_v_handed]; omega) | (rw [e_v_back]; show v_handed.length ≤ _; rw [e_v_handed]; omega) | (rw [e_v_handed]; exact okr) | (rw [e_v_handed]; omega)) (Uns.all (.cons (.s (.s (.s (.s (.s (.s (.s (.s (.s (.s (.s (.s (.s (.z)))))))))))))) .nil))) (fun _ => .s (.s (.s (.s (.s (.s (.s (.s (.z))))))))) (fun v_one e_v_one =>
    (have l1 : v_one.length = (number v_cell 12 12).toNat := by rw [e_v_one]; simp [rng_len]
    (c_asgLc c 9 (c_lc c [("_law_k", 13)] [0, 1, 13] [13] _ (c_range1 c (c_callF3 c h__law_number (c_var c 2 (.s (.s (.z)))) de_int de_int (by /- 21 -/ first | trivial | omega | (simp only [rng_len]; omega) | (simp only [List.length_append, List.length_cons, List.length_nil]; omega) | decide | assumption | exact ⟨by rw [e_v_plain], by omega, hnear _ hm2⟩ | exact ⟨by rw [e_v_back], by omega, hnear _ hm2⟩ | (rw [e_v_near]; simp; done) | (rw [e_v_plain]; show v_handed.length ≤ _; rw [e_v_handed]; omega) | (rw [e_v_back]; show v_handed.length ≤ _; rw [e_v_handed]; omega) | (rw [e_v_handed]; exact okr) | (rw [e_v_handed]; omega))) b_range (by /- 22 -/ first | trivial | omega | (simp only [rng_len]; omega) | (simp only [List.length_append, List.length_cons, List.length_nil]; omega) | decide | assumption | exact ⟨by rw [e_v_plain], by omega, hnear _ hm2⟩ | exact ⟨by rw [e_v_back], by omega, hnear _ hm2⟩ | (rw [e_v_near]; simp; done) | (rw [e_v_plain]; show v_handed.length ≤ _; rw [e_v_handed]; omega) | (rw [e_v_back]; show v_handed.length ≤ _; rw [e_v_handed]; omega) | (rw [e_v_handed]; exact okr) | (rw [e_v_handed]; omega))) (fun _ _ c3 => (c_tname c3 13)) (fun _ => .s (.s (.s (.s (.s (.s (.s (.s (.s (.s (.s (.s (.s (.z)))))))))))))) (fun _ _ x3 c3 hx3 => (have hr_x3 := mem_rng hx3; (c_callF3 c3 h__law_number (c_callF2 c3 h__law_cell_at (c_var c3 0 (.z)) (de_add (de_add (c_var c3 1 (.s (.z))) (c_var c3 13 (.s (.s (.s (.s (.s (.s (.s (.s (.s (.s (.s (.s (.s (.z)))))))))))))))) de_int) (by /- 23 -/ first | trivial | omega | (simp only [rng_len]; omega) | (simp only [List.length_append, List.length_cons, List.length_nil]; omega) | decide | assumption | exact ⟨by rw [e_v_plain], by omega, hnear _ hm2⟩ | exact ⟨by rw [e_v_back], by omega, hnear _ hm2⟩ | (rw [e_v_near]; simp; done) | (rw [e_v_plain]; show v_handed.length ≤ _; rw [e_v_handed]; omega) | (rw [e_v_back]; show v_handed.length ≤ _; rw [e_v_handed]; omega) | (rw [e_v_handed]; exact okr) | (rw [e_v_handed]; omega))) (de_add (c_var c3 13 (.s (.s (.s (.s (.s (.s (.s (.s (.s (.s (.s (.s (.s (.z))))))))))))))) de_int) de_int (by /- 24 -/ first | trivial | omega | (simp only [rng_len]; omega) | (simp only [List.length_append, List.length_cons, List.length_nil]; omega) | decide | assumption | exact ⟨by rw [e_v_plain], by omega, hnear _ hm2⟩ | exact ⟨by rw [e_v_back], by omega, hnear _ hm2⟩ | (rw [e_v_near]; simp; done) | (rw [e_v_plain]; show v_handed.length ≤ _; rw [e_v_handed]; omega) | (rw [e_v_back]; show v_handed.length ≤ _; rw [e_v_handed]; omega) | (rw [e_v_handed]; exact okr) | (rw [e_v_handed]; omega))))) (by /- 25 -/ first | trivial | omega | (simp only [rng_len]; omega) | (simp only [List.length_append, List.length_cons, List.length_nil]; omega) | decide | assumption | exact ⟨by rw [e_v_plain], by omega, hnear _ hm2⟩ | exact ⟨by rw [e_v_back], by omega, hnear _ hm2⟩ | (rw [e_v_near]; simp; done) | (rw [e_v_plain]; show v_handed.length ≤ _; rw [e_v_handed]; omega) | (rw [e_v_back]; show v_handed.length ≤ _; rw [e_v_handed]; omega) | (rw [e_v_handed]; exact okr) | (rw [e_v_handed]; omega)) (Uns.all (.cons (.s (.s (.s (.s (.s (.s (.s (.s (.s (.s (.s (.s (.s (.z)))))))))))))) .nil))) (fun _ => .s (.s (.s (.s (.s (.s (.s (.s (.s (.z)))))))))) (fun v_other e_v_other =>
    (have l2 : v_other.length = (number v_cell 13 12).toNat := by rw [e_v_other]; simp [rng_len]
    (c_asg c 10 (c_callF3 c h__law_number (c_var c 2 (.s (.s (.z)))) de_int (de_add (c_len c (c_var c 8 (.s (.s (.s (.s (.s (.s (.s (.s (.z)))))))))) b_len) de_int) (by /- 26 -/ first | trivial | omega | (simp only [rng_len]; omega) | (simp only [List.length_append, List.length_cons, List.length_nil]; omega) | decide | assumption | exact ⟨by rw [e_v_plain], by omega, hnear _ hm2⟩ | exact ⟨by rw [e_v_back], by omega, hnear _ hm2⟩ | (rw [e_v_near]; simp; done) | (rw [e_v_plain]; show v_handed.length ≤ _; rw [e_v_handed]; omega) | (rw [e_v_back]; show v_handed.length ≤ _; rw [e_v_handed]; omega) | (rw [e_v_handed]; exact okr) | (rw [e_v_handed]; omega))) (fun _ => .s (.s (.s (.s (.s (.s (.s (.s (.s (.s (.z))))))))))) (fun v_at e_v_at =>
    (have ca := cutL_len v_one none (some v_at)
    have cb := cutL_len v_one (some v_at) none
    have q14 := number_in v_cell 14 (limit := (v_one.length : Int) + 1) (by omega)
    (c_asg c 11 (de_of_dm (dm_list (dl_cons (de_of_dm (dm_sl (c_var c 8 (.s (.s (.s (.s (.s (.s (.s (.s (.z)))))))))) do_none (do_some (c_var c 10 (.s (.s (.s (.s (.s (.s (.s (.s (.s (.s (.z))))))))))))))) (dl_cons (de_of_dm (dm_sl (c_var c 8 (.s (.s (.s (.s (.s (.s (.s (.s (.z)))))))))) (do_some (c_var c 10 (.s (.s (.s (.s (.s (.s (.s (.s (.s (.s (.z))))))))))))) do_none)) (dl_cons (de_of_dm (dm_cat (c_var c 8 (.s (.s (.s (.s (.s (.s (.s (.s (.z)))))))))) (c_var c 9 (.s (.s (.s (.s (.s (.s (.s (.s (.s (.z))))))))))) (by /- 27 -/ first | trivial | omega | (simp only [rng_len]; omega) | (simp only [List.length_append, List.length_cons, List.length_nil]; omega) | decide | assumption | exact ⟨by rw [e_v_plain], by omega, hnear _ hm2⟩ | exact ⟨by rw [e_v_back], by omega, hnear _ hm2⟩ | (rw [e_v_near]; simp; done) | (rw [e_v_plain]; show v_handed.length ≤ _; rw [e_v_handed]; omega) | (rw [e_v_back]; show v_handed.length ≤ _; rw [e_v_handed]; omega) | (rw [e_v_handed]; exact okr) | (rw [e_v_handed]; omega)))) (dl_cons (de_of_dm (dm_cat (c_var c 9 (.s (.s (.s (.s (.s (.s (.s (.s (.s (.z))))))))))) (c_var c 8 (.s (.s (.s (.s (.s (.s (.s (.s (.z)))))))))) (by /- 28 -/ first | trivial | omega | (simp only [rng_len]; omega) | (simp only [List.length_append, List.length_cons, List.length_nil]; omega) | decide | assumption | exact ⟨by rw [e_v_plain], by omega, hnear _ hm2⟩ | exact ⟨by rw [e_v_back], by omega, hnear _ hm2⟩ | (rw [e_v_near]; simp; done) | (rw [e_v_plain]; show v_handed.length ≤ _; rw [e_v_handed]; omega) | (rw [e_v_back]; show v_handed.length ≤ _; rw [e_v_handed]; omega) | (rw [e_v_handed]; exact okr) | (rw [e_v_handed]; omega)))) (dl_cons (de_of_dm (dm_cat (de_of_dm (dm_cat (de_of_dm (dm_sl (c_var c 8 (.s (.s (.s (.s (.s (.s (.s (.s (.z)))))))))) do_none (do_some (c_var c 10 (.s (.s (.s (.s (.s (.s (.s (.s (.s (.s (.z))))))))))))))) (de_of_dm (dm_list (dl_cons (c_var c 5 (.s (.s (.s (.s (.s (.z))))))) dl_nil))) (by /- 29 -/ first | trivial | omega | (simp only [rng_len]; omega) | (simp only [List.length_append, List.length_cons, List.length_nil]; omega) | decide | assumption | exact ⟨by rw [e_v_plain], by omega, hnear _ hm2⟩ | exact ⟨by rw [e_v_back], by omega, hnear _ hm2⟩ | (rw [e_v_near]; simp; done) | (rw [e_v_plain]; show v_handed.length ≤ _; rw [e_v_handed]; omega) | (rw [e_v_back]; show v_handed.length ≤ _; rw [e_v_handed]; omega) | (rw [e_v_handed]; exact okr) | (rw [e_v_handed]; omega)))) (de_of_dm (dm_sl (c_var c 8 (.s (.s (.s (.s (.s (.s (.s (.s (.z)))))))))) (do_some (c_var c 10 (.s (.s (.s (.s (.s (.s (.s (.s (.s (.s (.z))))))))))))) do_none)) (by /- 30 -/ first | trivial | omega | (simp only [rng_len]; omega) | (simp only [List.length_append, List.length_cons, List.length_nil]; omega) | decide | assumption | exact ⟨by rw [e_v_plain], by omega, hnear _ hm2⟩ | exact ⟨by rw [e_v_back], by omega, hnear _ hm2⟩ | (rw [e_v_near]; simp; done) | (rw [e_v_plain]; show v_handed.length ≤ _; rw [e_v_handed]; omega) | (rw [e_v_back]; show v_handed.length ≤ _; rw [e_v_handed]; omega) | (rw [e_v_handed]; exact okr) | (rw [e_v_handed]; omega)))) (dl_cons (de_of_dm (dm_cat (de_of_dm (dm_list (dl_cons (c_abs c (c_var c 2 (.s (.s (.z)))) b_abs) dl_nil))) (c_var c 8 (.s (.s (.s (.s (.s (.s (.s (.s (.z)))))))))) (by /- 31 -/ first | trivial | omega | (simp only [rng_len]; omega) | (simp only [List.length_append, List.length_cons, List.length_nil]; omega) | decide | assumption | exact ⟨by rw [e_v_plain], by omega, hnear _ hm2⟩ | exact ⟨by rw [e_v_back], by omega, hnear _ hm2⟩ | (rw [e_v_near]; simp; done) | (rw [e_v_plain]; show v_handed.length ≤ _; rw [e_v_handed]; omega) | (rw [e_v_back]; show v_handed.length ≤ _; rw [e_v_handed]; omega) | (rw [e_v_handed]; exact okr) | (rw [e_v_handed]; omega)))) (dl_cons (de_of_dm (dm_rev (c_var c 8 (.s (.s (.s (.s (.s (.s (.s (.s (.z)))))))))))) dl_nil))))))))) (fun _ => .s (.s (.s (.s (.s (.s (.s (.s (.s (.s (.s (.z)))))))))))) (fun v_near e_v_near =>
    (have hnear : ∀ z ∈ v_near ++ [v_other, v_one, []], z.length ≤ 100 := by
      intro z hz
      rw [e_v_near] at hz
      simp only [List.cons_append, List.nil_append, List.mem_cons, List.not_mem_nil, or_false] at hz
      rcases hz with rfl | rfl | rfl | rfl | rfl | rfl | rfl | rfl | rfl | rfl <;> first | omega | (simp only [List.length_append, List.length_cons, List.length_nil, List.length_reverse]; omega) | (simp; done)
    (sd_forR c.po c.calm (S := Unit) (fun s2 => [.val (rScr K) v_script, .val rInt y1, .val rInt v_cell, .val (rList rInt) v_ranks, .own (oList rInt) v_handed_1, .val rInt v_far, .val (rLv CL CB) v_plain, .val (rLv CL CB) v_back, .val (rList rInt) v_one, .val (rList rInt) v_other, .val rInt v_at, .val (rList (rList rInt)) v_near, .un, .un]) (fun _ _ => true) true () (di_list (de_of_dm (dm_cat (c_var c 11 (.s (.s (.s (.s (.s (.s (.s (.s (.s (.s (.s (.z))))))))))))) (de_of_dm (dm_list (dl_cons (c_var c 9 (.s (.s (.s (.s (.s (.s (.s (.s (.s (.z))))))))))) (dl_cons (c_var c 8 (.s (.s (.s (.s (.s (.s (.s (.s (.z)))))))))) (dl_cons (de_of_dm (dm_list dl_nil)) dl_nil))))) (by /- 32 -/ first | trivial | omega | (simp only [rng_len]; omega) | (simp only [List.length_append, List.length_cons, List.length_nil]; omega) | decide | assumption | exact ⟨by rw [e_v_plain], by omega, hnear _ hm2⟩ | exact ⟨by rw [e_v_back], by omega, hnear _ hm2⟩ | (rw [e_v_near]; simp; done) | (rw [e_v_plain]; show v_handed.length ≤ _; rw [e_v_handed]; omega) | (rw [e_v_back]; show v_handed.length ≤ _; rw [e_v_handed]; omega) | (rw [e_v_handed]; exact okr) | (rw [e_v_handed]; omega))))) (fun _ => (c_tname c 12)) (.k (.k (.k (.k (.k (.k (.k (.k (.k (.k (.k (.k (.k (.k .nil)))))))))))))) (by /- 36 -/ first | trivial | omega | (simp only [rng_len]; omega) | (simp only [List.length_append, List.length_cons, List.length_nil]; omega) | decide | assumption | exact ⟨by rw [e_v_plain], by omega, hnear _ hm2⟩ | exact ⟨by rw [e_v_back], by omega, hnear _ hm2⟩ | (rw [e_v_near]; simp; done) | (rw [e_v_plain]; show v_handed.length ≤ _; rw [e_v_handed]; omega) | (rw [e_v_back]; show v_handed.length ≤ _; rw [e_v_handed]; omega) | (rw [e_v_handed]; exact okr) | (rw [e_v_handed]; omega)) (fun _ => fun _ => .s (.s (.s (.s (.s (.s (.s (.s (.s (.s (.s (.s (.z))))))))))))) (fun _ y2 post2 s2 hm2 hq2 hs2 =>
      (sd_ifF (dw_pt (dw_or (dt_not (dt_val (c_callF4 c h__law_right (c_var c 6 (.s (.s (.s (.s (.s (.s (.z)))))))) (c_var c 8 (.s (.s (.s (.s (.s (.s (.s (.s (.z)))))))))) (c_var c 12 (.s (.s (.s (.s (.s (.s (.s (.s (.s (.s (.s (.s (.z)))))))))))))) de_bl (by /- 33 -/ first | trivial | omega | (simp only [rng_len]; omega) | (simp only [List.length_append, List.length_cons, List.length_nil]; omega) | decide | assumption | exact ⟨by rw [e_v_plain], by omega, hnear _ hm2⟩ | exact ⟨by rw [e_v_back], by omega, hnear _ hm2⟩ | (rw [e_v_near]; simp; done) | (rw [e_v_plain]; show v_handed.length ≤ _; rw [e_v_handed]; omega) | (rw [e_v_back]; show v_handed.length ≤ _; rw [e_v_handed]; omega) | (rw [e_v_handed]; exact okr) | (rw [e_v_handed]; omega))))) (fun h4 => (dw_or1 (dt_not (dt_val (c_callF4 c h__law_right (c_var c 7 (.s (.s (.s (.s (.s (.s (.s (.z))))))))) (c_var c 8 (.s (.s (.s (.s (.s (.s (.s (.s (.z)))))))))) (c_var c 12 (.s (.s (.s (.s (.s (.s (.s (.s (.s (.s (.s (.s (.z)))))))))))))) de_bl (by /- 34 -/ first | trivial | omega | (simp only [rng_len]; omega) | (simp only [List.length_append, List.length_cons, List.length_nil]; omega) | decide | assumption | exact ⟨by rw [e_v_plain], by omega, hnear _ hm2⟩ | exact ⟨by rw [e_v_back], by omega, hnear _ hm2⟩ | (rw [e_v_near]; simp; done) | (rw [e_v_plain]; show v_handed.length ≤ _; rw [e_v_handed]; omega) | (rw [e_v_back]; show v_handed.length ≤ _; rw [e_v_handed]; omega) | (rw [e_v_handed]; exact okr) | (rw [e_v_handed]; omega))))))))) (by /- if 3 -/ simp)
      (sd_turn (Γs := fun s2 => [.val (rScr K) v_script, .val rInt y1, .val rInt v_cell, .val (rList rInt) v_ranks, .own (oList rInt) v_handed_1, .val rInt v_far, .val (rLv CL CB) v_plain, .val (rLv CL CB) v_back, .val (rList rInt) v_one, .val (rList rInt) v_other, .val rInt v_at, .val (rList (rList rInt)) v_near, .un, .un]) (Φ := fun s2 => (fun _ _ => true) post2 s2 = true) () (.k (.k (.k (.k (.k (.k (.k (.k (.k (.k (.k (.k (.u (.k .nil)))))))))))))) (by /- 35 -/ first | trivial | omega | (simp only [rng_len]; omega) | (simp only [List.length_append, List.length_cons, List.length_nil]; omega) | decide | assumption | exact ⟨by rw [e_v_plain], by omega, hnear _ hm2⟩ | exact ⟨by rw [e_v_back], by omega, hnear _ hm2⟩ | (rw [e_v_near]; simp; done) | (rw [e_v_plain]; show v_handed.length ≤ _; rw [e_v_handed]; omega) | (rw [e_v_back]; show v_handed.length ≤ _; rw [e_v_handed]; omega) | (rw [e_v_handed]; exact okr) | (rw [e_v_handed]; omega)))))
    (fun s2 hs2 =>
    (sd_turn (Γs := fun s1 => [.val (rScr K) v_script, .un, .un, .un, .un, .un, .un, .un, .un, .un, .un, .un, .un, .un]) (Φ := fun s1 => (fun _ _ => true) post1 s1 = true) () (.k (.u (.u (.u (.u (.u (.u (.u (.u (.u (.u (.u (.k (.k .nil)))))))))))))) (by /- 37 -/ first | trivial | omega | (simp only [rng_len]; omega) | (simp only [List.length_append, List.length_cons, List.length_nil]; omega) | decide | assumption | exact ⟨by rw [e_v_plain], by omega, hnear _ hm2⟩ | exact ⟨by rw [e_v_back], by omega, hnear _ hm2⟩ | (rw [e_v_near]; simp; done) | (rw [e_v_plain]; show v_handed.length ≤ _; rw [e_v_handed]; omega) | (rw [e_v_back]; show v_handed.length ≤ _; rw [e_v_handed]; omega) | (rw [e_v_handed]; exact okr) | (rw [e_v_handed]; omega)))))))))))))))))) (by /- 38 -/ first | trivial | omega | (simp only [rng_len]; omega) | (simp only [List.length_append, List.length_cons, List.length_nil]; omega) | decide | assumption | exact ⟨by rw [e_v_plain], by omega, hnear _ hm2⟩ | exact ⟨by rw [e_v_back], by omega, hnear _ hm2⟩ | (rw [e_v_near]; simp; done) | (rw [e_v_plain]; show v_handed.length ≤ _; rw [e_v_handed]; omega) | (rw [e_v_back]; show v_handed.length ≤ _; rw [e_v_handed]; omega) | (rw [e_v_handed]; exact okr) | (rw [e_v_handed]; omega)))))) (by /- 39 -/ first | trivial | omega | (simp only [rng_len]; omega) | (simp only [List.length_append, List.length_cons, List.length_nil]; omega) | decide | assumption | exact ⟨by rw [e_v_plain], by omega, hnear _ hm2⟩ | exact ⟨by rw [e_v_back], by omega, hnear _ hm2⟩ | (rw [e_v_near]; simp; done) | (rw [e_v_plain]; show v_handed.length ≤ _; rw [e_v_handed]; omega) | (rw [e_v_back]; show v_handed.length ≤ _; rw [e_v_handed]; omega) | (rw [e_v_handed]; exact okr) | (rw [e_v_handed]; omega)))))))))))))))
  (fun s1 hs1 =>
  (sd_retC hD (de_and ((dc_eqI (c_methF3 c (h_Level_weigh _) (de_of_dn (c_makeN1 c (false, _) h_Level (de_of_dm (dm_list (dl_cons de_int dl_nil))) (by /- 41 -/ first | trivial | omega | (simp only [rng_len]; omega) | (simp only [List.length_append, List.length_cons, List.length_nil]; omega) | decide | assumption | exact ⟨by rw [e_v_plain], by omega, hnear _ hm2⟩ | exact ⟨by rw [e_v_back], by omega, hnear _ hm2⟩ | (rw [e_v_near]; simp; done) | (rw [e_v_plain]; show v_handed.length ≤ _; rw [e_v_handed]; omega) | (rw [e_v_back]; show v_handed.length ≤ _; rw [e_v_handed]; omega) | (rw [e_v_handed]; exact okr) | (rw [e_v_handed]; omega)))) (de_of_dm (dm_list (dl_cons de_int (dl_cons de_int dl_nil)))) (de_of_dm (dm_list (dl_cons de_int dl_nil))) (by /- 42 -/ first | trivial | omega | (simp only [rng_len]; omega) | (simp only [List.length_append, List.length_cons, List.length_nil]; omega) | decide | assumption | exact ⟨by rw [e_v_plain], by omega, hnear _ hm2⟩ | exact ⟨by rw [e_v_back], by omega, hnear _ hm2⟩ | (rw [e_v_near]; simp; done) | (rw [e_v_plain]; show v_handed.length ≤ _; rw [e_v_handed]; omega) | (rw [e_v_back]; show v_handed.length ≤ _; rw [e_v_handed]; omega) | (rw [e_v_handed]; exact okr) | (rw [e_v_handed]; omega))) de_int)).v (fun h5 => (de_one ((dc_eqI (c_methF3 c (h_Level_weigh _) (de_of_dn (c_makeN1 c (true, _) h_Backward (de_of_dm (dm_list (dl_cons de_int dl_nil))) (by /- 43 -/ first | trivial | omega | (simp only [rng_len]; omega) | (simp only [List.length_append, List.length_cons, List.length_nil]; omega) | decide | assumption | exact ⟨by rw [e_v_plain], by omega, hnear _ hm2⟩ | exact ⟨by rw [e_v_back], by omega, hnear _ hm2⟩ | (rw [e_v_near]; simp; done) | (rw [e_v_plain]; show v_handed.length ≤ _; rw [e_v_handed]; omega) | (rw [e_v_back]; show v_handed.length ≤ _; rw [e_v_handed]; omega) | (rw [e_v_handed]; exact okr) | (rw [e_v_handed]; omega)))) (de_of_dm (dm_list (dl_cons de_int (dl_cons de_int dl_nil)))) (de_of_dm (dm_list (dl_cons de_int dl_nil))) (by /- 44 -/ first | trivial | omega | (simp only [rng_len]; omega) | (simp only [List.length_append, List.length_cons, List.length_nil]; omega) | decide | assumption | exact ⟨by rw [e_v_plain], by omega, hnear _ hm2⟩ | exact ⟨by rw [e_v_back], by omega, hnear _ hm2⟩ | (rw [e_v_near]; simp; done) | (rw [e_v_plain]; show v_handed.length ≤ _; rw [e_v_handed]; omega) | (rw [e_v_back]; show v_handed.length ≤ _; rw [e_v_handed]; omega) | (rw [e_v_handed]; exact okr) | (rw [e_v_handed]; omega))) de_int)).v))) (by /- ret 1 -/ decide)))))
end
theorem all_mk {l : PySem.W.OpenLaw} {w : World} {K : PySem.W.Frag} {h : Heap} {mg : Str → Option Value} {fa CB CL : Addr} (X : K.In h) (G : h.Ns mainGlobals mg) (hfa : mg "law" = some (.ref fa))
    {f1 : Addr} {od1 an1 : Option Addr} {sl1 : Array (Option Value)} {oc1 kV1 dc1 pm1 cd1 ct1 : Value}
    {f2 : Addr} {od2 an2 : Option Addr} {sl2 : Array (Option Value)} {oc2 kV2 dc2 pm2 cd2 ct2 : Value}
    {f3 : Addr} {od3 an3 : Option Addr} {sl3 : Array (Option Value)} {oc3 kV3 dc3 pm3 cd3 ct3 : Value}
    {f4 : Addr} {od4 an4 : Option Addr} {sl4 : Array (Option Value)} {oc4 kV4 dc4 pm4 cd4 ct4 : Value}
    {f5 : Addr} {od5 an5 : Option Addr} {sl5 : Array (Option Value)} {oc5 kV5 dc5 pm5 cd5 ct5 : Value}
    {f6 : Addr} {od6 an6 : Option Addr} {sl6 : Array (Option Value)} {oc6 kV6 dc6 pm6 cd6 ct6 : Value}
    {f7 : Addr} {od7 an7 : Option Addr} {sl7 : Array (Option Value)} {oc7 kV7 dc7 pm7 cd7 ct7 : Value}
    {f8 : Addr} {od8 an8 : Option Addr} {sl8 : Array (Option Value)} {oc8 kV8 dc8 pm8 cd8 ct8 : Value}
    {f9 : Addr} {od9 an9 : Option Addr} {sl9 : Array (Option Value)} {oc9 kV9 dc9 pm9 cd9 ct9 : Value}
    {f10 : Addr} {od10 an10 : Option Addr} {sl10 : Array (Option Value)} {oc10 kV10 dc10 pm10 cd10 ct10 : Value}
    {f11 : Addr} {od11 an11 : Option Addr} {sl11 : Array (Option Value)} {oc11 kV11 dc11 pm11 cd11 ct11 : Value}
    {f12 : Addr} {od12 an12 : Option Addr} {sl12 : Array (Option Value)} {oc12 kV12 dc12 pm12 cd12 ct12 : Value}
    {f13 : Addr} {od13 an13 : Option Addr} {sl13 : Array (Option Value)} {oc13 kV13 dc13 pm13 cd13 ct13 : Value}
    {f14 : Addr} {od14 an14 : Option Addr} {sl14 : Array (Option Value)} {oc14 kV14 dc14 pm14 cd14 ct14 : Value}
    {tk_GREATEST : Tok}
    {tk_MOST_SIGNS : Tok}
    (aCL : PySem.W.nsIn K mainGlobals "Level" = some (some (.ref CL)))
    (pgCL : PySem.W.plainGet K CL Str.empty = true)
    (hdCL : PySem.W.hasDictIn K CL = true)
    (poCL : PySem.W.plainOver K CL = true)
    (saCL : PySem.W.findIn K (.ref CL) "__setattr__" = some (some (.builtin "object.__setattr__")))
    (haCL : PySem.W.findIn K (.ref CL) "__class__" = some (some (.builtin "object.__class__")))
    (hmCL : PySem.W.mroIn K CL (.type "object") = some true)
    (naCL_held : PySem.W.findIn K (.ref CL) "held" = some none)
    (aCB : PySem.W.nsIn K mainGlobals "Backward" = some (some (.ref CB)))
    (pgCB : PySem.W.plainGet K CB Str.empty = true)
    (hdCB : PySem.W.hasDictIn K CB = true)
    (poCB : PySem.W.plainOver K CB = true)
    (saCB : PySem.W.findIn K (.ref CB) "__setattr__" = some (some (.builtin "object.__setattr__")))
    (haCB : PySem.W.findIn K (.ref CB) "__class__" = some (some (.builtin "object.__class__")))
    (hmCB : PySem.W.mroIn K CB (.type "object") = some true)
    (naCB_held : PySem.W.findIn K (.ref CB) "held" = some none)
    (hnO : PySem.W.specialIn K (.builtin "object.__class__") "__get__" = some (some (.builtin "getset_descriptor.__get__")))
    (htO : PySem.W.takesIn K (.builtin "object.__class__") = some true)
    (isCB : PySem.W.isClsIn K CB = true)
    (tyCB : PySem.W.typeIn K (.ref CB) = some (.type "type"))
    (isCL : PySem.W.isClsIn K CL = true)
    (tyCL : PySem.W.typeIn K (.ref CL) = some (.type "type"))
    (subCL_CL : PySem.W.subIn K (.ref CL) (.ref CL) = some true)
    (subCL_CB : PySem.W.subIn K (.ref CL) (.ref CB) = some false)
    (subCB_CL : PySem.W.subIn K (.ref CB) (.ref CL) = some true)
    (subCB_CB : PySem.W.subIn K (.ref CB) (.ref CB) = some true)
    (a1 : PySem.W.nsIn K mainGlobals "within" = some (some (.ref f1)))
    (l1 : K.lookup f1 = some ⟨oc1, od1, .func (PySem.W.fnOf "within" "within" (defArgs s_within) (defBody s_within) (defScope s_within) .none kV1 dc1 pm1 an1 cd1 ct1), sl1⟩)
    (c1 : PySem.W.codeIn K cd1 "within" = true)
    (k1 : PySem.W.keepIn K (.ref f1) = true)
    (a2 : PySem.W.nsIn K mainGlobals "are_within" = some (some (.ref f2)))
    (l2 : K.lookup f2 = some ⟨oc2, od2, .func (PySem.W.fnOf "are_within" "are_within" (defArgs s_are_within) (defBody s_are_within) (defScope s_are_within) .none kV2 dc2 pm2 an2 cd2 ct2), sl2⟩)
    (c2 : PySem.W.codeIn K cd2 "are_within" = true)
    (k2 : PySem.W.keepIn K (.ref f2) = true)
    (a3 : PySem.W.nsIn K mainGlobals "weighed" = some (some (.ref f3)))
    (l3 : K.lookup f3 = some ⟨oc3, od3, .func (PySem.W.fnOf "weighed" "weighed" (defArgs s_weighed) (defBody s_weighed) (defScope s_weighed) .none kV3 dc3 pm3 an3 cd3 ct3), sl3⟩)
    (c3 : PySem.W.codeIn K cd3 "weighed" = true)
    (k3 : PySem.W.keepIn K (.ref f3) = true)
    (a4 : PySem.W.nsIn K mainGlobals "_law_cell_at" = some (some (.ref f4)))
    (l4 : K.lookup f4 = some ⟨oc4, od4, .func (PySem.W.fnOf "_law_cell_at" "_law_cell_at" (defArgs s__law_cell_at) (defBody s__law_cell_at) (defScope s__law_cell_at) .none kV4 dc4 pm4 an4 cd4 ct4), sl4⟩)
    (c4 : PySem.W.codeIn K cd4 "_law_cell_at" = true)
    (k4 : PySem.W.keepIn K (.ref f4) = true)
    (a5 : PySem.W.nsIn K mainGlobals "_law_draw" = some (some (.ref f5)))
    (l5 : K.lookup f5 = some ⟨oc5, od5, .func (PySem.W.fnOf "_law_draw" "_law_draw" (defArgs s__law_draw) (defBody s__law_draw) (defScope s__law_draw) .none kV5 dc5 pm5 an5 cd5 ct5), sl5⟩)
    (c5 : PySem.W.codeIn K cd5 "_law_draw" = true)
    (k5 : PySem.W.keepIn K (.ref f5) = true)
    (a6 : PySem.W.nsIn K mainGlobals "_law_number" = some (some (.ref f6)))
    (l6 : K.lookup f6 = some ⟨oc6, od6, .func (PySem.W.fnOf "_law_number" "_law_number" (defArgs s__law_number) (defBody s__law_number) (defScope s__law_number) .none kV6 dc6 pm6 an6 cd6 ct6), sl6⟩)
    (c6 : PySem.W.codeIn K cd6 "_law_number" = true)
    (k6 : PySem.W.keepIn K (.ref f6) = true)
    (a7 : PySem.W.nsIn K mainGlobals "_law_due" = some (some (.ref f7)))
    (l7 : K.lookup f7 = some ⟨oc7, od7, .func (PySem.W.fnOf "_law_due" "_law_due" (defArgs s__law_due) (defBody s__law_due) (defScope s__law_due) .none kV7 dc7 pm7 an7 cd7 ct7), sl7⟩)
    (c7 : PySem.W.codeIn K cd7 "_law_due" = true)
    (k7 : PySem.W.keepIn K (.ref f7) = true)
    (a8 : PySem.W.nsIn K mainGlobals "_law_right" = some (some (.ref f8)))
    (l8 : K.lookup f8 = some ⟨oc8, od8, .func (PySem.W.fnOf "_law_right" "_law_right" (defArgs s__law_right) (defBody s__law_right) (defScope s__law_right) .none kV8 dc8 pm8 an8 cd8 ct8), sl8⟩)
    (c8 : PySem.W.codeIn K cd8 "_law_right" = true)
    (k8 : PySem.W.keepIn K (.ref f8) = true)
    (a9 : PySem.W.nsIn K mainGlobals "law" = some (some (.ref f9)))
    (l9 : K.lookup f9 = some ⟨oc9, od9, .func (PySem.W.fnOf "law" "law" (defArgs s_law) (defBody s_law) (defScope s_law) .none kV9 dc9 pm9 an9 cd9 ct9), sl9⟩)
    (c9 : PySem.W.codeIn K cd9 "law" = true)
    (k9 : PySem.W.keepIn K (.ref f9) = true)
    (i10_CL : PySem.W.findIn K (.ref CL) "ranks" = some (some (.ref f10)))
    (g10 : PySem.W.isFn K (.ref f10) = true)
    (l10 : K.lookup f10 = some ⟨oc10, od10, .func (PySem.W.fnOf "ranks" "Level.ranks" (defArgs s_Level_ranks) (defBody s_Level_ranks) (defScope s_Level_ranks) .none kV10 dc10 pm10 an10 cd10 ct10), sl10⟩)
    (c10 : PySem.W.codeIn K cd10 "Level.ranks" = true)
    (k10 : PySem.W.keepIn K (.ref f10) = true)
    (i10_CB : PySem.W.findIn K (.ref CB) "ranks" = some (some (.ref f10)))
    (i11_CL : PySem.W.findIn K (.ref CL) "seen" = some (some (.ref f11)))
    (g11 : PySem.W.isFn K (.ref f11) = true)
    (l11 : K.lookup f11 = some ⟨oc11, od11, .func (PySem.W.fnOf "seen" "Level.seen" (defArgs s_Level_seen) (defBody s_Level_seen) (defScope s_Level_seen) .none kV11 dc11 pm11 an11 cd11 ct11), sl11⟩)
    (c11 : PySem.W.codeIn K cd11 "Level.seen" = true)
    (k11 : PySem.W.keepIn K (.ref f11) = true)
    (i12_CB : PySem.W.findIn K (.ref CB) "seen" = some (some (.ref f12)))
    (g12 : PySem.W.isFn K (.ref f12) = true)
    (l12 : K.lookup f12 = some ⟨oc12, od12, .func (PySem.W.fnOf "seen" "Backward.seen" (defArgs s_Backward_seen) (defBody s_Backward_seen) (defScope s_Backward_seen) .none kV12 dc12 pm12 an12 cd12 ct12), sl12⟩)
    (c12 : PySem.W.codeIn K cd12 "Backward.seen" = true)
    (k12 : PySem.W.keepIn K (.ref f12) = true)
    (i13_CL : PySem.W.findIn K (.ref CL) "weigh" = some (some (.ref f13)))
    (g13 : PySem.W.isFn K (.ref f13) = true)
    (l13 : K.lookup f13 = some ⟨oc13, od13, .func (PySem.W.fnOf "weigh" "Level.weigh" (defArgs s_Level_weigh) (defBody s_Level_weigh) (defScope s_Level_weigh) .none kV13 dc13 pm13 an13 cd13 ct13), sl13⟩)
    (c13 : PySem.W.codeIn K cd13 "Level.weigh" = true)
    (k13 : PySem.W.keepIn K (.ref f13) = true)
    (i13_CB : PySem.W.findIn K (.ref CB) "weigh" = some (some (.ref f13)))
    (i14_CL : PySem.W.findIn K (.ref CL) "__init__" = some (some (.ref f14)))
    (g14 : PySem.W.isFn K (.ref f14) = true)
    (l14 : K.lookup f14 = some ⟨oc14, od14, .func (PySem.W.fnOf "__init__" "Level.__init__" (defArgs s_Level___init__) (defBody s_Level___init__) (defScope s_Level___init__) .none kV14 dc14 pm14 an14 cd14 ct14), sl14⟩)
    (c14 : PySem.W.codeIn K cd14 "Level.__init__" = true)
    (k14 : PySem.W.keepIn K (.ref f14) = true)
    (mkCL : PySem.W.makesIn K CL = true)
    (kcCL : PySem.W.keepIn K (.ref CL) = true)
    (i14_CB : PySem.W.findIn K (.ref CB) "__init__" = some (some (.ref f14)))
    (mkCB : PySem.W.makesIn K CB = true)
    (kcCB : PySem.W.keepIn K (.ref CB) = true)
    (z_abs : PySem.W.nsIn K mainGlobals "abs" = some none)
    (z_all : PySem.W.nsIn K mainGlobals "all" = some none)
    (z_bool : PySem.W.nsIn K mainGlobals "bool" = some none)
    (z_int : PySem.W.nsIn K mainGlobals "int" = some none)
    (z_isinstance : PySem.W.nsIn K mainGlobals "isinstance" = some none)
    (z_len : PySem.W.nsIn K mainGlobals "len" = some none)
    (z_list : PySem.W.nsIn K mainGlobals "list" = some none)
    (z_range : PySem.W.nsIn K mainGlobals "range" = some none)
    (z_zip : PySem.W.nsIn K mainGlobals "zip" = some none)
    (v_GREATEST : PySem.W.nsIn K mainGlobals "GREATEST" = some (some (.int 99 tk_GREATEST)))
    (v_MOST_SIGNS : PySem.W.nsIn K mainGlobals "MOST_SIGNS" = some (some (.int 8 tk_MOST_SIGNS))) :
    ∃ fd : FuncData, (∀ (s : Shared) (v : Value), BindsTo s fd ⟨[v], []⟩ [("_law_script", v)]) ∧ ∀ base : Heap, K.In base → base.Ns mainGlobals mg → FnOk l.prog w K mg base CX0 5 fa fd ["_law_script"] (spLaw K) := by
  have e := hfa.symm.trans (PySem.W.mg_of X G a9)
  cases e
  have m_Level : mg "Level" = some (.ref CL) := PySem.W.mg_of X G aCL
  have cl_CL : Cls K CL := ⟨pgCL, hdCL, poCL, saCL⟩
  have ci_CL : ClsI K CL := ⟨cl_CL, haCL, hnO, htO, hmCL⟩
  have m_Backward : mg "Backward" = some (.ref CB) := PySem.W.mg_of X G aCB
  have cl_CB : Cls K CB := ⟨pgCB, hdCB, poCB, saCB⟩
  have ci_CB : ClsI K CB := ⟨cl_CB, haCB, hnO, htO, hmCB⟩
  have kitCL_CL : PySem.W.kitOne K (.ref CL) (.ref CL) = some true := kit_sub isCL tyCL subCL_CL subCL_CL
  have kitCL_CB : PySem.W.kitOne K (.ref CL) (.ref CB) = some false := kit_sub isCB tyCB subCL_CB subCL_CL
  have kitCB_CL : PySem.W.kitOne K (.ref CB) (.ref CL) = some true := kit_sub isCL tyCL subCB_CL subCB_CB
  have kitCB_CB : PySem.W.kitOne K (.ref CB) (.ref CB) = some true := kit_sub isCB tyCB subCB_CB subCB_CB
  have F1 := fun_mk (st := s_within) l1 c1 k1
  have B1 := F1.binds (ps := ["thing", "low", "high"]) fun _ _ _ _ _ _ us hl => match us, hl with | [_, _, _], _ => rfl
  have T_within : FT K mg "within" "within" s_within ["thing", "low", "high"] := ⟨_, _, F1, PySem.W.mg_of X G a1, B1⟩
  have F2 := fun_mk (st := s_are_within) l2 c2 k2
  have B2 := F2.binds (ps := ["thing", "low", "high"]) fun _ _ _ _ _ _ us hl => match us, hl with | [_, _, _], _ => rfl
  have T_are_within : FT K mg "are_within" "are_within" s_are_within ["thing", "low", "high"] := ⟨_, _, F2, PySem.W.mg_of X G a2, B2⟩
  have F3 := fun_mk (st := s_weighed) l3 c3 k3
  have B3 := F3.binds (ps := ["one", "other"]) fun _ _ _ _ _ _ us hl => match us, hl with | [_, _], _ => rfl
  have T_weighed : FT K mg "weighed" "weighed" s_weighed ["one", "other"] := ⟨_, _, F3, PySem.W.mg_of X G a3, B3⟩
  have F4 := fun_mk (st := s__law_cell_at) l4 c4 k4
  have B4 := F4.binds (ps := ["_law_script", "_law_k"]) fun _ _ _ _ _ _ us hl => match us, hl with | [_, _], _ => rfl
  have T__law_cell_at : FT K mg "_law_cell_at" "_law_cell_at" s__law_cell_at ["_law_script", "_law_k"] := ⟨_, _, F4, PySem.W.mg_of X G a4, B4⟩
  have F5 := fun_mk (st := s__law_draw) l5 c5 k5
  have B5 := F5.binds (ps := ["_law_cell", "_law_k", "_law_most"]) fun _ _ _ _ _ _ us hl => match us, hl with | [_, _, _], _ => rfl
  have T__law_draw : FT K mg "_law_draw" "_law_draw" s__law_draw ["_law_cell", "_law_k", "_law_most"] := ⟨_, _, F5, PySem.W.mg_of X G a5, B5⟩
  have F6 := fun_mk (st := s__law_number) l6 c6 k6
  have B6 := F6.binds (ps := ["_law_cell", "_law_k", "_law_limit"]) fun _ _ _ _ _ _ us hl => match us, hl with | [_, _, _], _ => rfl
  have T__law_number : FT K mg "_law_number" "_law_number" s__law_number ["_law_cell", "_law_k", "_law_limit"] := ⟨_, _, F6, PySem.W.mg_of X G a6, B6⟩
  have F7 := fun_mk (st := s__law_due) l7 c7 k7
  have B7 := F7.binds (ps := ["_law_one", "_law_other", "_law_back"]) fun _ _ _ _ _ _ us hl => match us, hl with | [_, _, _], _ => rfl
  have T__law_due : FT K mg "_law_due" "_law_due" s__law_due ["_law_one", "_law_other", "_law_back"] := ⟨_, _, F7, PySem.W.mg_of X G a7, B7⟩
  have F8 := fun_mk (st := s__law_right) l8 c8 k8
  have B8 := F8.binds (ps := ["_law_level", "_law_one", "_law_other", "_law_back"]) fun _ _ _ _ _ _ us hl => match us, hl with | [_, _, _, _], _ => rfl
  have T__law_right : FT K mg "_law_right" "_law_right" s__law_right ["_law_level", "_law_one", "_law_other", "_law_back"] := ⟨_, _, F8, PySem.W.mg_of X G a8, B8⟩
  have F9 := fun_mk (st := s_law) l9 c9 k9
  have B9 := F9.binds (ps := ["_law_script"]) fun _ _ _ _ _ _ us hl => match us, hl with | [_], _ => rfl
  have T_law : FT K mg "law" "law" s_law ["_law_script"] := ⟨_, _, F9, PySem.W.mg_of X G a9, B9⟩
  have F10 := fun_mk (st := s_Level_ranks) l10 c10 k10
  have B10 := F10.binds (ps := ["self"]) fun _ _ _ _ _ _ us hl => match us, hl with | [_], _ => rfl
  have T_CL_ranks : FTm K "ranks" "Level.ranks" CL s_Level_ranks ["self"] := ⟨_, _, F10, ⟨i10_CL, g10, k10⟩, B10, cl_CL⟩
  have T_CB_ranks : FTm K "ranks" "Level.ranks" CB s_Level_ranks ["self"] := ⟨_, _, F10, ⟨i10_CB, g10, k10⟩, B10, cl_CB⟩
  have F11 := fun_mk (st := s_Level_seen) l11 c11 k11
  have B11 := F11.binds (ps := ["self", "row"]) fun _ _ _ _ _ _ us hl => match us, hl with | [_, _], _ => rfl
  have T_CL_seen : FTm K "seen" "Level.seen" CL s_Level_seen ["self", "row"] := ⟨_, _, F11, ⟨i11_CL, g11, k11⟩, B11, cl_CL⟩
  have F12 := fun_mk (st := s_Backward_seen) l12 c12 k12
  have B12 := F12.binds (ps := ["self", "row"]) fun _ _ _ _ _ _ us hl => match us, hl with | [_, _], _ => rfl
  have T_CB_seen : FTm K "seen" "Backward.seen" CB s_Backward_seen ["self", "row"] := ⟨_, _, F12, ⟨i12_CB, g12, k12⟩, B12, cl_CB⟩
  have F13 := fun_mk (st := s_Level_weigh) l13 c13 k13
  have B13 := F13.binds (ps := ["self", "one", "other"]) fun _ _ _ _ _ _ us hl => match us, hl with | [_, _, _], _ => rfl
  have T_CL_weigh : FTm K "weigh" "Level.weigh" CL s_Level_weigh ["self", "one", "other"] := ⟨_, _, F13, ⟨i13_CL, g13, k13⟩, B13, cl_CL⟩
  have T_CB_weigh : FTm K "weigh" "Level.weigh" CB s_Level_weigh ["self", "one", "other"] := ⟨_, _, F13, ⟨i13_CB, g13, k13⟩, B13, cl_CB⟩
  have F14 := fun_mk (st := s_Level___init__) l14 c14 k14
  have B14 := F14.binds (ps := ["self", "ranks"]) fun _ _ _ _ _ _ us hl => match us, hl with | [_, _], _ => rfl
  have T_Level_init : FTk K mg "Level" "Level.__init__" CL s_Level___init__ ["self", "ranks"] := ⟨_, _, F14, m_Level, ⟨mkCL, i14_CL, g14, kcCL⟩, B14⟩
  have T_Backward_init : FTk K mg "Backward" "Level.__init__" CB s_Level___init__ ["self", "ranks"] := ⟨_, _, F14, m_Backward, ⟨mkCB, i14_CB, g14, kcCB⟩, B14⟩
  have b_abs : mg "abs" = none := PySem.W.mg_none_of X G z_abs
  have b_all : mg "all" = none := PySem.W.mg_none_of X G z_all
  have b_bool : mg "bool" = none := PySem.W.mg_none_of X G z_bool
  have b_int : mg "int" = none := PySem.W.mg_none_of X G z_int
  have b_isinstance : mg "isinstance" = none := PySem.W.mg_none_of X G z_isinstance
  have b_len : mg "len" = none := PySem.W.mg_none_of X G z_len
  have b_list : mg "list" = none := PySem.W.mg_none_of X G z_list
  have b_range : mg "range" = none := PySem.W.mg_none_of X G z_range
  have b_zip : mg "zip" = none := PySem.W.mg_none_of X G z_zip
  have m_GREATEST : ∃ t, mg "GREATEST" = some (.int 99 t) := ⟨_, PySem.W.mg_of X G v_GREATEST⟩
  have m_MOST_SIGNS : ∃ t, mg "MOST_SIGNS" = some (.int 8 t) := ⟨_, PySem.W.mg_of X G v_MOST_SIGNS⟩
  refine ⟨PySem.W.fnOf "law" "law" (defArgs s_law) (defBody s_law) (defScope s_law) .none kV9 dc9 pm9 an9 cd9 ct9, fun s v => .of_eq rfl, fun base _ _ => ?_⟩
  have TL : TLev K mg CL CB := ⟨fun o => match o with | (false, _) => ci_CL | (true, _) => ci_CB, fun o => match o with | (false, _) => cl_CL | (true, _) => cl_CB, fun o => match o with | (false, _) => naCL_held | (true, _) => naCB_held,
      fun o => match o with | (false, _) => kitCL_CL | (true, _) => kitCB_CL, fun o => match o with | (false, _) => kitCL_CB | (true, _) => kitCB_CB⟩
  have h_within : P_within l.prog w K mg base := ok_within b_bool b_int b_isinstance T_within
  have h_are_within : P_are_within l.prog w K mg base := ok_are_within h_within b_all b_isinstance b_list T_are_within
  have h_weighed : P_weighed l.prog w K mg base := ok_weighed b_int T_weighed
  have h__law_cell_at : P__law_cell_at l.prog w K mg base := ok__law_cell_at b_len T__law_cell_at
  have h__law_draw : P__law_draw l.prog w K mg base := ok__law_draw  T__law_draw
  have h__law_number : P__law_number l.prog w K mg base := ok__law_number h__law_draw b_range T__law_number
  have h__law_due : P__law_due l.prog w K mg base := ok__law_due b_int b_len b_zip T__law_due
  have h_Level : I_Level l.prog w K mg base CL CB := ok_Level_init h_are_within b_len b_list m_GREATEST m_MOST_SIGNS cl_CL naCL_held T_Level_init
  have h_Backward : I_Backward l.prog w K mg base CL CB := ok_Backward_init h_are_within b_len b_list m_GREATEST m_MOST_SIGNS cl_CB naCB_held T_Backward_init
  have h_Level_ranks : M_Level_ranks l.prog w K mg base CL CB := fun o => ok_Level_ranks o b_list TL (match o with | (false, _) => T_CL_ranks | (true, _) => T_CB_ranks)
  have h_Level_seen : M_Level_seen l.prog w K mg base CL CB := all_seen (ok_Level_seen  T_CL_seen) (ok_Backward_seen  T_CB_seen)
  have h_Level_weigh : M_Level_weigh l.prog w K mg base CL CB := fun o => ok_Level_weigh o h_Level_seen h_weighed (match o with | (false, _) => T_CL_weigh | (true, _) => T_CB_weigh)
  have h__law_right : P__law_right l.prog w K mg base CL CB := ok__law_right h_Level_weigh h__law_due b_bool b_int b_isinstance b_list T__law_right
  have h_law : P_law l.prog w K mg base CL CB := ok_law h_Backward h_Level h_Level_ranks h_Level_weigh h__law_cell_at h__law_number h__law_right b_abs b_isinstance b_len b_list b_range TL m_Level m_Backward T_law
  exact law_is hfa l9 h_law
theorem walk {l : PySem.W.OpenLaw} {q : Program} {loose : List Str} {XP : (Str → Option Value) → Heap → Prop} {YP : World → Heap → Prop} {d : DefRec} {K : Params → PySem.W.Frag} (hn : l.most = some 63) (hdf : d.params.defaults = [])
    (hY : ∀ (w : World) (h : Heap), YP w h → (K w.params).In h)
    (F : ∀ (w : World) (mg : Str → Option Value) (fa : Addr) (h : Heap), (K w.params).In h → h.Ns mainGlobals mg → mg d.name = some (.ref fa) →
      ∃ fd : FuncData, (∀ (s : Shared) (u : Value), BindsTo s fd ⟨[u], []⟩ [("_law_script", u)]) ∧ ∀ base : Heap, (K w.params).In base → base.Ns mainGlobals mg → FnOk l.prog w (K w.params) mg base CX0 5 fa fd ["_law_script"] (spLaw (K w.params))) :
    PySem.W.WalkO q loose XP YP l.row.toRowW d [] (fun f vs => PySem.call f vs) :=
  L2.walk_of (n := 63) (k := 5) (x := "_law_script") (CX := fun _ => CX0) (sp := fun w => spLaw (K w.params)) hn (by decide) hdf ⟨rfl, by decide, by decide⟩ hY F (fun _ _ a ns hl _ hS => ⟨a, ns, rfl, hS, hl, fun _ => rfl⟩) fun _ _ _ _ _ z => z
end Law
open PySem PySem.W PyProof.Rows
set_option maxRecDepth 100000 in
set_option maxHeartbeats 0 in
theorem PySem.Challenge.cw_filedcards_k01_levels_holds : PySem.Challenge.rw_filedcards_k01_levels.Holds := by
  w_on; o_law; k_head; (case hw => w_witness2)
  k_fill
  refine Law.walk (l := PySem.Challenge.rw_filedcards_k01_levels) rfl rfl (fun w h Y => PySem.W.kIn_of Y) ?F
  case F =>
    intro w mg fa h KX G hmg
    refine' Law.all_mk KX G hmg ?aCL ?pgCL ?hdCL ?poCL ?saCL ?haCL ?hmCL ?naCL_held ?aCB ?pgCB ?hdCB ?poCB ?saCB ?haCB ?hmCB ?naCB_held ?hnO ?htO ?isCB ?tyCB ?isCL ?tyCL ?subCL_CL ?subCL_CB ?subCB_CL ?subCB_CB ?a1 ?l1 ?c1 ?k1 ?a2 ?l2 ?c2 ?k2 ?a3 ?l3 ?c3 ?k3 ?a4 ?l4 ?c4 ?k4 ?a5 ?l5 ?c5 ?k5 ?a6 ?l6 ?c6 ?k6 ?a7 ?l7 ?c7 ?k7 ?a8 ?l8 ?c8 ?k8 ?a9 ?l9 ?c9 ?k9 ?i10_CL ?g10 ?l10 ?c10 ?k10 ?i10_CB ?i11_CL ?g11 ?l11 ?c11 ?k11 ?i12_CB ?g12 ?l12 ?c12 ?k12 ?i13_CL ?g13 ?l13 ?c13 ?k13 ?i13_CB ?i14_CL ?g14 ?l14 ?c14 ?k14 ?mkCL ?kcCL ?i14_CB ?mkCB ?kcCB ?z_abs ?z_all ?z_bool ?z_int ?z_isinstance ?z_len ?z_list ?z_range ?z_zip ?v_GREATEST ?v_MOST_SIGNS
    (case aCL => k_is)
    (case pgCL => k_is)
    (case hdCL => k_is)
    (case poCL => k_is)
    (case saCL => k_is)
    (case haCL => k_is)
    (case hmCL => k_is)
    (case naCL_held => k_is)
    (case aCB => k_is)
    (case pgCB => k_is)
    (case hdCB => k_is)
    (case poCB => k_is)
    (case saCB => k_is)
    (case haCB => k_is)
    (case hmCB => k_is)
    (case naCB_held => k_is)
    (case hnO => k_is)
    (case htO => k_is)
    (case isCB => k_is)
    (case tyCB => k_is)
    (case isCL => k_is)
    (case tyCL => k_is)
    (case subCL_CL => k_is)
    (case subCL_CB => k_is)
    (case subCB_CL => k_is)
    (case subCB_CB => k_is)
    (case a1 => k_is)
    (case l1 => k_is)
    (case c1 => k_is)
    (case k1 => k_is)
    (case a2 => k_is)
    (case l2 => k_is)
    (case c2 => k_is)
    (case k2 => k_is)
    (case a3 => k_is)
    (case l3 => k_is)
    (case c3 => k_is)
    (case k3 => k_is)
    (case a4 => k_is)
    (case l4 => k_is)
    (case c4 => k_is)
    (case k4 => k_is)
    (case a5 => k_is)
    (case l5 => k_is)
    (case c5 => k_is)
    (case k5 => k_is)
    (case a6 => k_is)
    (case l6 => k_is)
    (case c6 => k_is)
    (case k6 => k_is)
    (case a7 => k_is)
    (case l7 => k_is)
    (case c7 => k_is)
    (case k7 => k_is)
    (case a8 => k_is)
    (case l8 => k_is)
    (case c8 => k_is)
    (case k8 => k_is)
    (case a9 => k_is)
    (case l9 => k_is)
    (case c9 => k_is)
    (case k9 => k_is)
    (case i10_CL => k_is)
    (case g10 => k_is)
    (case l10 => k_is)
    (case c10 => k_is)
    (case k10 => k_is)
    (case i10_CB => k_is)
    (case i11_CL => k_is)
    (case g11 => k_is)
    (case l11 => k_is)
    (case c11 => k_is)
    (case k11 => k_is)
    (case i12_CB => k_is)
    (case g12 => k_is)
    (case l12 => k_is)
    (case c12 => k_is)
    (case k12 => k_is)
    (case i13_CL => k_is)
    (case g13 => k_is)
    (case l13 => k_is)
    (case c13 => k_is)
    (case k13 => k_is)
    (case i13_CB => k_is)
    (case i14_CL => k_is)
    (case g14 => k_is)
    (case l14 => k_is)
    (case c14 => k_is)
    (case k14 => k_is)
    (case mkCL => k_is)
    (case kcCL => k_is)
    (case i14_CB => k_is)
    (case mkCB => k_is)
    (case kcCB => k_is)
    (case z_abs => k_is)
    (case z_all => k_is)
    (case z_bool => k_is)
    (case z_int => k_is)
    (case z_isinstance => k_is)
    (case z_len => k_is)
    (case z_list => k_is)
    (case z_range => k_is)
    (case z_zip => k_is)
    (case v_GREATEST => k_is)
    (case v_MOST_SIGNS => k_is)

