import PyProof.Rows.All
import Wide.All
import OpenK.AllK
import Wide.FinOn
import HandS.ForMost
import HandS.Walk
import HandS.Style
import HandS.IsInst
import HandS.More
import KE.DataCmp
import HandS.TupLe
import HandS.Strs
import HandS.Replace
import HandS.Codes
import KE.GoesMore
import KE.GoesEnum
import KE.GoesZip
import PySem.Challenge.RW_filedcards_k02_whole_weighed
set_option Elab.async false
set_option linter.all false
set_option maxRecDepth 100000
set_option maxHeartbeats 2000000
namespace DL
open PySem L2

/-! ### representations -/
structure Rp (α : Type) where
  rel : Hp → V → α → Prop
  mono : ∀ {F F' : Hp} {v : V} {a : α}, Same F F' → rel F v a → rel F' v a
def rInt : Rp Int := ⟨fun _ v a => v = .int a, fun _ h => h⟩
def rBool : Rp Bool := ⟨fun _ v a => v = .bl a, fun _ h => h⟩
abbrev Txt := List Nat
def tx (l : Txt) : Str := ⟨l.toArray⟩
def okT (a : Txt) : Bool := a.all fun c => decide (c < 1114112)
def rTxt : Rp Txt := ⟨fun _ v a => v = .str (tx a) ∧ okT a = true, fun _ h => h⟩
def rNon : Rp Unit := ⟨fun _ v _ => v = .non, fun _ h => h⟩
/-- row by row -/
def Rl {α : Type} (R : V → α → Prop) : List V → List α → Prop
  | [], [] => True
  | v :: vs, a :: as => R v a ∧ Rl R vs as
  | _, _ => False
theorem Rl.imp {α : Type} {R S : V → α → Prop} (h : ∀ v a, R v a → S v a) : ∀ {vs : List V} {as : List α}, Rl R vs as → Rl S vs as
  | [], [], _ => trivial
  | v :: vs, a :: as, x => ⟨h _ _ x.1, Rl.imp h x.2⟩
  | [], _ :: _, x => x.elim
  | _ :: _, [], x => x.elim
theorem Rl.length {α : Type} {R : V → α → Prop} : ∀ {vs : List V} {as : List α}, Rl R vs as → vs.length = as.length
  | [], [], _ => rfl
  | v :: vs, a :: as, x => by simp [Rl.length x.2]
  | [], _ :: _, x => x.elim
  | _ :: _, [], x => x.elim
theorem Rl.get {α : Type} {R : V → α → Prop} : ∀ {vs : List V} {as : List α} {i : Nat} {a : α}, Rl R vs as → as[i]? = some a → ∃ v, vs[i]? = some v ∧ R v a
  | [], [], _, _, _, h => by simp at h
  | v :: vs, a :: as, 0, b, x, h => by
    have e : a = b := by simpa using h
    subst e
    exact ⟨v, rfl, x.1⟩
  | v :: vs, a :: as, i + 1, b, x, h => by
    obtain ⟨w, h1, h2⟩ := Rl.get (i := i) (a := b) x.2 (by simpa using h)
    exact ⟨w, by simpa using h1, h2⟩
  | [], _ :: _, _, _, x, _ => x.elim
  | _ :: _, [], _, _, x, _ => x.elim
theorem Rl.getV {α : Type} {R : V → α → Prop} : ∀ {vs : List V} {as : List α} {i : Nat} {v : V}, Rl R vs as → vs[i]? = some v → ∃ a, as[i]? = some a ∧ R v a
  | [], [], _, _, _, h => by simp at h
  | v :: vs, a :: as, 0, b, x, h => by
    have e : v = b := by simpa using h
    subst e
    exact ⟨a, rfl, x.1⟩
  | v :: vs, a :: as, i + 1, b, x, h => by
    obtain ⟨w, h1, h2⟩ := Rl.getV (i := i) (v := b) x.2 (by simpa using h)
    exact ⟨w, by simpa using h1, h2⟩
  | [], _ :: _, _, _, x, _ => x.elim
  | _ :: _, [], _, _, x, _ => x.elim
theorem Rl.append {α : Type} {R : V → α → Prop} : ∀ {vs ws : List V} {as bs : List α}, Rl R vs as → Rl R ws bs → Rl R (vs ++ ws) (as ++ bs)
  | [], ws, [], bs, _, y => y
  | v :: vs, ws, a :: as, bs, x, y => ⟨x.1, Rl.append x.2 y⟩
  | [], _, _ :: _, _, x, _ => x.elim
  | _ :: _, _, [], _, x, _ => x.elim
theorem Rl.one {α : Type} {R : V → α → Prop} {v : V} {a : α} (h : R v a) : Rl R [v] [a] := ⟨h, trivial⟩
theorem Rl.take {α : Type} {R : V → α → Prop} : ∀ {vs : List V} {as : List α} (n : Nat), Rl R vs as → Rl R (vs.take n) (as.take n)
  | _, _, 0, _ => trivial
  | [], [], _ + 1, _ => trivial
  | v :: vs, a :: as, n + 1, x => ⟨x.1, Rl.take n x.2⟩
  | [], _ :: _, _ + 1, x => x.elim
  | _ :: _, [], _ + 1, x => x.elim
theorem Rl.drop {α : Type} {R : V → α → Prop} : ∀ {vs : List V} {as : List α} (n : Nat), Rl R vs as → Rl R (vs.drop n) (as.drop n)
  | _, _, 0, x => x
  | [], [], _ + 1, _ => trivial
  | v :: vs, a :: as, n + 1, x => Rl.drop n x.2
  | [], _ :: _, _ + 1, x => x.elim
  | _ :: _, [], _ + 1, x => x.elim
theorem Rl.set {α : Type} {R : V → α → Prop} {v : V} {a : α} (h : R v a) : ∀ {vs : List V} {as : List α} (n : Nat), Rl R vs as → Rl R (vs.set n v) (as.set n a)
  | [], [], _, _ => trivial
  | _ :: vs, _ :: as, 0, x => ⟨h, x.2⟩
  | _ :: vs, _ :: as, n + 1, x => ⟨x.1, Rl.set h n x.2⟩
  | [], _ :: _, _, x => x.elim
  | _ :: _, [], _, x => x.elim
theorem Rl.reverse {α : Type} {R : V → α → Prop} : ∀ {vs : List V} {as : List α}, Rl R vs as → Rl R vs.reverse as.reverse
  | [], [], _ => trivial
  | v :: vs, a :: as, x => by rw [List.reverse_cons, List.reverse_cons]; exact Rl.append (Rl.reverse x.2) (Rl.one x.1)
  | [], _ :: _, x => x.elim
  | _ :: _, [], x => x.elim
theorem Rl.map_eq {α : Type} {f : α → V} {R : V → α → Prop} (h : ∀ v a, R v a → v = f a) : ∀ {vs : List V} {as : List α}, Rl R vs as → vs = as.map f
  | [], [], _ => rfl
  | v :: vs, a :: as, x => by rw [h _ _ x.1, Rl.map_eq h x.2]; rfl
  | [], _ :: _, x => x.elim
  | _ :: _, [], x => x.elim
theorem Rl.of_map {α : Type} {f : α → V} {R : V → α → Prop} (h : ∀ a, R (f a) a) : ∀ (as : List α), Rl R (as.map f) as
  | [] => trivial
  | a :: as => ⟨h a, Rl.of_map h as⟩

section
variable {α β γ : Type}
def rList (r : Rp α) : Rp (List α) := ⟨fun F v as => ∃ p vs, v = .ref p ∧ F p = some (.lst vs) ∧ Rl (r.rel F) vs as,
  fun e ⟨p, vs, h1, h2, h3⟩ => ⟨p, vs, h1, e _ _ h2, Rl.imp (fun _ _ => r.mono e) h3⟩⟩
/-- a tuple of things of one kind -/
def rTup (r : Rp α) : Rp (List α) := ⟨fun F v as => ∃ p vs, v = .ref p ∧ F p = some (.tup vs) ∧ Rl (r.rel F) vs as,
  fun e ⟨p, vs, h1, h2, h3⟩ => ⟨p, vs, h1, e _ _ h2, Rl.imp (fun _ _ => r.mono e) h3⟩⟩
def rPair (r : Rp α) (s : Rp β) : Rp (α × β) := ⟨fun F v a => ∃ p x y, v = .ref p ∧ F p = some (.tup [x, y]) ∧ r.rel F x a.1 ∧ s.rel F y a.2,
  fun e ⟨p, x, y, h1, h2, h3, h4⟩ => ⟨p, x, y, h1, e _ _ h2, r.mono e h3, s.mono e h4⟩⟩
def rTri (r : Rp α) (s : Rp β) (t : Rp γ) : Rp (α × β × γ) := ⟨fun F v a => ∃ p x y z, v = .ref p ∧ F p = some (.tup [x, y, z]) ∧ r.rel F x a.1 ∧ s.rel F y a.2.1 ∧ t.rel F z a.2.2,
  fun e ⟨p, x, y, z, h1, h2, h3, h4, h5⟩ => ⟨p, x, y, z, h1, e _ _ h2, r.mono e h3, s.mono e h4, t.mono e h5⟩⟩
/-- the script: a list that is known -/
def rScr (K : PySem.W.Frag) : Rp (List Int) := ⟨fun F v as => ∃ p, v = .ref p ∧ SqL K F p (as.map V.int), fun e ⟨p, h1, h2⟩ => ⟨p, h1, e.seq h2⟩⟩
end
/-- None, or .. -/
def rOpt {α : Type} (r : Rp α) : Rp (Option α) := ⟨fun F v a => match a with | none => v = .non | some x => r.rel F v x ∧ v ≠ .non,
  fun {F F' v a} e h => match a, h with | none, h => h | some x, h => ⟨r.mono e h.1, h.2⟩⟩

/-! ### worlds: F what stands still, H all -/
structure Ext (F H F' H' : Hp) : Prop where
  f : Same F F'
  h : Same H H'
  i : Same F' H'
  d : ∀ b, F b = none → H b ≠ none → F' b = none
theorem Ext.refl {F H : Hp} (s : Same F H) : Ext F H F H := ⟨Same.refl F, Same.refl H, s, fun _ h _ => h⟩
theorem Ext.trans {F H F1 H1 F2 H2 : Hp} (a : Ext F H F1 H1) (b : Ext F1 H1 F2 H2) : Ext F H F2 H2 :=
  ⟨a.f.trans b.f, a.h.trans b.h, b.i, fun c hf hh => b.d c (a.d c hf hh) (by
    cases q : H c with
    | none => exact absurd q hh
    | some o => rw [a.h c o q]; intro z; cases z)⟩
/-- a new object that stands still -/
theorem Ext.new {F H : Hp} (s : Same F H) {p : Addr} (o : HO) (hp : H p = none) : Ext F H (upd F p o) (upd H p o) := by
  refine ⟨fun b u e => ?_, fun b u e => ?_, fun b u e => ?_, fun b hf hh => ?_⟩
  · rw [upd_ne (ne_of_none e (s.free hp))]; exact e
  · rw [upd_ne (ne_of_none e hp)]; exact e
  · by_cases hb : b = p
    · subst hb; rw [upd_same] at e ⊢; exact e
    · rw [upd_ne hb] at e ⊢; exact s b u e
  · have hb : b ≠ p := fun z => hh (by rw [z]; exact hp)
    rw [upd_ne hb]; exact hf
/-- a new object that may change -/
theorem Ext.newH {F H : Hp} (s : Same F H) {p : Addr} (o : HO) (hp : H p = none) : Ext F H F (upd H p o) := by
  refine ⟨Same.refl F, fun b u e => ?_, fun b u e => ?_, fun b hf _ => hf⟩
  · rw [upd_ne (ne_of_none e hp)]; exact e
  · rw [upd_ne (ne_of_none (s b u e) hp)]; exact s b u e

/-! ### slots -/
/-- a thing of one's own: by F, H, the value, the data, the addresses that are one's own -/
structure Own (α : Type) where
  rel : Hp → Hp → V → α → (Addr → Prop) → Prop
  mono : ∀ {F F' H H' : Hp} {v : V} {a : α} {fp : Addr → Prop}, Same F F' → (∀ b, fp b → H' b = H b) → rel F H v a fp → rel F' H' v a fp
inductive Sl : Type 1 where
  | un
  | val {α : Type} (r : Rp α) (a : α)
  | own {α : Type} (o : Own α) (a : α)
/-- the ways a def began with -/
structure Bs where
  F : Hp
  H : Hp
  L : Hp
/-- with another least F -/
abbrev Bs.lo (B : Bs) (L : Hp) : Bs := ⟨B.F, B.H, L⟩
def slotOk (B : Bs) (F H : Hp) : Sl → Option (Option V) → (Addr → Prop) → Prop
  | .un, _, fp => ∀ b, ¬ fp b
  | .val r a, x, fp => (∀ b, ¬ fp b) ∧ ∃ v, x = some (some v) ∧ r.rel F v a
  | .own o a, x, fp => (∃ v, x = some (some v) ∧ o.rel F H v a fp) ∧ ∀ b, fp b → F b = none ∧ H b ≠ none ∧ B.H b = none
abbrev Ctx := List Sl
structure EnvF (B : Bs) (Γ : Ctx) (σ : St) (F H : Hp) (fp : Nat → Addr → Prop) : Prop where
  len : σ.length = Γ.length
  base : Ext B.F B.H F H
  same : Same F H
  low : Same B.L F
  ok : ∀ (i : Nat) (s : Sl), Γ[i]? = some s → slotOk B F H s σ[i]? (fp i)
  out : ∀ i : Nat, Γ[i]? = none → ∀ b, ¬ fp i b
  apart : ∀ i j : Nat, i ≠ j → ∀ b, fp i b → ¬ fp j b
def Env (B : Bs) (Γ : Ctx) (σ : St) (F H : Hp) : Prop := ∃ fp, EnvF B Γ σ F H fp
theorem slotOk.ext {B : Bs} {F H F' H' : Hp} {s : Sl} {x : Option (Option V)} {fp : Addr → Prop} (e : Ext F H F' H') (h : slotOk B F H s x fp) : slotOk B F' H' s x fp := by
  cases s with
  | un => exact h
  | val r a =>
    obtain ⟨h0, v, h1, h2⟩ := h
    exact ⟨h0, v, h1, r.mono e.f h2⟩
  | own o a =>
    obtain ⟨⟨v, h1, h2⟩, h3⟩ := h
    have hk : ∀ b, fp b → H' b = H b := fun b hb => by
      cases q : H b with
      | none => exact absurd q (h3 b hb).2.1
      | some u => exact e.h b u q
    refine ⟨⟨v, h1, o.mono e.f hk h2⟩, fun b hb => ⟨e.d b (h3 b hb).1 (h3 b hb).2.1, ?_, (h3 b hb).2.2⟩⟩
    rw [hk b hb]; exact (h3 b hb).2.1
theorem EnvF.ext {B : Bs} {Γ : Ctx} {σ : St} {F H F' H' : Hp} {fp : Nat → Addr → Prop} (h : EnvF B Γ σ F H fp) (e : Ext F H F' H') : EnvF B Γ σ F' H' fp :=
  ⟨h.len, h.base.trans e, e.i, h.low.trans e.f, fun i s hs => (h.ok i s hs).ext e, h.out, h.apart⟩
theorem Env.ext {B : Bs} {Γ : Ctx} {σ : St} {F H F' H' : Hp} (h : Env B Γ σ F H) (e : Ext F H F' H') : Env B Γ σ F' H' := let ⟨fp, x⟩ := h; ⟨fp, x.ext e⟩
theorem Env.same {B : Bs} {Γ : Ctx} {σ : St} {F H : Hp} (h : Env B Γ σ F H) : Same F H := let ⟨_, x⟩ := h; x.same
theorem Env.base {B : Bs} {Γ : Ctx} {σ : St} {F H : Hp} (h : Env B Γ σ F H) : Ext B.F B.H F H := let ⟨_, x⟩ := h; x.base
/-- a look at a slot -/
inductive At : Ctx → Nat → Sl → Prop where
  | z {s : Sl} {Γ : Ctx} : At (s :: Γ) 0 s
  | s {s t : Sl} {Γ : Ctx} {i : Nat} : At Γ i s → At (t :: Γ) (i + 1) s
theorem At.get {Γ : Ctx} {i : Nat} {s : Sl} (h : At Γ i s) : Γ[i]? = some s := by
  induction h with
  | z => rfl
  | s _ ih => simpa using ih
/-- a slot set -/
inductive To : Ctx → Nat → Sl → Ctx → Prop where
  | z {s t : Sl} {Γ : Ctx} : To (t :: Γ) 0 s (s :: Γ)
  | s {s t : Sl} {Γ Γ' : Ctx} {i : Nat} : To Γ i s Γ' → To (t :: Γ) (i + 1) s (t :: Γ')
theorem To.set {Γ Γ' : Ctx} {i : Nat} {s : Sl} (h : To Γ i s Γ') : Γ' = Γ.set i s ∧ i < Γ.length := by
  induction h with
  | z => exact ⟨rfl, by simp⟩
  | s _ ih => exact ⟨by rw [ih.1]; rfl, by simpa using ih.2⟩
/-- a slot takes another thing, with what is its own -/
theorem EnvF.putG {B : Bs} {Γ Γ' : Ctx} {σ σ' : St} {F H F' H' : Hp} {fp : Nat → Addr → Prop} {fi : Addr → Prop} {i : Nat} {s : Sl} (h : EnvF B Γ σ F H fp) (t : To Γ i s Γ') (hl : σ'.length = σ.length) (hx : ∀ j : Nat, j ≠ i → σ'[j]? = σ[j]?) (base : Ext B.F B.H F' H') (same : Same F' H')
    (hf : Same F F') (hh : ∀ j b, j ≠ i → fp j b → H' b = H b ∧ F' b = none) (hs : slotOk B F' H' s σ'[i]? fi) (hd : ∀ j b, j ≠ i → fp j b → ¬ fi b) : EnvF B Γ' σ' F' H' (fun j => if j = i then fi else fp j) := by
  obtain ⟨rfl, hi⟩ := t.set
  refine ⟨by simp [hl, h.len], base, same, h.low.trans hf, fun j u hu => ?_, fun j hj => ?_, fun j k hjk b hb => ?_⟩
  · by_cases e : j = i
    · subst e
      rw [List.getElem?_set_self hi] at hu
      cases hu
      rw [if_pos rfl]
      exact hs
    · rw [List.getElem?_set_ne (fun z => e z.symm)] at hu
      rw [hx j e, if_neg e]
      have q := h.ok j u hu
      cases u with
      | un => exact q
      | val r a =>
        obtain ⟨q0, v, q1, q2⟩ := q
        exact ⟨q0, v, q1, r.mono hf q2⟩
      | own o a =>
        obtain ⟨⟨v, q1, q2⟩, q3⟩ := q
        refine ⟨⟨v, q1, o.mono hf (fun b hb => (hh j b e hb).1) q2⟩, fun b hb => ⟨(hh j b e hb).2, ?_, (q3 b hb).2.2⟩⟩
        rw [(hh j b e hb).1]
        exact (q3 b hb).2.1
  · by_cases e : j = i
    · subst e
      rw [List.getElem?_set_self hi] at hj
      cases hj
    · simp only [if_neg e]
      refine h.out j ?_
      rw [List.getElem?_set_ne (fun z => e z.symm)] at hj
      exact hj
  · by_cases e : j = i
    · rw [if_pos e] at hb
      have e2 : k ≠ i := fun z => hjk (e.trans z.symm)
      rw [if_neg e2]
      exact fun z => hd k b e2 z hb
    · rw [if_neg e] at hb
      by_cases e2 : k = i
      · rw [if_pos e2]; exact hd j b e hb
      · rw [if_neg e2]; exact h.apart j k hjk b hb
theorem EnvF.own_at {B : Bs} {Γ : Ctx} {σ : St} {F H : Hp} {fp : Nat → Addr → Prop} (h : EnvF B Γ σ F H fp) {j : Nat} {b : Addr} (q : fp j b) : F b = none ∧ H b ≠ none ∧ B.H b = none := by
  cases e : Γ[j]? with
  | none => exact absurd q (h.out j e b)
  | some s =>
    have z := h.ok j s e
    cases s with
    | un => exact absurd q (z b)
    | val r a => exact absurd q (z.1 b)
    | own o a => exact z.2 b q
/-- a store of a thing that stands still (or of what nobody asks) -/
theorem EnvF.put {B : Bs} {Γ Γ' : Ctx} {σ : St} {F H : Hp} {fp : Nat → Addr → Prop} {i : Nat} {v : V} {s : Sl} (h : EnvF B Γ σ F H fp) (t : To Γ i s Γ') (hs : slotOk B F H s (some (some v)) (fun _ => False)) : Env B Γ' (σ.set i (some v)) F H := by
  have hi : i < σ.length := by rw [h.len]; exact t.set.2
  exact ⟨_, h.putG (fi := fun _ => False) t (by simp) (fun j hj => List.getElem?_set_ne fun z => hj z.symm) h.base h.same (Same.refl F) (fun j b _ q => ⟨rfl, (h.own_at q).1⟩) (by rw [List.getElem?_set_self hi]; exact hs) (fun _ _ _ _ z => z)⟩
theorem Env.put {B : Bs} {Γ Γ' : Ctx} {σ : St} {F H : Hp} {i : Nat} {v : V} {α : Type} {r : Rp α} {a : α} (h : Env B Γ σ F H) (t : To Γ i (.val r a) Γ') (hv : r.rel F v a) : Env B Γ' (σ.set i (some v)) F H :=
  let ⟨_, x⟩ := h; x.put t ⟨fun _ z => z, v, rfl, hv⟩
theorem Env.val {B : Bs} {Γ : Ctx} {σ : St} {F H : Hp} {i : Nat} {α : Type} {r : Rp α} {a : α} (h : Env B Γ σ F H) (t : At Γ i (.val r a)) : ∃ v, σ[i]? = some (some v) ∧ r.rel F v a :=
  let ⟨_, x⟩ := h; (x.ok i _ t.get).2
/-- a slot forgotten -/
theorem Env.forget {B : Bs} {Γ Γ' : Ctx} {σ : St} {F H : Hp} {i : Nat} (h : Env B Γ σ F H) (t : To Γ i .un Γ') : Env B Γ' σ F H := by
  obtain ⟨fp, h⟩ := h
  exact ⟨_, h.putG (fi := fun _ => False) t rfl (fun j hj => rfl) h.base h.same (Same.refl F) (fun j b _ q => ⟨rfl, (h.own_at q).1⟩) (fun _ z => z) (fun _ _ _ _ z => z)⟩

/-! ### what a context is -/
structure XC (P : Program) (w : World) (K : PySem.W.Frag) (mg : Str → Option Value) (base : Heap) (k : Nat) (N : List Str) (sc : Scope) (vs ls : List Nat) (X : Cx) : Prop where
  p : X.prog = P
  w : X.w = w
  K : X.K = K
  mg : X.mg = mg
  b : X.base = base
  N : X.N = N
  sc : X.env.scope = sc
  calm : X.calm = true
  room : Room k X.A
  kind : X.env.scope.kind = ScopeKind.function
  nd : X.N.Nodup
  po : PassesOwn (model X.prog X.w) X.A X.env X.xe
  vis : ∀ (i : Nat) (x : Str), X.N[i]? = some x → vs.contains i = true → Vis X.env.scope x
  loc : ∀ (i : Nat) (x : Str), X.N[i]? = some x → ls.contains i = true → Loc X.env.scope x ∧ (X.fn x = true ∨ X.env.scope.names.lookup x = some .local)

/-! ### judgements -/
def tD {α : Type} (B : Bs) (Γ : Ctx) (r : Rp α) (a : α) : TE := fun σ H Q => ∃ F, Env B Γ σ F H ∧ ∀ v F' H', Ext F H F' H' → r.rel F' v a → Q v H'
abbrev DE {α : Type} (X : Cx) (B : Bs) (Γ : Ctx) (e : Expr) (r : Rp α) (a : α) : Prop := PE X e (tD B Γ r a)
def tDT (B : Bs) (Γ : Ctx) (b : Bool) : TT := fun σ H Q => ∃ F, Env B Γ σ F H ∧ ∀ F' H', Ext F H F' H' → Q b H'
abbrev DT (X : Cx) (B : Bs) (Γ : Ctx) (e : Expr) (b : Bool) : Prop := PT X e (tDT B Γ b)
abbrev DW (X : Cx) (B : Bs) (Γ : Ctx) (e : Expr) (b : Bool) : Prop := PW X e (tDT B Γ b)
def slVal (F : Hp) (v : V) : Sl → Prop
  | .val r a => r.rel F v a
  | _ => False
def SlsOk (F : Hp) : List V → Ctx → Prop
  | [], [] => True
  | v :: vs, s :: Δ => slVal F v s ∧ SlsOk F vs Δ
  | _, _ => False
theorem slVal.mono {F F' : Hp} {v : V} {s : Sl} (e : Same F F') (h : slVal F v s) : slVal F' v s := by
  cases s with
  | val r a => exact r.mono e h
  | un => exact h
  | own o a => exact h
theorem SlsOk.mono {F F' : Hp} (e : Same F F') : ∀ {vs : List V} {Δ : Ctx}, SlsOk F vs Δ → SlsOk F' vs Δ
  | [], [], _ => trivial
  | v :: vs, s :: Δ, h => ⟨slVal.mono e h.1, SlsOk.mono e h.2⟩
  | [], _ :: _, h => h.elim
  | _ :: _, [], h => h.elim
def tDA (B : Bs) (Γ Δ : Ctx) : TA := fun σ H Q => ∃ F, Env B Γ σ F H ∧ ∀ vs F' H', Ext F H F' H' → SlsOk F' vs Δ → Q vs H'
abbrev DA (X : Cx) (B : Bs) (Γ : Ctx) (es : List Expr) (Δ : Ctx) : Prop := PA X es (tDA B Γ Δ)
def EnvP (B : Bs) (Γ : Ctx) : St → Hp → Prop := fun σ H => ∃ F, Env B Γ σ F H
/-- ends that let more through -/
structure Le (D D' : Ends) : Prop where
  nx : ∀ σ H, D.nx σ H → D'.nx σ H
  rt : ∀ v H, D.rt v H → D'.rt v H
  bk : ∀ σ H, D.bk σ H → D'.bk σ H
  ct : ∀ σ H, D.ct σ H → D'.ct σ H
theorem Le.refl (D : Ends) : Le D D := ⟨fun _ _ h => h, fun _ _ h => h, fun _ _ h => h, fun _ _ h => h⟩
def tS (B : Bs) (Γ : Ctx) (D : Ends) : TS := fun D' σ H => Le D D' ∧ EnvP B Γ σ H
abbrev SD (X : Cx) (B : Bs) (Γ : Ctx) (ss : List Stmt) (D : Ends) : Prop := PSs X ss (tS B Γ D)

section
variable {X : Cx} {α β γ : Type} {B : Bs} {Γ Γ' : Ctx} {e a b c : Expr}
theorem pe_weak {t t' : TE} (h : PE X e t) (w : ∀ σ H Q, t' σ H Q → t σ H Q) : PE X e t' := ⟨fun pins s σ H Q I q => h.run pins s σ H Q I (w σ H Q q)⟩
theorem pt_weak {t t' : TT} (h : PT X e t) (w : ∀ σ H Q, t' σ H Q → t σ H Q) : PT X e t' := ⟨fun pins s σ H Q I q => h.run pins s σ H Q I (w σ H Q q)⟩
theorem pw_weak {t t' : TT} (h : PW X e t) (w : ∀ σ H Q, t' σ H Q → t σ H Q) : PW X e t' := ⟨fun wh pins s σ H Q I q => h.run wh pins s σ H Q I (w σ H Q q)⟩
theorem pa_weak {es : List Expr} {t t' : TA} (h : PA X es t) (w : ∀ σ H Q, t' σ H Q → t σ H Q) : PA X es t' := ⟨fun pos pins s σ H Q I q => h.run pos pins s σ H Q I (w σ H Q q)⟩
theorem ps_weak {st : Stmt} {t t' : TS} (h : PS X st t) (w : ∀ D σ H, t' D σ H → t D σ H) : PS X st t' := ⟨fun pins s σ H D I q => h.run pins s σ H D I (w D σ H q)⟩
theorem pss_weak {ss : List Stmt} {t t' : TS} (h : PSs X ss t) (w : ∀ D σ H, t' D σ H → t D σ H) : PSs X ss t' := ⟨fun pins s σ H D I q => h.run pins s σ H D I (w D σ H q)⟩

/-! ### expressions -/
theorem de_var (i : Nat) {x : Str} {pos : Pos} {r : Rp α} {v : α} (hN : X.N[i]? = some x) (hv : Vis X.env.scope x) (h : At Γ i (.val r v)) (hd : (x == ("__debug__" : Str)) = false := by decide) (hcd : (x == ("__classdict__" : Str)) = false := by decide) : DE X B Γ (.Name x pos) r v :=
  pe_weak (pe_var hN hv hd hcd) fun σ H Q ⟨F, e, k⟩ => by
    obtain ⟨u, h1, h2⟩ := e.val h
    exact ⟨u, h1, k u F H (Ext.refl e.same) h2⟩
theorem de_int {i : Int} {j pos} : DE X B Γ (.Constant (.int i) j pos) rInt i := pe_weak pe_int fun σ H Q ⟨F, e, k⟩ => k _ F H (Ext.refl e.same) rfl
theorem de_bl {i : Bool} {j pos} : DE X B Γ (.Constant (.bool i) j pos) rBool i := pe_weak pe_bl fun σ H Q ⟨F, e, k⟩ => k _ F H (Ext.refl e.same) rfl
theorem de_non {j pos} : DE X B Γ (.Constant .none j pos) rNon () := pe_weak pe_non fun σ H Q ⟨F, e, k⟩ => k _ F H (Ext.refl e.same) rfl
theorem de_str {x : Str} {j pos} {l : Txt} (h : x = tx l) (h2 : okT l = true) : DE X B Γ (.Constant (.str x) j pos) rTxt l := pe_weak pe_str fun σ H Q ⟨F, e, k⟩ => k _ F H (Ext.refl e.same) ⟨by rw [h], h2⟩
theorem de_eq {r : Rp α} {x y : α} (h : DE X B Γ e r x) (q : x = y) : DE X B Γ e r y := q ▸ h
theorem dt_eq {x y : Bool} (h : DT X B Γ e x) (q : x = y) : DT X B Γ e y := q ▸ h
/-- a two-place operation on values -/
theorem de_op {op : Operator} {r2 : R2} {pos : Pos} {ra : Rp α} {rb : Rp β} {rc : Rp γ} {x : α} {y : β} {z : γ} (ho : OpR X (binaryOp op) r2)
    (hr : ∀ F H u v, Same F H → ra.rel F u x → rb.rel F v y → ∀ Q : VK, (∀ t F' H', Ext F H F' H' → rc.rel F' t z → Q t H') → r2 u v H Q) (ha : DE X B Γ a ra x) (hb : DE X B Γ b rb y) : DE X B Γ (.BinOp a op b pos) rc z :=
  pe_weak (pe_op ho ha hb) fun σ H Q ⟨F, e, k⟩ => ⟨F, e, fun u F1 H1 e1 h1 => ⟨F1, e.ext e1, fun v F2 H2 e2 h2 => hr F2 H2 u v e2.i (ra.mono e2.f h1) h2 Q fun t F3 H3 e3 h3 => k t F3 H3 (e1.trans (e2.trans e3)) h3⟩⟩
theorem de_un {op : UnaryOp} {r1 : V → Hp → VK → Prop} {pos : Pos} {ra : Rp α} {rc : Rp γ} {x : α} {z : γ} (ho : UnR X (unaryOp op) r1)
    (hr : ∀ F H u, Same F H → ra.rel F u x → ∀ Q : VK, (∀ t F' H', Ext F H F' H' → rc.rel F' t z → Q t H') → r1 u H Q) (ha : DE X B Γ a ra x) : DE X B Γ (.UnaryOp op a pos) rc z :=
  pe_weak (pe_un ho ha) fun σ H Q ⟨F, e, k⟩ => ⟨F, e, fun u F1 H1 e1 h1 => hr F1 H1 u e1.i h1 Q fun t F3 H3 e3 h3 => k t F3 H3 (e1.trans e3) h3⟩
theorem de_cmp {op : CmpOp} {r2 : R2} {pos : Pos} {ra : Rp α} {rb : Rp β} {z : Bool} {x : α} {y : β} (ho : OpR X (compareOp op) r2)
    (hr : ∀ F H u v, Same F H → ra.rel F u x → rb.rel F v y → ∀ Q : VK, (∀ t F' H', Ext F H F' H' → rBool.rel F' t z → Q t H') → r2 u v H Q) (hm : behindInMarks op b = false) (ha : DE X B Γ a ra x) (hb : DE X B Γ b rb y) :
    DE X B Γ (.Compare a [op] [b] pos) rBool z :=
  pe_weak (pe_cmpR ho ha hb hm) fun σ H Q ⟨F, e, k⟩ => ⟨F, e, fun u F1 H1 e1 h1 => ⟨F1, e.ext e1, fun v F2 H2 e2 h2 => hr F2 H2 u v e2.i (ra.mono e2.f h1) h2 Q fun t F3 H3 e3 h3 => k t F3 H3 (e1.trans (e2.trans e3)) h3⟩⟩
theorem dt_cmp {op : CmpOp} {r2 : R2} {pos : Pos} {ra : Rp α} {rb : Rp β} {z : Bool} {x : α} {y : β} (ho : OpR X (compareOp op) r2)
    (hr : ∀ F H u v, Same F H → ra.rel F u x → rb.rel F v y → ∀ Q : VK, (∀ t F' H', Ext F H F' H' → rBool.rel F' t z → Q t H') → r2 u v H Q) (hm : behindInMarks op b = false) (ha : DE X B Γ a ra x) (hb : DE X B Γ b rb y) :
    DT X B Γ (.Compare a [op] [b] pos) z :=
  pt_weak (pt_cmpR ho ha hb hm) fun σ H Q ⟨F, e, k⟩ => ⟨F, e, fun u F1 H1 e1 h1 => ⟨F1, e.ext e1, fun v F2 H2 e2 h2 => hr F2 H2 u v e2.i (ra.mono e2.f h1) h2 _ fun t F3 H3 e3 h3 => ⟨z, h3, k F3 H3 (e1.trans (e2.trans e3))⟩⟩⟩
/-- a comparison, as a value and as a test -/
structure DC (X : Cx) (B : Bs) (Γ : Ctx) (e : Expr) (z : Bool) : Prop where
  v : DE X B Γ e rBool z
  t : DT X B Γ e z
theorem dc_cmp {op : CmpOp} {r2 : R2} {pos : Pos} {ra : Rp α} {rb : Rp β} {z : Bool} {x : α} {y : β} (ho : OpR X (compareOp op) r2)
    (hr : ∀ F H u v, Same F H → ra.rel F u x → rb.rel F v y → ∀ Q : VK, (∀ t F' H', Ext F H F' H' → rBool.rel F' t z → Q t H') → r2 u v H Q) (hm : behindInMarks op b = false) (ha : DE X B Γ a ra x) (hb : DE X B Γ b rb y) :
    DC X B Γ (.Compare a [op] [b] pos) z := ⟨de_cmp ho hr hm ha hb, dt_cmp ho hr hm ha hb⟩
/-! whole numbers -/
theorem de_add {x y : Int} {pos : Pos} (ha : DE X B Γ a rInt x) (hb : DE X B Γ b rInt y) : DE X B Γ (.BinOp a .Add b pos) rInt (x + y) :=
  de_op op_add (fun F H u v s h1 h2 Q q => ⟨x, y, h1, h2, q _ F H (Ext.refl s) rfl⟩) ha hb
theorem de_sub {x y : Int} {pos : Pos} (ha : DE X B Γ a rInt x) (hb : DE X B Γ b rInt y) : DE X B Γ (.BinOp a .Sub b pos) rInt (x - y) :=
  de_op op_sub (fun F H u v s h1 h2 Q q => ⟨x, y, h1, h2, q _ F H (Ext.refl s) rfl⟩) ha hb
theorem de_mul {x y : Int} {pos : Pos} (ha : DE X B Γ a rInt x) (hb : DE X B Γ b rInt y) (h : (-(2 ^ 64) < x ∧ x < 2 ^ 64) ∨ (-(2 ^ 64) < y ∧ y < 2 ^ 64)) : DE X B Γ (.BinOp a .Mult b pos) rInt (x * y) :=
  de_op op_mul (fun F H u v s h1 h2 Q q => ⟨x, y, h1, h2, h, q _ F H (Ext.refl s) rfl⟩) ha hb
theorem de_fdiv {x y : Int} {pos : Pos} (ha : DE X B Γ a rInt x) (hb : DE X B Γ b rInt y) (h : 0 < y ∧ y < 1073741824) : DE X B Γ (.BinOp a .FloorDiv b pos) rInt (x / y) :=
  de_op op_fdiv (fun F H u v s h1 h2 Q q => ⟨x, y, h1, h2, h, q _ F H (Ext.refl s) rfl⟩) ha hb
theorem de_mod {x y : Int} {pos : Pos} (ha : DE X B Γ a rInt x) (hb : DE X B Γ b rInt y) (h : 0 < y) : DE X B Γ (.BinOp a .Mod b pos) rInt (x % y) :=
  de_op op_mod (fun F H u v s h1 h2 Q q => ⟨x, y, h1, h2, h, q _ F H (Ext.refl s) rfl⟩) ha hb
theorem de_pow {x y : Int} {pos : Pos} (ha : DE X B Γ a rInt x) (hb : DE X B Γ b rInt y) (h : 0 ≤ y ∧ y ≤ 1000000 ∧ x.natAbs < 2 ^ 64) : DE X B Γ (.BinOp a .Pow b pos) rInt (x ^ y.toNat) :=
  de_op op_pow (fun F H u v s h1 h2 Q q => ⟨x, y, h1, h2, h, q _ F H (Ext.refl s) rfl⟩) ha hb
theorem de_neg {x : Int} {pos : Pos} (ha : DE X B Γ a rInt x) : DE X B Γ (.UnaryOp .USub a pos) rInt (-x) :=
  de_un un_neg (fun F H u s h1 Q q => ⟨x, h1, q _ F H (Ext.refl s) rfl⟩) ha
section
variable {x y : Int} {pos : Pos}
theorem dc_lt (ha : DE X B Γ a rInt x) (hb : DE X B Γ b rInt y) : DC X B Γ (.Compare a [.Lt] [b] pos) (decide (x < y)) :=
  dc_cmp (ra := rInt) (rb := rInt) op_lt (fun F H u v s h1 h2 Q q => ⟨x, y, h1, h2, q _ F H (Ext.refl s) rfl⟩) (nomark _) ha hb
theorem dc_le (ha : DE X B Γ a rInt x) (hb : DE X B Γ b rInt y) : DC X B Γ (.Compare a [.LtE] [b] pos) (decide (x ≤ y)) :=
  dc_cmp (ra := rInt) (rb := rInt) op_le (fun F H u v s h1 h2 Q q => ⟨x, y, h1, h2, q _ F H (Ext.refl s) rfl⟩) (nomark _) ha hb
theorem dc_gt (ha : DE X B Γ a rInt x) (hb : DE X B Γ b rInt y) : DC X B Γ (.Compare a [.Gt] [b] pos) (decide (y < x)) :=
  dc_cmp (ra := rInt) (rb := rInt) op_gt (fun F H u v s h1 h2 Q q => ⟨x, y, h1, h2, q _ F H (Ext.refl s) rfl⟩) (nomark _) ha hb
theorem dc_ge (ha : DE X B Γ a rInt x) (hb : DE X B Γ b rInt y) : DC X B Γ (.Compare a [.GtE] [b] pos) (decide (y ≤ x)) :=
  dc_cmp (ra := rInt) (rb := rInt) op_ge (fun F H u v s h1 h2 Q q => ⟨x, y, h1, h2, q _ F H (Ext.refl s) rfl⟩) (nomark _) ha hb
theorem dc_eqI (ha : DE X B Γ a rInt x) (hb : DE X B Γ b rInt y) : DC X B Γ (.Compare a [.Eq] [b] pos) (decide (x = y)) :=
  dc_cmp (ra := rInt) (rb := rInt) op_eq (fun F H u v s h1 h2 Q q => by
    obtain rfl : u = .int x := h1
    obtain rfl : v = .int y := h2
    exact ⟨rfl, q _ F H (Ext.refl s) (by show V.bl _ = V.bl _; congr 1; simp)⟩) (nomark _) ha hb
theorem dc_neI (ha : DE X B Γ a rInt x) (hb : DE X B Γ b rInt y) : DC X B Γ (.Compare a [.NotEq] [b] pos) (!decide (x = y)) :=
  dc_cmp (ra := rInt) (rb := rInt) op_ne (fun F H u v s h1 h2 Q q => by
    obtain rfl : u = .int x := h1
    obtain rfl : v = .int y := h2
    exact ⟨rfl, q _ F H (Ext.refl s) (by show V.bl _ = V.bl _; congr 1; simp)⟩) (nomark _) ha hb
end
/-! tests -/
theorem dt_val {z : Bool} (h : DE X B Γ e rBool z) (he : ∀ whole, isTrue e X.env whole = (do let v ← whole; standAt e.pos; holding [v] (truthy v)) := by intro _; rfl) : DT X B Γ e z :=
  pt_weak (pt_val h he) fun σ H Q ⟨F, e, k⟩ => ⟨F, e, fun u F1 H1 e1 h1 => ⟨z, h1, k F1 H1 e1⟩⟩
theorem dt_cm {z : Bool} (h : DC X B Γ e z) : DT X B Γ e z := h.t
theorem dt_not {z : Bool} {pos : Pos} (h : DT X B Γ e z) : DT X B Γ (.UnaryOp .Not e pos) (!z) :=
  pt_weak (pt_not h) fun σ H Q ⟨F, e, k⟩ => ⟨F, e, fun F1 H1 e1 => k F1 H1 e1⟩
theorem dw_and1 {z : Bool} {pos : Pos} (h : DT X B Γ e z) : DW X B Γ (.BoolOp .And [e] pos) z := pw_and1 h
theorem dw_or1 {z : Bool} {pos : Pos} (h : DT X B Γ e z) : DW X B Γ (.BoolOp .Or [e] pos) z := pw_or1 h
/-- u is reached only where t holds -/
def tImp (p : Prop) (t : TT) : TT := fun σ H Q => p ∧ t σ H Q
theorem pw_imp {p : Prop} {t : TT} (h : p → PW X e t) : PW X e (tImp p t) := ⟨fun wh pins s σ H Q I q => (h q.1).run wh pins s σ H Q I q.2⟩
def tImpE (p : Prop) (t : TE) : TE := fun σ H Q => p ∧ t σ H Q
theorem pe_imp {p : Prop} {t : TE} (h : p → PE X e t) : PE X e (tImpE p t) := ⟨fun pins s σ H Q I q => (h q.1).run pins s σ H Q I q.2⟩
theorem dw_and {p q : Bool} {pos : Pos} {rest : List Expr} (ha : DT X B Γ a p) (hb : p = true → DW X B Γ (.BoolOp .And (b :: rest) pos) q) : DW X B Γ (.BoolOp .And (a :: b :: rest) pos) (p && q) :=
  pw_weak (pw_and ha (pw_imp hb)) fun σ H Q ⟨F, e, k⟩ => ⟨F, e, fun F1 H1 e1 => by
    cases p with
    | true => exact ⟨rfl, F1, e.ext e1, fun F2 H2 e2 => k F2 H2 (e1.trans e2)⟩
    | false => exact k F1 H1 e1⟩
theorem dw_or {p q : Bool} {pos : Pos} {rest : List Expr} (ha : DT X B Γ a p) (hb : p = false → DW X B Γ (.BoolOp .Or (b :: rest) pos) q) : DW X B Γ (.BoolOp .Or (a :: b :: rest) pos) (p || q) :=
  pw_weak (pw_or ha (pw_imp hb)) fun σ H Q ⟨F, e, k⟩ => ⟨F, e, fun F1 H1 e1 => by
    cases p with
    | true => exact k F1 H1 e1
    | false => exact ⟨rfl, F1, e.ext e1, fun F2 H2 e2 => k F2 H2 (e1.trans e2)⟩⟩
theorem dw_pt {z : Bool} (h : DW X B Γ e z) : DT X B Γ e z := h.pt
/-- and, or as values (of truths) -/
theorem de_one {op} {pos : Pos} {r : Rp α} {x : α} (h : DE X B Γ e r x) : DE X B Γ (.BoolOp op [e] pos) r x := pe_one h
theorem de_and {p q : Bool} {pos : Pos} {rest : List Expr} (ha : DE X B Γ a rBool p) (hb : p = true → DE X B Γ (.BoolOp .And (b :: rest) pos) rBool q) : DE X B Γ (.BoolOp .And (a :: b :: rest) pos) rBool (p && q) :=
  pe_weak (pe_and ha (pe_imp hb)) fun σ H Q ⟨F, e, k⟩ => ⟨F, e, fun u F1 H1 e1 h1 => ⟨p, h1, by
    cases p with
    | true => exact ⟨rfl, F1, e.ext e1, fun v F2 H2 e2 h2 => k v F2 H2 (e1.trans e2) h2⟩
    | false => exact k _ F1 H1 e1 rfl⟩⟩
theorem de_or {p q : Bool} {pos : Pos} {rest : List Expr} (ha : DE X B Γ a rBool p) (hb : p = false → DE X B Γ (.BoolOp .Or (b :: rest) pos) rBool q) : DE X B Γ (.BoolOp .Or (a :: b :: rest) pos) rBool (p || q) :=
  pe_weak (pe_or ha (pe_imp hb)) fun σ H Q ⟨F, e, k⟩ => ⟨F, e, fun u F1 H1 e1 h1 => ⟨p, h1, by
    cases p with
    | true => exact k _ F1 H1 e1 rfl
    | false => exact ⟨rfl, F1, e.ext e1, fun v F2 H2 e2 h2 => k v F2 H2 (e1.trans e2) h2⟩⟩⟩
theorem de_not {p : Bool} {pos : Pos} (ha : DE X B Γ a rBool p) : DE X B Γ (.UnaryOp .Not a pos) rBool (!p) :=
  pe_weak (pe_not ha) fun σ H Q ⟨F, e, k⟩ => ⟨F, e, fun u F1 H1 e1 h1 => ⟨p, h1, k _ F1 H1 e1 rfl⟩⟩
theorem de_ifExp {p : Bool} {pos : Pos} {r : Rp α} {x y : α} (hc : DT X B Γ c p) (ha : p = true → DE X B Γ a r x) (hb : p = false → DE X B Γ b r y) : DE X B Γ (.IfExp c a b pos) r (if p = true then x else y) :=
  pe_weak (pe_ifExp hc (pe_imp ha) (pe_imp hb)) fun σ H Q ⟨F, e, k⟩ => ⟨F, e, fun F1 H1 e1 => by
    cases p with
    | true => exact ⟨rfl, F1, e.ext e1, fun v F2 H2 e2 h2 => k v F2 H2 (e1.trans e2) h2⟩
    | false => exact ⟨rfl, F1, e.ext e1, fun v F2 H2 e2 h2 => k v F2 H2 (e1.trans e2) h2⟩⟩
/-! argument lists -/
theorem da_nil : DA X B Γ [] [] := pa_weak pa_nil fun σ H Q ⟨F, e, k⟩ => k [] F H (Ext.refl e.same) trivial
theorem da_cons {es : List Expr} {Δ : Ctx} {r : Rp α} {x : α} (ha : DE X B Γ e r x) (hr : DA X B Γ es Δ) (hs : starEach (e :: es) X.env = (false, eval e X.env) :: starEach es X.env := by rfl) : DA X B Γ (e :: es) (.val r x :: Δ) :=
  pa_weak (pa_cons ha hr hs) fun σ H Q ⟨F, e, k⟩ => ⟨F, e, fun u F1 H1 e1 h1 => ⟨F1, e.ext e1, fun vs F2 H2 e2 h2 => k (u :: vs) F2 H2 (e1.trans e2) ⟨r.mono e2.f h1, h2⟩⟩⟩
theorem SlsOk.one {F : Hp} {vs : List V} {s : Sl} (h : SlsOk F vs [s]) : ∃ v, vs = [v] ∧ slVal F v s := match vs, h with
  | [v], h => ⟨v, rfl, h.1⟩
theorem SlsOk.two {F : Hp} {vs : List V} {s t : Sl} (h : SlsOk F vs [s, t]) : ∃ v u, vs = [v, u] ∧ slVal F v s ∧ slVal F u t := match vs, h with
  | [v, u], h => ⟨v, u, rfl, h.1, h.2.1⟩
theorem SlsOk.three {F : Hp} {vs : List V} {s t u : Sl} (h : SlsOk F vs [s, t, u]) : ∃ x y z, vs = [x, y, z] ∧ slVal F x s ∧ slVal F y t ∧ slVal F z u := match vs, h with
  | [x, y, z], h => ⟨x, y, z, rfl, h.1, h.2.1, h.2.2.1⟩
end

/-! ### promises -/
/-- a def that hands back data: ι all its arguments -/
def SpF {ι ρ : Type} (args : ι → Ctx) (pre : ι → Prop) (rr : Rp ρ) (f : ι → ρ) : Sp := fun vs H Q _ =>
  ∃ F i, Same F H ∧ SlsOk F vs (args i) ∧ pre i ∧ ∀ v F' H', Ext F H F' H' → rr.rel F' v (f i) → Q v H'
section
variable {X : Cx} {B : Bs} {Γ : Ctx} {ι ρ : Type} {args : ι → Ctx} {pre : ι → Prop} {rr : Rp ρ} {f : ι → ρ} {k : Nat} {fa : Addr} {fd : FuncData} {ps : List Str} {x : Str} {p pos : Pos} {e : Expr} {es : List Expr}
theorem de_call (i : ι) (G : FnOk X.prog X.w X.K X.mg X.base CX0 k fa fd ps (SpF args pre rr f)) (hr : Room k X.A) (hg : Gl X x) (hm : X.mg x = some (.ref fa)) (hk : PySem.W.keepIn X.K (.ref fa) = true) (hb : Binds X.K fd ps [])
    (ha : DA X B Γ (e :: es) (args i)) (hp : pre i) (hdb : (x == ("__debug__" : Str)) = false := by decide) (he : starEach (e :: es) X.env = (false, eval e X.env) :: starEach es X.env := by rfl) (hpl : (backTo pos (starEach es X.env)).any (·.1) = false := by rfl) :
    DE X B Γ (.Call (.Name x p) (e :: es) [] pos) rr (f i) :=
  pe_weak (pe_call G hr hg hm hk hb .nil pass0 ha hdb he hpl) fun σ H Q ⟨F, en, q⟩ => ⟨F, en, fun vs F1 H1 e1 h1 => by
    show SpF args pre rr f (vs ++ []) H1 Q E0
    rw [List.append_nil]
    exact ⟨F1, i, e1.i, h1, hp, fun v F2 H2 e2 h2 => q v F2 H2 (e1.trans e2) h2⟩⟩
theorem de_call0 (i : ι) (G : FnOk X.prog X.w X.K X.mg X.base CX0 k fa fd ps (SpF args pre rr f)) (hr : Room k X.A) (hg : Gl X x) (hm : X.mg x = some (.ref fa)) (hk : PySem.W.keepIn X.K (.ref fa) = true) (hb : Binds X.K fd ps [])
    (ha : args i = []) (hp : pre i) (hdb : (x == ("__debug__" : Str)) = false := by decide) :
    DE X B Γ (.Call (.Name x p) [] [] pos) rr (f i) :=
  pe_weak (pe_call0 G hr hg hm hk hb .nil pass0 hdb) fun σ H Q ⟨F, en, q⟩ => by
    show SpF args pre rr f ([] ++ []) H Q E0
    refine ⟨F, i, en.same, ?_, hp, fun v F2 H2 e2 h2 => q v F2 H2 e2 h2⟩
    rw [ha]; trivial
end

/-! ### statements -/
/-- what is handed back is res -/
def RtOk {ρ : Type} (B : Bs) (rr : Rp ρ) (res : ρ) (D : Ends) : Prop := ∀ v F' H', Ext B.F B.H F' H' → rr.rel F' v res → D.rt v H'
section
variable {X : Cx} {α β γ ρ : Type} {B : Bs} {Γ Γ' Γ1 Γ2 : Ctx} {e a b c : Expr} {D : Ends} {st : Stmt} {rest ss body orelse : List Stmt} {pos : Pos}
/-- a statement, then the rest -/
theorem sd_cons {t : TS} (h : PS X st t) (ht : ∀ D' : Ends, Le { D with nx := EnvP B Γ' } D' → ∀ σ H, EnvP B Γ σ H → t D' σ H) (hr : SD X B Γ' rest D) : SD X B Γ (st :: rest) D :=
  pss_weak (pss_cons h hr) fun D' σ H ⟨hD, he⟩ => ht { D' with nx := tS B Γ' D D' } ⟨fun σ' H' h' => ⟨hD, h'⟩, hD.rt, hD.bk, hD.ct⟩ σ H he
theorem sd_nil (h : ∀ σ H, EnvP B Γ σ H → D.nx σ H) : SD X B Γ [] D := pss_weak pss_nil fun D' σ H ⟨hD, he⟩ => hD.nx σ H (h σ H he)
theorem sd_env (h : ∀ σ H, EnvP B Γ σ H → EnvP B Γ' σ H) (k : SD X B Γ' ss D) : SD X B Γ ss D := pss_weak k fun D' σ H ⟨hD, he⟩ => ⟨hD, h σ H he⟩
theorem sd_le {D0 : Ends} (l : Le D0 D) (k : SD X B Γ ss D0) : SD X B Γ ss D := pss_weak k fun D' σ H ⟨hD, he⟩ => ⟨⟨fun σ H h => hD.nx σ H (l.nx σ H h), fun σ H h => hD.rt σ H (l.rt σ H h), fun σ H h => hD.bk σ H (l.bk σ H h), fun σ H h => hD.ct σ H (l.ct σ H h)⟩, he⟩
/-- x = e -/
theorem sd_asg {i : Nat} {x : Str} {pos' : Pos} {r : Rp α} {v : α} (he : DE X B Γ e r v) (hN : X.N.Nodup) (hi : X.N[i]? = some x) (hx : Loc X.env.scope x) (hf : X.fn x = true ∨ X.env.scope.names.lookup x = some .local) (t : To Γ i (.val r v) Γ')
    (hr : SD X B Γ' rest D) (hs : swapsWith e (some (.Name x pos')) pos.line X.env = pure false := by rfl) : SD X B Γ (.Assign [.Name x pos'] e pos :: rest) D :=
  sd_cons (ps_set hN hi hx he hs hf) (fun D' l σ H ⟨F, en⟩ => ⟨F, en, fun u F' H' e1 h1 => l.nx _ _ ⟨F', (en.ext e1).put t h1⟩⟩) hr
theorem sd_ret {rr : Rp ρ} {res v : ρ} (hD : RtOk B rr res D) (he : DE X B Γ e rr v) (hv : v = res) : SD X B Γ [.Return (some e) pos] D :=
  pss_weak (pss_one (ps_ret he)) fun D' σ H ⟨hd, F, en⟩ => by
    subst hv
    exact ⟨F, en, fun u F' H' e1 h1 => hd.rt _ _ (hD u F' H' (en.base.trans e1) h1)⟩
/-- what follows is never reached -/
theorem sd_retC {rr : Rp ρ} {res v : ρ} (hD : RtOk B rr res D) (he : DE X B Γ e rr v) (hv : v = res) : SD X B Γ (.Return (some e) pos :: rest) D :=
  pss_weak (pss_cons (ps_ret he) pss_never) fun D' σ H ⟨hd, F, en⟩ => by
    subst hv
    exact ⟨F, en, fun u F' H' e1 h1 => hd.rt _ _ (hD u F' H' (en.base.trans e1) h1)⟩
def tImpS (p : Prop) (t : TS) : TS := fun D σ H => p ∧ t D σ H
theorem pss_imp {p : Prop} {t : TS} (h : p → PSs X ss t) : PSs X ss (tImpS p t) := ⟨fun pins s σ H D I q => (h q.1).run pins s σ H D I q.2⟩
/-- if: the body ends otherwise (return, continue) -/
theorem sd_ifT {p : Bool} (hc : DT X B Γ c p) (h1 : p = true → SD X B Γ body { D with nx := fun _ _ => False }) (h2 : p = false → SD X B Γ rest D) : SD X B Γ (.If c body [] pos :: rest) D := by
  refine pss_weak (pss_cons (ps_if hc (pss_imp h1) pss_nil) (pss_imp h2)) fun D' σ H ⟨hd, F, en⟩ => ?_
  refine ⟨F, en, fun F1 H1 e1 => ?_⟩
  cases p with
  | true =>
    rw [if_pos rfl]
    exact ⟨rfl, ⟨fun _ _ z => z.elim, hd.rt, hd.bk, hd.ct⟩, F1, en.ext e1⟩
  | false =>
    rw [if_neg (by decide)]
    exact ⟨rfl, hd, F1, en.ext e1⟩
/-- if, else: both go on, what follows is shown once -/
theorem sd_ifJ {p : Bool} (Γj : Bool → Ctx) (hc : DT X B Γ c p) (h1 : p = true → SD X B Γ body { D with nx := EnvP B (Γj true) }) (h2 : p = false → SD X B Γ orelse { D with nx := EnvP B (Γj false) }) (h3 : SD X B (Γj p) rest D) :
    SD X B Γ (.If c body orelse pos :: rest) D := by
  refine pss_weak (pss_cons (ps_if hc (pss_imp h1) (pss_imp h2)) h3) fun D' σ H ⟨hd, F, en⟩ => ?_
  refine ⟨F, en, fun F1 H1 e1 => ?_⟩
  cases p with
  | true =>
    rw [if_pos rfl]
    exact ⟨rfl, ⟨fun σ H z => ⟨hd, z⟩, hd.rt, hd.bk, hd.ct⟩, F1, en.ext e1⟩
  | false =>
    rw [if_neg (by decide)]
    exact ⟨rfl, ⟨fun σ H z => ⟨hd, z⟩, hd.rt, hd.bk, hd.ct⟩, F1, en.ext e1⟩
/-- if, else at the end of a block, both ways to the ends -/
theorem sd_ifE {p : Bool} (hc : DT X B Γ c p) (h1 : p = true → SD X B Γ body D) (h2 : p = false → SD X B Γ orelse D) : SD X B Γ [.If c body orelse pos] D := by
  refine pss_weak (pss_one (ps_if hc (pss_imp h1) (pss_imp h2))) fun D' σ H ⟨hd, F, en⟩ => ?_
  refine ⟨F, en, fun F1 H1 e1 => ?_⟩
  cases p with
  | true =>
    rw [if_pos rfl]
    exact ⟨rfl, hd, F1, en.ext e1⟩
  | false =>
    rw [if_neg (by decide)]
    exact ⟨rfl, hd, F1, en.ext e1⟩
/-- if, else: the body ends otherwise -/
theorem sd_ifTE {p : Bool} (hc : DT X B Γ c p) (h1 : p = true → SD X B Γ body { D with nx := fun _ _ => False }) (h2 : p = false → SD X B Γ orelse { D with nx := EnvP B Γ1 }) (h3 : p = false → SD X B Γ1 rest D) : SD X B Γ (.If c body orelse pos :: rest) D := by
  refine pss_weak (pss_cons (ps_if hc (pss_imp h1) (pss_imp h2)) (pss_imp h3)) fun D' σ H ⟨hd, F, en⟩ => ?_
  refine ⟨F, en, fun F1 H1 e1 => ?_⟩
  cases p with
  | true =>
    rw [if_pos rfl]
    exact ⟨rfl, ⟨fun _ _ z => z.elim, hd.rt, hd.bk, hd.ct⟩, F1, en.ext e1⟩
  | false =>
    rw [if_neg (by decide)]
    exact ⟨rfl, ⟨fun σ H z => ⟨rfl, hd, z⟩, hd.rt, hd.bk, hd.ct⟩, F1, en.ext e1⟩
end
end DL
namespace DL
open PySem L2

/-! ### things that lean on no heap -/
def Sc {α : Type} (r : Rp α) : Prop := ∀ F F' v a, r.rel F v a → r.rel F' v a
theorem sc_int : Sc rInt := fun _ _ _ _ h => h
theorem sc_bool : Sc rBool := fun _ _ _ _ h => h
theorem sc_txt : Sc rTxt := fun _ _ _ _ h => h
theorem sc_non : Sc rNon := fun _ _ _ _ h => h

/-! ### a new list (its items stand still); a thing all new -/
def tDM {α : Type} (B : Bs) (Γ : Ctx) (r : Rp α) (as : List α) : TE := fun σ H Q => ∃ F, Env B Γ σ F H ∧ ∀ p vs F' H', Ext F H F' H' → F' p = none → H p = none → H' p = some (.lst vs) → Rl (r.rel F') vs as → Q (.ref p) H'
abbrev DM {α : Type} (X : Cx) (B : Bs) (Γ : Ctx) (e : Expr) (r : Rp α) (as : List α) : Prop := PE X e (tDM B Γ r as)
def tDN {α : Type} (B : Bs) (Γ : Ctx) (r : Rp α) (a : α) : TE := fun σ H Q => ∃ F, Env B Γ σ F H ∧ ∀ v G H', Same H H' → Same G H' → (∀ b, G b ≠ none → H b = none) → r.rel G v a → Q v H'
abbrev DN {α : Type} (X : Cx) (B : Bs) (Γ : Ctx) (e : Expr) (r : Rp α) (a : α) : Prop := PE X e (tDN B Γ r a)
/-- F with the new part -/
def join (F G : Hp) : Hp := fun b => match G b with | some o => some o | none => F b
theorem join_ext {F H G H' : Hp} (s : Same F H) (e : Same H H') (g : Same G H') (n : ∀ b, G b ≠ none → H b = none) : Ext F H (join F G) H' ∧ Same G (join F G) := by
  have hn : ∀ b o, H b = some o → G b = none := fun b o q => by
    cases z : G b with
    | none => rfl
    | some u => rw [n b (by rw [z]; intro w; cases w)] at q; cases q
  refine ⟨⟨fun b o q => ?_, e, fun b o q => ?_, fun b hf hh => ?_⟩, fun b o q => ?_⟩
  · unfold join; rw [hn b o (s b o q)]; exact q
  · unfold join at q
    cases z : G b with
    | none => rw [z] at q; exact e b o (s b o q)
    | some u => rw [z] at q; exact g b o (by rw [z]; exact q)
  · unfold join
    cases z : H b with
    | none => exact absurd z hh
    | some u => rw [hn b u z]; exact hf
  · unfold join; rw [q]
section
variable {X : Cx} {α β γ : Type} {B : Bs} {Γ Γ' : Ctx} {e a b c : Expr}
theorem de_of_dn {r : Rp α} {x : α} (h : DN X B Γ e r x) : DE X B Γ e r x := pe_weak h fun σ H Q ⟨F, en, k⟩ => ⟨F, en, fun v G H' h1 h2 h3 h4 =>
  let ⟨q1, q2⟩ := join_ext en.same h1 h2 h3
  k v (join F G) H' q1 (r.mono q2 h4)⟩
theorem same_upd {F H : Hp} {p : Addr} {o : HO} (s : Same F H) (hp : H p = some o) : Same (upd F p o) H := fun b u q => by
  by_cases e : b = p
  · subst e; rw [upd_same] at q; rw [hp]; exact q
  · rw [upd_ne e] at q; exact s b u q
theorem same_new {F : Hp} {p : Addr} {o : HO} (hp : F p = none) : Same F (upd F p o) := fun b u q => by rw [upd_ne (ne_of_none q hp)]; exact q
theorem de_of_dm {r : Rp α} {xs : List α} (h : DM X B Γ e r xs) : DE X B Γ e (rList r) xs := pe_weak h fun σ H Q ⟨F, en, k⟩ => ⟨F, en, fun p vs F' H' h1 h2 h3 h4 h5 =>
  k (.ref p) (upd F' p (.lst vs)) H' ⟨h1.f.trans (same_new h2), h1.h, same_upd h1.i h4, fun b hf hh => by
    have hb : b ≠ p := fun z => hh (by rw [z]; exact h3)
    rw [upd_ne hb]; exact h1.d b hf hh⟩ ⟨p, vs, rfl, upd_same, Rl.imp (fun _ _ => r.mono (same_new h2)) h5⟩⟩
theorem dn_of_dm {r : Rp α} {xs : List α} (sc : Sc r) (h : DM X B Γ e r xs) : DN X B Γ e (rList r) xs := pe_weak h fun σ H Q ⟨F, en, k⟩ => ⟨F, en, fun p vs F' H' h1 h2 h3 h4 h5 =>
  k (.ref p) (upd (fun _ => none) p (.lst vs)) H' h1.h (same_upd (fun b u q => by cases q) h4) (fun b hb => by
    by_cases z : b = p
    · rw [z]; exact h3
    · rw [upd_ne z] at hb; exact absurd rfl hb) ⟨p, vs, rfl, upd_same, Rl.imp (fun v a => sc _ _ v a) h5⟩⟩
theorem dn_of_sc {r : Rp α} {x : α} (sc : Sc r) (h : DE X B Γ e r x) : DN X B Γ e r x := pe_weak h fun σ H Q ⟨F, en, k⟩ => ⟨F, en, fun v F' H' h1 h2 =>
  k v (fun _ => none) H' h1.h (fun b u q => by cases q) (fun b hb => absurd rfl hb) (sc _ _ v x h2)⟩
theorem dm_eq {r : Rp α} {x y : List α} (h : DM X B Γ e r x) (q : x = y) : DM X B Γ e r y := q ▸ h
theorem dn_eq {r : Rp α} {x y : α} (h : DN X B Γ e r x) (q : x = y) : DN X B Γ e r y := q ▸ h

/-! ### own slots -/
/-- a list that is one's own: its items stand still -/
def oList (r : Rp α) : Own (List α) := ⟨fun F H v as fp => ∃ p vs, v = .ref p ∧ fp = (fun b => b = p) ∧ H p = some (.lst vs) ∧ Rl (r.rel F) vs as,
  fun {F F' H H' v a fp} e k ⟨p, vs, h1, h2, h3, h4⟩ => ⟨p, vs, h1, h2, by rw [k p (by rw [h2])]; exact h3, Rl.imp (fun _ _ => r.mono e) h4⟩⟩
/-- what is one's own, made to stand still, is r -/
def Frz {α : Type} (o : Own α) (r : Rp α) : Prop := ∀ F H v a fp, (∀ b, fp b → F b = none) → o.rel F H v a fp → ∃ G : Hp, (∀ b u, G b = some u → fp b ∧ H b = some u) ∧ r.rel (join F G) v a
theorem frz_list (r : Rp α) : Frz (oList r) (rList r) := fun F H v a fp hn ⟨p, vs, h1, h2, h3, h4⟩ => by
  subst h2
  refine ⟨upd (fun _ => none) p (.lst vs), fun b u q => ?_, p, vs, h1, ?_, ?_⟩
  · by_cases z : b = p
    · subst z; rw [upd_same] at q; exact ⟨rfl, h3.trans q⟩
    · rw [upd_ne z] at q; cases q
  · unfold join; rw [upd_same]
  · refine Rl.imp (fun _ _ => r.mono fun b u q => ?_) h4
    have z : b ≠ p := fun z => by rw [z, hn p rfl] at q; cases q
    unfold join; rw [upd_ne z]; exact q
/-- a thing whose whole is one's own -/
def oAll (r : Rp α) : Own α := ⟨fun F H v a fp => ∃ G : Hp, (∀ b u, G b = some u → fp b ∧ H b = some u) ∧ r.rel G v a,
  fun {F F' H H' v a fp} e k ⟨G, h1, h2⟩ => ⟨G, fun b u q => ⟨(h1 b u q).1, by rw [k b (h1 b u q).1]; exact (h1 b u q).2⟩, h2⟩⟩
theorem frz_all (r : Rp α) : Frz (oAll r) r := fun F H v a fp hn ⟨G, h1, h2⟩ => ⟨G, h1, r.mono (fun b u q => by unfold join; rw [q]) h2⟩
/-- an own slot that stands still from now on -/
theorem EnvF.freeze {Γp : Ctx} {σ : St} {F H : Hp} {fp : Nat → Addr → Prop} {i : Nat} {o : Own α} {r : Rp α} {a : α} (h : EnvF B Γ σ F H fp) (fz : Frz o r) (at_ : At Γ i (.own o a)) (t : To Γ i (.val r a) Γp) :
    ∃ F', Same F F' ∧ Env B Γp σ F' H := by
  obtain ⟨⟨v, hv, hr⟩, hn⟩ := h.ok i _ at_.get
  obtain ⟨G, g1, g2⟩ := fz F H v a _ (fun b hb => (hn b hb).1) hr
  have s1 : Same F (join F G) := fun b u q => by
    have z : G b = none := by
      cases z : G b with
      | none => rfl
      | some w => rw [(hn b (g1 b w z).1).1] at q; cases q
    unfold join; rw [z]; exact q
  have s2 : Same (join F G) H := fun b u q => by
    unfold join at q
    cases z : G b with
    | none => rw [z] at q; exact h.same b u q
    | some w => rw [z] at q; cases q; exact (g1 b _ z).2
  refine ⟨join F G, s1, _, h.putG (fi := fun _ => False) t rfl (fun j hj => rfl) ⟨h.base.f.trans s1, h.base.h, s2, fun b hf hh => ?_⟩ s2 s1 (fun j b hj q => ⟨rfl, ?_⟩) ?_ (fun _ _ _ _ z => z)⟩
  · unfold join
    cases z : G b with
    | none => exact h.base.d b hf hh
    | some w => exact absurd (hn b (g1 b w z).1).2.2 hh
  · unfold join
    cases z : G b with
    | none => exact (h.own_at q).1
    | some w => exact absurd (g1 b w z).1 (h.apart j i hj b q)
  · exact ⟨fun _ z => z, v, hv, g2⟩
theorem EnvP.freeze {Γp : Ctx} {i : Nat} {o : Own α} {r : Rp α} {a : α} (fz : Frz o r) (at_ : At Γ i (.own o a)) (t : To Γ i (.val r a) Γp) (σ : St) (H : Hp) (h : EnvP B Γ σ H) : EnvP B Γp σ H := by
  obtain ⟨F, fp, h⟩ := h
  obtain ⟨F', _, e⟩ := h.freeze fz at_ t
  exact ⟨F', e⟩
theorem sd_freeze {Γp : Ctx} {i : Nat} {o : Own α} {r : Rp α} {a : α} {ss : List Stmt} {D : Ends} (fz : Frz o r) (at_ : At Γ i (.own o a)) (t : To Γ i (.val r a) Γp) (k : SD X B Γp ss D) : SD X B Γ ss D := sd_env (EnvP.freeze fz at_ t) k
/-- an own slot that stands still for the time of an expression whose value doesn't lean on it -/
theorem de_thaw {Γp : Ctx} {i : Nat} {o : Own α} {r : Rp α} {x : α} {s : Rp β} {y : β} (fz : Frz o r) (at_ : At Γ i (.own o x)) (t : To Γ i (.val r x) Γp) (sc : Sc s) (h : DE X B Γp e s y) : DE X B Γ e s y :=
  pe_weak h fun σ H Q ⟨F, ⟨fp, en⟩, k⟩ => by
    obtain ⟨F', s1, en'⟩ := en.freeze fz at_ t
    exact ⟨F', en', fun v F2 H2 e2 h2 => k v F H2 ⟨Same.refl F, e2.h, en.same.trans e2.h, fun b hf _ => hf⟩ (sc _ _ v y h2)⟩
theorem dt_thaw {Γp : Ctx} {i : Nat} {o : Own α} {r : Rp α} {x : α} {y : Bool} (fz : Frz o r) (at_ : At Γ i (.own o x)) (t : To Γ i (.val r x) Γp) (h : DT X B Γp e y) : DT X B Γ e y :=
  pt_weak h fun σ H Q ⟨F, ⟨fp, en⟩, k⟩ => by
    obtain ⟨F', s1, en'⟩ := en.freeze fz at_ t
    exact ⟨F', en', fun F2 H2 e2 => k F H2 ⟨Same.refl F, e2.h, en.same.trans e2.h, fun b hf _ => hf⟩⟩
theorem dn_thaw {Γp : Ctx} {i : Nat} {o : Own α} {r : Rp α} {x : α} {s : Rp β} {y : β} (fz : Frz o r) (at_ : At Γ i (.own o x)) (t : To Γ i (.val r x) Γp) (h : DN X B Γp e s y) : DN X B Γ e s y :=
  pe_weak h fun σ H Q ⟨F, ⟨fp, en⟩, k⟩ => by
    obtain ⟨F', s1, en'⟩ := en.freeze fz at_ t
    exact ⟨F', en', k⟩
theorem dm_thaw {Γp : Ctx} {i : Nat} {o : Own α} {r : Rp α} {x : α} {s : Rp β} {y : List β} (fz : Frz o r) (at_ : At Γ i (.own o x)) (t : To Γ i (.val r x) Γp) (sc : Sc s) (h : DM X B Γp e s y) : DM X B Γ e s y :=
  pe_weak h fun σ H Q ⟨F, ⟨fp, en⟩, k⟩ => by
    obtain ⟨F', s1, en'⟩ := en.freeze fz at_ t
    refine ⟨F', en', fun p vs F2 H2 e2 h2 h3 h4 h5 => k p vs F H2 ⟨Same.refl F, e2.h, en.same.trans e2.h, fun b hf _ => hf⟩ ?_ h3 h4 (Rl.imp (fun v a => sc _ _ v a) h5)⟩
    exact en.same.free h3

/-! ### items of a display -/
def tDL (B : Bs) (Γ : Ctx) (r : Rp α) (as : List α) : TA := fun σ H Q => ∃ F, Env B Γ σ F H ∧ ∀ vs F' H', Ext F H F' H' → Rl (r.rel F') vs as → Q vs H'
abbrev DL (X : Cx) (B : Bs) (Γ : Ctx) (es : List Expr) (r : Rp α) (as : List α) : Prop := PA X es (tDL B Γ r as)
theorem dl_nil {r : Rp α} : DL X B Γ [] r [] := pa_weak pa_nil fun σ H Q ⟨F, e, k⟩ => k [] F H (Ext.refl e.same) trivial
theorem dl_cons {es : List Expr} {r : Rp α} {x : α} {xs : List α} (ha : DE X B Γ e r x) (hr : DL X B Γ es r xs) (hs : starEach (e :: es) X.env = (false, eval e X.env) :: starEach es X.env := by rfl) : DL X B Γ (e :: es) r (x :: xs) :=
  pa_weak (pa_cons ha hr hs) fun σ H Q ⟨F, e, k⟩ => ⟨F, e, fun u F1 H1 e1 h1 => ⟨F1, e.ext e1, fun vs F2 H2 e2 h2 => k (u :: vs) F2 H2 (e1.trans e2) ⟨r.mono e2.f h1, h2⟩⟩⟩
theorem dm_list {es : List Expr} {r : Rp α} {xs : List α} {pos : Pos} (h : DL X B Γ es r xs) (hz : xs.length ≤ 1000000 := by first | decide | (simp; done)) : DM X B Γ (.List es pos) r xs :=
  pe_weak (pe_lst h) fun σ H Q ⟨F, en, k⟩ => ⟨F, en, fun vs F1 H1 e1 h1 => ⟨by rw [h1.length]; exact Nat.le_trans hz (by decide), fun p hp =>
    have e2 := Ext.newH e1.i (.lst vs) hp
    k p vs F1 (upd H1 p (.lst vs)) (e1.trans e2) (e1.i.free hp) (e1.h.free hp) upd_same h1⟩⟩
theorem de_tupL {es : List Expr} {r : Rp α} {xs : List α} {x1} {pos : Pos} (h : DL X B Γ es r xs) (hz : xs.length ≤ 1000000 := by first | decide | (simp; done)) : DE X B Γ (.Tuple es x1 pos) (rTup r) xs :=
  pe_weak (pe_tup h) fun σ H Q ⟨F, en, k⟩ => ⟨F, en, fun vs F1 H1 e1 h1 => ⟨by rw [h1.length]; exact Nat.le_trans hz (by decide), fun p hp =>
    have e2 := Ext.new e1.i (.tup vs) hp
    k (.ref p) _ _ (e1.trans e2) ⟨p, vs, rfl, upd_same, Rl.imp (fun _ _ => r.mono e2.f) h1⟩⟩⟩
theorem de_pair {e1 e2 : Expr} {r : Rp α} {s : Rp β} {x : α} {y : β} {x1} {pos : Pos} (h : DA X B Γ [e1, e2] [.val r x, .val s y]) : DE X B Γ (.Tuple [e1, e2] x1 pos) (rPair r s) (x, y) :=
  pe_weak (pe_tup h) fun σ H Q ⟨F, en, k⟩ => ⟨F, en, fun vs F1 H1 e1 h1 => by
    obtain ⟨u, w, rfl, h2, h3⟩ := h1.two
    refine ⟨by show 2 ≤ sizeLine; decide, fun p hp => ?_⟩
    have e2 := Ext.new e1.i (.tup [u, w]) hp
    exact k (.ref p) _ _ (e1.trans e2) ⟨p, u, w, rfl, upd_same, r.mono e2.f h2, s.mono e2.f h3⟩⟩
theorem de_tri {e1 e2 e3 : Expr} {r : Rp α} {s : Rp β} {t : Rp γ} {x : α} {y : β} {z : γ} {x1} {pos : Pos} (h : DA X B Γ [e1, e2, e3] [.val r x, .val s y, .val t z]) : DE X B Γ (.Tuple [e1, e2, e3] x1 pos) (rTri r s t) (x, y, z) :=
  pe_weak (pe_tup h) fun σ H Q ⟨F, en, k⟩ => ⟨F, en, fun vs F1 H1 e1 h1 => by
    obtain ⟨u, w, q, rfl, h2, h3, h4⟩ := h1.three
    refine ⟨by show 3 ≤ sizeLine; decide, fun p hp => ?_⟩
    have e2 := Ext.new e1.i (.tup [u, w, q]) hp
    exact k (.ref p) _ _ (e1.trans e2) ⟨p, u, w, q, rfl, upd_same, r.mono e2.f h2, s.mono e2.f h3, t.mono e2.f h4⟩⟩

/-! ### stores into own slots -/
theorem Env.putOwn {Γ' : Ctx} {σ : St} {F H F' H' : Hp} {i : Nat} {v : V} {o : Own α} {a : α} {fi : Addr → Prop} (h : Env B Γ σ F H) (t : To Γ i (.own o a) Γ') (e : Ext F H F' H') (hr : o.rel F' H' v a fi) (hn : ∀ b, fi b → F' b = none ∧ H b = none ∧ H' b ≠ none) : Env B Γ' (σ.set i (some v)) F' H' := by
  obtain ⟨fp, h⟩ := h
  have hi : i < σ.length := by rw [h.len]; exact t.set.2
  have kp : ∀ j b, fp j b → H' b = H b := fun j b q => by
    have z := (h.own_at q).2.1
    cases w : H b with
    | none => exact absurd w z
    | some u => exact e.h b u w
  refine ⟨_, h.putG (fi := fi) t (by simp) (fun j hj => List.getElem?_set_ne fun z => hj z.symm) (h.base.trans e) e.i e.f (fun j b _ q => ⟨kp j b q, e.d b (h.own_at q).1 (h.own_at q).2.1⟩) ?_ (fun j b _ q z => (h.own_at q).2.1 (hn b z).2.1)⟩
  rw [List.getElem?_set_self hi]
  exact ⟨⟨v, rfl, hr⟩, fun b hb => ⟨(hn b hb).1, (hn b hb).2.2, h.base.h.free (hn b hb).2.1⟩⟩
end

/-! ### the words with the context's facts -/
section
variable {P : Program} {w : World} {K : PySem.W.Frag} {mg : Str → Option Value} {base : Heap} {k : Nat} {N : List Str} {sc : Scope} {vs ls : List Nat} {X : Cx} {α β γ : Type} {B : Bs} {Γ Γ' : Ctx} {e a b : Expr} {D : Ends} {rest ss : List Stmt} {pos : Pos}
theorem c_var (c : XC P w K mg base k N sc vs ls X) (i : Nat) {x : Str} {r : Rp α} {v : α} (h : At Γ i (.val r v)) (hN : N[i]? = some x := by rfl) (hv : vs.contains i = true := by rfl) (hd : (x == ("__debug__" : Str)) = false := by decide) (hcd : (x == ("__classdict__" : Str)) = false := by decide) : DE X B Γ (.Name x pos) r v :=
  have hN' : X.N[i]? = some x := by rw [c.N]; exact hN
  de_var i hN' (c.vis i x hN' hv) h hd hcd
/-- x = e; the value gets a name -/
theorem c_asg (c : XC P w K mg base k N sc vs ls X) (i : Nat) {x : Str} {pos' : Pos} {r : Rp α} {v : α} {Γ' : α → Ctx} (he : DE X B Γ e r v) (t : ∀ a, To Γ i (.val r a) (Γ' a)) (hr : ∀ a, a = v → SD X B (Γ' a) rest D)
    (hN : N[i]? = some x := by rfl) (hl : ls.contains i = true := by rfl) (hs : swapsWith e (some (.Name x pos')) pos.line X.env = pure false := by rfl) : SD X B Γ (.Assign [.Name x pos'] e pos :: rest) D :=
  have hN' : X.N[i]? = some x := by rw [c.N]; exact hN
  sd_asg he c.nd hN' (c.loc i x hN' hl).1 (c.loc i x hN' hl).2 (t v) (hr v rfl) hs
theorem sd_asgO {i : Nat} {x : Str} {pos' : Pos} {te : TE} {o : Own α} {v : α} (he : PE X e te) (hN : X.N.Nodup) (hi : X.N[i]? = some x) (hx : Loc X.env.scope x) (hf : X.fn x = true ∨ X.env.scope.names.lookup x = some .local)
    (hte : ∀ σ F H Q, Env B Γ σ F H → (∀ u F' H' fi, Ext F H F' H' → o.rel F' H' u v fi → (∀ b, fi b → F' b = none ∧ H b = none ∧ H' b ≠ none) → Q u H') → te σ H Q) (t : To Γ i (.own o v) Γ')
    (hr : SD X B Γ' rest D) (hs : swapsWith e (some (.Name x pos')) pos.line X.env = pure false := by rfl) : SD X B Γ (.Assign [.Name x pos'] e pos :: rest) D :=
  sd_cons (ps_set hN hi hx he hs hf) (fun D' l σ H ⟨F, en⟩ => hte σ F H _ en fun u F' H' fi e1 h1 h2 => l.nx _ _ ⟨F', en.putOwn t e1 h1 h2⟩) hr
/-- x = a new list that will change -/
theorem c_asgM (c : XC P w K mg base k N sc vs ls X) (i : Nat) {x : Str} {pos' : Pos} {r : Rp α} {v : List α} {Γ' : List α → Ctx} (he : DM X B Γ e r v) (t : ∀ a, To Γ i (.own (oList r) a) (Γ' a)) (hr : ∀ a, a = v → SD X B (Γ' a) rest D)
    (hN : N[i]? = some x := by rfl) (hl : ls.contains i = true := by rfl) (hs : swapsWith e (some (.Name x pos')) pos.line X.env = pure false := by rfl) : SD X B Γ (.Assign [.Name x pos'] e pos :: rest) D :=
  have hN' : X.N[i]? = some x := by rw [c.N]; exact hN
  sd_asgO (o := oList r) he c.nd hN' (c.loc i x hN' hl).1 (c.loc i x hN' hl).2 (fun σ F H Q en q => ⟨F, en, fun p vs F' H' e1 h1 h2 h3 h4 => q (.ref p) F' H' (fun b => b = p) e1 ⟨p, vs, rfl, rfl, h3, h4⟩ (fun b hb => by subst hb; exact ⟨h1, h2, by rw [h3]; intro z; cases z⟩)⟩) (t v) (hr v rfl) hs
/-- x = a new thing that will change -/
theorem c_asgN (c : XC P w K mg base k N sc vs ls X) (i : Nat) {x : Str} {pos' : Pos} {r : Rp α} {v : α} {Γ' : α → Ctx} (he : DN X B Γ e r v) (t : ∀ a, To Γ i (.own (oAll r) a) (Γ' a)) (hr : ∀ a, a = v → SD X B (Γ' a) rest D)
    (hN : N[i]? = some x := by rfl) (hl : ls.contains i = true := by rfl) (hs : swapsWith e (some (.Name x pos')) pos.line X.env = pure false := by rfl) : SD X B Γ (.Assign [.Name x pos'] e pos :: rest) D :=
  have hN' : X.N[i]? = some x := by rw [c.N]; exact hN
  sd_asgO (o := oAll r) he c.nd hN' (c.loc i x hN' hl).1 (c.loc i x hN' hl).2 (fun σ F H Q en q => ⟨F, en, fun u G H' s1 s2 s3 h4 => q u F H' (fun b => G b ≠ none) ⟨Same.refl F, s1, en.same.trans s1, fun b hf _ => hf⟩
    ⟨G, fun b u q => ⟨(by show G b ≠ none; rw [q]; intro z; cases z), s2 b u q⟩, h4⟩ (fun b hb => ⟨en.same.free (s3 b hb), s3 b hb, by
      cases z : G b with
      | none => exact absurd z hb
      | some o => rw [s2 b o z]; intro z; cases z⟩)⟩) (t v) (hr v rfl) hs
end
end DL
namespace DL
open PySem L2 PySem.Spec PyProof.Rows

/-! ### a def of the text, as it may be called -/
def FN (P : Program) (w : World) (K : PySem.W.Frag) (mg : Str → Option Value) (base : Heap) (CX : CXT) (k : Nat) (x : Str) (ps : List Str) (sp : Sp) : Prop :=
  ∃ fa fd, FnOk P w K mg base CX k fa fd ps sp ∧ mg x = some (.ref fa) ∧ PySem.W.keepIn K (.ref fa) = true ∧ Binds K fd ps [] ∧ ∃ o od sl, K.lookup fa = some ⟨o, od, .func fd, sl⟩
theorem fun_look {K : PySem.W.Frag} {x q : Str} {st : Stmt} {f : Addr} {fd : FuncData} (F : Fun K x q st f fd) : ∃ o od sl, K.lookup f = some ⟨o, od, .func fd, sl⟩ := by
  obtain ⟨oc, od, kV, doc, pm, an, cdv, ct, osl, rfl, lk, _⟩ := F.ex
  exact ⟨_, _, _, lk⟩
/-- a def as the top has left it -/
def FT (K : PySem.W.Frag) (mg : Str → Option Value) (x q : Str) (st : Stmt) (ps : List Str) : Prop :=
  ∃ fa fd, Fun K x q st fa fd ∧ mg x = some (.ref fa) ∧ Binds K fd ps []
def glB (sc : Scope) (x : Str) : Bool := match sc.names.lookup x with | some .globalImplicit => true | _ => false
theorem gl_of {sc : Scope} {x : Str} {X : Cx} (hs : X.env.scope = sc) (h : glB sc x = true) : Gl X x := by
  unfold glB at h
  show X.env.scope.names.lookup x = some .globalImplicit
  rw [hs]
  split at h
  · assumption
  · cases h
def visB (N : List Str) (sc : Scope) (vs : List Nat) : Bool := vs.all fun i => match N[i]? with
  | some x => (match sc.names.lookup x with | some .local => true | some .cell => true | some .free => true | _ => false)
  | none => false
def locB (N : List Str) (sc : Scope) (vs : List Nat) : Bool := vs.all fun i => match N[i]? with
  | some x => (match sc.names.lookup x with | some .local => true | some .cell => true | _ => false)
  | none => false
theorem vis_of {N : List Str} {sc : Scope} {vs : List Nat} (h : visB N sc vs = true) (i : Nat) (x : Str) (hN : N[i]? = some x) (hv : vs.contains i = true) : Vis sc x := by
  have q := List.all_eq_true.mp h i (by simpa using hv)
  rw [hN] at q
  dsimp only at q
  unfold Vis
  split at q
  · exact .inl (by assumption)
  · exact .inr (.inl (by assumption))
  · exact .inr (.inr (by assumption))
  · cases q
theorem loc_of {N : List Str} {sc : Scope} {vs : List Nat} (h : locB N sc vs = true) (i : Nat) (x : Str) (hN : N[i]? = some x) (hv : vs.contains i = true) : L2.Loc sc x := by
  have q := List.all_eq_true.mp h i (by simpa using hv)
  rw [hN] at q
  dsimp only at q
  unfold L2.Loc
  split at q
  · exact .inl (by assumption)
  · exact .inr (by assumption)
  · cases q

/-! ### promises -/
def SpM {ι ρ : Type} (args : ι → Ctx) (pre : ι → Prop) (r : Rp ρ) (f : ι → List ρ) : Sp := fun vs H Q _ =>
  ∃ F i, Same F H ∧ SlsOk F vs (args i) ∧ pre i ∧ ∀ p vs F' H', Ext F H F' H' → F' p = none → H p = none → H' p = some (.lst vs) → Rl (r.rel F') vs (f i) → Q (.ref p) H'
def SpN {ι ρ : Type} (args : ι → Ctx) (pre : ι → Prop) (rr : Rp ρ) (f : ι → ρ) : Sp := fun vs H Q _ =>
  ∃ F i, Same F H ∧ SlsOk F vs (args i) ∧ pre i ∧ ∀ v G H', Same H H' → Same G H' → (∀ b, G b ≠ none → H b = none) → rr.rel G v (f i) → Q v H'
def RtM {ρ : Type} (B : Bs) (r : Rp ρ) (res : List ρ) (D : Ends) : Prop := ∀ p vs F' H', Ext B.F B.H F' H' → F' p = none → B.H p = none → H' p = some (.lst vs) → Rl (r.rel F') vs res → D.rt (.ref p) H'
def RtN {ρ : Type} (B : Bs) (rr : Rp ρ) (res : ρ) (D : Ends) : Prop := ∀ v G H', Same B.H H' → Same G H' → (∀ b, G b ≠ none → B.H b = none) → rr.rel G v res → D.rt v H'
section
variable {P : Program} {w : World} {K : PySem.W.Frag} {mg : Str → Option Value} {base : Heap} {k j : Nat} {N : List Str} {sc : Scope} {vs ls : List Nat} {X : Cx} {α β γ ι ρ : Type} {B : Bs} {Γ Γ' : Ctx} {e a b : Expr} {es : List Expr} {D : Ends} {rest ss : List Stmt} {p pos : Pos}
variable {args : ι → Ctx} {pre : ι → Prop} {ps : List Str} {x : Str}
theorem c_call (c : XC P w K mg base k N sc vs ls X) {rr : Rp ρ} {f : ι → ρ} (h : FN P w K mg base CX0 j x ps (SpF args pre rr f)) (i : ι) (ha : DA X B Γ (e :: es) (args i)) (hp : pre i) (hj : j ≤ k := by decide) (hg : glB sc x = true := by decide +kernel)
    (hdb : (x == ("__debug__" : Str)) = false := by decide) (he : starEach (e :: es) X.env = (false, eval e X.env) :: starEach es X.env := by rfl) (hpl : (backTo pos (starEach es X.env)).any (·.1) = false := by rfl) :
    DE X B Γ (.Call (.Name x p) (e :: es) [] pos) rr (f i) := by
  obtain ⟨fa, fd, G, h1, h2, h3⟩ := h
  have G' : FnOk X.prog X.w X.K X.mg X.base CX0 j fa fd ps (SpF args pre rr f) := by rw [c.p, c.w, c.K, c.mg, c.b]; exact G
  exact de_call i G' (c.room.mono hj) (gl_of c.sc hg) (by rw [c.mg]; exact h1) (by rw [c.K]; exact h2) (by rw [c.K]; exact h3.1) ha hp hdb he hpl
theorem c_call0 (c : XC P w K mg base k N sc vs ls X) {rr : Rp ρ} {f : ι → ρ} (h : FN P w K mg base CX0 j x ps (SpF args pre rr f)) (i : ι) (ha : args i = []) (hp : pre i) (hj : j ≤ k := by decide) (hg : glB sc x = true := by decide +kernel)
    (hdb : (x == ("__debug__" : Str)) = false := by decide) :
    DE X B Γ (.Call (.Name x p) [] [] pos) rr (f i) := by
  obtain ⟨fa, fd, G, h1, h2, h3⟩ := h
  have G' : FnOk X.prog X.w X.K X.mg X.base CX0 j fa fd ps (SpF args pre rr f) := by rw [c.p, c.w, c.K, c.mg, c.b]; exact G
  exact de_call0 i G' (c.room.mono hj) (gl_of c.sc hg) (by rw [c.mg]; exact h1) (by rw [c.K]; exact h2) (by rw [c.K]; exact h3.1) ha hp hdb
theorem c_callG (c : XC P w K mg base k N sc vs ls X) {sp : Sp} (h : FN P w K mg base CX0 j x ps sp) {t : TA} (ha : PA X (e :: es) t) (hj : j ≤ k) (hg : glB sc x = true)
    (hdb : (x == ("__debug__" : Str)) = false) (he : starEach (e :: es) X.env = (false, eval e X.env) :: starEach es X.env) (hpl : (backTo pos (starEach es X.env)).any (·.1) = false) :
    PE X (.Call (.Name x p) (e :: es) [] pos) (tCall sp [] E0 t) := by
  obtain ⟨fa, fd, G, h1, h2, h3⟩ := h
  have G' : FnOk X.prog X.w X.K X.mg X.base CX0 j fa fd ps sp := by rw [c.p, c.w, c.K, c.mg, c.b]; exact G
  exact pe_call G' (c.room.mono hj) (gl_of c.sc hg) (by rw [c.mg]; exact h1) (by rw [c.K]; exact h2) (by rw [c.K]; exact h3.1) .nil pass0 ha hdb he hpl
theorem c_callM (c : XC P w K mg base k N sc vs ls X) {r : Rp ρ} {f : ι → List ρ} (h : FN P w K mg base CX0 j x ps (SpM args pre r f)) (i : ι) (ha : DA X B Γ (e :: es) (args i)) (hp : pre i) (hj : j ≤ k := by decide) (hg : glB sc x = true := by decide +kernel)
    (hdb : (x == ("__debug__" : Str)) = false := by decide) (he : starEach (e :: es) X.env = (false, eval e X.env) :: starEach es X.env := by rfl) (hpl : (backTo pos (starEach es X.env)).any (·.1) = false := by rfl) :
    DM X B Γ (.Call (.Name x p) (e :: es) [] pos) r (f i) :=
  pe_weak (c_callG c h ha hj hg hdb he hpl) fun σ H Q ⟨F, en, q⟩ => ⟨F, en, fun vs F1 H1 e1 h1 => by
    show SpM args pre r f (vs ++ []) H1 Q E0
    rw [List.append_nil]
    exact ⟨F1, i, e1.i, h1, hp, fun p us F2 H2 e2 h2 h3 h4 h5 => q p us F2 H2 (e1.trans e2) h2 (e1.h.free h3) h4 h5⟩⟩
theorem c_callN (c : XC P w K mg base k N sc vs ls X) {rr : Rp ρ} {f : ι → ρ} (h : FN P w K mg base CX0 j x ps (SpN args pre rr f)) (i : ι) (ha : DA X B Γ (e :: es) (args i)) (hp : pre i) (hj : j ≤ k := by decide) (hg : glB sc x = true := by decide +kernel)
    (hdb : (x == ("__debug__" : Str)) = false := by decide) (he : starEach (e :: es) X.env = (false, eval e X.env) :: starEach es X.env := by rfl) (hpl : (backTo pos (starEach es X.env)).any (·.1) = false := by rfl) :
    DN X B Γ (.Call (.Name x p) (e :: es) [] pos) rr (f i) :=
  pe_weak (c_callG c h ha hj hg hdb he hpl) fun σ H Q ⟨F, en, q⟩ => ⟨F, en, fun vs F1 H1 e1 h1 => by
    show SpN args pre rr f (vs ++ []) H1 Q E0
    rw [List.append_nil]
    exact ⟨F1, i, e1.i, h1, hp, fun v G H2 s1 s2 s3 h2 => q v G H2 (e1.h.trans s1) s2 (fun b hb => e1.h.free (s3 b hb)) h2⟩⟩
/-! what a def hands back -/
theorem sd_retM {r : Rp ρ} {res v : List ρ} (hD : RtM B r res D) (he : DM X B Γ e r v) (hv : v = res) : SD X B Γ (.Return (some e) pos :: rest) D :=
  pss_weak (pss_cons (ps_ret he) pss_never) fun D' σ H ⟨hd, F, en⟩ => by
    subst hv
    exact ⟨F, en, fun p us F' H' e1 h1 h2 h3 h4 => hd.rt _ _ (hD p us F' H' (en.base.trans e1) h1 (en.base.h.free h2) h3 h4)⟩
theorem sd_retN {rr : Rp ρ} {res v : ρ} (hD : RtN B rr res D) (he : DN X B Γ e rr v) (hv : v = res) : SD X B Γ (.Return (some e) pos :: rest) D :=
  pss_weak (pss_cons (ps_ret he) pss_never) fun D' σ H ⟨hd, F, en⟩ => by
    subst hv
    exact ⟨F, en, fun v G H' s1 s2 s3 h4 => hd.rt _ _ (hD v G H' (en.base.h.trans s1) s2 (fun b hb => en.base.h.free (s3 b hb)) h4)⟩
/-- return of an own list's name -/
theorem c_retO (c : XC P w K mg base k N sc vs ls X) (i : Nat) {r : Rp ρ} {res v : List ρ} (hD : RtM B r res D) (h : At Γ i (.own (oList r) v)) (hv : v = res) (hN : N[i]? = some x := by rfl) (hvs : vs.contains i = true := by rfl)
    (hd : (x == ("__debug__" : Str)) = false := by decide) (hcd : (x == ("__classdict__" : Str)) = false := by decide) : SD X B Γ (.Return (some (.Name x p)) pos :: rest) D := by
  have hN' : X.N[i]? = some x := by rw [c.N]; exact hN
  refine pss_weak (pss_cons (ps_ret (pe_var hN' (c.vis i x hN' hvs) hd hcd)) pss_never) fun D' σ H ⟨hd, F, fp, en⟩ => ?_
  obtain ⟨⟨u, hu, p, us, h1, h2, h3, h4⟩, hn⟩ := en.ok i _ h.get
  subst hv
  subst h1
  have z := hn p (by rw [h2])
  exact ⟨_, hu, hd.rt _ _ (hD p us F H en.base z.1 z.2.2 h3 h4)⟩
theorem c_retNO (c : XC P w K mg base k N sc vs ls X) (i : Nat) {r : Rp ρ} {res v : ρ} (hD : RtN B r res D) (h : At Γ i (.own (oAll r) v)) (hv : v = res) (hN : N[i]? = some x := by rfl) (hvs : vs.contains i = true := by rfl)
    (hd : (x == ("__debug__" : Str)) = false := by decide) (hcd : (x == ("__classdict__" : Str)) = false := by decide) : SD X B Γ (.Return (some (.Name x p)) pos :: rest) D := by
  have hN' : X.N[i]? = some x := by rw [c.N]; exact hN
  refine pss_weak (pss_cons (ps_ret (pe_var hN' (c.vis i x hN' hvs) hd hcd)) pss_never) fun D' σ H ⟨hd, F, fp, en⟩ => ?_
  obtain ⟨⟨u, hu, G, g1, g2⟩, hn⟩ := en.ok i _ h.get
  subst hv
  refine ⟨_, hu, hd.rt _ _ (hD u G H en.base.h (fun b u q => (g1 b u q).2) (fun b hb => ?_) g2)⟩
  cases z : G b with
  | none => exact absurd z hb
  | some o => exact (hn b (g1 b o z).1).2.2
end

/-! ### a def keeps its promise -/
section
variable {P : Program} {w : World} {K : PySem.W.Frag} {mg : Str → Option Value} {base : Heap} {k : Nat} {N : List Str} {vs : List Nat} {ι ρ : Type} {args : ι → Ctx} {pre : ι → Prop} {ps : List Str} {x q : Str} {st : Stmt}
theorem SlsOk.length {F : Hp} : ∀ {vs : List V} {Δ : Ctx}, SlsOk F vs Δ → vs.length = Δ.length
  | [], [], _ => rfl
  | v :: vs, s :: Δ, h => by simp [SlsOk.length h.2]
  | [], _ :: _, h => h.elim
  | _ :: _, [], h => h.elim
theorem SlsOk.at_ {F : Hp} : ∀ {vs : List V} {Δ : Ctx} {i : Nat} {s : Sl}, SlsOk F vs Δ → Δ[i]? = some s → ∃ v, vs[i]? = some v ∧ slVal F v s
  | [], [], _, _, _, h => by simp at h
  | v :: vs, s :: Δ, 0, t, h, e => by
    have e : s = t := by simpa using e
    subst e
    exact ⟨v, rfl, h.1⟩
  | v :: vs, s :: Δ, i + 1, t, h, e => by
    obtain ⟨u, h1, h2⟩ := SlsOk.at_ (i := i) (s := t) h.2 (by simpa using e)
    exact ⟨u, by simpa using h1, h2⟩
  | [], _ :: _, _, _, h, _ => h.elim
  | _ :: _, [], _, _, h, _ => h.elim
theorem env_start {F H : Hp} {us : List V} {Δ Γ0 : Ctx} (s : Same F H) (h : SlsOk F us Δ) (hl : Δ.length = ps.length) (hp : ps.length ≤ N.length) (e : Δ ++ List.replicate (N.length - ps.length) .un = Γ0) : Env ⟨F, H, F⟩ Γ0 (L2.start N us) F H := by
  subst e
  have hz : us.length = ps.length := by rw [h.length, hl]
  refine ⟨fun _ _ => False, ?_, Ext.refl s, s, Same.refl F, fun i t ht => ?_, fun _ _ _ z => z, fun _ _ _ _ z => z.elim⟩
  · unfold L2.start
    simp [hz, hl]
  · by_cases hi : i < Δ.length
    · rw [List.getElem?_append_left hi] at ht
      obtain ⟨v, h1, h2⟩ := h.at_ ht
      have hs : (L2.start N us)[i]? = some (some v) := by
        unfold L2.start
        rw [List.getElem?_append_left (by simpa [hz, ← hl] using hi), List.getElem?_map, h1]
        rfl
      rw [hs]
      cases t with
      | val r a => exact ⟨fun _ z => z, v, rfl, h2⟩
      | un => exact h2.elim
      | own o a => exact h2.elim
    · rw [List.getElem?_append_right (by omega), List.getElem?_replicate] at ht
      split at ht
      · cases ht
        exact fun _ z => z
      · cases ht
/-- the context of a def from which nothing is raised -/
theorem xc_of {cdv : Value} {fa : Addr} {A : Around} {outer : List PySem.Env} {s : Shared} {H : Hp} {E : XK} (S : FnScope N ps (defScope st)) (hv : locB N (defScope st) vs = true) (hr : Room k (A.deeper (envOfC q (defScope st) s.heap.objs.size fa cdv))) :
    XC P w K mg base k N (defScope st) vs vs (cxOf CX0 P w K mg base N q (defScope st) fa cdv A outer s H E).nox :=
  ⟨rfl, rfl, rfl, rfl, rfl, rfl, rfl, rfl, hr, S.kind, S.nd, PassesOwn.never, fun i x hN hc => (loc_of hv i x hN hc).elim .inl fun z => .inr (.inl z), fun i x hN hc => ⟨loc_of hv i x hN hc, .inl rfl⟩⟩
theorem fnF {rr : Rp ρ} {f : ι → ρ} (Γ0 : ι → Ctx) (T : FT K mg x q st ps) (S : FnScope N ps (defScope st)) (hv : locB N (defScope st) vs = true) (hl : ∀ i, (args i).length = ps.length) (hΓ : ∀ i, args i ++ List.replicate (N.length - ps.length) .un = Γ0 i)
    (body : ∀ (X : Cx) (B : Bs) (D : Ends) (i : ι), XC P w K mg base k N (defScope st) vs vs X → pre i → RtOk B rr (f i) D → (∀ σ H, D.nx σ H → D.rt .non H) → SD X B (Γ0 i) (defBody st) { D with nx := fun _ H => D.rt .non H }) :
    FN P w K mg base CX0 (k + 1) x ps (SpF args pre rr f) := by
  obtain ⟨fa, fd, F, hm, hb⟩ := T
  refine ⟨fa, fd, F.ok S (fun us H Q E ⟨F0, i, _, h, _⟩ => by rw [h.length, hl]) (fun cdv A outer s H us Q E hr ⟨F0, i, s0, h, hp, hk⟩ => ?_), hm, F.kp, hb, fun_look F⟩
  refine ⟨_, body _ ⟨F0, H, F0⟩ { nx := fun _ H' => Q .non H', rt := Q } i (xc_of S hv hr) hp hk (fun _ _ z => z), Le.refl _, F0, env_start s0 h (hl i) ?_ (hΓ i)⟩
  have := congrArg List.length S.pre; rw [List.length_take] at this; omega
theorem fnM {r : Rp ρ} {f : ι → List ρ} (Γ0 : ι → Ctx) (T : FT K mg x q st ps) (S : FnScope N ps (defScope st)) (hv : locB N (defScope st) vs = true) (hl : ∀ i, (args i).length = ps.length) (hΓ : ∀ i, args i ++ List.replicate (N.length - ps.length) .un = Γ0 i)
    (body : ∀ (X : Cx) (B : Bs) (D : Ends) (i : ι), XC P w K mg base k N (defScope st) vs vs X → pre i → RtM B r (f i) D → SD X B (Γ0 i) (defBody st) D) :
    FN P w K mg base CX0 (k + 1) x ps (SpM args pre r f) := by
  obtain ⟨fa, fd, F, hm, hb⟩ := T
  refine ⟨fa, fd, F.ok S (fun us H Q E ⟨F0, i, _, h, _⟩ => by rw [h.length, hl]) (fun cdv A outer s H us Q E hr ⟨F0, i, s0, h, hp, hk⟩ => ?_), hm, F.kp, hb, fun_look F⟩
  refine ⟨_, body _ ⟨F0, H, F0⟩ { nx := fun _ H' => Q .non H', rt := Q } i (xc_of S hv hr) hp hk, Le.refl _, F0, env_start s0 h (hl i) ?_ (hΓ i)⟩
  have := congrArg List.length S.pre; rw [List.length_take] at this; omega
theorem fnN {rr : Rp ρ} {f : ι → ρ} (Γ0 : ι → Ctx) (T : FT K mg x q st ps) (S : FnScope N ps (defScope st)) (hv : locB N (defScope st) vs = true) (hl : ∀ i, (args i).length = ps.length) (hΓ : ∀ i, args i ++ List.replicate (N.length - ps.length) .un = Γ0 i)
    (body : ∀ (X : Cx) (B : Bs) (D : Ends) (i : ι), XC P w K mg base k N (defScope st) vs vs X → pre i → RtN B rr (f i) D → SD X B (Γ0 i) (defBody st) D) :
    FN P w K mg base CX0 (k + 1) x ps (SpN args pre rr f) := by
  obtain ⟨fa, fd, F, hm, hb⟩ := T
  refine ⟨fa, fd, F.ok S (fun us H Q E ⟨F0, i, _, h, _⟩ => by rw [h.length, hl]) (fun cdv A outer s H us Q E hr ⟨F0, i, s0, h, hp, hk⟩ => ?_), hm, F.kp, hb, fun_look F⟩
  refine ⟨_, body _ ⟨F0, H, F0⟩ { nx := fun _ H' => Q .non H', rt := Q } i (xc_of S hv hr) hp hk, Le.refl _, F0, env_start s0 h (hl i) ?_ (hΓ i)⟩
  have := congrArg List.length S.pre; rw [List.length_take] at this; omega
end
end DL
namespace DL
open PySem L2 PySem.Spec PyProof.Rows

/-! ### walks -/
structure IsW {α : Type} (J : It) (r : Rp α) (xs : List α) (F0 : Hp) : Prop where
  go : ∀ i F H, i < xs.length → Same F0 F → Same F H → J.go i H
  stop : ∀ F H, Same F0 F → Same F H → J.stop xs.length H
  yld : ∀ i F H v H', i < xs.length → Same F0 F → Same F H → J.yld i H v H' → ∃ F' x, xs[i]? = some x ∧ Ext F H F' H' ∧ r.rel F' v x
def tDI {α : Type} (B : Bs) (Γ : Ctx) (r : Rp α) (xs : List α) : TI := fun σ H R => ∃ F, Env B Γ σ F H ∧ ∀ J F' H', Ext F H F' H' → IsW J r xs F' → R J H'
abbrev DI {α : Type} (X : Cx) (B : Bs) (Γ : Ctx) (tg iter : Expr) (r : Rp α) (xs : List α) : Prop := PI X tg iter (tDI B Γ r xs)
section
variable {X : Cx} {α β γ : Type} {B : Bs} {Γ Γ' : Ctx} {e a b tg : Expr}
theorem pi_weak {t t' : TI} (h : PI X tg e t) (w : ∀ σ H R, t' σ H R → t σ H R) : PI X tg e t' := ⟨fun pins s σ H R I q => h.run pins s σ H R I (w σ H R q)⟩
theorem isw_list {K : PySem.W.Frag} {p : Addr} {us : List V} {r : Rp α} {xs : List α} {F0 : Hp} (h : F0 p = some (.lst us)) (hr : Rl (r.rel F0) us xs) : IsW (Itl K p) r xs F0 := by
  have hl := hr.length
  have sq : ∀ F H, Same F0 F → Same F H → SqL K H p us := fun F H s1 s2 => SqL.of (s2 _ _ (s1 _ _ h))
  refine ⟨fun i F H hi s1 s2 => ⟨us, us[i]'(by omega), sq F H s1 s2, by simp⟩, fun F H s1 s2 => ⟨us, sq F H s1 s2, by omega⟩, fun i F H v H' hi s1 s2 y => ?_⟩
  obtain ⟨rfl, y⟩ := y
  obtain ⟨x, h1, h2⟩ := hr.getV (y us (sq F _ s1 s2))
  exact ⟨F, x, h1, Ext.refl s2, r.mono s1 h2⟩
theorem isw_tup {K : PySem.W.Frag} {p : Addr} {us : List V} {r : Rp α} {xs : List α} {F0 : Hp} (h : F0 p = some (.tup us)) (hr : Rl (r.rel F0) us xs) : IsW (Itt K p) r xs F0 := by
  have hl := hr.length
  have sq : ∀ F H, Same F0 F → Same F H → SqT K H p us := fun F H s1 s2 => SqT.of (s2 _ _ (s1 _ _ h))
  refine ⟨fun i F H hi s1 s2 => ⟨us, us[i]'(by omega), sq F H s1 s2, by simp⟩, fun F H s1 s2 => ⟨us, sq F H s1 s2, by omega⟩, fun i F H v H' hi s1 s2 y => ?_⟩
  obtain ⟨rfl, y⟩ := y
  obtain ⟨x, h1, h2⟩ := hr.getV (y us (sq F _ s1 s2))
  exact ⟨F, x, h1, Ext.refl s2, r.mono s1 h2⟩
/-- the whole numbers from lo on, n of them -/
def rng (lo : Int) (n : Nat) : List Int := (List.range n).map fun k => lo + (k : Nat)
theorem rng_len (lo : Int) (n : Nat) : (rng lo n).length = n := by simp [rng]
theorem rng_get {lo : Int} {n i : Nat} (h : i < n) : (rng lo n)[i]? = some (lo + (i : Nat)) := by simp [rng, h]
theorem mem_rng {lo x : Int} {n : Nat} (h : x ∈ rng lo n) : lo ≤ x ∧ x < lo + n := by
  obtain ⟨k, hk, rfl⟩ := List.mem_map.mp h
  have := List.mem_range.mp hk
  omega
theorem isw_rng {lo : Int} {n : Nat} {F0 : Hp} : IsW (Itr lo n) rInt (rng lo n) F0 := by
  refine ⟨fun i F H hi _ _ => by rw [rng_len] at hi; exact hi, fun F H _ _ => by rw [rng_len]; exact Nat.le_refl _, fun i F H v H' hi s1 s2 y => ?_⟩
  obtain ⟨rfl, rfl⟩ := y
  rw [rng_len] at hi
  exact ⟨F, _, rng_get hi, Ext.refl s2, rfl⟩
/-- the signs of a text, each a text -/
def sgs (t : Txt) : List Txt := t.map fun c => [c]
theorem isw_str {t : Txt} {F0 : Hp} (ok : okT t = true) : IsW (Its (tx t)) rTxt (sgs t) F0 := by
  have hz : (tx t).cps.size = t.length := by show t.toArray.size = _; simp
  have hl : (sgs t).length = t.length := by simp [sgs]
  refine ⟨fun i F H hi _ _ => by show i < (tx t).cps.size; rw [hz]; omega, fun F H _ _ => by show (tx t).cps.size ≤ _; rw [hz]; omega, fun i F H v H' hi s1 s2 y => ?_⟩
  obtain ⟨rfl, c, hc, rfl⟩ := y
  have hc' : t[i]? = some c := by
    have : (tx t).cps[i]? = t[i]? := by show t.toArray[i]? = _; simp
    rw [← this]; exact hc
  have hm : c ∈ t := List.mem_of_getElem? hc'
  have hk : decide (c < 1114112) = true := List.all_eq_true.mp ok c hm
  exact ⟨F, [c], by simp [sgs, hc'], Ext.refl s2, rfl, by show (decide (c < 1114112) && true) = true; rw [hk]; rfl⟩
theorem di_list {r : Rp α} {xs : List α} (h : DE X B Γ e (rList r) xs) : DI X B Γ tg e r xs :=
  pi_weak (pi_list h) fun σ H R ⟨F, en, k⟩ => ⟨F, en, fun v F1 H1 e1 ⟨p, us, h1, h2, h3⟩ => ⟨p, h1, ⟨us, SqL.of (e1.i _ _ h2)⟩, k _ F1 H1 e1 (isw_list h2 h3)⟩⟩
theorem di_scr {xs : List Int} {K : PySem.W.Frag} (hK : X.K = K) (h : DE X B Γ e (rScr K) xs) : DI X B Γ tg e rInt xs := by
  subst hK
  refine pi_weak (pi_list h) fun σ H R ⟨F, en, k⟩ => ⟨F, en, fun v F1 H1 e1 ⟨p, h1, h2⟩ => ⟨p, h1, ⟨_, e1.i.seq h2⟩, k _ F1 H1 e1 ?_⟩⟩
  have hl : (xs.map V.int).length = xs.length := by simp
  have sq : ∀ F H, Same F1 F → Same F H → SqL X.K H p (xs.map V.int) := fun F H s1 s2 => s2.seq (s1.seq h2)
  refine ⟨fun i F H hi s1 s2 => ⟨_, (xs.map V.int)[i]'(by omega), sq F H s1 s2, by simp⟩, fun F H s1 s2 => ⟨_, sq F H s1 s2, by omega⟩, fun i F H v H' hi s1 s2 y => ?_⟩
  obtain ⟨rfl, y⟩ := y
  have z := y _ (sq F _ s1 s2)
  rw [List.getElem?_map] at z
  cases q : xs[i]? with
  | none => rw [q] at z; cases z
  | some x => rw [q] at z; exact ⟨F, x, rfl, Ext.refl s2, (Option.some.inj z).symm⟩
theorem di_tup {r : Rp α} {xs : List α} (h : DE X B Γ e (rTup r) xs) : DI X B Γ tg e r xs :=
  pi_weak (pi_tup h) fun σ H R ⟨F, en, k⟩ => ⟨F, en, fun v F1 H1 e1 ⟨p, us, h1, h2, h3⟩ => ⟨p, h1, ⟨us, SqT.of (e1.i _ _ h2)⟩, k _ F1 H1 e1 (isw_tup h2 h3)⟩⟩
theorem di_str {t : Txt} (h : DE X B Γ e rTxt t) : DI X B Γ tg e rTxt (sgs t) :=
  pi_weak (pi_str h) fun σ H R ⟨F, en, k⟩ => ⟨F, en, fun v F1 H1 e1 h1 => ⟨_, h1.1, k _ F1 H1 e1 (isw_str h1.2)⟩⟩
/-- what an iterator by turns of new pairs gives -/
theorem ext_pair {F H : Hp} {T : Addr} {x y : V} {r : Rp α} {s : Rp β} {a : α} {b : β} (sm : Same F H) (hT : H T = none) (h1 : r.rel F x a) (h2 : s.rel F y b) :
    Ext F H (upd F T (.tup [x, y])) (upd H T (.tup [x, y])) ∧ (rPair r s).rel (upd F T (.tup [x, y])) (.ref T) (a, b) := by
  have e := Ext.new sm (.tup [x, y]) hT
  exact ⟨e, T, x, y, rfl, upd_same, r.mono e.f h1, s.mono e.f h2⟩
/-- 0, 1, .. beside the items -/
def enumL (xs : List α) : List (Int × α) := (rng 0 xs.length).zip xs
theorem di_enum {r : Rp α} {xs : List α} {p pos tpos : Pos} {elts : List Expr} {kk : Nat} (hg : Gl X "enumerate") (hm : X.mg "enumerate" = none) (h : DA X B Γ [e] [.val (rList r) xs]) (hs : starEach [e] X.env = [(false, eval e X.env)] := by rfl) :
    DI X B Γ (.Tuple elts kk tpos) (.Call (.Name "enumerate" p) [e] [] pos) (rPair rInt r) (enumL xs) :=
  pi_weak (pi_enum hg hm h hs) fun σ H R ⟨F, en, k⟩ => ⟨F, en, fun vs F1 H1 e1 h1 => by
    obtain ⟨v, rfl, q, us, rfl, h2, h3⟩ := h1.one
    have hl := h3.length
    have hz : (enumL xs).length = xs.length := by simp [enumL, rng_len]
    refine ⟨q, us, rfl, SqL.of (e1.i _ _ h2), k _ F1 H1 e1 ?_⟩
    have sq : ∀ F H, Same F1 F → Same F H → SqL X.K H q us := fun F H s1 s2 => SqL.of (s2 _ _ (s1 _ _ h2))
    refine ⟨fun i F H hi s1 s2 => ⟨us, us[i]'(by omega), sq F H s1 s2, by simp⟩, fun F H s1 s2 => ⟨us, sq F H s1 s2, by omega⟩, fun i F H v H' hi s1 s2 y => ?_⟩
    obtain ⟨T, x, y1, y2, y3, y4⟩ := y
    obtain ⟨x', z1, z2⟩ := h3.getV (y4 us (sq F H s1 s2))
    subst y1
    subst y3
    have hb := ext_pair (a := ((i : Nat) : Int)) (r := rInt) s2 y2 (x := .int (i : Nat)) rfl (r.mono s1 z2)
    refine ⟨_, ((i : Nat), x'), ?_, hb.1, hb.2⟩
    unfold enumL
    rw [List.getElem?_zip_eq_some]
    exact ⟨by rw [rng_get (by omega)]; simp, z1⟩⟩
theorem di_zip {r : Rp α} {s : Rp β} {xs : List α} {ys : List β} {p pos tpos : Pos} {elts : List Expr} {kk : Nat} (hg : Gl X "zip") (hm : X.mg "zip" = none) (h : DA X B Γ [a, b] [.val (rList r) xs, .val (rList s) ys])
    (hs : starEach [a, b] X.env = (false, eval a X.env) :: starEach [b] X.env := by rfl) (hpl : (backTo pos (starEach [b] X.env)).any (·.1) = false := by rfl) :
    DI X B Γ (.Tuple elts kk tpos) (.Call (.Name "zip" p) [a, b] [] pos) (rPair r s) (xs.zip ys) :=
  pi_weak (pi_zip hg hm h hs hpl) fun σ H R ⟨F, en, k⟩ => ⟨F, en, fun vs F1 H1 e1 h1 => by
    obtain ⟨v, w, rfl, ⟨q, us, rfl, h2, h3⟩, ⟨q', us', rfl, h2', h3'⟩⟩ := h1.two
    have hl := h3.length
    have hl' := h3'.length
    have hz : (xs.zip ys).length = min xs.length ys.length := by simp
    refine ⟨q, q', us, us', rfl, SqL.of (e1.i _ _ h2), SqL.of (e1.i _ _ h2'), k _ F1 H1 e1 ?_⟩
    have sq : ∀ F H, Same F1 F → Same F H → SqL X.K H q us := fun F H s1 s2 => SqL.of (s2 _ _ (s1 _ _ h2))
    have sq' : ∀ F H, Same F1 F → Same F H → SqL X.K H q' us' := fun F H s1 s2 => SqL.of (s2 _ _ (s1 _ _ h2'))
    refine ⟨fun i F H hi s1 s2 => ⟨us, us', us[i]'(by omega), us'[i]'(by omega), sq F H s1 s2, sq' F H s1 s2, by simp, by simp⟩, fun F H s1 s2 => ⟨us, us', sq F H s1 s2, sq' F H s1 s2, by omega⟩, fun i F H v H' hi s1 s2 y => ?_⟩
    obtain ⟨T, x, z, y1, y2, y3, y4, y5⟩ := y
    obtain ⟨x', z1, z2⟩ := h3.getV (y4 us (sq F H s1 s2))
    obtain ⟨z', z3, z4⟩ := h3'.getV (y5 us' (sq' F H s1 s2))
    subst y1
    subst y3
    have hb := ext_pair s2 y2 (r.mono s1 z2) (s.mono s1 z4)
    exact ⟨_, (x', z'), List.getElem?_zip_eq_some.mpr ⟨z1, z3⟩, hb.1, hb.2⟩⟩
end
section
variable {P : Program} {w : World} {K : PySem.W.Frag} {mg : Str → Option Value} {base : Heap} {k j : Nat} {N : List Str} {sc : Scope} {vs ls : List Nat} {X : Cx} {α β γ ι ρ : Type} {B : Bs} {Γ Γ' : Ctx} {e a b tg iter : Expr} {es : List Expr} {D : Ends} {rest ss body : List Stmt} {p pos : Pos} {x : Str}
theorem c_range1 (c : XC P w K mg base k N sc vs ls X) {n : Int} (h : DE X B Γ a rInt n) (hm : mg "range" = none) (hn : -(2 ^ 62) ≤ n ∧ n < 2 ^ 62) (hg : glB sc "range" = true := by decide +kernel) (hs : starEach [a] X.env = [(false, eval a X.env)] := by rfl) :
    DI X B Γ tg (.Call (.Name "range" p) [a] [] pos) rInt (rng 0 n.toNat) :=
  pi_weak (pi_range1 (gl_of c.sc hg) (by rw [c.mg]; exact hm) (pa_cons h pa_nil hs) hs) fun σ H R ⟨F, en, q⟩ => ⟨F, en, fun v F1 H1 e1 h1 => ⟨n, by rw [show v = V.int n from h1], hn.1, hn.2, q _ F1 H1 e1 isw_rng⟩⟩
theorem c_range2 (c : XC P w K mg base k N sc vs ls X) {m n : Int} (h1 : DE X B Γ a rInt m) (h2 : DE X B Γ b rInt n) (hm : mg "range" = none) (hn : -(2 ^ 62) ≤ m ∧ m < 2 ^ 62 ∧ -(2 ^ 62) ≤ n ∧ n < 2 ^ 62) (hg : glB sc "range" = true := by decide +kernel)
    (hs : starEach [a, b] X.env = [(false, eval a X.env), (false, eval b X.env)] := by rfl) (hs2 : starEach [b] X.env = [(false, eval b X.env)] := by rfl) :
    DI X B Γ tg (.Call (.Name "range" p) [a, b] [] pos) rInt (rng m (n - m).toNat) :=
  pi_weak (pi_range2 (gl_of c.sc hg) (by rw [c.mg]; exact hm) (da_cons h1 (da_cons h2 da_nil hs2) (by rw [hs, hs2])) hs hs2) fun σ H R ⟨F, en, q⟩ => ⟨F, en, fun v F1 H1 e1 h1 => by
    obtain ⟨u, w, rfl, rfl, rfl⟩ := h1.two
    exact ⟨m, n, rfl, hn, q _ F1 H1 e1 isw_rng⟩⟩
theorem c_enum (c : XC P w K mg base k N sc vs ls X) {r : Rp α} {xs : List α} {tpos : Pos} {elts : List Expr} {kk : Nat} (h : DE X B Γ e (rList r) xs) (hm : mg "enumerate" = none) (hg : glB sc "enumerate" = true := by decide +kernel) (hs : starEach [e] X.env = [(false, eval e X.env)] := by rfl) :
    DI X B Γ (.Tuple elts kk tpos) (.Call (.Name "enumerate" p) [e] [] pos) (rPair rInt r) (enumL xs) :=
  di_enum (gl_of c.sc hg) (by rw [c.mg]; exact hm) (da_cons h da_nil hs) hs
theorem c_zip (c : XC P w K mg base k N sc vs ls X) {r : Rp α} {s : Rp β} {xs : List α} {ys : List β} {tpos : Pos} {elts : List Expr} {kk : Nat} (h1 : DE X B Γ a (rList r) xs) (h2 : DE X B Γ b (rList s) ys) (hm : mg "zip" = none) (hg : glB sc "zip" = true := by decide +kernel)
    (hs : starEach [a, b] X.env = (false, eval a X.env) :: starEach [b] X.env := by rfl) (hpl : (backTo pos (starEach [b] X.env)).any (·.1) = false := by rfl) (hs2 : starEach [b] X.env = [(false, eval b X.env)] := by rfl) :
    DI X B Γ (.Tuple elts kk tpos) (.Call (.Name "zip" p) [a, b] [] pos) (rPair r s) (xs.zip ys) :=
  di_zip (gl_of c.sc hg) (by rw [c.mg]; exact hm) (da_cons h1 (da_cons h2 da_nil hs2) hs) hs hpl

/-! ### targets -/
/-- Tgt: from which slots to which; js: the slots set -/
def gD {α : Type} (B : Bs) (r : Rp α) (Tgt : Ctx → α → Ctx → Prop) (js : List Nat) : TG := fun v σ H Q => ∃ Γ a Γ' F, Env B Γ σ F H ∧ r.rel F v a ∧ Tgt Γ a Γ' ∧ ∀ σ' : L2.St, Env B Γ' σ' F H → σ'.length = σ.length → (∀ i : Nat, i ∉ js → σ'[i]? = σ[i]?) → Q σ' H
abbrev DG {α : Type} (X : Cx) (B : Bs) (tg : Expr) (r : Rp α) (Tgt : Ctx → α → Ctx → Prop) (js : List Nat) : Prop := PG X tg (gD B r Tgt js)
theorem pg_weak {t t' : TG} (h : PG X tg t) (wk : ∀ v σ H Q, t' v σ H Q → t v σ H Q) : PG X tg t' := ⟨fun pins s σ H v u Q I r q => h.run pins s σ H v u Q I r (wk v σ H Q q)⟩
theorem c_tname (c : XC P w K mg base k N sc vs ls X) (i : Nat) {r : Rp α} (hN : N[i]? = some x := by rfl) (hl : ls.contains i = true := by rfl) : DG X B (.Name x pos) r (fun Γ a Γ' => To Γ i (.val r a) Γ') [i] := by
  have hN' : X.N[i]? = some x := by rw [c.N]; exact hN
  refine pg_weak (pg_name (i := i) c.nd hN' (c.loc i x hN' hl).1 (c.loc i x hN' hl).2) fun v σ H Q ⟨Γ, a, Γ', F, en, h1, t, q⟩ => ?_
  exact q _ (en.put t h1) (by simp) fun m hm => List.getElem?_set_ne fun z => hm (by simp [z])
theorem c_tpair (c : XC P w K mg base k N sc vs ls X) (i j : Nat) {x y : Str} {p1 p2 : Pos} {kk : Nat} {r : Rp α} {s : Rp β} (hN : N[i]? = some x := by rfl) (hl : ls.contains i = true := by rfl) (hN2 : N[j]? = some y := by rfl) (hl2 : ls.contains j = true := by rfl) :
    DG X B (.Tuple [.Name x p1, .Name y p2] kk pos) (rPair r s) (fun Γ a Γ' => ∃ Γ1, To Γ i (.val r a.1) Γ1 ∧ To Γ1 j (.val s a.2) Γ') [i, j] := by
  have hN' : X.N[i]? = some x := by rw [c.N]; exact hN
  have hN2' : X.N[j]? = some y := by rw [c.N]; exact hN2
  refine pg_weak (pg_tup c.calm (pgs_cons (pg_name (i := i) c.nd hN' (c.loc i x hN' hl).1 (c.loc i x hN' hl).2) (pgs_cons (pg_name (i := j) c.nd hN2' (c.loc j y hN2' hl2).1 (c.loc j y hN2' hl2).2) pgs_nil))) fun v σ H Q ⟨Γ, a, Γ', F, en, ⟨q, u, u', h1, h2, h3, h4⟩, ⟨Γ1, t1, t2⟩, kq⟩ => ?_
  refine ⟨q, _, h1, SqT.of (en.same _ _ h2), rfl, u, _, rfl, u', _, rfl, rfl, kq _ ((en.put t1 h3).put t2 h4) (by simp) fun m hm => ?_⟩
  rw [List.getElem?_set_ne fun z => hm (by simp [z]), List.getElem?_set_ne fun z => hm (by simp [z])]

/-! ### for -/
theorem pss_ex {I : Sort _} {Φ : I → Prop} {t : I → TS} (h : ∀ i, Φ i → PSs X ss (t i)) : PSs X ss (fun D σ H => ∃ i, Φ i ∧ t i D σ H) := ⟨fun pins s σ H D J ⟨i, hp, q⟩ => (h i hp).run pins s σ H D J q⟩
theorem pe_ex {I : Sort _} {Φ : I → Prop} {t : I → TE} (h : ∀ i, Φ i → PE X e (t i)) : PE X e (fun σ H Q => ∃ i, Φ i ∧ t i σ H Q) := ⟨fun pins s σ H Q J ⟨i, hp, q⟩ => (h i hp).run pins s σ H Q J q⟩
theorem pt_ex {I : Sort _} {Φ : I → Prop} {t : I → TT} (h : ∀ i, Φ i → PT X e (t i)) : PT X e (fun σ H Q => ∃ i, Φ i ∧ t i σ H Q) := ⟨fun pins s σ H Q J ⟨i, hp, q⟩ => (h i hp).run pins s σ H Q J q⟩
theorem Env.lo {L : Hp} {σ : L2.St} {F H : Hp} (h : Env B Γ σ F H) (l : Same L F) : Env (B.lo L) Γ σ F H := by
  obtain ⟨fp, h⟩ := h
  refine ⟨fp, h.len, h.base, h.same, l, fun i s hs => ?_, h.out, h.apart⟩
  have q := h.ok i s hs
  cases s with
  | un => exact q
  | val r a => exact q
  | own o a => exact q
theorem Env.hi {L : Hp} {σ : L2.St} {F H : Hp} (h : Env (B.lo L) Γ σ F H) (l : Same B.L F) : Env B Γ σ F H := by
  obtain ⟨fp, h⟩ := h
  refine ⟨fp, h.len, h.base, h.same, l, fun i s hs => ?_, h.out, h.apart⟩
  have q := h.ok i s hs
  cases s with
  | un => exact q
  | val r a => exact q
  | own o a => exact q
theorem Env.low {σ : L2.St} {F H : Hp} (h : Env B Γ σ F H) : Same B.L F := let ⟨_, x⟩ := h; x.low
/-- for: what is done, what is left, the loop's state s; Bk: a break's states -/
theorem sd_for (hpo : PassesOwn (model X.prog X.w) X.A X.env X.xe) (hcalm : X.calm = true) {r : Rp α} {xs : List α} {Tgt : Ctx → α → Ctx → Prop} {js : List Nat} {S : Type} (Γs : S → Ctx) (Inv : List α → List α → S → Prop) (Bk : S → Prop) (s0 : S) {Γb : S → α → Ctx}
    (hi : DI X B Γ tg iter r xs) (hg : ∀ L, DG X (B.lo L) tg r Tgt js) (h0 : ∀ σ F H, Env B Γ σ F H → Env B (Γs s0) σ F H) (i0 : Inv [] xs s0) (ht : ∀ s x, Tgt (Γs s) x (Γb s x))
    (hb : ∀ L pre x post s, xs = pre ++ x :: post → Inv pre (x :: post) s → SD X (B.lo L) (Γb s x) body { nx := fun σ H => ∃ s', Inv (pre ++ [x]) post s' ∧ EnvP (B.lo L) (Γs s') σ H, ct := fun σ H => ∃ s', Inv (pre ++ [x]) post s' ∧ EnvP (B.lo L) (Γs s') σ H, bk := fun σ H => ∃ s', Bk s' ∧ EnvP (B.lo L) (Γs s') σ H, rt := D.rt })
    (hr : ∀ s, Inv xs [] s ∨ Bk s → SD X B (Γs s) rest D) (hs : ∀ x, foldedSetIterable iter X.env x = pure x := by intro _; rfl) : SD X B Γ (.For tg iter body [] pos :: rest) D := by
  have HB := pss_ex (I := Hp × List α × α × List α × S) (Φ := fun i => xs = i.2.1 ++ i.2.2.1 :: i.2.2.2.1 ∧ Inv i.2.1 (i.2.2.1 :: i.2.2.2.1) i.2.2.2.2) fun i h => hb i.1 i.2.1 i.2.2.1 i.2.2.2.1 i.2.2.2.2 h.1 h.2
  have HR := pss_ex (I := S) (Φ := fun s => Inv xs [] s ∨ Bk s) hr
  have HG : PG X tg (fun v σ H Q => ∃ L, gD (B.lo L) r Tgt js v σ H Q) := ⟨fun pins s σ H v u Q J rv ⟨L, q⟩ => (hg L).run pins s σ H v u Q J rv q⟩
  refine pss_weak (pss_cons (ps_for hpo hcalm hi HG HB hs) HR) fun D' σ H ⟨hD, F, en⟩ => ?_
  refine ⟨F, en, fun J F1 H1 e1 iw => ?_⟩
  refine ⟨fun i m σ H => m = xs.length - i ∧ i ≤ xs.length ∧ ∃ s F, Inv (xs.take i) (xs.drop i) s ∧ Env (B.lo F1) (Γs s) σ F H, ⟨xs.length, by simp, Nat.zero_le _, s0, F1, by simpa using i0, (h0 _ _ _ (en.ext e1)).lo (Same.refl F1)⟩, ?_⟩
  rintro i m σ2 H2 ⟨rfl, hi2, s, F2, iv, en2⟩
  have lowB : Same B.L F1 := en.low.trans e1.f
  by_cases hlt : i < xs.length
  · refine .inr ⟨iw.go i F2 H2 hlt en2.low en2.same, fun σ H => ∃ s', Inv (xs.take (i + 1)) (xs.drop (i + 1)) s' ∧ EnvP (B.lo F1) (Γs s') σ H, fun σ' H' ⟨s', iv', F', en'⟩ => ⟨xs.length - (i + 1), by omega, rfl, hlt, s', F', iv', en'⟩, fun v H3 y => ?_⟩
    obtain ⟨F3, x, hx, e3, hv⟩ := iw.yld i F2 H2 v H3 hlt en2.low en2.same y
    refine ⟨F1, Γs s, x, Γb s x, F3, en2.ext e3, hv, ht s x, fun σ' en' _ _ => ?_⟩
    have ed : xs.drop i = x :: xs.drop (i + 1) := by
      rw [List.drop_eq_getElem_cons hlt]
      congr 1
      exact (List.getElem?_eq_some_iff.mp hx).2
    have et : xs.take (i + 1) = xs.take i ++ [x] := by
      rw [List.take_succ, hx]; rfl
    refine ⟨(F1, xs.take i, x, xs.drop (i + 1), s), ⟨by rw [← ed, List.take_append_drop], by rw [← ed]; exact iv⟩, ?_, F3, en'⟩
    rw [et]
    exact ⟨fun σ H h => h, fun v H h => hD.rt v H h, fun σ H ⟨s', hb', F', en''⟩ => ⟨s', .inr hb', hD, F', en''.hi (lowB.trans en''.low)⟩, fun σ H h => h⟩
  · have e : i = xs.length := by omega
    subst e
    refine .inl ⟨iw.stop F2 H2 en2.low en2.same, s, .inl (by simpa using iv), hD, F2, en2.hi (lowB.trans en2.low)⟩
/-! ### comprehensions -/
theorem wipe_get {σ : L2.St} {i : Nat} : ∀ {vs : List Nat}, (wipe σ vs)[i]? = if i ∈ vs then (σ[i]?).map (fun _ => none) else σ[i]?
  | [] => by simp [wipe]
  | v :: vs => by
    unfold wipe
    by_cases hv : v = i
    · subst hv
      rw [if_pos (by simp)]
      by_cases hl : v < (wipe σ vs).length
      · rw [List.getElem?_set_self hl]
        rw [wipe_length] at hl
        rw [List.getElem?_eq_getElem hl]; rfl
      · rw [List.getElem?_eq_none (by simpa using hl)]
        rw [wipe_length] at hl
        rw [List.getElem?_eq_none (by omega)]; rfl
    · rw [List.getElem?_set_ne hv, wipe_get (vs := vs)]
      have : (i ∈ v :: vs) ↔ i ∈ vs := by simp [Ne.symm hv]
      by_cases h : i ∈ vs
      · rw [if_pos h, if_pos (this.mpr h)]
      · rw [if_neg h, if_neg (fun z => h (this.mp z))]
theorem wipe_back {σ σ2 : L2.St} {vs : List Nat} (hl : σ2.length = (wipe σ vs).length) (h : ∀ i : Nat, i ∉ vs → σ2[i]? = (wipe σ vs)[i]?) : wipe σ2 vs = wipe σ vs := by
  apply List.ext_getElem?
  intro i
  rw [wipe_get, wipe_get]
  by_cases hi : i ∈ vs
  · rw [if_pos hi, if_pos hi]
    rw [wipe_length] at hl
    by_cases hz : i < σ.length
    · rw [List.getElem?_eq_getElem hz, List.getElem?_eq_getElem (by omega)]; rfl
    · rw [List.getElem?_eq_none (by omega), List.getElem?_eq_none (by omega)]
  · rw [if_neg hi, if_neg hi, h i hi, wipe_get, if_neg hi]
theorem EnvF.wipe {σ : L2.St} {F H : Hp} {fp : Nat → Addr → Prop} {ws : List Nat} (h : EnvF B Γ σ F H fp) (hu : ∀ i ∈ ws, Γ[i]? = some .un) : EnvF B Γ (wipe σ ws) F H fp := by
  refine ⟨by rw [wipe_length]; exact h.len, h.base, h.same, h.low, fun i s hs => ?_, h.out, h.apart⟩
  have q := h.ok i s hs
  rw [wipe_get]
  by_cases hi : i ∈ ws
  · rw [hu i hi] at hs
    cases hs
    exact q
  · rw [if_neg hi]; exact q
/-- a new object at D that is nobody's, written -/
theorem EnvF.side {σ : L2.St} {F H : Hp} {fp : Nat → Addr → Prop} {Dl : Addr} {o : HO} (h : EnvF B Γ σ F H fp) (hF : F Dl = none) (hB : B.H Dl = none) (hf : ∀ j, ¬ fp j Dl) : EnvF B Γ σ F (upd H Dl o) fp := by
  have ne : ∀ j b, fp j b → b ≠ Dl := fun j b q z => hf j (z ▸ q)
  have s2 : Same F (upd H Dl o) := fun b u q => by rw [upd_ne (ne_of_none q hF)]; exact h.same b u q
  refine ⟨h.len, ⟨h.base.f, fun b u q => by rw [upd_ne (ne_of_none q hB)]; exact h.base.h b u q, s2, h.base.d⟩, s2, h.low, fun i s hs => ?_, h.out, h.apart⟩
  have q := h.ok i s hs
  cases s with
  | un => exact q
  | val r a => exact q
  | own oo a =>
    obtain ⟨⟨v, q1, q2⟩, q3⟩ := q
    refine ⟨⟨v, q1, oo.mono (Same.refl F) (fun b hb => by rw [upd_ne (ne i b hb)]) q2⟩, fun b hb => ⟨(q3 b hb).1, ?_, (q3 b hb).2.2⟩⟩
    rw [upd_ne (ne i b hb)]
    exact (q3 b hb).2.1
def locC (N : List Str) (scope sc : Scope) (vs : List Nat) : Bool := vs.all fun i => match N[i]? with
  | some x => (match scope.names.lookup x, (relS scope sc).names.lookup x with | some .local, some .local => true | some .cell, some .cell => true | _, _ => false)
  | none => false
theorem locC_of {N : List Str} {scope sc : Scope} {vs : List Nat} (h : locC N scope sc vs = true) (i : Nat) (x : Str) (hN : N[i]? = some x) (hv : vs.contains i = true) :
    (scope.names.lookup x = some .local ∧ (relS scope sc).names.lookup x = some .local) ∨ (scope.names.lookup x = some .cell ∧ (relS scope sc).names.lookup x = some .cell) := by
  have q := List.all_eq_true.mp h i (by simpa using hv)
  rw [hN] at q
  dsimp only at q
  split at q
  · exact .inl ⟨by assumption, by assumption⟩
  · exact .inr ⟨by assumption, by assumption⟩
  · cases q
/-- the context of a comprehension's block -/
theorem xc_blk (c : XC P w K mg base k N sc vs ls X) {scope : Scope} {vs' ls' : List Nat} (hk : scope.kind = .function) (hv : visB N (relS scope sc) vs' = true) (hl : locC N scope sc ls' = true)
    (s : Shared) (H : Hp) (C : Addr) (cl : List (Str × Addr)) (fp : List Addr) : XC P w K mg base k N (relS scope sc) vs' ls' (X.blk s H scope (compEnvC scope cl C X.env) fp) := by
  have es : (compEnvC scope cl C X.env).scope = relS scope X.env.scope := rfl
  refine ⟨c.p, c.w, c.K, c.mg, c.b, c.N, by show relS scope X.env.scope = _; rw [c.sc], c.calm, c.room, hk, c.nd, PassesOwn.never, fun i x hN hc => ?_, fun i x hN hc => ?_⟩
  · have hN' : X.N[i]? = some x := hN
    rw [c.N] at hN'
    show Vis (relS scope X.env.scope) x
    rw [c.sc]
    exact vis_of hv i x hN' hc
  · have hN' : X.N[i]? = some x := hN
    rw [c.N] at hN'
    have z := locC_of hl i x hN' hc
    refine ⟨?_, ?_⟩
    · show L2.Loc (relS scope X.env.scope) x
      rw [c.sc]
      exact z.elim (fun z => .inl z.2) fun z => .inr z.2
    · rcases z with z | z
      · refine .inr ?_
        show (relS scope X.env.scope).names.lookup x = some .local
        rw [c.sc]
        exact z.2
      · refine .inl ?_
        show (scope.names.lookup x == some .cell) = true
        rw [z.1]; rfl
theorem Ext.side {F H F' H' : Hp} {p : Addr} {o : HO} (e : Ext F H F' H') (h1 : H p = none) (h2 : F' p = none) : Ext F H F' (upd H' p o) :=
  ⟨e.f, fun b u q => by rw [upd_ne (ne_of_none q h1)]; exact e.h b u q, fun b u q => by rw [upd_ne (ne_of_none q h2)]; exact e.i b u q, e.d⟩
/-- what a comprehension's reading asks, answered by its walk -/
theorem lc_read {r : Rp α} {s : Rp β} {xs : List α} {Tgt : Ctx → α → Ctx → Prop} {js ws : List Nat} {Γb : α → Ctx} (pf : α → Bool) (ff : α → β) (hjs : ∀ j ∈ js, j ∈ ws) (hu : ∀ i ∈ ws, Γ[i]? = some .un) (ht : ∀ x, Tgt Γ x (Γb x)) (hz : xs.length ≤ 1000000)
    (σ : L2.St) (H : Hp) (Q : VK) (h : tDM B Γ s ((xs.filter pf).map ff) σ H Q) :
    tLc (tDI B Γ r xs) (fun v σ H Q => ∃ L, gD (B.lo L) r Tgt js v σ H Q) (fun σ H Q => ∃ i : Hp × α, i.2 ∈ xs ∧ tDT (B.lo i.1) (Γb i.2) (pf i.2) σ H Q) (fun σ H Q => ∃ i : Hp × α, (i.2 ∈ xs ∧ pf i.2 = true) ∧ tD (B.lo i.1) (Γb i.2) s (ff i.2) σ H Q) ws σ H Q := by
  obtain ⟨F, ⟨fp, en⟩, kq⟩ := h
  refine ⟨F, ⟨fp, en⟩, fun J F1 H1 e1 iw Dl hD => ?_⟩
  have en1 := en.ext e1
  have hF1 : F1 Dl = none := e1.i.free hD
  have hBD : B.H Dl = none := en1.base.h.free hD
  have hfp : ∀ j, ¬ fp j Dl := fun j q => (en1.own_at q).2.1 hD
  let res : Nat → List β := fun i => ((xs.take i).filter pf).map ff
  have zlen : ∀ i, (res i).length ≤ 1000000 := fun i => by
    have h1 : (res i).length ≤ ((xs.take i).filter pf).length := by simp [res]
    have h2 := List.length_filter_le pf (xs.take i)
    have h3 : (xs.take i).length ≤ xs.length := by rw [List.length_take]; omega
    omega
  refine ⟨fun i m H => m = xs.length - i ∧ i ≤ xs.length ∧ ∃ F acc, EnvF (B.lo F1) Γ σ F H fp ∧ F Dl = none ∧ H Dl = some (.lst acc) ∧ Rl (s.rel F) acc (res i) ∧ Ext F1 H1 F H, ⟨xs.length, by simp, Nat.zero_le _, F1, [], ?_, hF1, upd_same, trivial, Ext.newH e1.i _ hD⟩, ?_⟩
  · have := en1.side (o := .lst []) hF1 hBD hfp
    exact ⟨this.len, this.base, this.same, Same.refl F1, fun i s hs => by
      have q := this.ok i s hs
      cases s with
      | un => exact q
      | val r a => exact q
      | own o a => exact q, this.out, this.apart⟩
  rintro i m H2 ⟨rfl, hi2, F2, acc, en2, hF2, hD2, ha, hs2⟩
  by_cases hlt : i < xs.length
  · refine .inr ⟨iw.go i F2 H2 hlt en2.low en2.same, fun H' => ∃ F acc, EnvF (B.lo F1) Γ σ F H' fp ∧ F Dl = none ∧ H' Dl = some (.lst acc) ∧ Rl (s.rel F) acc (res (i + 1)) ∧ Ext F1 H1 F H', fun H' ⟨F', acc', q⟩ => ⟨xs.length - (i + 1), by omega, rfl, hlt, F', acc', q⟩, fun v H3 y => ?_⟩
    obtain ⟨F3, x, hx, e3, hv⟩ := iw.yld i F2 H2 v H3 hlt en2.low en2.same y
    have mem : x ∈ xs := List.mem_of_getElem? hx
    have dne : ∀ {F F' H H' : Hp}, Ext F H F' H' → F Dl = none → (∃ acc, H Dl = some (HO.lst acc)) → F' Dl = none := fun {F F' H H'} e h1 ⟨acc, h2⟩ => e.d Dl h1 (by rw [h2]; intro z; cases z)
    have en3 := en2.ext e3
    refine ⟨F1, Γ, x, Γb x, F3, ⟨fp, en3.wipe hu⟩, hv, ht x, fun σ' en' hl' hk' => ⟨wipe_back hl' fun j hj => hk' j fun z => hj (hjs j z), ?_⟩⟩
    refine ⟨(F1, x), mem, F3, en', fun F4 H4 e4 => ?_⟩
    have et : xs.take (i + 1) = xs.take i ++ [x] := by rw [List.take_succ, hx]; rfl
    have hr : res (i + 1) = res i ++ (if pf x = true then [ff x] else []) := by
      show ((xs.take (i + 1)).filter pf).map ff = _
      rw [et, List.filter_append, List.map_append]
      congr 1
      by_cases hp : pf x = true
      · rw [if_pos hp]; simp [hp]
      · rw [if_neg hp]; simp [hp]
    have h3D : F3 Dl = none := dne e3 hF2 ⟨acc, hD2⟩
    have h3L : H3 Dl = some (.lst acc) := e3.h _ _ hD2
    have h4D : F4 Dl = none := dne e4 h3D ⟨acc, h3L⟩
    have h4L : H4 Dl = some (.lst acc) := e4.h _ _ h3L
    have en4 := en3.ext e4
    show if pf x = true then _ else _
    by_cases hp : pf x = true
    · rw [if_pos hp]
      refine ⟨(F1, x), ⟨mem, hp⟩, F4, en'.ext e4, fun y5 F5 H5 e5 h5 => ?_⟩
      have h5D : F5 Dl = none := dne e5 h4D ⟨acc, h4L⟩
      have h5L : H5 Dl = some (.lst acc) := e5.h _ _ h4L
      have en5 := en4.ext e5
      refine ⟨acc, h5L, ?_, F5, acc ++ [y5], en5.side h5D hBD hfp, h5D, upd_same, ?_, ?_⟩
      · rw [ha.length]; exact Nat.lt_of_le_of_lt (zlen i) (by decide)
      · rw [hr, if_pos hp]
        exact Rl.append (Rl.imp (fun _ _ => s.mono ((e3.f.trans e4.f).trans e5.f)) ha) (Rl.one h5)
      · exact (hs2.trans (e3.trans (e4.trans e5))).side hD h5D
    · rw [if_neg hp]
      refine ⟨F4, acc, en4, h4D, h4L, ?_, hs2.trans (e3.trans e4)⟩
      rw [hr, if_neg hp, List.append_nil]
      exact Rl.imp (fun _ _ => s.mono (e3.f.trans e4.f)) ha
  · have e : i = xs.length := by omega
    subst e
    refine .inl ⟨iw.stop F2 H2 en2.low en2.same, ?_⟩
    have hres : res xs.length = (xs.filter pf).map ff := by simp [res]
    rw [hres] at ha
    exact kq Dl acc F2 H2 (e1.trans hs2) hF2 (e1.h.free hD) hD2 ha
end
end DL
namespace DL
open PySem L2 PySem.Spec PyProof.Rows
section
variable {P : Program} {w : World} {K : PySem.W.Frag} {mg : Str → Option Value} {base : Heap} {k j : Nat} {N : List Str} {sc : Scope} {vs ls : List Nat} {X : Cx} {α β γ ι ρ : Type} {B : Bs} {Γ Γ' : Ctx} {e a b tg iter elt : Expr} {es ifs : List Expr} {D : Ends} {rest ss body : List Stmt} {p pos : Pos} {x : Str} {scope : Scope}
theorem Ext.frzNew {F H F' H' : Hp} {p : Addr} {o : HO} (e : Ext F H F' H') (h1 : F' p = none) (h2 : H p = none) (h3 : H' p = some o) : Ext F H (upd F' p o) H' :=
  ⟨e.f.trans (same_new h1), e.h, same_upd e.i h3, fun b hf hh => by
    have hb : b ≠ p := fun z => hh (by rw [z]; exact h2)
    rw [upd_ne hb]; exact e.d b hf hh⟩
/-- a comprehension's tests -/
abbrev DTs (X : Cx) (B : Bs) (Γ : Ctx) (ifs : List Expr) (b : Bool) : Prop := PTs X ifs (tDT B Γ b)
theorem dts_nil : DTs X B Γ [] true := ⟨fun pins s σ H Q I ⟨F, en, q⟩ => (pts_nil).run pins s σ H Q I (q F H (Ext.refl en.same))⟩
theorem dts_one {z : Bool} (h : DT X B Γ e z) : DTs X B Γ [e] z := pts_one h
/-- a comprehension whose parts are shown -/
def LcOk (X : Cx) (B : Bs) (Γ : Ctx) (elt tg iter : Expr) (ifs : List Expr) (scope : Scope) {β : Type} (s : Rp β) (res : List β) : Prop :=
  ∃ own wi g tt te, PI X tg iter wi ∧ BlkOk X.N X.env.scope scope own ∧ (∀ (s : Shared) (H : Hp) (C : Addr) (cl : List (Str × Addr)) (fp : List Addr), PG (X.blk s H scope (compEnvC scope cl C X.env) fp) tg g) ∧
    (∀ (s : Shared) (H : Hp) (C : Addr) (cl : List (Str × Addr)) (fp : List Addr), PTs (X.blk s H scope (compEnvC scope cl C X.env) fp) ifs tt) ∧
    (∀ (s : Shared) (H : Hp) (C : Addr) (cl : List (Str × Addr)) (fp : List Addr), PE (X.blk s H scope (compEnvC scope cl C X.env) fp) elt te) ∧ (∀ x, foldedSetIterable iter X.env x = pure x) ∧
    ∀ σ H Q, tDM B Γ s res σ H Q → tLc wi g tt te (own.map (·.2)) σ H Q
theorem pts_ex {I : Sort _} {Φ : I → Prop} {t : I → TT} (h : ∀ i, Φ i → PTs X ifs (t i)) : PTs X ifs (fun σ H Q => ∃ i, Φ i ∧ t i σ H Q) := ⟨fun pins s σ H Q J ⟨i, hp, q⟩ => (h i hp).run pins s σ H Q J q⟩
theorem c_lcF (c : XC P w K mg base k N sc vs ls X) {r : Rp α} {s : Rp β} {xs : List α} {Tgt : Ctx → α → Ctx → Prop} {js : List Nat} {Γb : α → Ctx} (own : List (Str × Nat)) (vs' ls' : List Nat) (pf : α → Bool) (ff : α → β)
    (hi : DI X B Γ tg iter r xs) (hg : ∀ X' L, XC P w K mg base k N (relS scope sc) vs' ls' X' → DG X' (B.lo L) tg r Tgt js) (ht : ∀ x, Tgt Γ x (Γb x))
    (hc : ∀ X' L x, XC P w K mg base k N (relS scope sc) vs' ls' X' → x ∈ xs → DTs X' (B.lo L) (Γb x) ifs (pf x))
    (he : ∀ X' L x, XC P w K mg base k N (relS scope sc) vs' ls' X' → x ∈ xs → pf x = true → DE X' (B.lo L) (Γb x) elt s (ff x))
    (hz : xs.length ≤ 1000000) (hu : ∀ i ∈ own.map (·.2), Γ[i]? = some .un := by decide)
    (hok : blkC N sc scope own = true := by decide +kernel) (hv : visB N (relS scope sc) vs' = true := by decide +kernel) (hl : locC N scope sc ls' = true := by decide +kernel) (hk : scope.kind = .function := by rfl)
    (hjs : ∀ j ∈ js, j ∈ own.map (·.2) := by decide) (hs : ∀ x, foldedSetIterable iter X.env x = pure x := by intro _; rfl) : LcOk X B Γ elt tg iter ifs scope s ((xs.filter pf).map ff) := by
  refine ⟨own, tDI B Γ r xs, (fun v σ H Q => ∃ L, gD (B.lo L) r Tgt js v σ H Q), (fun σ H Q => ∃ i : Hp × α, i.2 ∈ xs ∧ tDT (B.lo i.1) (Γb i.2) (pf i.2) σ H Q), (fun σ H Q => ∃ i : Hp × α, (i.2 ∈ xs ∧ pf i.2 = true) ∧ tD (B.lo i.1) (Γb i.2) s (ff i.2) σ H Q), hi, by rw [c.N, c.sc]; exact blkOk_by hok, fun s H C cl fp => ⟨fun pins s' σ H' v u Q J rv ⟨L, q⟩ => (hg _ L (xc_blk c hk hv hl s H C cl fp)).run pins s' σ H' v u Q J rv q⟩,
    fun s H C cl fp => pts_ex (I := Hp × α) (Φ := fun i => i.2 ∈ xs) fun i hm => hc _ i.1 i.2 (xc_blk c hk hv hl s H C cl fp) hm,
    fun s H C cl fp => pe_ex (I := Hp × α) (Φ := fun i => i.2 ∈ xs ∧ pf i.2 = true) fun i hm => he _ i.1 i.2 (xc_blk c hk hv hl s H C cl fp) hm.1 hm.2, hs, fun σ H Q h => ?_⟩
  exact lc_read pf ff hjs hu ht hz σ H Q h
theorem c_lc (c : XC P w K mg base k N sc vs ls X) {r : Rp α} {s : Rp β} {xs : List α} {Tgt : Ctx → α → Ctx → Prop} {js : List Nat} {Γb : α → Ctx} (own : List (Str × Nat)) (vs' ls' : List Nat) (ff : α → β)
    (hi : DI X B Γ tg iter r xs) (hg : ∀ X' L, XC P w K mg base k N (relS scope sc) vs' ls' X' → DG X' (B.lo L) tg r Tgt js) (ht : ∀ x, Tgt Γ x (Γb x))
    (he : ∀ X' L x, XC P w K mg base k N (relS scope sc) vs' ls' X' → x ∈ xs → DE X' (B.lo L) (Γb x) elt s (ff x))
    (hz : xs.length ≤ 1000000) (hu : ∀ i ∈ own.map (·.2), Γ[i]? = some .un := by decide)
    (hok : blkC N sc scope own = true := by decide +kernel) (hv : visB N (relS scope sc) vs' = true := by decide +kernel) (hl : locC N scope sc ls' = true := by decide +kernel) (hk : scope.kind = .function := by rfl)
    (hjs : ∀ j ∈ js, j ∈ own.map (·.2) := by decide) (hs : ∀ x, foldedSetIterable iter X.env x = pure x := by intro _; rfl) : LcOk X B Γ elt tg iter [] scope s (xs.map ff) := by
  have h := c_lcF (ifs := []) c own vs' ls' (fun _ => true) ff hi hg ht (fun X' L x _ _ => dts_nil) (fun X' L x c' hm _ => he X' L x c' hm) hz hu hok hv hl hk hjs hs
  have e : xs.filter (fun _ => true) = xs := by simp
  rw [e] at h
  exact h
theorem dm_lc (c : XC P w K mg base k N sc vs ls X) {s : Rp β} {res : List β} (h : LcOk X B Γ elt tg iter ifs scope s res) : DM X B Γ (.ListComp elt [⟨tg, iter, ifs, 0⟩] scope pos) s res := by
  obtain ⟨own, wi, g, tt, te, h1, h2, h3, h4, h5, h6, h7⟩ := h
  exact pe_weak (pe_lc c.calm c.nd h1 h2 h3 h4 h5 h6) h7
theorem sw_cell {gs : List Comprehension} {py : Pos} {y : Str} {l : Nat} {env : PySem.Env} (hy : env.scope.names.lookup y = some .cell) : swapsWith (.ListComp elt gs scope pos) (some (.Name y py)) l env = pure false := by
  have ky : env.kindOf y = some .cell := hy
  unfold swapsWith
  simp only [ky]
  have : (some NameKind.cell == some NameKind.local) = false := by decide
  simp [this]
/-- y = [..] -/
theorem ps_lc (c : XC P w K mg base k N sc vs ls X) (i : Nat) {y : Str} {py spos : Pos} {s : Rp β} {res : List β} (h : LcOk X B Γ elt tg iter ifs scope s res) (hN : N[i]? = some y) (hl : ls.contains i = true)
    (hsw : (py.line == pos.line) = true) (ha : (scope.names.any fun (n, k) => n == y && (k == .local || k == .cell)) = false) : PS X (.Assign [.Name y py] (.ListComp elt [⟨tg, iter, ifs, 0⟩] scope pos) spos) (tAsg (tDM B Γ s res) (gName i)) := by
  have hN' : X.N[i]? = some y := by rw [c.N]; exact hN
  obtain ⟨hloc, hfn⟩ := c.loc i y hN' hl
  rcases hloc with z | z
  · obtain ⟨own, wi, g, tt, te, h1, h2, h3, h4, h5, h6, h7⟩ := h
    exact ps_weak (ps_setLc c.calm c.nd hN' z (sw_true c.kind z hsw ha) h1 h2 h3 h4 h5 h6) fun D σ H q => h7 σ H _ q
  · exact ps_set c.nd hN' (.inr z) (dm_lc c h) (sw_cell z) hfn
theorem c_asgLc (c : XC P w K mg base k N sc vs ls X) (i : Nat) {y : Str} {py spos : Pos} {s : Rp β} {res : List β} {Γ' : List β → Ctx} (h : LcOk X B Γ elt tg iter ifs scope s res) (t : ∀ a, To Γ i (.val (rList s) a) (Γ' a)) (hr : ∀ a, a = res → SD X B (Γ' a) rest D)
    (hN : N[i]? = some y := by rfl) (hl : ls.contains i = true := by rfl) (hsw : (py.line == pos.line) = true := by rfl) (ha : (scope.names.any fun (n, k) => n == y && (k == .local || k == .cell)) = false := by decide +kernel) :
    SD X B Γ (.Assign [.Name y py] (.ListComp elt [⟨tg, iter, ifs, 0⟩] scope pos) spos :: rest) D :=
  sd_cons (ps_lc c i h hN hl hsw ha) (fun D' l σ H ⟨F, en⟩ => ⟨F, en, fun p us F' H' e1 h2 h3 h4 h5 => l.nx _ _ ⟨upd F' p (.lst us), (en.ext (e1.frzNew h2 h3 h4)).put (t res) ⟨p, us, rfl, upd_same, Rl.imp (fun _ _ => s.mono (same_new h2)) h5⟩⟩⟩) (hr res rfl)
theorem c_asgLcM (c : XC P w K mg base k N sc vs ls X) (i : Nat) {y : Str} {py spos : Pos} {s : Rp β} {res : List β} {Γ' : List β → Ctx} (h : LcOk X B Γ elt tg iter ifs scope s res) (t : ∀ a, To Γ i (.own (oList s) a) (Γ' a)) (hr : ∀ a, a = res → SD X B (Γ' a) rest D)
    (hN : N[i]? = some y := by rfl) (hl : ls.contains i = true := by rfl) (hsw : (py.line == pos.line) = true := by rfl) (ha : (scope.names.any fun (n, k) => n == y && (k == .local || k == .cell)) = false := by decide +kernel) :
    SD X B Γ (.Assign [.Name y py] (.ListComp elt [⟨tg, iter, ifs, 0⟩] scope pos) spos :: rest) D :=
  sd_cons (ps_lc c i h hN hl hsw ha) (fun D' l σ H ⟨F, en⟩ => ⟨F, en, fun p us F' H' e1 h2 h3 h4 h5 => l.nx _ _ ⟨F', en.putOwn (t res) e1 ⟨p, us, rfl, rfl, h4, h5⟩ (fun b hb => by subst hb; exact ⟨h2, h3, by rw [h4]; intro z; cases z⟩)⟩⟩) (hr res rfl)
end
end DL
namespace DL
open PySem L2 PySem.Spec PyProof.Rows

/-! ### looks at slots, in short -/
inductive Uns : Ctx → List Nat → Prop where
  | nil {Γ : Ctx} : Uns Γ []
  | cons {Γ : Ctx} {i : Nat} {is : List Nat} : At Γ i .un → Uns Γ is → Uns Γ (i :: is)
theorem Uns.all {Γ : Ctx} {is : List Nat} (h : Uns Γ is) : ∀ i ∈ is, Γ[i]? = some .un := by
  induction h with
  | nil => intro i hi; cases hi
  | cons a _ ih =>
    intro i hi
    rcases List.mem_cons.mp hi with rfl | hi
    · exact a.get
    · exact ih i hi
/-- from slots to slots: kept, forgotten, the same by an equation -/
inductive Cv : Ctx → Ctx → Prop where
  | nil : Cv [] []
  | k {s : Sl} {Γ Γ' : Ctx} : Cv Γ Γ' → Cv (s :: Γ) (s :: Γ')
  | u {s : Sl} {Γ Γ' : Ctx} : Cv Γ Γ' → Cv (s :: Γ) (.un :: Γ')
  | e {α : Type} {r : Rp α} {a a' : α} {Γ Γ' : Ctx} (h : a = a') : Cv Γ Γ' → Cv (.val r a :: Γ) (.val r a' :: Γ')
  | o {α : Type} {r : Own α} {a a' : α} {Γ Γ' : Ctx} (h : a = a') : Cv Γ Γ' → Cv (.own r a :: Γ) (.own r a' :: Γ')
theorem Cv.refl : ∀ Γ : Ctx, Cv Γ Γ
  | [] => .nil
  | _ :: Γ => .k (Cv.refl Γ)
theorem Cv.at_ {Γ Γ' : Ctx} (c : Cv Γ Γ') : Γ'.length = Γ.length ∧ ∀ (i : Nat) (s : Sl), Γ'[i]? = some s → Γ[i]? = some s ∨ s = .un := by
  induction c with
  | nil => exact ⟨rfl, fun i s h => .inl h⟩
  | k c ih =>
    refine ⟨by simp [ih.1], fun i s h => ?_⟩
    cases i with
    | zero => exact .inl h
    | succ i => exact ih.2 i s (by simpa using h)
  | u c ih =>
    refine ⟨by simp [ih.1], fun i s h => ?_⟩
    cases i with
    | zero => exact .inr (by simpa using h.symm)
    | succ i => exact ih.2 i s (by simpa using h)
  | e q c ih =>
    subst q
    refine ⟨by simp [ih.1], fun i s h => ?_⟩
    cases i with
    | zero => exact .inl h
    | succ i => exact ih.2 i s (by simpa using h)
  | o q c ih =>
    subst q
    refine ⟨by simp [ih.1], fun i s h => ?_⟩
    cases i with
    | zero => exact .inl h
    | succ i => exact ih.2 i s (by simpa using h)
theorem Env.cv {B : Bs} {Γ Γ' : Ctx} (c : Cv Γ Γ') (σ : L2.St) (F H : Hp) (h : Env B Γ σ F H) : Env B Γ' σ F H := by
  obtain ⟨fp, h⟩ := h
  obtain ⟨hl, hc⟩ := c.at_
  refine ⟨fun i => match Γ'[i]? with | some .un => fun _ => False | _ => fp i, by rw [hl]; exact h.len, h.base, h.same, h.low, fun i s hs => ?_, fun i hi b hb => ?_, fun i j hij b hb => ?_⟩
  · rcases hc i s hs with q | q
    · rw [hs]
      have z := h.ok i s q
      cases s with
      | un => exact fun _ w => w
      | val r a => exact z
      | own o a => exact z
    · subst q
      rw [hs]
      exact fun _ w => w
  · rw [hi] at hb
    refine h.out i ?_ b hb
    rw [List.getElem?_eq_none_iff] at hi ⊢
    omega
  · have q1 : fp i b := by
      revert hb
      cases Γ'[i]? with
      | none => exact fun z => z
      | some s => cases s with
        | un => exact fun z => z.elim
        | val r a => exact fun z => z
        | own o a => exact fun z => z
    intro hb2
    have q2 : fp j b := by
      revert hb2
      cases Γ'[j]? with
      | none => exact fun z => z
      | some s => cases s with
        | un => exact fun z => z.elim
        | val r a => exact fun z => z
        | own o a => exact fun z => z
    exact h.apart i j hij b q1 q2
theorem EnvP.cv {B : Bs} {Γ Γ' : Ctx} (c : Cv Γ Γ') (σ : L2.St) (H : Hp) (h : EnvP B Γ σ H) : EnvP B Γ' σ H := let ⟨F, x⟩ := h; ⟨F, x.cv c⟩
/-- the end of a block: on to the slots Γ' -/
theorem sd_go {X : Cx} {B : Bs} {Γ Γ' : Ctx} {D : Ends} (c : Cv Γ Γ') (h : ∀ σ H, EnvP B Γ' σ H → D.nx σ H) : SD X B Γ [] D := sd_nil fun σ H e => h σ H (EnvP.cv c σ H e)
/-- the end of a loop's turn -/
theorem sd_turn {X : Cx} {B : Bs} {Γ : Ctx} {D : Ends} {S : Type} {Γs : S → Ctx} {Φ : S → Prop} (s : S) (c : Cv Γ (Γs s)) (h : Φ s) (hn : D.nx = fun σ H => ∃ s', Φ s' ∧ EnvP B (Γs s') σ H := by rfl) : SD X B Γ [] D := sd_nil fun σ H e => by
  rw [hn]
  exact ⟨s, h, EnvP.cv c σ H e⟩
theorem sd_cv {X : Cx} {B : Bs} {Γ Γ' : Ctx} {D : Ends} {ss : List Stmt} (c : Cv Γ Γ') (h : SD X B Γ' ss D) : SD X B Γ ss D := sd_env (EnvP.cv c) h

/-! ### items -/
def gI {α : Type} [Inhabited α] (xs : List α) (i : Int) : α := (atI xs i).getD default
theorem atI_in {α : Type} [Inhabited α] {xs : List α} {i : Int} (h : -(xs.length : Int) ≤ i ∧ i < xs.length) : atI xs i = some (gI xs i) := by
  have : ∃ v, atI xs i = some v := by
    unfold atI ixN
    by_cases h0 : 0 ≤ i
    · rw [if_pos h0, if_pos h.2]
      exact ⟨xs[i.toNat]'(by omega), List.getElem?_eq_getElem (by omega)⟩
    · rw [if_neg h0, if_pos h.1]
      exact ⟨xs[(i + xs.length).toNat]'(by omega), List.getElem?_eq_getElem (by omega)⟩
  obtain ⟨v, hv⟩ := this
  unfold gI
  rw [hv]; rfl
theorem gI_nat {α : Type} [Inhabited α] {xs : List α} {i : Int} (h0 : 0 ≤ i) : gI xs i = xs.getD i.toNat default := by
  unfold gI atI ixN
  rw [if_pos h0]
  by_cases h : i < xs.length
  · rw [if_pos h]; simp [List.getD]
  · rw [if_neg h]
    have : xs[i.toNat]? = none := List.getElem?_eq_none (by omega)
    simp [List.getD, this]
theorem Rl.atI {α : Type} {R : V → α → Prop} {us : List V} {as : List α} {i : Int} {a : α} (h : Rl R us as) (q : L2.atI as i = some a) : ∃ v, L2.atI us i = some v ∧ R v a := by
  unfold L2.atI at q ⊢
  rw [h.length]
  cases z : ixN as.length i with
  | none => rw [z] at q; cases q
  | some j => rw [z] at q; exact h.get q
/-- xs[lo:hi] -/
def cutL {α : Type} (xs : List α) (lo hi : Option Int) : List α := (xs.drop (HT.sIx xs.length 0 lo)).take (HT.sIx xs.length xs.length hi - HT.sIx xs.length 0 lo)
theorem Rl.cut {α : Type} {R : V → α → Prop} {us : List V} {as : List α} {lo hi : Option Int} (h : Rl R us as) : Rl R (cutV us lo hi) (cutL as lo hi) := by
  unfold cutV cutL
  rw [h.length]
  exact Rl.take _ (Rl.drop _ h)

section
variable {P : Program} {w : World} {K : PySem.W.Frag} {mg : Str → Option Value} {base : Heap} {k j : Nat} {N : List Str} {sc : Scope} {vs ls : List Nat} {X : Cx} {α β γ ι ρ : Type} {B : Bs} {Γ Γ' : Ctx} {e a b : Expr} {es : List Expr} {D : Ends} {rest ss : List Stmt} {p pos : Pos} {x : Str}
theorem de_ixL [Inhabited α] {r : Rp α} {xs : List α} {i : Int} (ha : DE X B Γ a (rList r) xs) (hb : DE X B Γ b rInt i) (h : -(xs.length : Int) ≤ i ∧ i < xs.length) (hs : PlainIx b := by intro _ _; rfl) : DE X B Γ (.Subscript a b pos) r (gI xs i) :=
  pe_weak (pe_ix ix_list ha hb hs) fun σ H Q ⟨F, en, q⟩ => ⟨F, en, fun v F1 H1 e1 ⟨p, us, h1, h2, h3⟩ => ⟨F1, en.ext e1, fun u F2 H2 e2 h4 => by
    obtain ⟨v', q1, q2⟩ := h3.atI (atI_in h)
    exact ⟨p, us, i, v', h1, h4, SqL.of (e2.i _ _ (e2.f _ _ h2)), q1, q v' F2 H2 (e1.trans e2) (r.mono e2.f q2)⟩⟩⟩
theorem de_ixT [Inhabited α] {r : Rp α} {xs : List α} {i : Int} (ha : DE X B Γ a (rTup r) xs) (hb : DE X B Γ b rInt i) (h : -(xs.length : Int) ≤ i ∧ i < xs.length) (hs : PlainIx b := by intro _ _; rfl) : DE X B Γ (.Subscript a b pos) r (gI xs i) :=
  pe_weak (pe_ix ix_tup ha hb hs) fun σ H Q ⟨F, en, q⟩ => ⟨F, en, fun v F1 H1 e1 ⟨p, us, h1, h2, h3⟩ => ⟨F1, en.ext e1, fun u F2 H2 e2 h4 => by
    obtain ⟨v', q1, q2⟩ := h3.atI (atI_in h)
    exact ⟨p, us, i, v', h1, h4, SqT.of (e2.i _ _ (e2.f _ _ h2)), q1, q v' F2 H2 (e1.trans e2) (r.mono e2.f q2)⟩⟩⟩
theorem c_ixScr (c : XC P w K mg base k N sc vs ls X) {xs : List Int} {i : Int} (ha : DE X B Γ a (rScr K) xs) (hb : DE X B Γ b rInt i) (h : -(xs.length : Int) ≤ i ∧ i < xs.length) (hs : PlainIx b := by intro _ _; rfl) : DE X B Γ (.Subscript a b pos) rInt (gI xs i) :=
  pe_weak (pe_ix ix_list ha hb hs) fun σ H Q ⟨F, en, q⟩ => ⟨F, en, fun v F1 H1 e1 ⟨p, h1, h2⟩ => ⟨F1, en.ext e1, fun u F2 H2 e2 h4 => by
    have hr : Rl (fun v (n : Int) => v = V.int n) (xs.map V.int) xs := Rl.of_map (f := V.int) (fun a => rfl) xs
    obtain ⟨v', q1, q2⟩ := hr.atI (atI_in h)
    exact ⟨p, _, i, v', h1, h4, by rw [c.K]; exact e2.i.seq (e2.f.seq h2), q1, q v' F2 H2 (e1.trans e2) q2⟩⟩⟩
theorem de_ixP0 {r : Rp α} {s : Rp β} {z : α × β} {j p2} (ha : DE X B Γ a (rPair r s) z) : DE X B Γ (.Subscript a (.Constant (.int 0) j p2) pos) r z.1 :=
  pe_weak (pe_ix ix_tup ha pe_int (by intro _ _; rfl)) fun σ H Q ⟨F, en, q⟩ => ⟨F, en, fun v F1 H1 e1 ⟨p, u, u', h1, h2, h3, h4⟩ => ⟨p, [u, u'], 0, u, h1, rfl, SqT.of (e1.i _ _ h2), rfl, q u F1 H1 e1 h3⟩⟩
theorem de_ixP1 {r : Rp α} {s : Rp β} {z : α × β} {j p2} (ha : DE X B Γ a (rPair r s) z) : DE X B Γ (.Subscript a (.Constant (.int 1) j p2) pos) s z.2 :=
  pe_weak (pe_ix ix_tup ha pe_int (by intro _ _; rfl)) fun σ H Q ⟨F, en, q⟩ => ⟨F, en, fun v F1 H1 e1 ⟨p, u, u', h1, h2, h3, h4⟩ => ⟨p, [u, u'], 1, u', h1, rfl, SqT.of (e1.i _ _ h2), rfl, q u' F1 H1 e1 h4⟩⟩
/-! texts -/
theorem okT_append {s t : Txt} (h1 : okT s = true) (h2 : okT t = true) : okT (s ++ t) = true := by unfold okT at *; rw [List.all_append, h1, h2]; rfl
theorem okT_sub {s t : Txt} (h : ∀ c ∈ s, c ∈ t) (h2 : okT t = true) : okT s = true := List.all_eq_true.mpr fun c hc => List.all_eq_true.mp h2 c (h c hc)
theorem tx_len (t : Txt) : (tx t).length = t.length := by show t.toArray.size = _; simp
theorem tx_app (s t : Txt) : tx s ++ tx t = tx (s ++ t) := by
  show (⟨s.toArray ++ t.toArray⟩ : Str) = ⟨(s ++ t).toArray⟩
  congr 1
  simp
theorem de_ixS {t : Txt} {i : Int} (ha : DE X B Γ a rTxt t) (hb : DE X B Γ b rInt i) (h : -(t.length : Int) ≤ i ∧ i < t.length) (hz : t.length ≤ 1000000) (hs : PlainIx b := by intro _ _; rfl) : DE X B Γ (.Subscript a b pos) rTxt [gI t i] :=
  pe_weak (pe_ix ix_str ha hb hs) fun σ H Q ⟨F, en, q⟩ => ⟨F, en, fun v F1 H1 e1 h1 => ⟨F1, en.ext e1, fun u F2 H2 e2 h4 => by
    have q1 := atI_in h
    refine ⟨tx t, i, gI t i, h1.1, h4, ?_, ?_, q _ F2 H2 (e1.trans e2) ⟨rfl, okT_sub (fun c hc => ?_) h1.2⟩⟩
    · rw [tx_len]; exact Nat.le_trans hz (by decide)
    · show atI (t.toArray.toList) i = _; simpa using q1
    · have : c = gI t i := by simpa using hc
      subst this
      obtain ⟨j, _, hj, _⟩ := atI_get q1
      exact List.mem_of_getElem? hj⟩⟩
theorem de_catS {s t : Txt} (ha : DE X B Γ a rTxt s) (hb : DE X B Γ b rTxt t) (hz : s.length + t.length ≤ 1000000) : DE X B Γ (.BinOp a .Add b pos) rTxt (s ++ t) :=
  de_op (ra := rTxt) (rb := rTxt) (rc := rTxt) (x := s) (y := t) op_add_str (fun F H u v sm h1 h2 Q q => ⟨tx s, tx t, h1.1, h2.1, by rw [tx_len, tx_len]; exact Nat.le_trans hz (by decide), by rw [tx_app]; exact q _ F H (Ext.refl sm) ⟨rfl, okT_append h1.2 h2.2⟩⟩) ha hb
theorem tx_inj {s t : Txt} (h : tx s = tx t) : s = t := by
  have h1 : (tx s).cps.toList = (tx t).cps.toList := by rw [h]
  simpa [tx] using h1
theorem dc_eqS {s t : Txt} (ha : DE X B Γ a rTxt s) (hb : DE X B Γ b rTxt t) : DC X B Γ (.Compare a [.Eq] [b] pos) (decide (s = t)) :=
  dc_cmp (ra := rTxt) (rb := rTxt) op_eq (fun F H u v sm h1 h2 Q q => by
    rw [h1.1, h2.1]
    exact ⟨rfl, q _ F H (Ext.refl sm) (by
      show V.bl _ = V.bl _
      congr 1
      by_cases z : s = t
      · subst z; simp
      · have : ¬ V.str (tx s) = V.str (tx t) := fun w => z (tx_inj (V.str.inj w))
        simp [z, this])⟩) (nomark _) ha hb
theorem dc_neS {s t : Txt} (ha : DE X B Γ a rTxt s) (hb : DE X B Γ b rTxt t) : DC X B Γ (.Compare a [.NotEq] [b] pos) (!decide (s = t)) :=
  dc_cmp (ra := rTxt) (rb := rTxt) op_ne (fun F H u v sm h1 h2 Q q => by
    rw [h1.1, h2.1]
    exact ⟨rfl, q _ F H (Ext.refl sm) (by
      show V.bl _ = V.bl _
      congr 1
      by_cases z : s = t
      · subst z; simp
      · have : ¬ V.str (tx s) = V.str (tx t) := fun w => z (tx_inj (V.str.inj w))
        simp [z, this])⟩) (nomark _) ha hb
/-! slices -/
theorem c_slice {r3 : V → Option Int → Option Int → Hp → VK → Prop} {lo hi : Option Expr} {p2 : Pos} {tl th : TO} (hr : SlR X r3) {te : TE} (he : PE X e te) (hl : PO X lo tl) (hu : PO X hi th) : PE X (.Subscript e (.Slice lo hi none p2) pos) (tSl r3 te tl th) := pe_slice hr he hl hu
/-- an end of a slice -/
def tDO (B : Bs) (Γ : Ctx) (o : Option Int) : TO := fun σ H Q => ∃ F, Env B Γ σ F H ∧ ∀ F' H', Ext F H F' H' → Q o H'
abbrev DO (X : Cx) (B : Bs) (Γ : Ctx) (e : Option Expr) (o : Option Int) : Prop := PO X e (tDO B Γ o)
theorem do_none : DO X B Γ none none := ⟨fun pins s σ H Q I ⟨F, en, q⟩ => po_none.run pins s σ H Q I (q F H (Ext.refl en.same))⟩
theorem do_some {i : Int} (h : DE X B Γ e rInt i) : DO X B Γ (some e) (some i) := ⟨fun pins s σ H Q I ⟨F, en, q⟩ => (po_some h).run pins s σ H Q I ⟨F, en, fun v F1 H1 e1 h1 => ⟨i, h1, q F1 H1 e1⟩⟩⟩
theorem dm_sl {r : Rp α} {xs : List α} {lo hi : Option Expr} {l h : Option Int} {p2 : Pos} (he : DE X B Γ e (rList r) xs) (hl : DO X B Γ lo l) (hh : DO X B Γ hi h) : DM X B Γ (.Subscript e (.Slice lo hi none p2) pos) r (cutL xs l h) :=
  pe_weak (pe_slice sl_list he hl hh) fun σ H Q ⟨F, en, q⟩ => ⟨F, en, fun v F1 H1 e1 ⟨p, us, h1, h2, h3⟩ => ⟨F1, en.ext e1, fun F2 H2 e2 => ⟨F2, en.ext (e1.trans e2), fun F3 H3 e3 => by
    have s3 := e2.f.trans e3.f
    refine ⟨p, us, h1, SqL.of (e3.i _ _ (s3 _ _ h2)), fun p' hp' => ?_⟩
    have e4 := Ext.newH e3.i (.lst (cutV us l h)) hp'
    have eA := (e1.trans (e2.trans e3))
    exact q p' _ F3 _ (eA.trans e4) (e3.i.free hp') (eA.h.free hp') upd_same (Rl.imp (fun _ _ => r.mono s3) h3.cut)⟩⟩⟩
theorem tx_cut {t : Txt} {l h : Option Int} : cutS (tx t) l h = tx (cutL t l h) := by
  unfold cutS cutL
  rw [tx_len]
  show (⟨_⟩ : Str) = ⟨_⟩
  have : (tx t).cps.toList = t := by simp [tx]
  rw [this]
theorem de_slS {t : Txt} {lo hi : Option Expr} {l h : Option Int} {p2 : Pos} (he : DE X B Γ e rTxt t) (hl : DO X B Γ lo l) (hh : DO X B Γ hi h) (hz : t.length ≤ 1000000) : DE X B Γ (.Subscript e (.Slice lo hi none p2) pos) rTxt (cutL t l h) :=
  pe_weak (pe_slice sl_str he hl hh) fun σ H Q ⟨F, en, q⟩ => ⟨F, en, fun v F1 H1 e1 h1 => ⟨F1, en.ext e1, fun F2 H2 e2 => ⟨F2, en.ext (e1.trans e2), fun F3 H3 e3 => by
    refine ⟨tx t, h1.1, by rw [tx_len]; exact Nat.le_trans hz (by decide), q _ F3 H3 (e1.trans (e2.trans e3)) ⟨by rw [tx_cut], okT_sub (fun c hc => ?_) h1.2⟩⟩
    exact List.mem_of_mem_drop (List.mem_of_mem_take hc)⟩⟩⟩
/-! lists -/
theorem dm_cat {r : Rp α} {xs ys : List α} (ha : DE X B Γ a (rList r) xs) (hb : DE X B Γ b (rList r) ys) (hz : xs.length + ys.length ≤ 1000000) : DM X B Γ (.BinOp a .Add b pos) r (xs ++ ys) :=
  pe_weak (pe_op op_cat ha hb) fun σ H Q ⟨F, en, q⟩ => ⟨F, en, fun v F1 H1 e1 ⟨p, us, h1, h2, h3⟩ => ⟨F1, en.ext e1, fun v' F2 H2 e2 ⟨p', us', h1', h2', h3'⟩ => by
    refine ⟨p, p', us, us', h1, h1', e2.i _ _ (e2.f _ _ h2), e2.i _ _ h2', by rw [h3.length, h3'.length]; exact Nat.le_trans hz (by decide), fun p3 hp => ?_⟩
    have e3 := Ext.newH e2.i (.lst (us ++ us')) hp
    have eA := e1.trans e2
    exact q p3 _ F2 _ (eA.trans e3) (e2.i.free hp) (eA.h.free hp) upd_same (Rl.append (Rl.imp (fun _ _ => r.mono e2.f) h3) h3')⟩⟩
def repL {α : Type} (n : Int) (xs : List α) : List α := (List.replicate n.toNat xs).flatten
theorem Rl.rep {R : V → α → Prop} {us : List V} {as : List α} (h : Rl R us as) : ∀ n : Nat, Rl R (List.replicate n us).flatten (List.replicate n as).flatten
  | 0 => trivial
  | n + 1 => by rw [List.replicate_succ, List.replicate_succ, List.flatten_cons, List.flatten_cons]; exact Rl.append h (Rl.rep h n)
theorem dm_rev {r : Rp α} {xs : List α} {k : Nat} {p1 p2 p3 : Pos} (he : DE X B Γ e (rList r) xs) : DM X B Γ (.Subscript e (.Slice none none (some (.UnaryOp .USub (.Constant (.int 1) k p1) p2)) p3) pos) r xs.reverse :=
  pe_weak (pe_revL he) fun σ H Q ⟨F, en, q⟩ => ⟨F, en, fun v F1 H1 e1 ⟨p, us, h1, h2, h3⟩ => ⟨p, us, h1, SqL.of (e1.i _ _ h2), fun p' hp' => by
    have e3 := Ext.newH e1.i (.lst us.reverse) hp'
    exact q p' _ F1 _ (e1.trans e3) (e1.i.free hp') (e1.h.free hp') upd_same h3.reverse⟩⟩
/-- f(e), f a built-in function of one argument -/
theorem c_bi1 (c : XC P w K mg base k N sc vs ls X) {id : String} {r1 : List V → Hp → VK → Prop} {ra : Rp α} {y : α} (hc : CallR X (.builtin id) r1) (hm : mg x = none) (hv : bootBuiltins x = some (.builtin id)) (ha : DE X B Γ e ra y)
    {t : TE} (hr : ∀ σ H Q, t σ H Q → tCB r1 (tCons (tD B Γ ra y) tNil) σ H Q) (hg : glB sc x = true) (hn : x ≠ "__name__") (hdb : (x == ("__debug__" : Str)) = false) (he : starEach [e] X.env = [(false, eval e X.env)]) : PE X (.Call (.Name x p) [e] [] pos) t :=
  pe_weak (pe_callB hc (gl_of c.sc hg) (by rw [c.mg]; exact hm) hv (pa_cons ha pa_nil he) hn hdb he (by rfl)) hr
theorem c_len (c : XC P w K mg base k N sc vs ls X) {r : Rp α} {xs : List α} (ha : DE X B Γ e (rList r) xs) (hm : mg "len" = none) (hg : glB sc "len" = true := by decide +kernel) (he : starEach [e] X.env = [(false, eval e X.env)] := by rfl) : DE X B Γ (.Call (.Name "len" p) [e] [] pos) rInt (xs.length : Int) :=
  c_bi1 c call_len_seq hm PySem.boot_len ha (fun σ H Q ⟨F, en, q⟩ => ⟨F, en, fun v F1 H1 e1 ⟨p, us, h1, h2, h3⟩ => ⟨p, us, by rw [h1], .inl (SqL.of (e1.i _ _ h2)), q _ F1 H1 e1 (by rw [h3.length]; rfl)⟩⟩) hg (by decide) (by decide) he
theorem c_lenT (c : XC P w K mg base k N sc vs ls X) {r : Rp α} {xs : List α} (ha : DE X B Γ e (rTup r) xs) (hm : mg "len" = none) (hg : glB sc "len" = true := by decide +kernel) (he : starEach [e] X.env = [(false, eval e X.env)] := by rfl) : DE X B Γ (.Call (.Name "len" p) [e] [] pos) rInt (xs.length : Int) :=
  c_bi1 c call_len_seq hm PySem.boot_len ha (fun σ H Q ⟨F, en, q⟩ => ⟨F, en, fun v F1 H1 e1 ⟨p, us, h1, h2, h3⟩ => ⟨p, us, by rw [h1], .inr (SqT.of (e1.i _ _ h2)), q _ F1 H1 e1 (by rw [h3.length]; rfl)⟩⟩) hg (by decide) (by decide) he
theorem c_lenScr (c : XC P w K mg base k N sc vs ls X) {xs : List Int} (ha : DE X B Γ e (rScr K) xs) (hm : mg "len" = none) (hg : glB sc "len" = true := by decide +kernel) (he : starEach [e] X.env = [(false, eval e X.env)] := by rfl) : DE X B Γ (.Call (.Name "len" p) [e] [] pos) rInt (xs.length : Int) :=
  c_bi1 c call_len_seq hm PySem.boot_len ha (fun σ H Q ⟨F, en, q⟩ => ⟨F, en, fun v F1 H1 e1 ⟨p, h1, h2⟩ => ⟨p, _, by rw [h1], .inl (by rw [c.K]; exact e1.i.seq h2), q _ F1 H1 e1 (by simp; rfl)⟩⟩) hg (by decide) (by decide) he
theorem c_lenS (c : XC P w K mg base k N sc vs ls X) {t : Txt} (ha : DE X B Γ e rTxt t) (hm : mg "len" = none) (hz : t.length ≤ 1000000) (hg : glB sc "len" = true := by decide +kernel) (he : starEach [e] X.env = [(false, eval e X.env)] := by rfl) : DE X B Γ (.Call (.Name "len" p) [e] [] pos) rInt (t.length : Int) :=
  c_bi1 c call_len hm PySem.boot_len ha (fun σ H Q ⟨F, en, q⟩ => ⟨F, en, fun v F1 H1 e1 h1 => ⟨v, t.length, rfl, by rw [h1.1]; exact ⟨by rw [tx_len]; exact Nat.le_trans hz (by decide), by rw [tx_len]⟩, q _ F1 H1 e1 rfl⟩⟩) hg (by decide) (by decide) he
theorem boot_abs' : bootBuiltins "abs" = some (.builtin "abs") := by decide +kernel
theorem c_abs (c : XC P w K mg base k N sc vs ls X) {i : Int} (ha : DE X B Γ e rInt i) (hm : mg "abs" = none) (hg : glB sc "abs" = true := by decide +kernel) (he : starEach [e] X.env = [(false, eval e X.env)] := by rfl) : DE X B Γ (.Call (.Name "abs" p) [e] [] pos) rInt (if i < 0 then -i else i) :=
  c_bi1 c call_abs hm boot_abs' ha (fun σ H Q ⟨F, en, q⟩ => ⟨F, en, fun v F1 H1 e1 h1 => ⟨i, by rw [show v = V.int i from h1], q _ F1 H1 e1 rfl⟩⟩) hg (by decide) (by decide) he
/-- T(e), T a built-in type -/
theorem c_ty1 (c : XC P w K mg base k N sc vs ls X) {T : String} {r1 : List V → Hp → VK → Prop} {ra : Rp α} {y : α} (hc : CallR X (.type T) r1) (hm : mg x = none) (hv : bootBuiltins x = some (.type T)) (ha : DE X B Γ e ra y)
    {t : TE} (hr : ∀ σ H Q, t σ H Q → tCB r1 (tCons (tD B Γ ra y) tNil) σ H Q) (hg : glB sc x = true) (hn : x ≠ "__name__") (hdb : (x == ("__debug__" : Str)) = false) (he : starEach [e] X.env = [(false, eval e X.env)]) : PE X (.Call (.Name x p) [e] [] pos) t :=
  pe_weak (pe_callTy hc (gl_of c.sc hg) (by rw [c.mg]; exact hm) hv (pa_cons ha pa_nil he) hn hdb he (by rfl)) hr
theorem boot_list' : bootBuiltins "list" = some (.type "list") := by decide +kernel
theorem boot_int' : bootBuiltins "int" = some (.type "int") := by decide +kernel
theorem c_list (c : XC P w K mg base k N sc vs ls X) {r : Rp α} {xs : List α} (ha : DE X B Γ e (rList r) xs) (hm : mg "list" = none) (hg : glB sc "list" = true := by decide +kernel) (he : starEach [e] X.env = [(false, eval e X.env)] := by rfl) : DM X B Γ (.Call (.Name "list" p) [e] [] pos) r xs :=
  c_ty1 c call_list_of hm boot_list' ha (fun σ H Q ⟨F, en, q⟩ => ⟨F, en, fun v F1 H1 e1 ⟨p, us, h1, h2, h3⟩ => ⟨p, us, by rw [h1], .inl (SqL.of (e1.i _ _ h2)), fun l hl =>
    have e3 := Ext.newH e1.i (.lst us) hl
    q l us F1 _ (e1.trans e3) (e1.i.free hl) (e1.h.free hl) upd_same h3⟩⟩) hg (by decide) (by decide) he
theorem c_intB (c : XC P w K mg base k N sc vs ls X) {z : Bool} (ha : DE X B Γ e rBool z) (hm : mg "int" = none) (hg : glB sc "int" = true := by decide +kernel) (he : starEach [e] X.env = [(false, eval e X.env)] := by rfl) : DE X B Γ (.Call (.Name "int" p) [e] [] pos) rInt (if z = true then 1 else 0) :=
  c_ty1 c call_int1 hm boot_int' ha (fun σ H Q ⟨F, en, q⟩ => ⟨F, en, fun v F1 H1 e1 h1 => .inr ⟨z, by rw [show v = V.bl z from h1], q _ F1 H1 e1 rfl⟩⟩) hg (by decide) (by decide) he
theorem c_max2 (c : XC P w K mg base k N sc vs ls X) {i j : Int} (ha : DE X B Γ a rInt i) (hb : DE X B Γ b rInt j) (hm : mg "max" = none) (hg : glB sc "max" = true := by decide +kernel) (hs : starEach [a, b] X.env = (false, eval a X.env) :: starEach [b] X.env := by rfl) (hs2 : starEach [b] X.env = [(false, eval b X.env)] := by rfl)
    (hpl : (backTo pos (starEach [b] X.env)).any (·.1) = false := by rfl) : DE X B Γ (.Call (.Name "max" p) [a, b] [] pos) rInt (max i j) :=
  pe_weak (pe_callB (call_max2 c.calm) (gl_of c.sc hg) (by rw [c.mg]; exact hm) (by decide +kernel) (da_cons ha (da_cons hb da_nil hs2) hs) (by decide) (by decide) hs hpl) fun σ H Q ⟨F, en, q⟩ => ⟨F, en, fun us F1 H1 e1 h1 => by
    obtain ⟨u, v, rfl, h2, h3⟩ := h1.two
    refine ⟨i, j, by rw [show u = V.int i from h2, show v = V.int j from h3], q _ F1 H1 e1 ?_⟩
    show V.int _ = V.int _
    congr 1
    split <;> omega⟩
theorem c_min2 (c : XC P w K mg base k N sc vs ls X) {i j : Int} (ha : DE X B Γ a rInt i) (hb : DE X B Γ b rInt j) (hm : mg "min" = none) (hg : glB sc "min" = true := by decide +kernel) (hs : starEach [a, b] X.env = (false, eval a X.env) :: starEach [b] X.env := by rfl) (hs2 : starEach [b] X.env = [(false, eval b X.env)] := by rfl)
    (hpl : (backTo pos (starEach [b] X.env)).any (·.1) = false := by rfl) : DE X B Γ (.Call (.Name "min" p) [a, b] [] pos) rInt (min i j) :=
  pe_weak (pe_callB (call_min2 c.calm) (gl_of c.sc hg) (by rw [c.mg]; exact hm) (by decide +kernel) (da_cons ha (da_cons hb da_nil hs2) hs) (by decide) (by decide) hs hpl) fun σ H Q ⟨F, en, q⟩ => ⟨F, en, fun us F1 H1 e1 h1 => by
    obtain ⟨u, v, rfl, h2, h3⟩ := h1.two
    refine ⟨i, j, by rw [show u = V.int i from h2, show v = V.int j from h3], q _ F1 H1 e1 ?_⟩
    show V.int _ = V.int _
    congr 1
    split <;> omega⟩
theorem rl_bl {us : List V} {bs : List Bool} (h : Rl (fun v a => v = V.bl a) us bs) : us = bs.map V.bl := Rl.map_eq (fun _ _ z => z) h
theorem rl_int {us : List V} {bs : List Int} (h : Rl (fun v a => v = V.int a) us bs) : us = bs.map V.int := Rl.map_eq (fun _ _ z => z) h
theorem rl_str {us : List V} {bs : List Txt} {F : Hp} (h : Rl (rTxt.rel F) us bs) : us = (bs.map tx).map V.str := by
  rw [List.map_map]
  exact Rl.map_eq (fun _ _ z => z.1) h
theorem c_all (c : XC P w K mg base k N sc vs ls X) {xs : List Bool} (ha : DE X B Γ e (rList rBool) xs) (hm : mg "all" = none) (hg : glB sc "all" = true := by decide +kernel) (he : starEach [e] X.env = [(false, eval e X.env)] := by rfl) : DE X B Γ (.Call (.Name "all" p) [e] [] pos) rBool (xs.all id) :=
  c_bi1 c (cr_all c.calm) hm (by decide +kernel) ha (fun σ H Q ⟨F, en, q⟩ => ⟨F, en, fun v F1 H1 e1 ⟨p, us, h1, h2, h3⟩ => ⟨p, xs, by rw [h1], by rw [← rl_bl h3]; exact SqL.of (e1.i _ _ h2), q _ F1 H1 e1 rfl⟩⟩) hg (by decide) (by decide) he
theorem c_any (c : XC P w K mg base k N sc vs ls X) {xs : List Bool} (ha : DE X B Γ e (rList rBool) xs) (hm : mg "any" = none) (hg : glB sc "any" = true := by decide +kernel) (he : starEach [e] X.env = [(false, eval e X.env)] := by rfl) : DE X B Γ (.Call (.Name "any" p) [e] [] pos) rBool (xs.any id) :=
  c_bi1 c (cr_any c.calm) hm (by decide +kernel) ha (fun σ H Q ⟨F, en, q⟩ => ⟨F, en, fun v F1 H1 e1 ⟨p, us, h1, h2, h3⟩ => ⟨p, xs, by rw [h1], by rw [← rl_bl h3]; exact SqL.of (e1.i _ _ h2), q _ F1 H1 e1 rfl⟩⟩) hg (by decide) (by decide) he
theorem c_sum (c : XC P w K mg base k N sc vs ls X) {xs : List Int} (ha : DE X B Γ e (rList rInt) xs) (hm : mg "sum" = none) (hg : glB sc "sum" = true := by decide +kernel) (he : starEach [e] X.env = [(false, eval e X.env)] := by rfl) : DE X B Γ (.Call (.Name "sum" p) [e] [] pos) rInt xs.sum :=
  c_bi1 c (cr_sum c.calm) hm (by decide +kernel) ha (fun σ H Q ⟨F, en, q⟩ => ⟨F, en, fun v F1 H1 e1 ⟨p, us, h1, h2, h3⟩ => ⟨p, xs, by rw [h1], by rw [← rl_int h3]; exact SqL.of (e1.i _ _ h2), q _ F1 H1 e1 rfl⟩⟩) hg (by decide) (by decide) he
/-! order of lists of whole numbers -/
def ltL : List Int → List Int → Bool
  | _, [] => false
  | [], _ :: _ => true
  | x :: xs, y :: ys => if x = y then ltL xs ys else decide (x < y)
theorem firstLt_ltL (xs ys : List Int) : ∀ (n i : Nat), min xs.length ys.length = i + n → SeqAt.firstLt (fun j => decide (xs.getD j 0 = ys.getD j 0)) (fun j => decide (xs.getD j 0 < ys.getD j 0)) (decide (xs.length < ys.length)) ((List.range n).map (i + ·)) = ltL (xs.drop i) (ys.drop i)
  | 0, i, h => by
    show decide (xs.length < ys.length) = _
    by_cases hx : xs.length ≤ i
    · rw [List.drop_eq_nil_of_le hx]
      by_cases hy : ys.length ≤ i
      · rw [List.drop_eq_nil_of_le hy]
        show _ = false
        exact decide_eq_false (by omega)
      · rw [List.drop_eq_getElem_cons (by omega)]
        show _ = true
        exact decide_eq_true (by omega)
    · have hy : ys.length ≤ i := by omega
      rw [List.drop_eq_nil_of_le hy]
      have : ltL (xs.drop i) [] = false := by cases xs.drop i <;> rfl
      rw [this]
      exact decide_eq_false (by omega)
  | n + 1, i, h => by
    have hx : i < xs.length := by omega
    have hy : i < ys.length := by omega
    rw [List.drop_eq_getElem_cons hx, List.drop_eq_getElem_cons hy]
    have e : (List.range (n + 1)).map (i + ·) = i :: (List.range n).map (i + 1 + ·) := by
      rw [List.range_succ_eq_map, List.map_cons, List.map_map]
      congr 1
      refine List.map_congr_left fun a _ => ?_
      show i + (a + 1) = i + 1 + a
      omega
    rw [e]
    have gx : xs.getD i 0 = xs[i] := by simp [List.getD, hx]
    have gy : ys.getD i 0 = ys[i] := by simp [List.getD, hy]
    show (if (decide (xs.getD i 0 = ys.getD i 0)) = true then _ else decide (xs.getD i 0 < ys.getD i 0)) = (if xs[i] = ys[i] then _ else _)
    rw [gx, gy]
    by_cases q : xs[i] = ys[i]
    · rw [if_pos (decide_eq_true q), if_pos q]
      exact firstLt_ltL xs ys n (i + 1) (by omega)
    · rw [if_neg (by rw [decide_eq_false q]; decide), if_neg q]
theorem firstGt_ltL (xs ys : List Int) : SeqAt.firstLt (fun j => decide (xs.getD j 0 = ys.getD j 0)) (fun j => decide (ys.getD j 0 < xs.getD j 0)) (decide (ys.length < xs.length)) (List.range (min xs.length ys.length)) = ltL ys xs := by
  have h := firstLt_ltL ys xs (min xs.length ys.length) 0 (by omega)
  simp only [Nat.zero_add, List.map_id', List.drop_zero] at h
  rw [← h]
  congr 1
  funext j
  exact decide_eq_decide.mpr ⟨Eq.symm, Eq.symm⟩
theorem firstLt_ltL0 (xs ys : List Int) : SeqAt.firstLt (fun j => decide (xs.getD j 0 = ys.getD j 0)) (fun j => decide (xs.getD j 0 < ys.getD j 0)) (decide (xs.length < ys.length)) (List.range (min xs.length ys.length)) = ltL xs ys := by
  have h := firstLt_ltL xs ys (min xs.length ys.length) 0 (by omega)
  simpa only [Nat.zero_add, List.map_id', List.drop_zero] using h
def rCmpL (K : PySem.W.Frag) (f : List Int → List Int → Bool) : R2 := fun x y H Q => ∃ (a b : Addr) (ns ms : List Int), x = .ref a ∧ y = .ref b ∧ SqL K H a (ns.map V.int) ∧ SqL K H b (ms.map V.int) ∧ Q (.bl (f ns ms)) H
theorem op_ltL (hu : X.A.units < cLine) : OpR X (compareOp .Lt) (rCmpL X.K ltL) := by
  intro pins s σ H x y v u Q I rx ry h
  obtain ⟨a, b, ns, ms, rfl, rfl, ha, hb, q⟩ := h
  cases rx
  cases ry
  obtain ⟨its, r1, p1, _⟩ := I.list ha
  obtain ⟨its2, r2, p2, _⟩ := I.list hb
  have i1 : IntsAre its ns := Vals.ints r1
  have i2 : IntsAre its2 ms := Vals.ints r2
  have e1 : its.toArray.size = ns.length := by rw [List.size_toArray]; exact i1.length
  have e2 : its2.toArray.size = ms.length := by rw [List.size_toArray]; exact i2.length
  have at1 : ∀ j (h1 : j < its.toArray.size), ∃ t, its.toArray[j] = .int (ns.getD j 0) t := fun j h1 => PyProof.Rows.IntsAre.int_at i1 _ _ (by simp at h1; simp [h1])
  have at2 : ∀ j (h1 : j < its2.toArray.size), ∃ t, its2.toArray[j] = .int (ms.getD j 0) t := fun j h1 => PyProof.Rows.IntsAre.int_at i2 _ _ (by simp at h1; simp [h1])
  have R := SeqAt.RcLt.lists (A := X.A) (s := s) (e := fun j => decide (ns.getD j 0 = ms.getD j 0)) (r := fun j => decide (ns.getD j 0 < ms.getD j 0)) p1.isList p2.isList hu (fun j h1 h2 => by
    obtain ⟨t, et⟩ := at1 j h1
    obtain ⟨t', et'⟩ := at2 j h2
    rw [et, et']
    have z : (ns.getD j 0 == ms.getD j 0) = decide (ns.getD j 0 = ms.getD j 0) := by
      by_cases q : ns.getD j 0 = ms.getD j 0
      · rw [decide_eq_true q]; exact beq_iff_eq.mpr q
      · rw [decide_eq_false q]; exact beq_eq_false_iff_ne.mpr q
    rw [← z]
    exact SeqAt.EqAt.int_int _ _ _ _) (fun j h1 h2 _ => by
    obtain ⟨t, et⟩ := at1 j h1
    obtain ⟨t', et'⟩ := at2 j h2
    rw [et, et']
    exact fun _ _ _ _ h => PyProof.Rows.lt_int h)
  rw [e1, e2, firstLt_ltL0] at R
  have z : wpAny (model X.prog X.w) X.A (compareOp .Lt (.ref a) (.ref b)) (EP X pins σ Q) X.xe s := R X.prog X.w X.xe (EP X pins σ Q) ⟨.bl _, H, I, rfl, q⟩
  exact z
theorem op_gtL (hu : X.A.units < cLine) : OpR X (compareOp .Gt) (rCmpL X.K fun xs ys => ltL ys xs) := by
  intro pins s σ H x y v u Q I rx ry h
  obtain ⟨a, b, ns, ms, rfl, rfl, ha, hb, q⟩ := h
  cases rx
  cases ry
  obtain ⟨its, r1, p1, _⟩ := I.list ha
  obtain ⟨its2, r2, p2, _⟩ := I.list hb
  have i1 : IntsAre its ns := Vals.ints r1
  have i2 : IntsAre its2 ms := Vals.ints r2
  have e1 : its.toArray.size = ns.length := by rw [List.size_toArray]; exact i1.length
  have e2 : its2.toArray.size = ms.length := by rw [List.size_toArray]; exact i2.length
  have at1 : ∀ j (h1 : j < its.toArray.size), ∃ t, its.toArray[j] = .int (ns.getD j 0) t := fun j h1 => PyProof.Rows.IntsAre.int_at i1 _ _ (by simp at h1; simp [h1])
  have at2 : ∀ j (h1 : j < its2.toArray.size), ∃ t, its2.toArray[j] = .int (ms.getD j 0) t := fun j h1 => PyProof.Rows.IntsAre.int_at i2 _ _ (by simp at h1; simp [h1])
  have R := SeqAt.RcOp.lists_gt (A := X.A) (s := s) (e := fun j => decide (ns.getD j 0 = ms.getD j 0)) (r := fun j => decide (ms.getD j 0 < ns.getD j 0)) p1.isList p2.isList hu (fun j h1 h2 => by
    obtain ⟨t, et⟩ := at1 j h1
    obtain ⟨t', et'⟩ := at2 j h2
    rw [et, et']
    have z : (ns.getD j 0 == ms.getD j 0) = decide (ns.getD j 0 = ms.getD j 0) := by
      by_cases q : ns.getD j 0 = ms.getD j 0
      · rw [decide_eq_true q]; exact beq_iff_eq.mpr q
      · rw [decide_eq_false q]; exact beq_eq_false_iff_ne.mpr q
    rw [← z]
    exact SeqAt.EqAt.int_int _ _ _ _) (fun j h1 h2 _ => by
    obtain ⟨t, et⟩ := at1 j h1
    obtain ⟨t', et'⟩ := at2 j h2
    rw [et, et']
    exact fun _ _ _ _ h => PyProof.Rows.gt_int h)
  rw [e1, e2] at R
  have z : wpAny (model X.prog X.w) X.A (compareOp .Gt (.ref a) (.ref b)) (EP X pins σ Q) X.xe s := R X.prog X.w X.xe (EP X pins σ Q) ⟨.bl _, H, I, rfl, by
    have := firstGt_ltL ns ms
    rw [show (decide (ns.length > ms.length)) = decide (ms.length < ns.length) from rfl, this]
    exact q⟩
  exact z
theorem c_ltL (c : XC P w K mg base k N sc vs ls X) {xs ys : List Int} (ha : DE X B Γ a (rList rInt) xs) (hb : DE X B Γ b (rList rInt) ys) : DC X B Γ (.Compare a [.Lt] [b] pos) (ltL xs ys) :=
  dc_cmp (ra := rList rInt) (rb := rList rInt) (op_ltL c.room.units0) (fun F H u v s ⟨p, us, h1, h2, h3⟩ ⟨p', us', h1', h2', h3'⟩ Q q => ⟨p, p', xs, ys, h1, h1', by rw [← rl_int h3]; exact SqL.of (s _ _ h2), by rw [← rl_int h3']; exact SqL.of (s _ _ h2'), q _ F H (Ext.refl s) rfl⟩) (nomark _) ha hb
theorem c_gtL (c : XC P w K mg base k N sc vs ls X) {xs ys : List Int} (ha : DE X B Γ a (rList rInt) xs) (hb : DE X B Γ b (rList rInt) ys) : DC X B Γ (.Compare a [.Gt] [b] pos) (ltL ys xs) :=
  dc_cmp (ra := rList rInt) (rb := rList rInt) (op_gtL c.room.units0) (fun F H u v s ⟨p, us, h1, h2, h3⟩ ⟨p', us', h1', h2', h3'⟩ Q q => ⟨p, p', xs, ys, h1, h1', by rw [← rl_int h3]; exact SqL.of (s _ _ h2), by rw [← rl_int h3']; exact SqL.of (s _ _ h2'), q _ F H (Ext.refl s) rfl⟩) (nomark _) ha hb
end
end DL
namespace DL
open PySem L2 PySem.Spec PyProof.Rows

/-! ### instances -/
def rObj {α : Type} (cls : α → Addr) (names : List Str) (flds : α → Ctx) : Rp α :=
  ⟨fun F v a => ∃ (x dx : Addr) (fs : List (Str × V)), v = .ref x ∧ F x = some (.ins (cls a) dx fs) ∧ fs.map Prod.fst = names ∧ SlsOk F (fs.map Prod.snd) (flds a),
   fun e ⟨x, dx, fs, h1, h2, h3, h4⟩ => ⟨x, dx, fs, h1, e _ _ h2, h3, SlsOk.mono e h4⟩⟩
/-- an instance in the making: at x, its own dict at dx -/
def oObj (C : Addr) (names : List Str) (sls : Ctx) : Own (Addr × Addr) :=
  ⟨fun F H v a fp => v = .ref a.1 ∧ fp = (fun b => b = a.1) ∧ ∃ fs : List (Str × V), H a.1 = some (.ins C a.2 fs) ∧ fs.map Prod.fst = names ∧ SlsOk F (fs.map Prod.snd) sls,
   fun {F F' H H' v a fp} e k ⟨h1, h2, fs, h3, h4, h5⟩ => ⟨h1, h2, fs, by rw [k a.1 (by rw [h2])]; exact h3, h4, SlsOk.mono e h5⟩⟩
theorem look_at : ∀ {fs : List (Str × V)} {names : List Str} {i : Nat} {f : Str}, fs.map Prod.fst = names → names[i]? = some f → (names.take i).contains f = false → ∃ v, (fs.map Prod.snd)[i]? = some v ∧ fs.lookup f = some v
  | [], names, i, f, h1, h2, _ => by subst h1; simp at h2
  | (g, v) :: fs, names, 0, f, h1, h2, _ => by
    subst h1
    have e : g = f := by simpa using h2
    subst e
    exact ⟨v, rfl, by simp [List.lookup]⟩
  | (g, v) :: fs, names, i + 1, f, h1, h2, h3 => by
    subst h1
    simp only [List.map_cons, List.take_succ_cons, List.contains_cons, Bool.or_eq_false_iff] at h3
    obtain ⟨u, q1, q2⟩ := look_at (fs := fs) (i := i) (f := f) rfl (by simpa using h2) h3.2
    refine ⟨u, by simpa using q1, ?_⟩
    rw [List.lookup_cons, h3.1]
    exact q2
theorem look_no : ∀ {fs : List (Str × V)} {names : List Str} {f : Str}, fs.map Prod.fst = names → names.contains f = false → fs.lookup f = none
  | [], _, _, _, _ => rfl
  | (g, v) :: fs, names, f, h1, h3 => by
    subst h1
    simp only [List.map_cons, List.contains_cons, Bool.or_eq_false_iff] at h3
    rw [List.lookup_cons, h3.1]
    exact look_no (fs := fs) rfl h3.2
theorem putF_new : ∀ {fs : List (Str × V)} {names : List Str} {f : Str} {v : V}, fs.map Prod.fst = names → names.contains f = false → putF f v fs = fs ++ [(f, v)]
  | [], _, _, _, _, _ => rfl
  | (g, u) :: fs, names, f, v, h1, h3 => by
    subst h1
    simp only [List.map_cons, List.contains_cons, Bool.or_eq_false_iff] at h3
    have ne : ¬ g = f := fun z => by rw [z] at h3; simp at h3
    show (if g = f then _ else _) = _
    rw [if_neg ne, putF_new (fs := fs) rfl h3.2]
    rfl
theorem slsOk_app {F : Hp} : ∀ {us ws : List V} {Δ Θ : Ctx}, SlsOk F us Δ → SlsOk F ws Θ → SlsOk F (us ++ ws) (Δ ++ Θ)
  | [], _, [], _, _, y => y
  | v :: us, ws, s :: Δ, Θ, x, y => ⟨x.1, slsOk_app x.2 y⟩
  | [], _, _ :: _, _, x, _ => x.elim
  | _ :: _, _, [], _, x, _ => x.elim
/-- what a class must have -/
def FMe (P : Program) (w : World) (K : PySem.W.Frag) (mg : Str → Option Value) (base : Heap) (j : Nat) (C : Addr) (m : Str) (ps : List Str) (sp : Sp) : Prop :=
  ∃ fa fd, FnOk P w K mg base CX0 j fa fd ps sp ∧ Meth K C m fa ∧ Binds K fd ps [] ∧ Cls K C
def FMk (P : Program) (w : World) (K : PySem.W.Frag) (mg : Str → Option Value) (base : Heap) (j : Nat) (x : Str) (C : Addr) (ps : List Str) (sp : Sp) : Prop :=
  ∃ fa fd, FnOk P w K mg base CX0 j fa fd ps sp ∧ mg x = some (.ref C) ∧ Mk K C fa ∧ Binds K fd ps []
/-- __init__ of the class at C -/
def SpI {ι : Type} (C : Addr) (args : ι → Ctx) (pre : ι → Prop) (names : List Str) (flds : ι → Ctx) : Sp := fun vs H Q _ => ∃ F i x dx us, vs = .ref x :: us ∧ Same F H ∧ F x = none ∧ H x = some (.ins C dx []) ∧ SlsOk F us (args i) ∧ pre i ∧
  ∀ (F' H' : Hp) (fs : List (Str × V)), Same F F' → (∀ b o, b ≠ x → H b = some o → H' b = some o) → Same F' H' → F' x = none → (∀ b, F b = none → H b ≠ none → F' b = none) → H' x = some (.ins C dx fs) → fs.map Prod.fst = names → SlsOk F' (fs.map Prod.snd) (flds i) → Q .non H'
/-- the facts of a class for isinstance -/
structure ClsI (K : PySem.W.Frag) (C : Addr) : Prop where
  cl : Cls K C
  ha : PySem.W.findIn K (.ref C) "__class__" = some (some (.builtin "object.__class__"))
  hn : PySem.W.specialIn K (.builtin "object.__class__") "__get__" = some (some (.builtin "getset_descriptor.__get__"))
  htk : PySem.W.takesIn K (.builtin "object.__class__") = some true
  hm : PySem.W.mroIn K C (.type "object") = some true
section
variable {P : Program} {w : World} {K : PySem.W.Frag} {mg : Str → Option Value} {base : Heap} {k j : Nat} {N : List Str} {sc : Scope} {vs ls : List Nat} {X : Cx} {α β γ ι ρ : Type} {B : Bs} {Γ Γ' : Ctx} {e a b : Expr} {es : List Expr} {D : Ends} {rest ss : List Stmt} {p pos apos : Pos} {x f m : Str} {cls : α → Addr} {names : List Str} {flds : α → Ctx} {ps : List Str}
theorem c_fld (c : XC P w K mg base k N sc vs ls X) (i : Nat) {o : α} {r : Rp β} {v : β} (he : DE X B Γ e (rObj cls names flds) o) (ha : At (flds o) i (.val r v)) (hc : Cls K (cls o)) (hn : NoAttr K (cls o) f) (h1 : names[i]? = some f := by rfl) (h2 : (names.take i).contains f = false := by decide +kernel)
    (hb : attributeBase e f X.env (eval e X.env) = eval e X.env := by rfl) : DE X B Γ (.Attribute e f pos) r v :=
  pe_weak (pe_fld he hb) fun σ H Q ⟨F, en, q⟩ => ⟨F, en, fun u F1 H1 e1 ⟨y, dx, fs, g1, g2, g3, g4⟩ => by
    obtain ⟨z, q1, q2⟩ := look_at g3 h1 h2
    obtain ⟨z', q3, q4⟩ := g4.at_ ha.get
    have ez : z' = z := Option.some.inj (q3.symm.trans q1)
    subst ez
    exact ⟨y, cls o, dx, fs, z', g1, e1.i _ _ g2, by rw [c.K]; exact hc, by rw [c.K]; exact hn, q2, q z' F1 H1 e1 q4⟩⟩
/-- o.m(e, ..) -/
theorem c_meth (c : XC P w K mg base k N sc vs ls X) {pl : Sem Bool} {o : α} {rr : Rp ρ} {args : ι → Ctx} {pre : ι → Prop} {fn : ι → ρ} {Δ : Ctx} (i : ι) (h : FMe P w K mg base j (cls o) m ps (SpF args pre rr fn)) (he : DE X B Γ e (rObj cls names flds) o)
    (hΔ : args i = .val (rObj cls names flds) o :: Δ) (ha : DA X B Γ (a :: es) Δ) (hp : pre i) (hj : j ≤ k := by decide) (hnm : names.contains m = false := by decide +kernel)
    (hst : starEach (a :: es) X.env = (false, eval a X.env) :: starEach es X.env := by rfl) (hpl : (backTo pos (starEach es X.env)).any Prod.fst = false := by rfl)
    (ht : eval (.Call (.Attribute e m apos) (a :: es) [] pos) X.env = (do
      let ov ← eval e X.env
      standAt apos.atName
      let (f, first) ← holding [ov] (getMethod ov m pl)
      callWith pos f first (backTo pos (starEach (a :: es) X.env)) (backToKw pos (keywordEach [] X.env))) := by rfl) : DE X B Γ (.Call (.Attribute e m apos) (a :: es) [] pos) rr (fn i) := by
  obtain ⟨fa, fd, G, h1, h2, h3⟩ := h
  have G' : FnOk X.prog X.w X.K X.mg X.base CX0 j fa fd ps (SpF args pre rr fn) := by rw [c.p, c.w, c.K, c.mg, c.b]; exact G
  refine pe_weak (pe_meth (pl := pl) he (by rw [c.K]; exact h3) (by rw [c.K]; exact h1) G' (c.room.mono hj) (by rw [c.K]; exact h2) .nil pass0 ha hst hpl ht) fun σ H Q ⟨F, en, q⟩ => ⟨F, en, fun u F1 H1 e1 h4 => ?_⟩
  obtain ⟨y, dx, fs, g1, g2, g3, g4⟩ := id h4
  refine ⟨y, dx, fs, g1, e1.i _ _ g2, look_no g3 hnm, F1, en.ext e1, fun us F2 H2 e2 h5 => ?_⟩
  show SpF args pre rr fn (u :: (us ++ [])) H2 Q E0
  rw [List.append_nil]
  exact ⟨F2, i, e2.i, by rw [hΔ]; exact ⟨(rObj cls names flds).mono e2.f h4, h5⟩, hp, fun v F3 H3 e3 h6 => q v F3 H3 (e1.trans (e2.trans e3)) h6⟩
/-- o.m() -/
theorem c_meth0 (c : XC P w K mg base k N sc vs ls X) {pl : Sem Bool} {o : α} {rr : Rp ρ} {args : ι → Ctx} {pre : ι → Prop} {fn : ι → ρ} (i : ι) (h : FMe P w K mg base j (cls o) m ps (SpF args pre rr fn)) (he : DE X B Γ e (rObj cls names flds) o)
    (hΔ : args i = [.val (rObj cls names flds) o]) (hp : pre i) (hj : j ≤ k := by decide) (hnm : names.contains m = false := by decide +kernel)
    (ht : eval (.Call (.Attribute e m apos) [] [] pos) X.env = (do
      let ov ← eval e X.env
      standAt apos.atName
      let (f, first) ← holding [ov] (getMethod ov m pl)
      callWith pos f first (backTo pos (starEach [] X.env)) (backToKw pos (keywordEach [] X.env))) := by rfl) : DE X B Γ (.Call (.Attribute e m apos) [] [] pos) rr (fn i) := by
  obtain ⟨fa, fd, G, h1, h2, h3⟩ := h
  have G' : FnOk X.prog X.w X.K X.mg X.base CX0 j fa fd ps (SpF args pre rr fn) := by rw [c.p, c.w, c.K, c.mg, c.b]; exact G
  refine pe_weak (pe_meth0 (pl := pl) he (by rw [c.K]; exact h3) (by rw [c.K]; exact h1) G' (c.room.mono hj) (by rw [c.K]; exact h2) .nil pass0 ht) fun σ H Q ⟨F, en, q⟩ => ⟨F, en, fun u F1 H1 e1 h4 => ?_⟩
  obtain ⟨y, dx, fs, g1, g2, g3, g4⟩ := id h4
  refine ⟨y, dx, fs, g1, e1.i _ _ g2, look_no g3 hnm, ?_⟩
  show SpF args pre rr fn (u :: ([] ++ [])) H1 Q E0
  exact ⟨F1, i, e1.i, by rw [hΔ]; exact ⟨h4, trivial⟩, hp, fun v F3 H3 e3 h6 => q v F3 H3 (e1.trans e3) h6⟩
theorem c_methM0 (c : XC P w K mg base k N sc vs ls X) {pl : Sem Bool} {o : α} {r : Rp ρ} {args : ι → Ctx} {pre : ι → Prop} {fn : ι → List ρ} (i : ι) (h : FMe P w K mg base j (cls o) m ps (SpM args pre r fn)) (he : DE X B Γ e (rObj cls names flds) o)
    (hΔ : args i = [.val (rObj cls names flds) o]) (hp : pre i) (hj : j ≤ k := by decide) (hnm : names.contains m = false := by decide +kernel)
    (ht : eval (.Call (.Attribute e m apos) [] [] pos) X.env = (do
      let ov ← eval e X.env
      standAt apos.atName
      let (f, first) ← holding [ov] (getMethod ov m pl)
      callWith pos f first (backTo pos (starEach [] X.env)) (backToKw pos (keywordEach [] X.env))) := by rfl) : DM X B Γ (.Call (.Attribute e m apos) [] [] pos) r (fn i) := by
  obtain ⟨fa, fd, G, h1, h2, h3⟩ := h
  have G' : FnOk X.prog X.w X.K X.mg X.base CX0 j fa fd ps (SpM args pre r fn) := by rw [c.p, c.w, c.K, c.mg, c.b]; exact G
  refine pe_weak (pe_meth0 (pl := pl) he (by rw [c.K]; exact h3) (by rw [c.K]; exact h1) G' (c.room.mono hj) (by rw [c.K]; exact h2) .nil pass0 ht) fun σ H Q ⟨F, en, q⟩ => ⟨F, en, fun u F1 H1 e1 h4 => ?_⟩
  obtain ⟨y, dx, fs, g1, g2, g3, g4⟩ := id h4
  refine ⟨y, dx, fs, g1, e1.i _ _ g2, look_no g3 hnm, ?_⟩
  show SpM args pre r fn (u :: ([] ++ [])) H1 Q E0
  exact ⟨F1, i, e1.i, by rw [hΔ]; exact ⟨h4, trivial⟩, hp, fun p us F3 H3 e3 h6 h7 h8 h9 => q p us F3 H3 (e1.trans e3) h6 (e1.h.free h7) h8 h9⟩
/-- C(e, ..) -/
theorem c_make (c : XC P w K mg base k N sc vs ls X) {C : Addr} {args : ι → Ctx} {pre : ι → Prop} {fl : ι → Ctx} {o : α} (i : ι) (h : FMk P w K mg base j x C ps (SpI C args pre names fl)) (ha : DA X B Γ (a :: es) (args i)) (hp : pre i) (hC : cls o = C) (hf : flds o = fl i) (hj : j + 1 ≤ k := by decide) (hg : glB sc x = true := by decide +kernel)
    (hdb : (x == ("__debug__" : Str)) = false := by decide) (he : starEach (a :: es) X.env = (false, eval a X.env) :: starEach es X.env := by rfl) (hpl : (backTo pos (starEach es X.env)).any Prod.fst = false := by rfl) :
    DE X B Γ (.Call (.Name x p) (a :: es) [] pos) (rObj cls names flds) o := by
  obtain ⟨fa, fd, G, h1, h2, h3⟩ := h
  have G' : FnOk X.prog X.w X.K X.mg X.base CX0 j fa fd ps (SpI C args pre names fl) := by rw [c.p, c.w, c.K, c.mg, c.b]; exact G
  refine pe_weak (pe_make (by rw [c.K]; exact h2) G' (c.room.mono hj) (gl_of c.sc hg) (by rw [c.mg]; exact h1) (by rw [c.K]; exact h3) .nil pass0 ha hdb he hpl) fun σ H Q ⟨F, en, q⟩ => ⟨F, en, fun us F1 H1 e1 h5 => ?_⟩
  intro y dy n1 n2 ne
  rw [List.append_nil]
  have s1 : Same H1 (upd (upd H1 dy (.own y)) y (.ins C dy [])) := fun b u z => by rw [upd_ne (ne_of_none z n1), upd_ne (ne_of_none z n2)]; exact z
  have f1 : F1 y = none := e1.i.free n1
  refine ⟨F1, i, y, dy, us, rfl, e1.i.trans s1, f1, upd_same, h5, hp, fun F' H' fs g1 g2 g3 g4 g5 g6 g7 g8 => ⟨rfl, ?_⟩⟩
  have g2' : Same H1 H' := fun b u z => g2 b u (ne_of_none z n1) (s1 b u z)
  have ex : Ext F1 H1 F' H' := ⟨g1, g2', g3, fun b hb hh => g5 b hb (by
    cases z : H1 b with
    | none => exact absurd z hh
    | some u => rw [s1 b u z]; intro w; cases w)⟩
  have ex2 := ex.frzNew g4 n1 g6
  exact q (.ref y) _ H' (e1.trans ex2) ⟨y, dy, fs, rfl, by rw [hC]; exact upd_same, g7, by rw [hf]; exact SlsOk.mono (same_new g4) g8⟩
/-- self.f = e -/
theorem c_setF (c : XC P w K mg base k N sc vs ls X) (i : Nat) {C : Addr} {sls : Ctx} {xd : Addr × Addr} {r : Rp β} {v : β} {p1 p2 : Pos} (h : At Γ i (.own (oObj C names sls) xd)) (he : DE X B Γ e r v) (hc : Cls K C) (hn : NoAttr K C f)
    (t : To Γ i (.own (oObj C (names ++ [f]) (sls ++ [.val r v])) xd) Γ') (hr : SD X B Γ' rest D) (hnm : names.contains f = false := by decide +kernel) (hz : decide (names.length < 1000) = true := by decide +kernel) (hN : N[i]? = some x := by rfl) (hv : vs.contains i = true := by rfl)
    (hd : (x == ("__debug__" : Str)) = false := by decide) (hcd : (x == ("__classdict__" : Str)) = false := by decide) (hs : swapsWith e (some (.Attribute (.Name x p1) f p2)) pos.line X.env = pure false := by rfl) :
    SD X B Γ (.Assign [.Attribute (.Name x p1) f p2] e pos :: rest) D := by
  have hN' : X.N[i]? = some x := by rw [c.N]; exact hN
  refine sd_cons (ps_fld (pe_var hN' (c.vis i x hN' hv) hd hcd) he hs) (fun D' l σ H ⟨F, en⟩ => ⟨F, en, fun u F1 H1 e1 h1 => ?_⟩) hr
  obtain ⟨fp, en1⟩ := en.ext e1
  obtain ⟨⟨s, hs, rfl, hfp, fs, q3, q4, q5⟩, hown⟩ := en1.ok i _ h.get
  refine ⟨.ref xd.1, hs, xd.1, C, xd.2, fs, rfl, q3, by rw [c.K]; exact hc, by rw [c.K]; exact hn, by have := congrArg List.length q4; simp at this; rw [this]; exact of_decide_eq_true hz, l.nx _ _ ?_⟩
  have hx := hown xd.1 (by rw [hfp])
  refine ⟨F1, _, en1.putG (fi := fun b => b = xd.1) t rfl (fun j hj => rfl) ⟨en1.base.f, fun b o z => ?_, fun b o z => ?_, en1.base.d⟩ (fun b o z => ?_) (Same.refl F1) (fun j b hj z => ?_) ?_ (fun j b hj z w => ?_)⟩
  · rw [upd_ne (ne_of_none z hx.2.2)]; exact en1.base.h b o z
  · rw [upd_ne (ne_of_none z hx.1)]; exact en1.same b o z
  · rw [upd_ne (ne_of_none z hx.1)]; exact en1.same b o z
  · have nb : b ≠ xd.1 := fun w => en1.apart j i hj b z (by rw [hfp]; exact w)
    exact ⟨by rw [upd_ne nb], (en1.own_at z).1⟩
  · refine ⟨⟨.ref xd.1, hs, rfl, rfl, putF f u fs, upd_same, ?_, ?_⟩, fun b hb => ?_⟩
    · rw [putF_new q4 hnm, List.map_append, q4]; rfl
    · rw [putF_new q4 hnm, List.map_append]
      exact slsOk_app q5 ⟨h1, trivial⟩
    · subst hb
      exact ⟨hx.1, (by rw [upd_same]; intro w; cases w), hx.2.2⟩
  · subst w
    exact en1.apart j i hj xd.1 z (by rw [hfp])
end
end DL
namespace DL
open PySem L2 PySem.Spec PyProof.Rows

/-! ### defs: __init__, methods -/
def rAny : Rp Unit := ⟨fun _ _ _ => True, fun _ _ => trivial⟩
def FTk (K : PySem.W.Frag) (mg : Str → Option Value) (x q : Str) (C : Addr) (st : Stmt) (ps : List Str) : Prop :=
  ∃ fa fd, Fun K "__init__" q st fa fd ∧ mg x = some (.ref C) ∧ Mk K C fa ∧ Binds K fd ps []
def FTm (K : PySem.W.Frag) (m q : Str) (C : Addr) (st : Stmt) (ps : List Str) : Prop :=
  ∃ fa fd, Fun K m q st fa fd ∧ Meth K C m fa ∧ Binds K fd ps [] ∧ Cls K C
section
variable {P : Program} {w : World} {K : PySem.W.Frag} {mg : Str → Option Value} {base : Heap} {k : Nat} {N : List Str} {vs : List Nat} {ι ρ : Type} {args : ι → Ctx} {pre : ι → Prop} {ps : List Str} {x q m : Str} {st : Stmt} {C : Addr}
theorem meF {rr : Rp ρ} {f : ι → ρ} (Γ0 : ι → Ctx) (T : FTm K m q C st ps) (S : FnScope N ps (defScope st)) (hv : locB N (defScope st) vs = true) (hl : ∀ i, (args i).length = ps.length) (hΓ : ∀ i, args i ++ List.replicate (N.length - ps.length) .un = Γ0 i)
    (body : ∀ (X : Cx) (B : Bs) (D : Ends) (i : ι), XC P w K mg base k N (defScope st) vs vs X → pre i → RtOk B rr (f i) D → (∀ σ H, D.nx σ H → D.rt .non H) → SD X B (Γ0 i) (defBody st) { D with nx := fun _ H => D.rt .non H }) :
    FMe P w K mg base (k + 1) C m ps (SpF args pre rr f) := by
  obtain ⟨fa, fd, F, hm, hb, hc⟩ := T
  refine ⟨fa, fd, F.ok S (fun us H Q E ⟨F0, i, _, h, _⟩ => by rw [h.length, hl]) (fun cdv A outer s H us Q E hr ⟨F0, i, s0, h, hp, hk⟩ => ?_), hm, hb, hc⟩
  refine ⟨_, body _ ⟨F0, H, F0⟩ { nx := fun _ H' => Q .non H', rt := Q } i (xc_of S hv hr) hp hk (fun _ _ z => z), Le.refl _, F0, env_start s0 h (hl i) ?_ (hΓ i)⟩
  have := congrArg List.length S.pre; rw [List.length_take] at this; omega
theorem meM {r : Rp ρ} {f : ι → List ρ} (Γ0 : ι → Ctx) (T : FTm K m q C st ps) (S : FnScope N ps (defScope st)) (hv : locB N (defScope st) vs = true) (hl : ∀ i, (args i).length = ps.length) (hΓ : ∀ i, args i ++ List.replicate (N.length - ps.length) .un = Γ0 i)
    (body : ∀ (X : Cx) (B : Bs) (D : Ends) (i : ι), XC P w K mg base k N (defScope st) vs vs X → pre i → RtM B r (f i) D → SD X B (Γ0 i) (defBody st) D) :
    FMe P w K mg base (k + 1) C m ps (SpM args pre r f) := by
  obtain ⟨fa, fd, F, hm, hb, hc⟩ := T
  refine ⟨fa, fd, F.ok S (fun us H Q E ⟨F0, i, _, h, _⟩ => by rw [h.length, hl]) (fun cdv A outer s H us Q E hr ⟨F0, i, s0, h, hp, hk⟩ => ?_), hm, hb, hc⟩
  refine ⟨_, body _ ⟨F0, H, F0⟩ { nx := fun _ H' => Q .non H', rt := Q } i (xc_of S hv hr) hp hk, Le.refl _, F0, env_start s0 h (hl i) ?_ (hΓ i)⟩
  have := congrArg List.length S.pre; rw [List.length_take] at this; omega
theorem fnI {names : List Str} {fl : ι → Ctx} (Γ0 : ι → Addr × Addr → Ctx) (T : FTk K mg x q C st ps) (S : FnScope N ps (defScope st)) (hv : locB N (defScope st) vs = true) (hl : ∀ i, (args i).length + 1 = ps.length) (hΓ : ∀ i xd, .own (oObj C [] []) xd :: args i ++ List.replicate (N.length - ps.length) .un = Γ0 i xd)
    (body : ∀ (X : Cx) (B : Bs) (D : Ends) (i : ι) (xd : Addr × Addr), XC P w K mg base k N (defScope st) vs vs X → pre i → (∀ σ H' Γ', EnvP B (.own (oObj C names (fl i)) xd :: Γ') σ H' → D.nx σ H') → SD X B (Γ0 i xd) (defBody st) D) :
    FMk P w K mg base (k + 1) x C ps (SpI C args pre names fl) := by
  obtain ⟨fa, fd, F, hm, hk, hb⟩ := T
  refine ⟨fa, fd, F.ok S (fun us H Q E ⟨F0, i, x, dx, us', e, _, _, _, h, _⟩ => by rw [e, List.length_cons, h.length, hl]) (fun cdv A outer s H us Q E hr ⟨F0, i, y, dy, us', e, s0, hy, hH, h, hp, kq⟩ => ?_), hm, hk, hb⟩
  subst e
  have hN : ps.length ≤ N.length := by have := congrArg List.length S.pre; rw [List.length_take] at this; omega
  let H0 : Hp := fun b => if b = y then none else H b
  have h0y : H0 y = none := if_pos rfl
  have h0 : ∀ b, b ≠ y → H0 b = H b := fun b hb => if_neg hb
  refine ⟨_, body _ ⟨F0, H0, F0⟩ { nx := fun _ H' => Q .non H', rt := Q } i (y, dy) (xc_of S hv hr) hp (fun σ H' Γ' ⟨F', fp, en⟩ => ?_), Le.refl _, F0, ?_⟩
  · obtain ⟨⟨v, _, _, hfp, fs, g1, g2, g3⟩, hown⟩ := en.ok 0 _ rfl
    have hx := hown y (by rw [hfp])
    refine kq F' H' fs en.base.f (fun b o hb z => en.base.h b o (by show H0 b = _; rw [h0 b hb]; exact z)) en.same hx.1 (fun b hb hh => ?_) g1 g2 g3
    by_cases hby : b = y
    · rw [hby]; exact hx.1
    · exact en.base.d b hb (by show H0 b ≠ none; rw [h0 b hby]; exact hh)
  · have s00 : Same F0 H0 := fun b u z => by
      have hb : b ≠ y := fun w => by rw [w, hy] at z; cases z
      rw [h0 b hb]; exact s0 b u z
    obtain ⟨fp, en⟩ := env_start (N := N) (ps := ps) (us := .ref y :: us') (Δ := .val rAny () :: args i) (Γ0 := .val rAny () :: args i ++ List.replicate (N.length - ps.length) .un) (F := F0) (H := H0) s00 ⟨trivial, h⟩ (by rw [List.length_cons, hl]) hN rfl
    rw [← hΓ]
    have t : To (.val rAny () :: (args i ++ List.replicate (N.length - ps.length) .un)) 0 (.own (oObj C [] []) (y, dy)) (.own (oObj C [] []) (y, dy) :: (args i ++ List.replicate (N.length - ps.length) .un)) := .z
    have s0H : Same H0 H := fun b u z => by
      have hb : b ≠ y := fun w => by rw [w, h0y] at z; cases z
      rw [← h0 b hb]; exact z
    have hz : ∀ j b, fp j b → False := fun j b z => by
      cases q : (Sl.val rAny () :: args i ++ List.replicate (N.length - ps.length) Sl.un)[j]? with
      | none => exact en.out j q b z
      | some s =>
        have w := en.ok j s q
        cases s with
        | un => exact w b z
        | val r a => exact w.1 b z
        | own o a =>
          have hm := List.mem_of_getElem? q
          have : ∀ {us : List V} {Δ : Ctx}, SlsOk F0 us Δ → Sl.own o a ∉ Δ := fun {us Δ} h => by
            induction Δ generalizing us with
            | nil => simp
            | cons s Δ ih =>
              cases us with
              | nil => exact h.elim
              | cons v us =>
                intro z
                rcases List.mem_cons.mp z with z | z
                · subst z; exact h.1
                · exact ih h.2 z
          rcases List.mem_append.mp hm with hm | hm
          · rcases List.mem_cons.mp hm with hm | hm
            · cases hm
            · exact this h hm
          · have := List.eq_of_mem_replicate hm
            cases this
    refine ⟨_, en.putG (fi := fun b => b = y) t rfl (fun j hj => rfl) ⟨Same.refl F0, s0H, s0, fun b hb _ => hb⟩ s0 (Same.refl F0) (fun j b hj z => (hz j b z).elim) ?_ (fun j b hj z w => hz j b z)⟩
    have hs : (L2.start N (.ref y :: us'))[0]? = some (some (.ref y)) := by unfold L2.start; simp
    rw [hs]
    exact ⟨⟨_, rfl, rfl, rfl, [], hH, rfl, trivial⟩, fun b hb => by subst hb; exact ⟨hy, (by rw [hH]; intro w; cases w), h0y⟩⟩
end
/-! ### equality of data -/
structure Eqd {α : Type} [DecidableEq α] (r : Rp α) (d : Nat) where
  enc : α → PyData
  dp : ∀ K F v a, r.rel F v a → Dp K F v (enc a)
  sh : ∀ F v a, r.rel F v a → (enc a).canLay0 = true
  dep : ∀ a, (enc a).depth ≤ d
  eq : ∀ a b, PyData.eqv (enc a) (enc b) = decide (a = b)
def eqInt : Eqd rInt 0 := ⟨.int, fun K F v a h => by rw [show v = V.int a from h]; exact .int a, fun _ _ _ _ => rfl, fun _ => Nat.le_refl _, fun a b => by
  show (a == b) = _
  by_cases h : a = b
  · subst h; simp
  · simp [h]⟩
def eqBool : Eqd rBool 0 := ⟨.bool, fun K F v a h => by rw [show v = V.bl a from h]; exact .bl a, fun _ _ _ _ => rfl, fun _ => Nat.le_refl _, fun a b => by cases a <;> cases b <;> rfl⟩
theorem strOk_tx {t : Txt} (h : okT t = true) : PyData.strOk (tx t) = true := by
  unfold PyData.strOk
  show t.toArray.all _ = true
  rw [List.all_toArray]
  exact h
def eqTxt : Eqd rTxt 0 := ⟨fun t => .str (tx t), fun K F v a h => by rw [h.1]; exact .str _, fun F v a h => strOk_tx h.2, fun _ => Nat.le_refl _, fun a b => by
  show (tx a == tx b) = _
  by_cases h : a = b
  · subst h; simp
  · have : ¬ tx a = tx b := fun z => h (tx_inj z)
    simp [h, this]⟩
section
variable {α β : Type} [DecidableEq α] [DecidableEq β]
theorem dpAll {r : Rp α} {d : Nat} (E : Eqd r d) {K : PySem.W.Frag} {F : Hp} : ∀ {us : List V} {as : List α}, Rl (r.rel F) us as → DpAll K F us (as.map E.enc)
  | [], [], _ => .nil
  | v :: us, a :: as, h => .cons (E.dp K F v a h.1) (dpAll E h.2)
  | [], _ :: _, h => h.elim
  | _ :: _, [], h => h.elim
theorem shAll {r : Rp α} {d : Nat} (E : Eqd r d) {F : Hp} : ∀ {us : List V} {as : List α}, Rl (r.rel F) us as → PyData.canLayAll0 (as.map E.enc) = true
  | [], [], _ => rfl
  | v :: us, a :: as, h => by
    show ((E.enc a).canLay0 && PyData.canLayAll0 (as.map E.enc)) = true
    rw [E.sh F v a h.1, shAll E h.2]; rfl
  | [], _ :: _, h => h.elim
  | _ :: _, [], h => h.elim
theorem depAll {r : Rp α} {d : Nat} (E : Eqd r d) : ∀ as : List α, PyData.depthAll (as.map E.enc) ≤ d
  | [] => Nat.zero_le _
  | a :: as => Nat.max_le.mpr ⟨E.dep a, depAll E as⟩
theorem eqAll {r : Rp α} {d : Nat} (E : Eqd r d) : ∀ as bs : List α, PyData.eqvAll (as.map E.enc) (bs.map E.enc) = decide (as = bs)
  | [], [] => rfl
  | [], _ :: _ => rfl
  | _ :: _, [] => rfl
  | a :: as, b :: bs => by
    show (PyData.eqv (E.enc a) (E.enc b) && PyData.eqvAll (as.map E.enc) (bs.map E.enc)) = _
    rw [E.eq, eqAll E as bs]
    by_cases h : a = b
    · subst h
      by_cases h2 : as = bs
      · subst h2; simp
      · simp [h2]
    · simp [h]
def eqList {r : Rp α} {d : Nat} (E : Eqd r d) : Eqd (rList r) (d + 1) := ⟨fun as => .list (as.map E.enc), fun K F v a ⟨p, us, h1, h2, h3⟩ => by rw [h1]; exact .lst (SqL.of h2) (dpAll E h3), fun F v a ⟨p, us, h1, h2, h3⟩ => shAll E h3, fun a => Nat.succ_le_succ (depAll E a), fun a b => eqAll E a b⟩
def eqTup {r : Rp α} {d : Nat} (E : Eqd r d) : Eqd (rTup r) (d + 1) := ⟨fun as => .tuple (as.map E.enc), fun K F v a ⟨p, us, h1, h2, h3⟩ => by rw [h1]; exact .tup (SqT.of h2) (dpAll E h3), fun F v a ⟨p, us, h1, h2, h3⟩ => shAll E h3, fun a => Nat.succ_le_succ (depAll E a), fun a b => eqAll E a b⟩
def eqPair {r : Rp α} {s : Rp β} {d d' : Nat} (E : Eqd r d) (E' : Eqd s d') : Eqd (rPair r s) (max d d' + 1) := ⟨fun z => .tuple [E.enc z.1, E'.enc z.2],
  fun K F v a ⟨p, u, u', h1, h2, h3, h4⟩ => by rw [h1]; exact .tup (SqT.of h2) (.cons (E.dp K F u _ h3) (.cons (E'.dp K F u' _ h4) .nil)),
  fun F v a ⟨p, u, u', h1, h2, h3, h4⟩ => by
    show ((E.enc a.1).canLay0 && ((E'.enc a.2).canLay0 && true)) = true
    rw [E.sh F u _ h3, E'.sh F u' _ h4]; rfl,
  fun a => by
    show max (PyData.depth (E.enc a.1)) (max (PyData.depth (E'.enc a.2)) 0) + 1 ≤ _
    have := E.dep a.1
    have := E'.dep a.2
    omega,
  fun a b => by
    show (PyData.eqv (E.enc a.1) (E.enc b.1) && (PyData.eqv (E'.enc a.2) (E'.enc b.2) && true)) = _
    rw [E.eq, E'.eq]
    obtain ⟨a1, a2⟩ := a
    obtain ⟨b1, b2⟩ := b
    by_cases h : a1 = b1
    · subst h
      by_cases h2 : a2 = b2
      · subst h2; simp
      · simp [h2]
    · simp [h]⟩
end
section
variable {P : Program} {w : World} {K : PySem.W.Frag} {mg : Str → Option Value} {base : Heap} {k j : Nat} {N : List Str} {sc : Scope} {vs ls : List Nat} {X : Cx} {α β γ ι ρ : Type} {B : Bs} {Γ Γ' : Ctx} {e a b : Expr} {es : List Expr} {D : Ends} {rest ss : List Stmt} {p pos apos : Pos} {x f m : Str}
theorem shaped_of [DecidableEq α] {r : Rp α} {d : Nat} (E : Eqd r d) (hd : d ≤ 64) {F : Hp} {v : V} {z : α} (h : r.rel F v z) : SeqAt.shaped (E.enc z) = true := by
  unfold SeqAt.shaped
  rw [E.sh F v z h, decide_eq_true (Nat.le_trans (E.dep z) hd)]
  rfl
theorem c_eqD (c : XC P w K mg base k N sc vs ls X) [DecidableEq α] {r : Rp α} {d : Nat} (E : Eqd r d) {y z : α} (ha : DE X B Γ a r y) (hb : DE X B Γ b r z) (hd : d ≤ 64 := by decide) : DC X B Γ (.Compare a [.Eq] [b] pos) (decide (y = z)) :=
  dc_cmp (ra := r) (rb := r) (op_eqD c.room.units) (fun F H u v s h1 h2 Q q => ⟨E.enc y, E.enc z, E.dp _ H u y (r.mono s h1), E.dp _ H v z (r.mono s h2), shaped_of E hd h1, shaped_of E hd h2, q _ F H (Ext.refl s) (by show V.bl _ = V.bl _; rw [E.eq])⟩) (nomark _) ha hb
theorem c_neD (c : XC P w K mg base k N sc vs ls X) [DecidableEq α] {r : Rp α} {d : Nat} (E : Eqd r d) {y z : α} (ha : DE X B Γ a r y) (hb : DE X B Γ b r z) (hd : d ≤ 64 := by decide) : DC X B Γ (.Compare a [.NotEq] [b] pos) (!decide (y = z)) :=
  dc_cmp (ra := r) (rb := r) (op_neD c.room.units) (fun F H u v s h1 h2 Q q => ⟨E.enc y, E.enc z, E.dp _ H u y (r.mono s h1), E.dp _ H v z (r.mono s h2), shaped_of E hd h1, shaped_of E hd h2, q _ F H (Ext.refl s) (by show V.bl _ = V.bl _; rw [E.eq])⟩) (nomark _) ha hb
end
end DL
namespace DL
open PySem L2 PySem.Spec PyProof.Rows
section
variable {P : Program} {w : World} {K : PySem.W.Frag} {mg : Str → Option Value} {base : Heap} {k j : Nat} {N : List Str} {sc : Scope} {vs ls : List Nat} {X : Cx} {α β γ ι ρ : Type} {B : Bs} {Γ Γ' : Ctx} {e a b : Expr} {es : List Expr} {D : Ends} {rest ss : List Stmt} {p pos apos : Pos} {x f m : Str}
/-! ### isinstance -/
/-- a value's type -/
def TyR (K : PySem.W.Frag) {α : Type} (r : Rp α) (a : α) (t : Value) : Prop := ∀ F v, r.rel F v a → TyX K F v t
theorem ty_int {i : Int} : TyR K rInt i (.type "int") := fun F v h => by rw [show v = V.int i from h]; exact .base (.int i)
theorem ty_bool {i : Bool} : TyR K rBool i (.type "bool") := fun F v h => by rw [show v = V.bl i from h]; exact .base (.bl i)
theorem ty_txt {i : Txt} : TyR K rTxt i (.type "str") := fun F v h => by rw [h.1]; exact .base (.str _)
theorem ty_non {i : Unit} : TyR K rNon i (.type "NoneType") := fun F v h => by rw [show v = V.non from h]; exact .base .non
theorem ty_list {r : Rp α} {i : List α} : TyR K (rList r) i (.type "list") := fun F v ⟨p, us, h1, h2, _⟩ => by rw [h1]; exact .base (.lst h2)
theorem ty_tup {r : Rp α} {i : List α} : TyR K (rTup r) i (.type "tuple") := fun F v ⟨p, us, h1, h2, _⟩ => by rw [h1]; exact .base (.tup h2)
theorem ty_pair {r : Rp α} {s : Rp β} {i : α × β} : TyR K (rPair r s) i (.type "tuple") := fun F v ⟨p, u, u', h1, h2, _⟩ => by rw [h1]; exact .base (.tup h2)
theorem ty_obj {cls : α → Addr} {names : List Str} {flds : α → Ctx} {o : α} (h : ClsI K (cls o)) : TyR K (rObj cls names flds) o (.ref (cls o)) := fun F v ⟨y, dx, fs, h1, h2, _⟩ => by rw [h1]; exact .base (.ins h2 h.cl h.ha h.hn h.htk h.hm)
/-- isinstance(e, T), T a built-in type's name -/
theorem c_isi (c : XC P w K mg base k N sc vs ls X) {r : Rp α} {y : α} {t : Value} {T : Str} {T' : String} {b : Bool} {p2 : Pos} (he : DE X B Γ e r y) (ht : TyR K r y t) (hk : PySem.W.kitOne K t (.type T') = some b) (hm : mg "isinstance" = none) (hmT : mg T = none)
    (hbT : bootBuiltins T = some (.type T') := by decide +kernel) (hg : glB sc "isinstance" = true := by decide +kernel) (hgT : glB sc T = true := by decide +kernel) (hn : T ≠ "__name__" := by decide) (hd : (T == ("__debug__" : Str)) = false := by decide)
    (hs : starEach [e, .Name T p2] X.env = (false, eval e X.env) :: starEach [.Name T p2] X.env := by rfl) : DE X B Γ (.Call (.Name "isinstance" p) [e, .Name T p2] [] pos) rBool b :=
  pe_weak (pe_callB call_isi (gl_of c.sc hg) (by rw [c.mg]; exact hm) (by decide +kernel) (pa_cons he (pa_cons (pe_bltn (v := .ty T') (gl_of c.sc hgT) (by rw [c.mg]; exact hmT) hbT rfl hn hd) pa_nil) hs) (by decide) (by decide) hs) fun σ H Q ⟨F, en, q⟩ => ⟨F, en, fun v F1 H1 e1 h1 =>
    ⟨v, .ty T', t, .type T', b, rfl, .ty T', by rw [c.K]; exact ht H1 v (r.mono e1.i h1), by rw [c.K]; exact hk, q _ F1 H1 e1 rfl⟩⟩
/-- isinstance(e, C), C an own class -/
theorem c_isiC (c : XC P w K mg base k N sc vs ls X) {r : Rp α} {y : α} {t : Value} {T : Str} {C : Addr} {b : Bool} {p2 : Pos} (he : DE X B Γ e r y) (ht : TyR K r y t) (hk : PySem.W.kitOne K t (.ref C) = some b) (hm : mg "isinstance" = none) (hmT : mg T = some (.ref C))
    (hg : glB sc "isinstance" = true := by decide +kernel) (hgT : glB sc T = true := by decide +kernel) (hd : (T == ("__debug__" : Str)) = false := by decide)
    (hs : starEach [e, .Name T p2] X.env = (false, eval e X.env) :: starEach [.Name T p2] X.env := by rfl) : DE X B Γ (.Call (.Name "isinstance" p) [e, .Name T p2] [] pos) rBool b :=
  pe_weak (pe_callB call_isi (gl_of c.sc hg) (by rw [c.mg]; exact hm) (by decide +kernel) (pa_cons he (pa_cons (pe_glob (v := .ref C) (gl_of c.sc hgT) (by rw [c.mg]; exact hmT) rfl hd) pa_nil) hs) (by decide) (by decide) hs) fun σ H Q ⟨F, en, q⟩ => ⟨F, en, fun v F1 H1 e1 h1 =>
    ⟨v, .ref C, t, .ref C, b, rfl, .own C, by rw [c.K]; exact ht H1 v (r.mono e1.i h1), by rw [c.K]; exact hk, q _ F1 H1 e1 rfl⟩⟩
/-- a module's constant -/
theorem c_gint (c : XC P w K mg base k N sc vs ls X) {i : Int} {u : Value} (hm : mg x = some u) (hu : ∃ t, u = .int i t) (hg : glB sc x = true := by decide +kernel) (hd : (x == ("__debug__" : Str)) = false := by decide) : DE X B Γ (.Name x pos) rInt i :=
  pe_weak (pe_glob (v := .int i) (gl_of c.sc hg) (by rw [c.mg]; exact hm) hu hd) fun σ H Q ⟨F, en, q⟩ => q _ F H (Ext.refl en.same) rfl
theorem c_gstr (c : XC P w K mg base k N sc vs ls X) {s : Str} {t : Txt} {u : Value} (hm : mg x = some u) (hu : ∃ t, u = .str s t) (hs : s = tx t) (ok : okT t = true) (hg : glB sc x = true := by decide +kernel) (hd : (x == ("__debug__" : Str)) = false := by decide) : DE X B Γ (.Name x pos) rTxt t :=
  pe_weak (pe_glob (v := .str s) (gl_of c.sc hg) (by rw [c.mg]; exact hm) hu hd) fun σ H Q ⟨F, en, q⟩ => q _ F H (Ext.refl en.same) ⟨by rw [hs], ok⟩
/-- a < b < c -/
theorem de_chain {op op' : CmpOp} {r2 r2' : R2} {cc : Expr} {ra : Rp α} {rb : Rp β} {rc : Rp γ} {z z' : Bool} {x : α} {y : β} {y' : γ} (ho : OpR X (compareOp op) r2) (ho' : OpR X (compareOp op') r2')
    (hr : ∀ F H u v, Same F H → ra.rel F u x → rb.rel F v y → ∀ Q : VK, (∀ F' H', Ext F H F' H' → Q (.bl z) H') → r2 u v H Q) (hr' : z = true → ∀ F H u v, Same F H → rb.rel F u y → rc.rel F v y' → ∀ Q : VK, (∀ F' H', Ext F H F' H' → Q (.bl z') H') → r2' u v H Q)
    (ha : DE X B Γ a ra x) (hb : DE X B Γ b rb y) (hc : DE X B Γ cc rc y') (hm : lastMarks [op, op'] [b, cc] = false) : DE X B Γ (.Compare a [op, op'] [b, cc] pos) rBool (z && z') := by
  refine pe_weak (pe_chain ho ho' ha hb hc hm) fun σ H Q ⟨F, en, q⟩ => ⟨F, en, fun u F1 H1 e1 h1 => ⟨F1, en.ext e1, fun v F2 H2 e2 h2 => hr F2 H2 u v e2.i (ra.mono e2.f h1) h2 _ fun F3 H3 e3 => ⟨z, rfl, ?_⟩⟩⟩
  cases z with
  | true =>
    rw [if_pos rfl]
    exact ⟨F3, en.ext (e1.trans (e2.trans e3)), fun v' F4 H4 e4 h4 => hr' rfl F4 H4 v v' e4.i (rb.mono (e3.f.trans e4.f) h2) h4 _ fun F5 H5 e5 => q _ F5 H5 (e1.trans (e2.trans (e3.trans (e4.trans e5)))) rfl⟩
  | false =>
    rw [if_neg (by decide)]
    exact q _ F3 H3 (e1.trans (e2.trans e3)) rfl
theorem dt_chain {op op' : CmpOp} {r2 r2' : R2} {cc : Expr} {ra : Rp α} {rb : Rp β} {rc : Rp γ} {z z' : Bool} {x : α} {y : β} {y' : γ} (ho : OpR X (compareOp op) r2) (ho' : OpR X (compareOp op') r2')
    (hr : ∀ F H u v, Same F H → ra.rel F u x → rb.rel F v y → ∀ Q : VK, (∀ F' H', Ext F H F' H' → Q (.bl z) H') → r2 u v H Q) (hr' : z = true → ∀ F H u v, Same F H → rb.rel F u y → rc.rel F v y' → ∀ Q : VK, (∀ F' H', Ext F H F' H' → Q (.bl z') H') → r2' u v H Q)
    (ha : DE X B Γ a ra x) (hb : DE X B Γ b rb y) (hc : DE X B Γ cc rc y') (hm : lastMarks [op, op'] [b, cc] = false) : DT X B Γ (.Compare a [op, op'] [b, cc] pos) (z && z') := by
  refine pt_weak (pt_chain ho ho' ha hb hc hm) fun σ H Q ⟨F, en, q⟩ => ⟨F, en, fun u F1 H1 e1 h1 => ⟨F1, en.ext e1, fun v F2 H2 e2 h2 => hr F2 H2 u v e2.i (ra.mono e2.f h1) h2 _ fun F3 H3 e3 => ⟨z, rfl, ?_⟩⟩⟩
  cases z with
  | true =>
    rw [if_pos rfl]
    exact ⟨F3, en.ext (e1.trans (e2.trans e3)), fun v' F4 H4 e4 h4 => hr' rfl F4 H4 v v' e4.i (rb.mono (e3.f.trans e4.f) h2) h4 _ fun F5 H5 e5 => ⟨z', rfl, q F5 H5 (e1.trans (e2.trans (e3.trans (e4.trans e5))))⟩⟩
  | false =>
    rw [if_neg (by decide)]
    exact ⟨false, rfl, q F3 H3 (e1.trans (e2.trans e3))⟩
theorem dc_leLe {x y z : Int} {cc : Expr} (ha : DE X B Γ a rInt x) (hb : DE X B Γ b rInt y) (hc : DE X B Γ cc rInt z) (hm : lastMarks [.LtE, .LtE] [b, cc] = false := by with_unfolding_all rfl) : DC X B Γ (.Compare a [.LtE, .LtE] [b, cc] pos) (decide (x ≤ y) && decide (y ≤ z)) :=
  ⟨de_chain op_le op_le (fun F H u v s h1 h2 Q q => ⟨x, y, h1, h2, q F H (Ext.refl s)⟩) (fun _ F H u v s h1 h2 Q q => ⟨y, z, h1, h2, q F H (Ext.refl s)⟩) ha hb hc hm,
   dt_chain op_le op_le (fun F H u v s h1 h2 Q q => ⟨x, y, h1, h2, q F H (Ext.refl s)⟩) (fun _ F H u v s h1 h2 Q q => ⟨y, z, h1, h2, q F H (Ext.refl s)⟩) ha hb hc hm⟩
theorem dc_leLt {x y z : Int} {cc : Expr} (ha : DE X B Γ a rInt x) (hb : DE X B Γ b rInt y) (hc : DE X B Γ cc rInt z) (hm : lastMarks [.LtE, .Lt] [b, cc] = false := by with_unfolding_all rfl) : DC X B Γ (.Compare a [.LtE, .Lt] [b, cc] pos) (decide (x ≤ y) && decide (y < z)) :=
  ⟨de_chain op_le op_lt (fun F H u v s h1 h2 Q q => ⟨x, y, h1, h2, q F H (Ext.refl s)⟩) (fun _ F H u v s h1 h2 Q q => ⟨y, z, h1, h2, q F H (Ext.refl s)⟩) ha hb hc hm,
   dt_chain op_le op_lt (fun F H u v s h1 h2 Q q => ⟨x, y, h1, h2, q F H (Ext.refl s)⟩) (fun _ F H u v s h1 h2 Q q => ⟨y, z, h1, h2, q F H (Ext.refl s)⟩) ha hb hc hm⟩

/-! ### changes of own lists -/
theorem EnvF.setL {σ : L2.St} {F H : Hp} {fp : Nat → Addr → Prop} {i : Nat} {r : Rp α} {as as' : List α} (h : EnvF B Γ σ F H fp) (t : To Γ i (.own (oList r) as') Γ') (at_ : At Γ i (.own (oList r) as)) :
    ∃ p us, σ[i]? = some (some (.ref p)) ∧ H p = some (.lst us) ∧ Rl (r.rel F) us as ∧ ∀ us', Rl (r.rel F) us' as' → EnvF B Γ' σ F (upd H p (.lst us')) (fun j => if j = i then (fun b => b = p) else fp j) := by
  obtain ⟨⟨v, hv, p, us, e, h2, h3, h4⟩, hn⟩ := h.ok i _ at_.get
  subst e
  refine ⟨p, us, hv, h3, h4, fun us' h5 => ?_⟩
  have hx := hn p (by rw [h2])
  refine h.putG (fi := fun b => b = p) t rfl (fun j hj => rfl) ⟨h.base.f, fun b o z => ?_, fun b o z => ?_, h.base.d⟩ (fun b o z => ?_) (Same.refl F) (fun j b hj z => ?_) ?_ (fun j b hj z w => ?_)
  · rw [upd_ne (ne_of_none z hx.2.2)]; exact h.base.h b o z
  · rw [upd_ne (ne_of_none z hx.1)]; exact h.same b o z
  · rw [upd_ne (ne_of_none z hx.1)]; exact h.same b o z
  · have nb : b ≠ p := fun w => h.apart j i hj b z (by rw [h2]; exact w)
    exact ⟨by rw [upd_ne nb], (h.own_at z).1⟩
  · exact ⟨⟨.ref p, hv, p, us', rfl, rfl, upd_same, h5⟩, fun b hb => by subst hb; exact ⟨hx.1, (by rw [upd_same]; intro w; cases w), hx.2.2⟩⟩
  · exact h.apart j i hj b z (by rw [h2]; exact w)
/-- a statement that is the call of an own list's method -/
theorem sd_mut {i : Nat} {r : Rp α} {as as' : List α} {te : TE} (he : PE X e te) (hs : swapsWith e none pos.line X.env = pure false) (at_ : At Γ i (.own (oList r) as)) (t : To Γ i (.own (oList r) as') Γ')
    (hte : ∀ σ F H Q, Env B Γ σ F H → (∀ F1 H1 p us us' v, Env B Γ σ F1 H1 → σ[i]? = some (some (.ref p)) → H1 p = some (.lst us) → Rl (r.rel F1) us as → Rl (r.rel F1) us' as' → Q v (upd H1 p (.lst us'))) → te σ H Q)
    (hr : SD X B Γ' rest D) : SD X B Γ (.Expr e pos :: rest) D :=
  sd_cons (ps_expr he hs) (fun D' l σ H ⟨F, en⟩ => hte σ F H _ en fun F1 H1 p us us' v ⟨fp, en1⟩ hp hu h1 h2 => by
    obtain ⟨p', us0, g1, g2, g3, g4⟩ := en1.setL t at_
    have ep : p' = p := by rw [g1] at hp; cases hp; rfl
    subst ep
    exact l.nx _ _ ⟨F1, _, g4 us' h2⟩) hr
theorem c_append (c : XC P w K mg base k N sc vs ls X) (i : Nat) {r : Rp α} {as : List α} {y : α} {p1 : Pos} (at_ : At Γ i (.own (oList r) as)) (he : DE X B Γ e r y) (t : To Γ i (.own (oList r) (as ++ [y])) Γ') (hr : SD X B Γ' rest D) (hz : as.length ≤ 1000000) (hN : N[i]? = some x := by rfl) (hv : vs.contains i = true := by rfl)
    (hd : (x == ("__debug__" : Str)) = false := by decide) (hcd : (x == ("__classdict__" : Str)) = false := by decide)
    (hbase : attributeBase (.Name x p1) "append" X.env (eval (.Name x p1) X.env) = eval (.Name x p1) X.env := by rfl)
    (hfew : ((backTo p (starEach [e] X.env)).all (fun x => !x.1) && (backToKw p (keywordEach [] X.env)).all (fun x => x.1.isSome) && decide ([e].length + ([] : List Keyword).length + (if ([] : List Keyword).isEmpty then 0 else 1) < 30)) = true := by rfl)
    (hline : (apos.endLine == p.line) = true := by rfl) (hs : starEach [e] X.env = (false, eval e X.env) :: starEach [] X.env := by rfl) (hsw : swapsWith (.Call (.Attribute (.Name x p1) "append" apos) [e] [] p) none pos.line X.env = pure false := by rfl) :
    SD X B Γ (.Expr (.Call (.Attribute (.Name x p1) "append" apos) [e] [] p) pos :: rest) D := by
  have hN' : X.N[i]? = some x := by rw [c.N]; exact hN
  refine sd_mut (pe_bm PySem.F.plainAttrs_list PySem.F.slot_list_append PySem.F.type_list_append mt_append (pe_var hN' (c.vis i x hN' hv) hd hcd) (pa_cons he pa_nil hs) hbase hfew hline hs (by rfl)) hsw at_ t (fun σ F H Q en q => ?_) hr
  obtain ⟨fp, en0⟩ := id en
  obtain ⟨⟨v, hv, p, us, rfl, h2, h3, h4⟩, hn⟩ := en0.ok i _ at_.get
  refine ⟨_, hv, .inl ⟨rfl, us, SqL.of h3⟩, F, en, fun u F1 H1 e1 h1 => ?_⟩
  have h3' : H1 p = some (.lst us) := e1.h _ _ h3
  have h4' : Rl (r.rel F1) us as := Rl.imp (fun _ _ => r.mono e1.f) h4
  exact ⟨p, us, u, rfl, rfl, h3', by rw [h4.length]; exact Nat.lt_of_le_of_lt hz (by decide), q F1 H1 p us (us ++ [u]) _ (en.ext e1) hv h3' h4' (Rl.append h4' (Rl.one h1))⟩
/-- an expression for nothing -/
theorem sd_drop {r : Rp α} {y : α} (he : DE X B Γ e r y) (hr : SD X B Γ rest D) (hs : swapsWith e none pos.line X.env = pure false := by rfl) : SD X B Γ (.Expr e pos :: rest) D :=
  sd_cons (ps_expr he hs) (fun D' l σ H ⟨F, en⟩ => ⟨F, en, fun u F1 H1 e1 h1 => l.nx _ _ ⟨F1, en.ext e1⟩⟩) hr
/-- e.append(y) of a new list, for nothing -/
theorem sd_appendN {r : Rp α} {as : List α} {s : Rp β} {z : β} (he : DM X B Γ e r as) (ha : DE X B Γ a s z) (hr : SD X B Γ rest D) (hz : as.length ≤ 1000000)
    (hbase : attributeBase e "append" X.env (eval e X.env) = eval e X.env := by rfl)
    (hfew : ((backTo p (starEach [a] X.env)).all (fun x => !x.1) && (backToKw p (keywordEach [] X.env)).all (fun x => x.1.isSome) && decide ([a].length + ([] : List Keyword).length + (if ([] : List Keyword).isEmpty then 0 else 1) < 30)) = true := by rfl)
    (hline : (apos.endLine == p.line) = true := by rfl) (hs : starEach [a] X.env = (false, eval a X.env) :: starEach [] X.env := by rfl) (hsw : swapsWith (.Call (.Attribute e "append" apos) [a] [] p) none pos.line X.env = pure false := by rfl) :
    SD X B Γ (.Expr (.Call (.Attribute e "append" apos) [a] [] p) pos :: rest) D := by
  refine sd_cons (ps_expr (pe_bm PySem.F.plainAttrs_list PySem.F.slot_list_append PySem.F.type_list_append mt_append he (pa_cons ha pa_nil hs) hbase hfew hline hs (by rfl)) hsw) (fun D' l σ H ⟨F, en⟩ => ⟨F, en, fun p us F1 H1 e1 h1 h2 h3 h4 => ?_⟩) hr
  refine ⟨.inl ⟨rfl, us, SqL.of h3⟩, F1, en.ext e1, fun u F2 H2 e2 h5 => ?_⟩
  refine ⟨p, us, u, rfl, rfl, e2.h _ _ h3, by rw [h4.length]; exact Nat.lt_of_le_of_lt hz (by decide), l.nx _ _ ?_⟩
  obtain ⟨fp, en0⟩ := id en
  have en2 := en0.ext (e1.trans e2)
  have hp2 : F2 p = none := e2.d p h1 (by rw [h3]; intro w; cases w)
  have hpB : B.H p = none := en.base.h.free h2
  refine ⟨F2, fp, en2.side hp2 hpB fun j z => (en0.own_at z).2.1 h2⟩
end
end DL
namespace DL
open PySem L2 PySem.Spec PyProof.Rows
section
variable {P : Program} {w : World} {K : PySem.W.Frag} {mg : Str → Option Value} {base : Heap} {k j : Nat} {N : List Str} {sc : Scope} {vs ls : List Nat} {X : Cx} {β ρ : Type} {B : Bs} {Γ Γ' : Ctx} {D : Ends} {rest ss : List Stmt} {p pos apos : Pos} {x q f m : Str} {ps : List Str} {st : Stmt} {C : Addr}
abbrev SpF1 {α1 : Type} {ρ : Type} (r1 : Rp α1) (pre : α1 → Prop) (rr : Rp ρ) (f : α1 → ρ) : Sp := SpF (fun i : α1 => [.val r1 i]) (fun i => pre (i)) rr (fun i => f (i))
theorem c_callF1 (c : XC P w K mg base k N sc vs ls X) {α1 : Type} {r1 : Rp α1} {pre : α1 → Prop} {rr : Rp ρ} {f : α1 → ρ} {e1 : Expr} {x1 : α1} (h : FN P w K mg base CX0 j x ps (SpF1 r1 pre rr f)) (h1 : DE X B Γ e1 r1 x1) (hp : pre x1) (hj : j ≤ k := by decide) (hg : glB sc x = true := by decide +kernel)
    (hdb : (x == ("__debug__" : Str)) = false := by decide) (s1 : starEach [e1] X.env = (false, eval e1 X.env) :: starEach [] X.env := by rfl) (hpl : (backTo pos (starEach [] X.env)).any (·.1) = false := by rfl) :
    DE X B Γ (.Call (.Name x p) [e1] [] pos) rr (f x1) := c_call c h x1 (da_cons h1 da_nil s1) hp hj hg hdb s1 hpl
abbrev SpM1 {α1 : Type} {ρ : Type} (r1 : Rp α1) (pre : α1 → Prop) (rr : Rp ρ) (f : α1 → List ρ) : Sp := SpM (fun i : α1 => [.val r1 i]) (fun i => pre (i)) rr (fun i => f (i))
theorem c_callM1 (c : XC P w K mg base k N sc vs ls X) {α1 : Type} {r1 : Rp α1} {pre : α1 → Prop} {rr : Rp ρ} {f : α1 → List ρ} {e1 : Expr} {x1 : α1} (h : FN P w K mg base CX0 j x ps (SpM1 r1 pre rr f)) (h1 : DE X B Γ e1 r1 x1) (hp : pre x1) (hj : j ≤ k := by decide) (hg : glB sc x = true := by decide +kernel)
    (hdb : (x == ("__debug__" : Str)) = false := by decide) (s1 : starEach [e1] X.env = (false, eval e1 X.env) :: starEach [] X.env := by rfl) (hpl : (backTo pos (starEach [] X.env)).any (·.1) = false := by rfl) :
    DM X B Γ (.Call (.Name x p) [e1] [] pos) rr (f x1) := c_callM c h x1 (da_cons h1 da_nil s1) hp hj hg hdb s1 hpl
abbrev SpN1 {α1 : Type} {ρ : Type} (r1 : Rp α1) (pre : α1 → Prop) (rr : Rp ρ) (f : α1 → ρ) : Sp := SpN (fun i : α1 => [.val r1 i]) (fun i => pre (i)) rr (fun i => f (i))
theorem c_callN1 (c : XC P w K mg base k N sc vs ls X) {α1 : Type} {r1 : Rp α1} {pre : α1 → Prop} {rr : Rp ρ} {f : α1 → ρ} {e1 : Expr} {x1 : α1} (h : FN P w K mg base CX0 j x ps (SpN1 r1 pre rr f)) (h1 : DE X B Γ e1 r1 x1) (hp : pre x1) (hj : j ≤ k := by decide) (hg : glB sc x = true := by decide +kernel)
    (hdb : (x == ("__debug__" : Str)) = false := by decide) (s1 : starEach [e1] X.env = (false, eval e1 X.env) :: starEach [] X.env := by rfl) (hpl : (backTo pos (starEach [] X.env)).any (·.1) = false := by rfl) :
    DN X B Γ (.Call (.Name x p) [e1] [] pos) rr (f x1) := c_callN c h x1 (da_cons h1 da_nil s1) hp hj hg hdb s1 hpl
theorem fnF1 {α1 : Type} {r1 : Rp α1} {pre : α1 → Prop} {rr : Rp ρ} {f : α1 → ρ} (T : FT K mg x q st ps) (S : FnScope N ps (defScope st)) (hv : locB N (defScope st) vs = true) (Γu : Ctx) (hl : ps.length = 1 := by rfl) (hu : List.replicate (N.length - ps.length) .un = Γu := by rfl)
    (body : ∀ (X : Cx) (B : Bs) (D : Ends) (x1 : α1), XC P w K mg base k N (defScope st) vs vs X → pre x1 → RtOk B rr (f x1) D → (∀ σ H, D.nx σ H → D.rt .non H) → SD X B (.val r1 x1 :: Γu) (defBody st) { D with nx := fun _ H => D.rt .non H }) : FN P w K mg base CX0 (k + 1) x ps (SpF1 r1 pre rr f) :=
  fnF (fun i => .val r1 i :: Γu) T S hv (fun _ => hl.symm) (fun i => by rw [hu]; rfl) (fun X B D i c hp hD hn => body X B D (i) c hp hD hn)
theorem meF1 {α1 : Type} {r1 : Rp α1} {pre : α1 → Prop} {rr : Rp ρ} {f : α1 → ρ} (T : FTm K m q C st ps) (S : FnScope N ps (defScope st)) (hv : locB N (defScope st) vs = true) (Γu : Ctx) (hl : ps.length = 1 := by rfl) (hu : List.replicate (N.length - ps.length) .un = Γu := by rfl)
    (body : ∀ (X : Cx) (B : Bs) (D : Ends) (x1 : α1), XC P w K mg base k N (defScope st) vs vs X → pre x1 → RtOk B rr (f x1) D → (∀ σ H, D.nx σ H → D.rt .non H) → SD X B (.val r1 x1 :: Γu) (defBody st) { D with nx := fun _ H => D.rt .non H }) : FMe P w K mg base (k + 1) C m ps (SpF1 r1 pre rr f) :=
  meF (fun i => .val r1 i :: Γu) T S hv (fun _ => hl.symm) (fun i => by rw [hu]; rfl) (fun X B D i c hp hD hn => body X B D (i) c hp hD hn)
theorem fnM1 {α1 : Type} {r1 : Rp α1} {pre : α1 → Prop} {rr : Rp ρ} {f : α1 → List ρ} (T : FT K mg x q st ps) (S : FnScope N ps (defScope st)) (hv : locB N (defScope st) vs = true) (Γu : Ctx) (hl : ps.length = 1 := by rfl) (hu : List.replicate (N.length - ps.length) .un = Γu := by rfl)
    (body : ∀ (X : Cx) (B : Bs) (D : Ends) (x1 : α1), XC P w K mg base k N (defScope st) vs vs X → pre x1 → RtM B rr (f x1) D → SD X B (.val r1 x1 :: Γu) (defBody st) D) : FN P w K mg base CX0 (k + 1) x ps (SpM1 r1 pre rr f) :=
  fnM (fun i => .val r1 i :: Γu) T S hv (fun _ => hl.symm) (fun i => by rw [hu]; rfl) (fun X B D i c hp hD => body X B D (i) c hp hD)
theorem meM1 {α1 : Type} {r1 : Rp α1} {pre : α1 → Prop} {rr : Rp ρ} {f : α1 → List ρ} (T : FTm K m q C st ps) (S : FnScope N ps (defScope st)) (hv : locB N (defScope st) vs = true) (Γu : Ctx) (hl : ps.length = 1 := by rfl) (hu : List.replicate (N.length - ps.length) .un = Γu := by rfl)
    (body : ∀ (X : Cx) (B : Bs) (D : Ends) (x1 : α1), XC P w K mg base k N (defScope st) vs vs X → pre x1 → RtM B rr (f x1) D → SD X B (.val r1 x1 :: Γu) (defBody st) D) : FMe P w K mg base (k + 1) C m ps (SpM1 r1 pre rr f) :=
  meM (fun i => .val r1 i :: Γu) T S hv (fun _ => hl.symm) (fun i => by rw [hu]; rfl) (fun X B D i c hp hD => body X B D (i) c hp hD)
theorem fnN1 {α1 : Type} {r1 : Rp α1} {pre : α1 → Prop} {rr : Rp ρ} {f : α1 → ρ} (T : FT K mg x q st ps) (S : FnScope N ps (defScope st)) (hv : locB N (defScope st) vs = true) (Γu : Ctx) (hl : ps.length = 1 := by rfl) (hu : List.replicate (N.length - ps.length) .un = Γu := by rfl)
    (body : ∀ (X : Cx) (B : Bs) (D : Ends) (x1 : α1), XC P w K mg base k N (defScope st) vs vs X → pre x1 → RtN B rr (f x1) D → SD X B (.val r1 x1 :: Γu) (defBody st) D) : FN P w K mg base CX0 (k + 1) x ps (SpN1 r1 pre rr f) :=
  fnN (fun i => .val r1 i :: Γu) T S hv (fun _ => hl.symm) (fun i => by rw [hu]; rfl) (fun X B D i c hp hD => body X B D (i) c hp hD)
abbrev SpI1 {α1 : Type} (C : Addr) (r1 : Rp α1) (pre : α1 → Prop) (names : List Str) (fl : α1 → Ctx) : Sp := SpI C (fun i : α1 => [.val r1 i]) (fun i => pre (i)) names (fun i => fl (i))
theorem fnI1 {α1 : Type} {r1 : Rp α1} {pre : α1 → Prop} {names : List Str} {fl : α1 → Ctx} (T : FTk K mg x q C st ps) (S : FnScope N ps (defScope st)) (hv : locB N (defScope st) vs = true) (Γu : Ctx) (hl : ps.length = 2 := by rfl) (hu : List.replicate (N.length - ps.length) .un = Γu := by rfl)
    (body : ∀ (X : Cx) (B : Bs) (D : Ends) (x1 : α1) (xd : Addr × Addr), XC P w K mg base k N (defScope st) vs vs X → pre x1 → (∀ σ H' Γ', EnvP B (.own (oObj C names (fl x1)) xd :: Γ') σ H' → D.nx σ H') → SD X B (.own (oObj C [] []) xd :: .val r1 x1 :: Γu) (defBody st) D) : FMk P w K mg base (k + 1) x C ps (SpI1 C r1 pre names fl) :=
  fnI (fun i xd => .own (oObj C [] []) xd :: .val r1 i :: Γu) T S hv (fun _ => hl.symm) (fun i xd => by rw [hu]; rfl) (fun X B D i xd c hp hD => body X B D (i) xd c hp hD)
theorem c_make1 (c : XC P w K mg base k N sc vs ls X) {α1 : Type} {r1 : Rp α1} {pre : α1 → Prop} {names : List Str} {fl : α1 → Ctx} {cls : β → Addr} {flds : β → Ctx} {e1 : Expr} {x1 : α1} (o : β) (h : FMk P w K mg base j x C ps (SpI1 C r1 pre names fl)) (h1 : DE X B Γ e1 r1 x1) (hp : pre x1) (hC : cls o = C := by rfl) (hf : flds o = fl x1 := by rfl) (hj : j + 1 ≤ k := by decide) (hg : glB sc x = true := by decide +kernel)
    (hdb : (x == ("__debug__" : Str)) = false := by decide) (s1 : starEach [e1] X.env = (false, eval e1 X.env) :: starEach [] X.env := by rfl) (hpl : (backTo pos (starEach [] X.env)).any (·.1) = false := by rfl) :
    DE X B Γ (.Call (.Name x p) [e1] [] pos) (rObj cls names flds) o := c_make c x1 h (da_cons h1 da_nil s1) hp hC hf hj hg hdb s1 hpl
theorem c_methF1 (c : XC P w K mg base k N sc vs ls X) {pl : Sem Bool} {α1 : Type} {cls : α1 → Addr} {names : List Str} {flds : α1 → Ctx} {pre : α1 → Prop} {rr : Rp ρ} {f : α1 → ρ} {e1 : Expr} {x1 : α1} (h : FMe P w K mg base j (cls x1) m ps (SpF1 (rObj cls names flds) pre rr f)) (h1 : DE X B Γ e1 (rObj cls names flds) x1) (hp : pre x1) (hj : j ≤ k := by decide) (hnm : names.contains m = false := by decide +kernel)
    (ht : eval (.Call (.Attribute e1 m apos) [] [] pos) X.env = (do
      let ov ← eval e1 X.env
      standAt apos.atName
      let (f, first) ← holding [ov] (getMethod ov m pl)
      callWith pos f first (backTo pos (starEach [] X.env)) (backToKw pos (keywordEach [] X.env))) := by rfl) : DE X B Γ (.Call (.Attribute e1 m apos) [] [] pos) rr (f x1) := c_meth0 c x1 h h1 rfl hp hj hnm ht
theorem c_methM1 (c : XC P w K mg base k N sc vs ls X) {pl : Sem Bool} {α1 : Type} {cls : α1 → Addr} {names : List Str} {flds : α1 → Ctx} {pre : α1 → Prop} {rr : Rp ρ} {f : α1 → List ρ} {e1 : Expr} {x1 : α1} (h : FMe P w K mg base j (cls x1) m ps (SpM1 (rObj cls names flds) pre rr f)) (h1 : DE X B Γ e1 (rObj cls names flds) x1) (hp : pre x1) (hj : j ≤ k := by decide) (hnm : names.contains m = false := by decide +kernel)
    (ht : eval (.Call (.Attribute e1 m apos) [] [] pos) X.env = (do
      let ov ← eval e1 X.env
      standAt apos.atName
      let (f, first) ← holding [ov] (getMethod ov m pl)
      callWith pos f first (backTo pos (starEach [] X.env)) (backToKw pos (keywordEach [] X.env))) := by rfl) : DM X B Γ (.Call (.Attribute e1 m apos) [] [] pos) rr (f x1) := c_methM0 c x1 h h1 rfl hp hj hnm ht
abbrev SpF2 {α1 α2 : Type} {ρ : Type} (r1 : Rp α1) (r2 : Rp α2) (pre : α1 → α2 → Prop) (rr : Rp ρ) (f : α1 → α2 → ρ) : Sp := SpF (fun i : α1 × α2 => [.val r1 (i.1), .val r2 (i.2)]) (fun i => pre (i.1) (i.2)) rr (fun i => f (i.1) (i.2))
theorem c_callF2 (c : XC P w K mg base k N sc vs ls X) {α1 α2 : Type} {r1 : Rp α1} {r2 : Rp α2} {pre : α1 → α2 → Prop} {rr : Rp ρ} {f : α1 → α2 → ρ} {e1 e2 : Expr} {x1 : α1} {x2 : α2} (h : FN P w K mg base CX0 j x ps (SpF2 r1 r2 pre rr f)) (h1 : DE X B Γ e1 r1 x1) (h2 : DE X B Γ e2 r2 x2) (hp : pre x1 x2) (hj : j ≤ k := by decide) (hg : glB sc x = true := by decide +kernel)
    (hdb : (x == ("__debug__" : Str)) = false := by decide) (s1 : starEach [e1, e2] X.env = (false, eval e1 X.env) :: starEach [e2] X.env := by rfl) (s2 : starEach [e2] X.env = (false, eval e2 X.env) :: starEach [] X.env := by rfl) (hpl : (backTo pos (starEach [e2] X.env)).any (·.1) = false := by rfl) :
    DE X B Γ (.Call (.Name x p) [e1, e2] [] pos) rr (f x1 x2) := c_call c h (x1, x2) (da_cons h1 (da_cons h2 da_nil s2) s1) hp hj hg hdb s1 hpl
abbrev SpM2 {α1 α2 : Type} {ρ : Type} (r1 : Rp α1) (r2 : Rp α2) (pre : α1 → α2 → Prop) (rr : Rp ρ) (f : α1 → α2 → List ρ) : Sp := SpM (fun i : α1 × α2 => [.val r1 (i.1), .val r2 (i.2)]) (fun i => pre (i.1) (i.2)) rr (fun i => f (i.1) (i.2))
theorem c_callM2 (c : XC P w K mg base k N sc vs ls X) {α1 α2 : Type} {r1 : Rp α1} {r2 : Rp α2} {pre : α1 → α2 → Prop} {rr : Rp ρ} {f : α1 → α2 → List ρ} {e1 e2 : Expr} {x1 : α1} {x2 : α2} (h : FN P w K mg base CX0 j x ps (SpM2 r1 r2 pre rr f)) (h1 : DE X B Γ e1 r1 x1) (h2 : DE X B Γ e2 r2 x2) (hp : pre x1 x2) (hj : j ≤ k := by decide) (hg : glB sc x = true := by decide +kernel)
    (hdb : (x == ("__debug__" : Str)) = false := by decide) (s1 : starEach [e1, e2] X.env = (false, eval e1 X.env) :: starEach [e2] X.env := by rfl) (s2 : starEach [e2] X.env = (false, eval e2 X.env) :: starEach [] X.env := by rfl) (hpl : (backTo pos (starEach [e2] X.env)).any (·.1) = false := by rfl) :
    DM X B Γ (.Call (.Name x p) [e1, e2] [] pos) rr (f x1 x2) := c_callM c h (x1, x2) (da_cons h1 (da_cons h2 da_nil s2) s1) hp hj hg hdb s1 hpl
abbrev SpN2 {α1 α2 : Type} {ρ : Type} (r1 : Rp α1) (r2 : Rp α2) (pre : α1 → α2 → Prop) (rr : Rp ρ) (f : α1 → α2 → ρ) : Sp := SpN (fun i : α1 × α2 => [.val r1 (i.1), .val r2 (i.2)]) (fun i => pre (i.1) (i.2)) rr (fun i => f (i.1) (i.2))
theorem c_callN2 (c : XC P w K mg base k N sc vs ls X) {α1 α2 : Type} {r1 : Rp α1} {r2 : Rp α2} {pre : α1 → α2 → Prop} {rr : Rp ρ} {f : α1 → α2 → ρ} {e1 e2 : Expr} {x1 : α1} {x2 : α2} (h : FN P w K mg base CX0 j x ps (SpN2 r1 r2 pre rr f)) (h1 : DE X B Γ e1 r1 x1) (h2 : DE X B Γ e2 r2 x2) (hp : pre x1 x2) (hj : j ≤ k := by decide) (hg : glB sc x = true := by decide +kernel)
    (hdb : (x == ("__debug__" : Str)) = false := by decide) (s1 : starEach [e1, e2] X.env = (false, eval e1 X.env) :: starEach [e2] X.env := by rfl) (s2 : starEach [e2] X.env = (false, eval e2 X.env) :: starEach [] X.env := by rfl) (hpl : (backTo pos (starEach [e2] X.env)).any (·.1) = false := by rfl) :
    DN X B Γ (.Call (.Name x p) [e1, e2] [] pos) rr (f x1 x2) := c_callN c h (x1, x2) (da_cons h1 (da_cons h2 da_nil s2) s1) hp hj hg hdb s1 hpl
theorem fnF2 {α1 α2 : Type} {r1 : Rp α1} {r2 : Rp α2} {pre : α1 → α2 → Prop} {rr : Rp ρ} {f : α1 → α2 → ρ} (T : FT K mg x q st ps) (S : FnScope N ps (defScope st)) (hv : locB N (defScope st) vs = true) (Γu : Ctx) (hl : ps.length = 2 := by rfl) (hu : List.replicate (N.length - ps.length) .un = Γu := by rfl)
    (body : ∀ (X : Cx) (B : Bs) (D : Ends) (x1 : α1) (x2 : α2), XC P w K mg base k N (defScope st) vs vs X → pre x1 x2 → RtOk B rr (f x1 x2) D → (∀ σ H, D.nx σ H → D.rt .non H) → SD X B (.val r1 x1 :: .val r2 x2 :: Γu) (defBody st) { D with nx := fun _ H => D.rt .non H }) : FN P w K mg base CX0 (k + 1) x ps (SpF2 r1 r2 pre rr f) :=
  fnF (fun i => .val r1 (i.1) :: .val r2 (i.2) :: Γu) T S hv (fun _ => hl.symm) (fun i => by rw [hu]; rfl) (fun X B D i c hp hD hn => body X B D (i.1) (i.2) c hp hD hn)
theorem meF2 {α1 α2 : Type} {r1 : Rp α1} {r2 : Rp α2} {pre : α1 → α2 → Prop} {rr : Rp ρ} {f : α1 → α2 → ρ} (T : FTm K m q C st ps) (S : FnScope N ps (defScope st)) (hv : locB N (defScope st) vs = true) (Γu : Ctx) (hl : ps.length = 2 := by rfl) (hu : List.replicate (N.length - ps.length) .un = Γu := by rfl)
    (body : ∀ (X : Cx) (B : Bs) (D : Ends) (x1 : α1) (x2 : α2), XC P w K mg base k N (defScope st) vs vs X → pre x1 x2 → RtOk B rr (f x1 x2) D → (∀ σ H, D.nx σ H → D.rt .non H) → SD X B (.val r1 x1 :: .val r2 x2 :: Γu) (defBody st) { D with nx := fun _ H => D.rt .non H }) : FMe P w K mg base (k + 1) C m ps (SpF2 r1 r2 pre rr f) :=
  meF (fun i => .val r1 (i.1) :: .val r2 (i.2) :: Γu) T S hv (fun _ => hl.symm) (fun i => by rw [hu]; rfl) (fun X B D i c hp hD hn => body X B D (i.1) (i.2) c hp hD hn)
theorem fnM2 {α1 α2 : Type} {r1 : Rp α1} {r2 : Rp α2} {pre : α1 → α2 → Prop} {rr : Rp ρ} {f : α1 → α2 → List ρ} (T : FT K mg x q st ps) (S : FnScope N ps (defScope st)) (hv : locB N (defScope st) vs = true) (Γu : Ctx) (hl : ps.length = 2 := by rfl) (hu : List.replicate (N.length - ps.length) .un = Γu := by rfl)
    (body : ∀ (X : Cx) (B : Bs) (D : Ends) (x1 : α1) (x2 : α2), XC P w K mg base k N (defScope st) vs vs X → pre x1 x2 → RtM B rr (f x1 x2) D → SD X B (.val r1 x1 :: .val r2 x2 :: Γu) (defBody st) D) : FN P w K mg base CX0 (k + 1) x ps (SpM2 r1 r2 pre rr f) :=
  fnM (fun i => .val r1 (i.1) :: .val r2 (i.2) :: Γu) T S hv (fun _ => hl.symm) (fun i => by rw [hu]; rfl) (fun X B D i c hp hD => body X B D (i.1) (i.2) c hp hD)
theorem meM2 {α1 α2 : Type} {r1 : Rp α1} {r2 : Rp α2} {pre : α1 → α2 → Prop} {rr : Rp ρ} {f : α1 → α2 → List ρ} (T : FTm K m q C st ps) (S : FnScope N ps (defScope st)) (hv : locB N (defScope st) vs = true) (Γu : Ctx) (hl : ps.length = 2 := by rfl) (hu : List.replicate (N.length - ps.length) .un = Γu := by rfl)
    (body : ∀ (X : Cx) (B : Bs) (D : Ends) (x1 : α1) (x2 : α2), XC P w K mg base k N (defScope st) vs vs X → pre x1 x2 → RtM B rr (f x1 x2) D → SD X B (.val r1 x1 :: .val r2 x2 :: Γu) (defBody st) D) : FMe P w K mg base (k + 1) C m ps (SpM2 r1 r2 pre rr f) :=
  meM (fun i => .val r1 (i.1) :: .val r2 (i.2) :: Γu) T S hv (fun _ => hl.symm) (fun i => by rw [hu]; rfl) (fun X B D i c hp hD => body X B D (i.1) (i.2) c hp hD)
theorem fnN2 {α1 α2 : Type} {r1 : Rp α1} {r2 : Rp α2} {pre : α1 → α2 → Prop} {rr : Rp ρ} {f : α1 → α2 → ρ} (T : FT K mg x q st ps) (S : FnScope N ps (defScope st)) (hv : locB N (defScope st) vs = true) (Γu : Ctx) (hl : ps.length = 2 := by rfl) (hu : List.replicate (N.length - ps.length) .un = Γu := by rfl)
    (body : ∀ (X : Cx) (B : Bs) (D : Ends) (x1 : α1) (x2 : α2), XC P w K mg base k N (defScope st) vs vs X → pre x1 x2 → RtN B rr (f x1 x2) D → SD X B (.val r1 x1 :: .val r2 x2 :: Γu) (defBody st) D) : FN P w K mg base CX0 (k + 1) x ps (SpN2 r1 r2 pre rr f) :=
  fnN (fun i => .val r1 (i.1) :: .val r2 (i.2) :: Γu) T S hv (fun _ => hl.symm) (fun i => by rw [hu]; rfl) (fun X B D i c hp hD => body X B D (i.1) (i.2) c hp hD)
abbrev SpI2 {α1 α2 : Type} (C : Addr) (r1 : Rp α1) (r2 : Rp α2) (pre : α1 → α2 → Prop) (names : List Str) (fl : α1 → α2 → Ctx) : Sp := SpI C (fun i : α1 × α2 => [.val r1 (i.1), .val r2 (i.2)]) (fun i => pre (i.1) (i.2)) names (fun i => fl (i.1) (i.2))
theorem fnI2 {α1 α2 : Type} {r1 : Rp α1} {r2 : Rp α2} {pre : α1 → α2 → Prop} {names : List Str} {fl : α1 → α2 → Ctx} (T : FTk K mg x q C st ps) (S : FnScope N ps (defScope st)) (hv : locB N (defScope st) vs = true) (Γu : Ctx) (hl : ps.length = 3 := by rfl) (hu : List.replicate (N.length - ps.length) .un = Γu := by rfl)
    (body : ∀ (X : Cx) (B : Bs) (D : Ends) (x1 : α1) (x2 : α2) (xd : Addr × Addr), XC P w K mg base k N (defScope st) vs vs X → pre x1 x2 → (∀ σ H' Γ', EnvP B (.own (oObj C names (fl x1 x2)) xd :: Γ') σ H' → D.nx σ H') → SD X B (.own (oObj C [] []) xd :: .val r1 x1 :: .val r2 x2 :: Γu) (defBody st) D) : FMk P w K mg base (k + 1) x C ps (SpI2 C r1 r2 pre names fl) :=
  fnI (fun i xd => .own (oObj C [] []) xd :: .val r1 (i.1) :: .val r2 (i.2) :: Γu) T S hv (fun _ => hl.symm) (fun i xd => by rw [hu]; rfl) (fun X B D i xd c hp hD => body X B D (i.1) (i.2) xd c hp hD)
theorem c_make2 (c : XC P w K mg base k N sc vs ls X) {α1 α2 : Type} {r1 : Rp α1} {r2 : Rp α2} {pre : α1 → α2 → Prop} {names : List Str} {fl : α1 → α2 → Ctx} {cls : β → Addr} {flds : β → Ctx} {e1 e2 : Expr} {x1 : α1} {x2 : α2} (o : β) (h : FMk P w K mg base j x C ps (SpI2 C r1 r2 pre names fl)) (h1 : DE X B Γ e1 r1 x1) (h2 : DE X B Γ e2 r2 x2) (hp : pre x1 x2) (hC : cls o = C := by rfl) (hf : flds o = fl x1 x2 := by rfl) (hj : j + 1 ≤ k := by decide) (hg : glB sc x = true := by decide +kernel)
    (hdb : (x == ("__debug__" : Str)) = false := by decide) (s1 : starEach [e1, e2] X.env = (false, eval e1 X.env) :: starEach [e2] X.env := by rfl) (s2 : starEach [e2] X.env = (false, eval e2 X.env) :: starEach [] X.env := by rfl) (hpl : (backTo pos (starEach [e2] X.env)).any (·.1) = false := by rfl) :
    DE X B Γ (.Call (.Name x p) [e1, e2] [] pos) (rObj cls names flds) o := c_make c (x1, x2) h (da_cons h1 (da_cons h2 da_nil s2) s1) hp hC hf hj hg hdb s1 hpl
theorem c_methF2 (c : XC P w K mg base k N sc vs ls X) {pl : Sem Bool} {α1 α2 : Type} {cls : α1 → Addr} {names : List Str} {flds : α1 → Ctx} {r2 : Rp α2} {pre : α1 → α2 → Prop} {rr : Rp ρ} {f : α1 → α2 → ρ} {e1 e2 : Expr} {x1 : α1} {x2 : α2} (h : FMe P w K mg base j (cls x1) m ps (SpF2 (rObj cls names flds) r2 pre rr f)) (h1 : DE X B Γ e1 (rObj cls names flds) x1) (h2 : DE X B Γ e2 r2 x2) (hp : pre x1 x2) (hj : j ≤ k := by decide) (hnm : names.contains m = false := by decide +kernel)
    (s2 : starEach [e2] X.env = (false, eval e2 X.env) :: starEach [] X.env := by rfl) (hpl : (backTo pos (starEach [] X.env)).any (·.1) = false := by rfl)
    (ht : eval (.Call (.Attribute e1 m apos) [e2] [] pos) X.env = (do
      let ov ← eval e1 X.env
      standAt apos.atName
      let (f, first) ← holding [ov] (getMethod ov m pl)
      callWith pos f first (backTo pos (starEach [e2] X.env)) (backToKw pos (keywordEach [] X.env))) := by rfl) : DE X B Γ (.Call (.Attribute e1 m apos) [e2] [] pos) rr (f x1 x2) := c_meth c (x1, x2) h h1 rfl (da_cons h2 da_nil s2) hp hj hnm s2 hpl ht
abbrev SpF3 {α1 α2 α3 : Type} {ρ : Type} (r1 : Rp α1) (r2 : Rp α2) (r3 : Rp α3) (pre : α1 → α2 → α3 → Prop) (rr : Rp ρ) (f : α1 → α2 → α3 → ρ) : Sp := SpF (fun i : α1 × α2 × α3 => [.val r1 (i.1), .val r2 (i.2.1), .val r3 (i.2.2)]) (fun i => pre (i.1) (i.2.1) (i.2.2)) rr (fun i => f (i.1) (i.2.1) (i.2.2))
theorem c_callF3 (c : XC P w K mg base k N sc vs ls X) {α1 α2 α3 : Type} {r1 : Rp α1} {r2 : Rp α2} {r3 : Rp α3} {pre : α1 → α2 → α3 → Prop} {rr : Rp ρ} {f : α1 → α2 → α3 → ρ} {e1 e2 e3 : Expr} {x1 : α1} {x2 : α2} {x3 : α3} (h : FN P w K mg base CX0 j x ps (SpF3 r1 r2 r3 pre rr f)) (h1 : DE X B Γ e1 r1 x1) (h2 : DE X B Γ e2 r2 x2) (h3 : DE X B Γ e3 r3 x3) (hp : pre x1 x2 x3) (hj : j ≤ k := by decide) (hg : glB sc x = true := by decide +kernel)
    (hdb : (x == ("__debug__" : Str)) = false := by decide) (s1 : starEach [e1, e2, e3] X.env = (false, eval e1 X.env) :: starEach [e2, e3] X.env := by rfl) (s2 : starEach [e2, e3] X.env = (false, eval e2 X.env) :: starEach [e3] X.env := by rfl) (s3 : starEach [e3] X.env = (false, eval e3 X.env) :: starEach [] X.env := by rfl) (hpl : (backTo pos (starEach [e2, e3] X.env)).any (·.1) = false := by rfl) :
    DE X B Γ (.Call (.Name x p) [e1, e2, e3] [] pos) rr (f x1 x2 x3) := c_call c h (x1, x2, x3) (da_cons h1 (da_cons h2 (da_cons h3 da_nil s3) s2) s1) hp hj hg hdb s1 hpl
abbrev SpM3 {α1 α2 α3 : Type} {ρ : Type} (r1 : Rp α1) (r2 : Rp α2) (r3 : Rp α3) (pre : α1 → α2 → α3 → Prop) (rr : Rp ρ) (f : α1 → α2 → α3 → List ρ) : Sp := SpM (fun i : α1 × α2 × α3 => [.val r1 (i.1), .val r2 (i.2.1), .val r3 (i.2.2)]) (fun i => pre (i.1) (i.2.1) (i.2.2)) rr (fun i => f (i.1) (i.2.1) (i.2.2))
theorem c_callM3 (c : XC P w K mg base k N sc vs ls X) {α1 α2 α3 : Type} {r1 : Rp α1} {r2 : Rp α2} {r3 : Rp α3} {pre : α1 → α2 → α3 → Prop} {rr : Rp ρ} {f : α1 → α2 → α3 → List ρ} {e1 e2 e3 : Expr} {x1 : α1} {x2 : α2} {x3 : α3} (h : FN P w K mg base CX0 j x ps (SpM3 r1 r2 r3 pre rr f)) (h1 : DE X B Γ e1 r1 x1) (h2 : DE X B Γ e2 r2 x2) (h3 : DE X B Γ e3 r3 x3) (hp : pre x1 x2 x3) (hj : j ≤ k := by decide) (hg : glB sc x = true := by decide +kernel)
    (hdb : (x == ("__debug__" : Str)) = false := by decide) (s1 : starEach [e1, e2, e3] X.env = (false, eval e1 X.env) :: starEach [e2, e3] X.env := by rfl) (s2 : starEach [e2, e3] X.env = (false, eval e2 X.env) :: starEach [e3] X.env := by rfl) (s3 : starEach [e3] X.env = (false, eval e3 X.env) :: starEach [] X.env := by rfl) (hpl : (backTo pos (starEach [e2, e3] X.env)).any (·.1) = false := by rfl) :
    DM X B Γ (.Call (.Name x p) [e1, e2, e3] [] pos) rr (f x1 x2 x3) := c_callM c h (x1, x2, x3) (da_cons h1 (da_cons h2 (da_cons h3 da_nil s3) s2) s1) hp hj hg hdb s1 hpl
abbrev SpN3 {α1 α2 α3 : Type} {ρ : Type} (r1 : Rp α1) (r2 : Rp α2) (r3 : Rp α3) (pre : α1 → α2 → α3 → Prop) (rr : Rp ρ) (f : α1 → α2 → α3 → ρ) : Sp := SpN (fun i : α1 × α2 × α3 => [.val r1 (i.1), .val r2 (i.2.1), .val r3 (i.2.2)]) (fun i => pre (i.1) (i.2.1) (i.2.2)) rr (fun i => f (i.1) (i.2.1) (i.2.2))
theorem c_callN3 (c : XC P w K mg base k N sc vs ls X) {α1 α2 α3 : Type} {r1 : Rp α1} {r2 : Rp α2} {r3 : Rp α3} {pre : α1 → α2 → α3 → Prop} {rr : Rp ρ} {f : α1 → α2 → α3 → ρ} {e1 e2 e3 : Expr} {x1 : α1} {x2 : α2} {x3 : α3} (h : FN P w K mg base CX0 j x ps (SpN3 r1 r2 r3 pre rr f)) (h1 : DE X B Γ e1 r1 x1) (h2 : DE X B Γ e2 r2 x2) (h3 : DE X B Γ e3 r3 x3) (hp : pre x1 x2 x3) (hj : j ≤ k := by decide) (hg : glB sc x = true := by decide +kernel)
    (hdb : (x == ("__debug__" : Str)) = false := by decide) (s1 : starEach [e1, e2, e3] X.env = (false, eval e1 X.env) :: starEach [e2, e3] X.env := by rfl) (s2 : starEach [e2, e3] X.env = (false, eval e2 X.env) :: starEach [e3] X.env := by rfl) (s3 : starEach [e3] X.env = (false, eval e3 X.env) :: starEach [] X.env := by rfl) (hpl : (backTo pos (starEach [e2, e3] X.env)).any (·.1) = false := by rfl) :
    DN X B Γ (.Call (.Name x p) [e1, e2, e3] [] pos) rr (f x1 x2 x3) := c_callN c h (x1, x2, x3) (da_cons h1 (da_cons h2 (da_cons h3 da_nil s3) s2) s1) hp hj hg hdb s1 hpl
theorem fnF3 {α1 α2 α3 : Type} {r1 : Rp α1} {r2 : Rp α2} {r3 : Rp α3} {pre : α1 → α2 → α3 → Prop} {rr : Rp ρ} {f : α1 → α2 → α3 → ρ} (T : FT K mg x q st ps) (S : FnScope N ps (defScope st)) (hv : locB N (defScope st) vs = true) (Γu : Ctx) (hl : ps.length = 3 := by rfl) (hu : List.replicate (N.length - ps.length) .un = Γu := by rfl)
    (body : ∀ (X : Cx) (B : Bs) (D : Ends) (x1 : α1) (x2 : α2) (x3 : α3), XC P w K mg base k N (defScope st) vs vs X → pre x1 x2 x3 → RtOk B rr (f x1 x2 x3) D → (∀ σ H, D.nx σ H → D.rt .non H) → SD X B (.val r1 x1 :: .val r2 x2 :: .val r3 x3 :: Γu) (defBody st) { D with nx := fun _ H => D.rt .non H }) : FN P w K mg base CX0 (k + 1) x ps (SpF3 r1 r2 r3 pre rr f) :=
  fnF (fun i => .val r1 (i.1) :: .val r2 (i.2.1) :: .val r3 (i.2.2) :: Γu) T S hv (fun _ => hl.symm) (fun i => by rw [hu]; rfl) (fun X B D i c hp hD hn => body X B D (i.1) (i.2.1) (i.2.2) c hp hD hn)
theorem meF3 {α1 α2 α3 : Type} {r1 : Rp α1} {r2 : Rp α2} {r3 : Rp α3} {pre : α1 → α2 → α3 → Prop} {rr : Rp ρ} {f : α1 → α2 → α3 → ρ} (T : FTm K m q C st ps) (S : FnScope N ps (defScope st)) (hv : locB N (defScope st) vs = true) (Γu : Ctx) (hl : ps.length = 3 := by rfl) (hu : List.replicate (N.length - ps.length) .un = Γu := by rfl)
    (body : ∀ (X : Cx) (B : Bs) (D : Ends) (x1 : α1) (x2 : α2) (x3 : α3), XC P w K mg base k N (defScope st) vs vs X → pre x1 x2 x3 → RtOk B rr (f x1 x2 x3) D → (∀ σ H, D.nx σ H → D.rt .non H) → SD X B (.val r1 x1 :: .val r2 x2 :: .val r3 x3 :: Γu) (defBody st) { D with nx := fun _ H => D.rt .non H }) : FMe P w K mg base (k + 1) C m ps (SpF3 r1 r2 r3 pre rr f) :=
  meF (fun i => .val r1 (i.1) :: .val r2 (i.2.1) :: .val r3 (i.2.2) :: Γu) T S hv (fun _ => hl.symm) (fun i => by rw [hu]; rfl) (fun X B D i c hp hD hn => body X B D (i.1) (i.2.1) (i.2.2) c hp hD hn)
theorem fnM3 {α1 α2 α3 : Type} {r1 : Rp α1} {r2 : Rp α2} {r3 : Rp α3} {pre : α1 → α2 → α3 → Prop} {rr : Rp ρ} {f : α1 → α2 → α3 → List ρ} (T : FT K mg x q st ps) (S : FnScope N ps (defScope st)) (hv : locB N (defScope st) vs = true) (Γu : Ctx) (hl : ps.length = 3 := by rfl) (hu : List.replicate (N.length - ps.length) .un = Γu := by rfl)
    (body : ∀ (X : Cx) (B : Bs) (D : Ends) (x1 : α1) (x2 : α2) (x3 : α3), XC P w K mg base k N (defScope st) vs vs X → pre x1 x2 x3 → RtM B rr (f x1 x2 x3) D → SD X B (.val r1 x1 :: .val r2 x2 :: .val r3 x3 :: Γu) (defBody st) D) : FN P w K mg base CX0 (k + 1) x ps (SpM3 r1 r2 r3 pre rr f) :=
  fnM (fun i => .val r1 (i.1) :: .val r2 (i.2.1) :: .val r3 (i.2.2) :: Γu) T S hv (fun _ => hl.symm) (fun i => by rw [hu]; rfl) (fun X B D i c hp hD => body X B D (i.1) (i.2.1) (i.2.2) c hp hD)
theorem meM3 {α1 α2 α3 : Type} {r1 : Rp α1} {r2 : Rp α2} {r3 : Rp α3} {pre : α1 → α2 → α3 → Prop} {rr : Rp ρ} {f : α1 → α2 → α3 → List ρ} (T : FTm K m q C st ps) (S : FnScope N ps (defScope st)) (hv : locB N (defScope st) vs = true) (Γu : Ctx) (hl : ps.length = 3 := by rfl) (hu : List.replicate (N.length - ps.length) .un = Γu := by rfl)
    (body : ∀ (X : Cx) (B : Bs) (D : Ends) (x1 : α1) (x2 : α2) (x3 : α3), XC P w K mg base k N (defScope st) vs vs X → pre x1 x2 x3 → RtM B rr (f x1 x2 x3) D → SD X B (.val r1 x1 :: .val r2 x2 :: .val r3 x3 :: Γu) (defBody st) D) : FMe P w K mg base (k + 1) C m ps (SpM3 r1 r2 r3 pre rr f) :=
  meM (fun i => .val r1 (i.1) :: .val r2 (i.2.1) :: .val r3 (i.2.2) :: Γu) T S hv (fun _ => hl.symm) (fun i => by rw [hu]; rfl) (fun X B D i c hp hD => body X B D (i.1) (i.2.1) (i.2.2) c hp hD)
theorem fnN3 {α1 α2 α3 : Type} {r1 : Rp α1} {r2 : Rp α2} {r3 : Rp α3} {pre : α1 → α2 → α3 → Prop} {rr : Rp ρ} {f : α1 → α2 → α3 → ρ} (T : FT K mg x q st ps) (S : FnScope N ps (defScope st)) (hv : locB N (defScope st) vs = true) (Γu : Ctx) (hl : ps.length = 3 := by rfl) (hu : List.replicate (N.length - ps.length) .un = Γu := by rfl)
    (body : ∀ (X : Cx) (B : Bs) (D : Ends) (x1 : α1) (x2 : α2) (x3 : α3), XC P w K mg base k N (defScope st) vs vs X → pre x1 x2 x3 → RtN B rr (f x1 x2 x3) D → SD X B (.val r1 x1 :: .val r2 x2 :: .val r3 x3 :: Γu) (defBody st) D) : FN P w K mg base CX0 (k + 1) x ps (SpN3 r1 r2 r3 pre rr f) :=
  fnN (fun i => .val r1 (i.1) :: .val r2 (i.2.1) :: .val r3 (i.2.2) :: Γu) T S hv (fun _ => hl.symm) (fun i => by rw [hu]; rfl) (fun X B D i c hp hD => body X B D (i.1) (i.2.1) (i.2.2) c hp hD)
abbrev SpI3 {α1 α2 α3 : Type} (C : Addr) (r1 : Rp α1) (r2 : Rp α2) (r3 : Rp α3) (pre : α1 → α2 → α3 → Prop) (names : List Str) (fl : α1 → α2 → α3 → Ctx) : Sp := SpI C (fun i : α1 × α2 × α3 => [.val r1 (i.1), .val r2 (i.2.1), .val r3 (i.2.2)]) (fun i => pre (i.1) (i.2.1) (i.2.2)) names (fun i => fl (i.1) (i.2.1) (i.2.2))
theorem fnI3 {α1 α2 α3 : Type} {r1 : Rp α1} {r2 : Rp α2} {r3 : Rp α3} {pre : α1 → α2 → α3 → Prop} {names : List Str} {fl : α1 → α2 → α3 → Ctx} (T : FTk K mg x q C st ps) (S : FnScope N ps (defScope st)) (hv : locB N (defScope st) vs = true) (Γu : Ctx) (hl : ps.length = 4 := by rfl) (hu : List.replicate (N.length - ps.length) .un = Γu := by rfl)
    (body : ∀ (X : Cx) (B : Bs) (D : Ends) (x1 : α1) (x2 : α2) (x3 : α3) (xd : Addr × Addr), XC P w K mg base k N (defScope st) vs vs X → pre x1 x2 x3 → (∀ σ H' Γ', EnvP B (.own (oObj C names (fl x1 x2 x3)) xd :: Γ') σ H' → D.nx σ H') → SD X B (.own (oObj C [] []) xd :: .val r1 x1 :: .val r2 x2 :: .val r3 x3 :: Γu) (defBody st) D) : FMk P w K mg base (k + 1) x C ps (SpI3 C r1 r2 r3 pre names fl) :=
  fnI (fun i xd => .own (oObj C [] []) xd :: .val r1 (i.1) :: .val r2 (i.2.1) :: .val r3 (i.2.2) :: Γu) T S hv (fun _ => hl.symm) (fun i xd => by rw [hu]; rfl) (fun X B D i xd c hp hD => body X B D (i.1) (i.2.1) (i.2.2) xd c hp hD)
theorem c_make3 (c : XC P w K mg base k N sc vs ls X) {α1 α2 α3 : Type} {r1 : Rp α1} {r2 : Rp α2} {r3 : Rp α3} {pre : α1 → α2 → α3 → Prop} {names : List Str} {fl : α1 → α2 → α3 → Ctx} {cls : β → Addr} {flds : β → Ctx} {e1 e2 e3 : Expr} {x1 : α1} {x2 : α2} {x3 : α3} (o : β) (h : FMk P w K mg base j x C ps (SpI3 C r1 r2 r3 pre names fl)) (h1 : DE X B Γ e1 r1 x1) (h2 : DE X B Γ e2 r2 x2) (h3 : DE X B Γ e3 r3 x3) (hp : pre x1 x2 x3) (hC : cls o = C := by rfl) (hf : flds o = fl x1 x2 x3 := by rfl) (hj : j + 1 ≤ k := by decide) (hg : glB sc x = true := by decide +kernel)
    (hdb : (x == ("__debug__" : Str)) = false := by decide) (s1 : starEach [e1, e2, e3] X.env = (false, eval e1 X.env) :: starEach [e2, e3] X.env := by rfl) (s2 : starEach [e2, e3] X.env = (false, eval e2 X.env) :: starEach [e3] X.env := by rfl) (s3 : starEach [e3] X.env = (false, eval e3 X.env) :: starEach [] X.env := by rfl) (hpl : (backTo pos (starEach [e2, e3] X.env)).any (·.1) = false := by rfl) :
    DE X B Γ (.Call (.Name x p) [e1, e2, e3] [] pos) (rObj cls names flds) o := c_make c (x1, x2, x3) h (da_cons h1 (da_cons h2 (da_cons h3 da_nil s3) s2) s1) hp hC hf hj hg hdb s1 hpl
theorem c_methF3 (c : XC P w K mg base k N sc vs ls X) {pl : Sem Bool} {α1 α2 α3 : Type} {cls : α1 → Addr} {names : List Str} {flds : α1 → Ctx} {r2 : Rp α2} {r3 : Rp α3} {pre : α1 → α2 → α3 → Prop} {rr : Rp ρ} {f : α1 → α2 → α3 → ρ} {e1 e2 e3 : Expr} {x1 : α1} {x2 : α2} {x3 : α3} (h : FMe P w K mg base j (cls x1) m ps (SpF3 (rObj cls names flds) r2 r3 pre rr f)) (h1 : DE X B Γ e1 (rObj cls names flds) x1) (h2 : DE X B Γ e2 r2 x2) (h3 : DE X B Γ e3 r3 x3) (hp : pre x1 x2 x3) (hj : j ≤ k := by decide) (hnm : names.contains m = false := by decide +kernel)
    (s2 : starEach [e2, e3] X.env = (false, eval e2 X.env) :: starEach [e3] X.env := by rfl) (s3 : starEach [e3] X.env = (false, eval e3 X.env) :: starEach [] X.env := by rfl) (hpl : (backTo pos (starEach [e3] X.env)).any (·.1) = false := by rfl)
    (ht : eval (.Call (.Attribute e1 m apos) [e2, e3] [] pos) X.env = (do
      let ov ← eval e1 X.env
      standAt apos.atName
      let (f, first) ← holding [ov] (getMethod ov m pl)
      callWith pos f first (backTo pos (starEach [e2, e3] X.env)) (backToKw pos (keywordEach [] X.env))) := by rfl) : DE X B Γ (.Call (.Attribute e1 m apos) [e2, e3] [] pos) rr (f x1 x2 x3) := c_meth c (x1, x2, x3) h h1 rfl (da_cons h2 (da_cons h3 da_nil s3) s2) hp hj hnm s2 hpl ht
abbrev SpF4 {α1 α2 α3 α4 : Type} {ρ : Type} (r1 : Rp α1) (r2 : Rp α2) (r3 : Rp α3) (r4 : Rp α4) (pre : α1 → α2 → α3 → α4 → Prop) (rr : Rp ρ) (f : α1 → α2 → α3 → α4 → ρ) : Sp := SpF (fun i : α1 × α2 × α3 × α4 => [.val r1 (i.1), .val r2 (i.2.1), .val r3 (i.2.2.1), .val r4 (i.2.2.2)]) (fun i => pre (i.1) (i.2.1) (i.2.2.1) (i.2.2.2)) rr (fun i => f (i.1) (i.2.1) (i.2.2.1) (i.2.2.2))
theorem c_callF4 (c : XC P w K mg base k N sc vs ls X) {α1 α2 α3 α4 : Type} {r1 : Rp α1} {r2 : Rp α2} {r3 : Rp α3} {r4 : Rp α4} {pre : α1 → α2 → α3 → α4 → Prop} {rr : Rp ρ} {f : α1 → α2 → α3 → α4 → ρ} {e1 e2 e3 e4 : Expr} {x1 : α1} {x2 : α2} {x3 : α3} {x4 : α4} (h : FN P w K mg base CX0 j x ps (SpF4 r1 r2 r3 r4 pre rr f)) (h1 : DE X B Γ e1 r1 x1) (h2 : DE X B Γ e2 r2 x2) (h3 : DE X B Γ e3 r3 x3) (h4 : DE X B Γ e4 r4 x4) (hp : pre x1 x2 x3 x4) (hj : j ≤ k := by decide) (hg : glB sc x = true := by decide +kernel)
    (hdb : (x == ("__debug__" : Str)) = false := by decide) (s1 : starEach [e1, e2, e3, e4] X.env = (false, eval e1 X.env) :: starEach [e2, e3, e4] X.env := by rfl) (s2 : starEach [e2, e3, e4] X.env = (false, eval e2 X.env) :: starEach [e3, e4] X.env := by rfl) (s3 : starEach [e3, e4] X.env = (false, eval e3 X.env) :: starEach [e4] X.env := by rfl) (s4 : starEach [e4] X.env = (false, eval e4 X.env) :: starEach [] X.env := by rfl) (hpl : (backTo pos (starEach [e2, e3, e4] X.env)).any (·.1) = false := by rfl) :
    DE X B Γ (.Call (.Name x p) [e1, e2, e3, e4] [] pos) rr (f x1 x2 x3 x4) := c_call c h (x1, x2, x3, x4) (da_cons h1 (da_cons h2 (da_cons h3 (da_cons h4 da_nil s4) s3) s2) s1) hp hj hg hdb s1 hpl
abbrev SpM4 {α1 α2 α3 α4 : Type} {ρ : Type} (r1 : Rp α1) (r2 : Rp α2) (r3 : Rp α3) (r4 : Rp α4) (pre : α1 → α2 → α3 → α4 → Prop) (rr : Rp ρ) (f : α1 → α2 → α3 → α4 → List ρ) : Sp := SpM (fun i : α1 × α2 × α3 × α4 => [.val r1 (i.1), .val r2 (i.2.1), .val r3 (i.2.2.1), .val r4 (i.2.2.2)]) (fun i => pre (i.1) (i.2.1) (i.2.2.1) (i.2.2.2)) rr (fun i => f (i.1) (i.2.1) (i.2.2.1) (i.2.2.2))
theorem c_callM4 (c : XC P w K mg base k N sc vs ls X) {α1 α2 α3 α4 : Type} {r1 : Rp α1} {r2 : Rp α2} {r3 : Rp α3} {r4 : Rp α4} {pre : α1 → α2 → α3 → α4 → Prop} {rr : Rp ρ} {f : α1 → α2 → α3 → α4 → List ρ} {e1 e2 e3 e4 : Expr} {x1 : α1} {x2 : α2} {x3 : α3} {x4 : α4} (h : FN P w K mg base CX0 j x ps (SpM4 r1 r2 r3 r4 pre rr f)) (h1 : DE X B Γ e1 r1 x1) (h2 : DE X B Γ e2 r2 x2) (h3 : DE X B Γ e3 r3 x3) (h4 : DE X B Γ e4 r4 x4) (hp : pre x1 x2 x3 x4) (hj : j ≤ k := by decide) (hg : glB sc x = true := by decide +kernel)
    (hdb : (x == ("__debug__" : Str)) = false := by decide) (s1 : starEach [e1, e2, e3, e4] X.env = (false, eval e1 X.env) :: starEach [e2, e3, e4] X.env := by rfl) (s2 : starEach [e2, e3, e4] X.env = (false, eval e2 X.env) :: starEach [e3, e4] X.env := by rfl) (s3 : starEach [e3, e4] X.env = (false, eval e3 X.env) :: starEach [e4] X.env := by rfl) (s4 : starEach [e4] X.env = (false, eval e4 X.env) :: starEach [] X.env := by rfl) (hpl : (backTo pos (starEach [e2, e3, e4] X.env)).any (·.1) = false := by rfl) :
    DM X B Γ (.Call (.Name x p) [e1, e2, e3, e4] [] pos) rr (f x1 x2 x3 x4) := c_callM c h (x1, x2, x3, x4) (da_cons h1 (da_cons h2 (da_cons h3 (da_cons h4 da_nil s4) s3) s2) s1) hp hj hg hdb s1 hpl
abbrev SpN4 {α1 α2 α3 α4 : Type} {ρ : Type} (r1 : Rp α1) (r2 : Rp α2) (r3 : Rp α3) (r4 : Rp α4) (pre : α1 → α2 → α3 → α4 → Prop) (rr : Rp ρ) (f : α1 → α2 → α3 → α4 → ρ) : Sp := SpN (fun i : α1 × α2 × α3 × α4 => [.val r1 (i.1), .val r2 (i.2.1), .val r3 (i.2.2.1), .val r4 (i.2.2.2)]) (fun i => pre (i.1) (i.2.1) (i.2.2.1) (i.2.2.2)) rr (fun i => f (i.1) (i.2.1) (i.2.2.1) (i.2.2.2))
theorem c_callN4 (c : XC P w K mg base k N sc vs ls X) {α1 α2 α3 α4 : Type} {r1 : Rp α1} {r2 : Rp α2} {r3 : Rp α3} {r4 : Rp α4} {pre : α1 → α2 → α3 → α4 → Prop} {rr : Rp ρ} {f : α1 → α2 → α3 → α4 → ρ} {e1 e2 e3 e4 : Expr} {x1 : α1} {x2 : α2} {x3 : α3} {x4 : α4} (h : FN P w K mg base CX0 j x ps (SpN4 r1 r2 r3 r4 pre rr f)) (h1 : DE X B Γ e1 r1 x1) (h2 : DE X B Γ e2 r2 x2) (h3 : DE X B Γ e3 r3 x3) (h4 : DE X B Γ e4 r4 x4) (hp : pre x1 x2 x3 x4) (hj : j ≤ k := by decide) (hg : glB sc x = true := by decide +kernel)
    (hdb : (x == ("__debug__" : Str)) = false := by decide) (s1 : starEach [e1, e2, e3, e4] X.env = (false, eval e1 X.env) :: starEach [e2, e3, e4] X.env := by rfl) (s2 : starEach [e2, e3, e4] X.env = (false, eval e2 X.env) :: starEach [e3, e4] X.env := by rfl) (s3 : starEach [e3, e4] X.env = (false, eval e3 X.env) :: starEach [e4] X.env := by rfl) (s4 : starEach [e4] X.env = (false, eval e4 X.env) :: starEach [] X.env := by rfl) (hpl : (backTo pos (starEach [e2, e3, e4] X.env)).any (·.1) = false := by rfl) :
    DN X B Γ (.Call (.Name x p) [e1, e2, e3, e4] [] pos) rr (f x1 x2 x3 x4) := c_callN c h (x1, x2, x3, x4) (da_cons h1 (da_cons h2 (da_cons h3 (da_cons h4 da_nil s4) s3) s2) s1) hp hj hg hdb s1 hpl
theorem fnF4 {α1 α2 α3 α4 : Type} {r1 : Rp α1} {r2 : Rp α2} {r3 : Rp α3} {r4 : Rp α4} {pre : α1 → α2 → α3 → α4 → Prop} {rr : Rp ρ} {f : α1 → α2 → α3 → α4 → ρ} (T : FT K mg x q st ps) (S : FnScope N ps (defScope st)) (hv : locB N (defScope st) vs = true) (Γu : Ctx) (hl : ps.length = 4 := by rfl) (hu : List.replicate (N.length - ps.length) .un = Γu := by rfl)
    (body : ∀ (X : Cx) (B : Bs) (D : Ends) (x1 : α1) (x2 : α2) (x3 : α3) (x4 : α4), XC P w K mg base k N (defScope st) vs vs X → pre x1 x2 x3 x4 → RtOk B rr (f x1 x2 x3 x4) D → (∀ σ H, D.nx σ H → D.rt .non H) → SD X B (.val r1 x1 :: .val r2 x2 :: .val r3 x3 :: .val r4 x4 :: Γu) (defBody st) { D with nx := fun _ H => D.rt .non H }) : FN P w K mg base CX0 (k + 1) x ps (SpF4 r1 r2 r3 r4 pre rr f) :=
  fnF (fun i => .val r1 (i.1) :: .val r2 (i.2.1) :: .val r3 (i.2.2.1) :: .val r4 (i.2.2.2) :: Γu) T S hv (fun _ => hl.symm) (fun i => by rw [hu]; rfl) (fun X B D i c hp hD hn => body X B D (i.1) (i.2.1) (i.2.2.1) (i.2.2.2) c hp hD hn)
theorem meF4 {α1 α2 α3 α4 : Type} {r1 : Rp α1} {r2 : Rp α2} {r3 : Rp α3} {r4 : Rp α4} {pre : α1 → α2 → α3 → α4 → Prop} {rr : Rp ρ} {f : α1 → α2 → α3 → α4 → ρ} (T : FTm K m q C st ps) (S : FnScope N ps (defScope st)) (hv : locB N (defScope st) vs = true) (Γu : Ctx) (hl : ps.length = 4 := by rfl) (hu : List.replicate (N.length - ps.length) .un = Γu := by rfl)
    (body : ∀ (X : Cx) (B : Bs) (D : Ends) (x1 : α1) (x2 : α2) (x3 : α3) (x4 : α4), XC P w K mg base k N (defScope st) vs vs X → pre x1 x2 x3 x4 → RtOk B rr (f x1 x2 x3 x4) D → (∀ σ H, D.nx σ H → D.rt .non H) → SD X B (.val r1 x1 :: .val r2 x2 :: .val r3 x3 :: .val r4 x4 :: Γu) (defBody st) { D with nx := fun _ H => D.rt .non H }) : FMe P w K mg base (k + 1) C m ps (SpF4 r1 r2 r3 r4 pre rr f) :=
  meF (fun i => .val r1 (i.1) :: .val r2 (i.2.1) :: .val r3 (i.2.2.1) :: .val r4 (i.2.2.2) :: Γu) T S hv (fun _ => hl.symm) (fun i => by rw [hu]; rfl) (fun X B D i c hp hD hn => body X B D (i.1) (i.2.1) (i.2.2.1) (i.2.2.2) c hp hD hn)
theorem fnM4 {α1 α2 α3 α4 : Type} {r1 : Rp α1} {r2 : Rp α2} {r3 : Rp α3} {r4 : Rp α4} {pre : α1 → α2 → α3 → α4 → Prop} {rr : Rp ρ} {f : α1 → α2 → α3 → α4 → List ρ} (T : FT K mg x q st ps) (S : FnScope N ps (defScope st)) (hv : locB N (defScope st) vs = true) (Γu : Ctx) (hl : ps.length = 4 := by rfl) (hu : List.replicate (N.length - ps.length) .un = Γu := by rfl)
    (body : ∀ (X : Cx) (B : Bs) (D : Ends) (x1 : α1) (x2 : α2) (x3 : α3) (x4 : α4), XC P w K mg base k N (defScope st) vs vs X → pre x1 x2 x3 x4 → RtM B rr (f x1 x2 x3 x4) D → SD X B (.val r1 x1 :: .val r2 x2 :: .val r3 x3 :: .val r4 x4 :: Γu) (defBody st) D) : FN P w K mg base CX0 (k + 1) x ps (SpM4 r1 r2 r3 r4 pre rr f) :=
  fnM (fun i => .val r1 (i.1) :: .val r2 (i.2.1) :: .val r3 (i.2.2.1) :: .val r4 (i.2.2.2) :: Γu) T S hv (fun _ => hl.symm) (fun i => by rw [hu]; rfl) (fun X B D i c hp hD => body X B D (i.1) (i.2.1) (i.2.2.1) (i.2.2.2) c hp hD)
theorem meM4 {α1 α2 α3 α4 : Type} {r1 : Rp α1} {r2 : Rp α2} {r3 : Rp α3} {r4 : Rp α4} {pre : α1 → α2 → α3 → α4 → Prop} {rr : Rp ρ} {f : α1 → α2 → α3 → α4 → List ρ} (T : FTm K m q C st ps) (S : FnScope N ps (defScope st)) (hv : locB N (defScope st) vs = true) (Γu : Ctx) (hl : ps.length = 4 := by rfl) (hu : List.replicate (N.length - ps.length) .un = Γu := by rfl)
    (body : ∀ (X : Cx) (B : Bs) (D : Ends) (x1 : α1) (x2 : α2) (x3 : α3) (x4 : α4), XC P w K mg base k N (defScope st) vs vs X → pre x1 x2 x3 x4 → RtM B rr (f x1 x2 x3 x4) D → SD X B (.val r1 x1 :: .val r2 x2 :: .val r3 x3 :: .val r4 x4 :: Γu) (defBody st) D) : FMe P w K mg base (k + 1) C m ps (SpM4 r1 r2 r3 r4 pre rr f) :=
  meM (fun i => .val r1 (i.1) :: .val r2 (i.2.1) :: .val r3 (i.2.2.1) :: .val r4 (i.2.2.2) :: Γu) T S hv (fun _ => hl.symm) (fun i => by rw [hu]; rfl) (fun X B D i c hp hD => body X B D (i.1) (i.2.1) (i.2.2.1) (i.2.2.2) c hp hD)
theorem fnN4 {α1 α2 α3 α4 : Type} {r1 : Rp α1} {r2 : Rp α2} {r3 : Rp α3} {r4 : Rp α4} {pre : α1 → α2 → α3 → α4 → Prop} {rr : Rp ρ} {f : α1 → α2 → α3 → α4 → ρ} (T : FT K mg x q st ps) (S : FnScope N ps (defScope st)) (hv : locB N (defScope st) vs = true) (Γu : Ctx) (hl : ps.length = 4 := by rfl) (hu : List.replicate (N.length - ps.length) .un = Γu := by rfl)
    (body : ∀ (X : Cx) (B : Bs) (D : Ends) (x1 : α1) (x2 : α2) (x3 : α3) (x4 : α4), XC P w K mg base k N (defScope st) vs vs X → pre x1 x2 x3 x4 → RtN B rr (f x1 x2 x3 x4) D → SD X B (.val r1 x1 :: .val r2 x2 :: .val r3 x3 :: .val r4 x4 :: Γu) (defBody st) D) : FN P w K mg base CX0 (k + 1) x ps (SpN4 r1 r2 r3 r4 pre rr f) :=
  fnN (fun i => .val r1 (i.1) :: .val r2 (i.2.1) :: .val r3 (i.2.2.1) :: .val r4 (i.2.2.2) :: Γu) T S hv (fun _ => hl.symm) (fun i => by rw [hu]; rfl) (fun X B D i c hp hD => body X B D (i.1) (i.2.1) (i.2.2.1) (i.2.2.2) c hp hD)
abbrev SpI4 {α1 α2 α3 α4 : Type} (C : Addr) (r1 : Rp α1) (r2 : Rp α2) (r3 : Rp α3) (r4 : Rp α4) (pre : α1 → α2 → α3 → α4 → Prop) (names : List Str) (fl : α1 → α2 → α3 → α4 → Ctx) : Sp := SpI C (fun i : α1 × α2 × α3 × α4 => [.val r1 (i.1), .val r2 (i.2.1), .val r3 (i.2.2.1), .val r4 (i.2.2.2)]) (fun i => pre (i.1) (i.2.1) (i.2.2.1) (i.2.2.2)) names (fun i => fl (i.1) (i.2.1) (i.2.2.1) (i.2.2.2))
theorem fnI4 {α1 α2 α3 α4 : Type} {r1 : Rp α1} {r2 : Rp α2} {r3 : Rp α3} {r4 : Rp α4} {pre : α1 → α2 → α3 → α4 → Prop} {names : List Str} {fl : α1 → α2 → α3 → α4 → Ctx} (T : FTk K mg x q C st ps) (S : FnScope N ps (defScope st)) (hv : locB N (defScope st) vs = true) (Γu : Ctx) (hl : ps.length = 5 := by rfl) (hu : List.replicate (N.length - ps.length) .un = Γu := by rfl)
    (body : ∀ (X : Cx) (B : Bs) (D : Ends) (x1 : α1) (x2 : α2) (x3 : α3) (x4 : α4) (xd : Addr × Addr), XC P w K mg base k N (defScope st) vs vs X → pre x1 x2 x3 x4 → (∀ σ H' Γ', EnvP B (.own (oObj C names (fl x1 x2 x3 x4)) xd :: Γ') σ H' → D.nx σ H') → SD X B (.own (oObj C [] []) xd :: .val r1 x1 :: .val r2 x2 :: .val r3 x3 :: .val r4 x4 :: Γu) (defBody st) D) : FMk P w K mg base (k + 1) x C ps (SpI4 C r1 r2 r3 r4 pre names fl) :=
  fnI (fun i xd => .own (oObj C [] []) xd :: .val r1 (i.1) :: .val r2 (i.2.1) :: .val r3 (i.2.2.1) :: .val r4 (i.2.2.2) :: Γu) T S hv (fun _ => hl.symm) (fun i xd => by rw [hu]; rfl) (fun X B D i xd c hp hD => body X B D (i.1) (i.2.1) (i.2.2.1) (i.2.2.2) xd c hp hD)
theorem c_make4 (c : XC P w K mg base k N sc vs ls X) {α1 α2 α3 α4 : Type} {r1 : Rp α1} {r2 : Rp α2} {r3 : Rp α3} {r4 : Rp α4} {pre : α1 → α2 → α3 → α4 → Prop} {names : List Str} {fl : α1 → α2 → α3 → α4 → Ctx} {cls : β → Addr} {flds : β → Ctx} {e1 e2 e3 e4 : Expr} {x1 : α1} {x2 : α2} {x3 : α3} {x4 : α4} (o : β) (h : FMk P w K mg base j x C ps (SpI4 C r1 r2 r3 r4 pre names fl)) (h1 : DE X B Γ e1 r1 x1) (h2 : DE X B Γ e2 r2 x2) (h3 : DE X B Γ e3 r3 x3) (h4 : DE X B Γ e4 r4 x4) (hp : pre x1 x2 x3 x4) (hC : cls o = C := by rfl) (hf : flds o = fl x1 x2 x3 x4 := by rfl) (hj : j + 1 ≤ k := by decide) (hg : glB sc x = true := by decide +kernel)
    (hdb : (x == ("__debug__" : Str)) = false := by decide) (s1 : starEach [e1, e2, e3, e4] X.env = (false, eval e1 X.env) :: starEach [e2, e3, e4] X.env := by rfl) (s2 : starEach [e2, e3, e4] X.env = (false, eval e2 X.env) :: starEach [e3, e4] X.env := by rfl) (s3 : starEach [e3, e4] X.env = (false, eval e3 X.env) :: starEach [e4] X.env := by rfl) (s4 : starEach [e4] X.env = (false, eval e4 X.env) :: starEach [] X.env := by rfl) (hpl : (backTo pos (starEach [e2, e3, e4] X.env)).any (·.1) = false := by rfl) :
    DE X B Γ (.Call (.Name x p) [e1, e2, e3, e4] [] pos) (rObj cls names flds) o := c_make c (x1, x2, x3, x4) h (da_cons h1 (da_cons h2 (da_cons h3 (da_cons h4 da_nil s4) s3) s2) s1) hp hC hf hj hg hdb s1 hpl
theorem c_methF4 (c : XC P w K mg base k N sc vs ls X) {pl : Sem Bool} {α1 α2 α3 α4 : Type} {cls : α1 → Addr} {names : List Str} {flds : α1 → Ctx} {r2 : Rp α2} {r3 : Rp α3} {r4 : Rp α4} {pre : α1 → α2 → α3 → α4 → Prop} {rr : Rp ρ} {f : α1 → α2 → α3 → α4 → ρ} {e1 e2 e3 e4 : Expr} {x1 : α1} {x2 : α2} {x3 : α3} {x4 : α4} (h : FMe P w K mg base j (cls x1) m ps (SpF4 (rObj cls names flds) r2 r3 r4 pre rr f)) (h1 : DE X B Γ e1 (rObj cls names flds) x1) (h2 : DE X B Γ e2 r2 x2) (h3 : DE X B Γ e3 r3 x3) (h4 : DE X B Γ e4 r4 x4) (hp : pre x1 x2 x3 x4) (hj : j ≤ k := by decide) (hnm : names.contains m = false := by decide +kernel)
    (s2 : starEach [e2, e3, e4] X.env = (false, eval e2 X.env) :: starEach [e3, e4] X.env := by rfl) (s3 : starEach [e3, e4] X.env = (false, eval e3 X.env) :: starEach [e4] X.env := by rfl) (s4 : starEach [e4] X.env = (false, eval e4 X.env) :: starEach [] X.env := by rfl) (hpl : (backTo pos (starEach [e3, e4] X.env)).any (·.1) = false := by rfl)
    (ht : eval (.Call (.Attribute e1 m apos) [e2, e3, e4] [] pos) X.env = (do
      let ov ← eval e1 X.env
      standAt apos.atName
      let (f, first) ← holding [ov] (getMethod ov m pl)
      callWith pos f first (backTo pos (starEach [e2, e3, e4] X.env)) (backToKw pos (keywordEach [] X.env))) := by rfl) : DE X B Γ (.Call (.Attribute e1 m apos) [e2, e3, e4] [] pos) rr (f x1 x2 x3 x4) := c_meth c (x1, x2, x3, x4) h h1 rfl (da_cons h2 (da_cons h3 (da_cons h4 da_nil s4) s3) s2) hp hj hnm s2 hpl ht
abbrev SpF5 {α1 α2 α3 α4 α5 : Type} {ρ : Type} (r1 : Rp α1) (r2 : Rp α2) (r3 : Rp α3) (r4 : Rp α4) (r5 : Rp α5) (pre : α1 → α2 → α3 → α4 → α5 → Prop) (rr : Rp ρ) (f : α1 → α2 → α3 → α4 → α5 → ρ) : Sp := SpF (fun i : α1 × α2 × α3 × α4 × α5 => [.val r1 (i.1), .val r2 (i.2.1), .val r3 (i.2.2.1), .val r4 (i.2.2.2.1), .val r5 (i.2.2.2.2)]) (fun i => pre (i.1) (i.2.1) (i.2.2.1) (i.2.2.2.1) (i.2.2.2.2)) rr (fun i => f (i.1) (i.2.1) (i.2.2.1) (i.2.2.2.1) (i.2.2.2.2))
theorem c_callF5 (c : XC P w K mg base k N sc vs ls X) {α1 α2 α3 α4 α5 : Type} {r1 : Rp α1} {r2 : Rp α2} {r3 : Rp α3} {r4 : Rp α4} {r5 : Rp α5} {pre : α1 → α2 → α3 → α4 → α5 → Prop} {rr : Rp ρ} {f : α1 → α2 → α3 → α4 → α5 → ρ} {e1 e2 e3 e4 e5 : Expr} {x1 : α1} {x2 : α2} {x3 : α3} {x4 : α4} {x5 : α5} (h : FN P w K mg base CX0 j x ps (SpF5 r1 r2 r3 r4 r5 pre rr f)) (h1 : DE X B Γ e1 r1 x1) (h2 : DE X B Γ e2 r2 x2) (h3 : DE X B Γ e3 r3 x3) (h4 : DE X B Γ e4 r4 x4) (h5 : DE X B Γ e5 r5 x5) (hp : pre x1 x2 x3 x4 x5) (hj : j ≤ k := by decide) (hg : glB sc x = true := by decide +kernel)
    (hdb : (x == ("__debug__" : Str)) = false := by decide) (s1 : starEach [e1, e2, e3, e4, e5] X.env = (false, eval e1 X.env) :: starEach [e2, e3, e4, e5] X.env := by rfl) (s2 : starEach [e2, e3, e4, e5] X.env = (false, eval e2 X.env) :: starEach [e3, e4, e5] X.env := by rfl) (s3 : starEach [e3, e4, e5] X.env = (false, eval e3 X.env) :: starEach [e4, e5] X.env := by rfl) (s4 : starEach [e4, e5] X.env = (false, eval e4 X.env) :: starEach [e5] X.env := by rfl) (s5 : starEach [e5] X.env = (false, eval e5 X.env) :: starEach [] X.env := by rfl) (hpl : (backTo pos (starEach [e2, e3, e4, e5] X.env)).any (·.1) = false := by rfl) :
    DE X B Γ (.Call (.Name x p) [e1, e2, e3, e4, e5] [] pos) rr (f x1 x2 x3 x4 x5) := c_call c h (x1, x2, x3, x4, x5) (da_cons h1 (da_cons h2 (da_cons h3 (da_cons h4 (da_cons h5 da_nil s5) s4) s3) s2) s1) hp hj hg hdb s1 hpl
abbrev SpM5 {α1 α2 α3 α4 α5 : Type} {ρ : Type} (r1 : Rp α1) (r2 : Rp α2) (r3 : Rp α3) (r4 : Rp α4) (r5 : Rp α5) (pre : α1 → α2 → α3 → α4 → α5 → Prop) (rr : Rp ρ) (f : α1 → α2 → α3 → α4 → α5 → List ρ) : Sp := SpM (fun i : α1 × α2 × α3 × α4 × α5 => [.val r1 (i.1), .val r2 (i.2.1), .val r3 (i.2.2.1), .val r4 (i.2.2.2.1), .val r5 (i.2.2.2.2)]) (fun i => pre (i.1) (i.2.1) (i.2.2.1) (i.2.2.2.1) (i.2.2.2.2)) rr (fun i => f (i.1) (i.2.1) (i.2.2.1) (i.2.2.2.1) (i.2.2.2.2))
theorem c_callM5 (c : XC P w K mg base k N sc vs ls X) {α1 α2 α3 α4 α5 : Type} {r1 : Rp α1} {r2 : Rp α2} {r3 : Rp α3} {r4 : Rp α4} {r5 : Rp α5} {pre : α1 → α2 → α3 → α4 → α5 → Prop} {rr : Rp ρ} {f : α1 → α2 → α3 → α4 → α5 → List ρ} {e1 e2 e3 e4 e5 : Expr} {x1 : α1} {x2 : α2} {x3 : α3} {x4 : α4} {x5 : α5} (h : FN P w K mg base CX0 j x ps (SpM5 r1 r2 r3 r4 r5 pre rr f)) (h1 : DE X B Γ e1 r1 x1) (h2 : DE X B Γ e2 r2 x2) (h3 : DE X B Γ e3 r3 x3) (h4 : DE X B Γ e4 r4 x4) (h5 : DE X B Γ e5 r5 x5) (hp : pre x1 x2 x3 x4 x5) (hj : j ≤ k := by decide) (hg : glB sc x = true := by decide +kernel)
    (hdb : (x == ("__debug__" : Str)) = false := by decide) (s1 : starEach [e1, e2, e3, e4, e5] X.env = (false, eval e1 X.env) :: starEach [e2, e3, e4, e5] X.env := by rfl) (s2 : starEach [e2, e3, e4, e5] X.env = (false, eval e2 X.env) :: starEach [e3, e4, e5] X.env := by rfl) (s3 : starEach [e3, e4, e5] X.env = (false, eval e3 X.env) :: starEach [e4, e5] X.env := by rfl) (s4 : starEach [e4, e5] X.env = (false, eval e4 X.env) :: starEach [e5] X.env := by rfl) (s5 : starEach [e5] X.env = (false, eval e5 X.env) :: starEach [] X.env := by rfl) (hpl : (backTo pos (starEach [e2, e3, e4, e5] X.env)).any (·.1) = false := by rfl) :
    DM X B Γ (.Call (.Name x p) [e1, e2, e3, e4, e5] [] pos) rr (f x1 x2 x3 x4 x5) := c_callM c h (x1, x2, x3, x4, x5) (da_cons h1 (da_cons h2 (da_cons h3 (da_cons h4 (da_cons h5 da_nil s5) s4) s3) s2) s1) hp hj hg hdb s1 hpl
abbrev SpN5 {α1 α2 α3 α4 α5 : Type} {ρ : Type} (r1 : Rp α1) (r2 : Rp α2) (r3 : Rp α3) (r4 : Rp α4) (r5 : Rp α5) (pre : α1 → α2 → α3 → α4 → α5 → Prop) (rr : Rp ρ) (f : α1 → α2 → α3 → α4 → α5 → ρ) : Sp := SpN (fun i : α1 × α2 × α3 × α4 × α5 => [.val r1 (i.1), .val r2 (i.2.1), .val r3 (i.2.2.1), .val r4 (i.2.2.2.1), .val r5 (i.2.2.2.2)]) (fun i => pre (i.1) (i.2.1) (i.2.2.1) (i.2.2.2.1) (i.2.2.2.2)) rr (fun i => f (i.1) (i.2.1) (i.2.2.1) (i.2.2.2.1) (i.2.2.2.2))
theorem c_callN5 (c : XC P w K mg base k N sc vs ls X) {α1 α2 α3 α4 α5 : Type} {r1 : Rp α1} {r2 : Rp α2} {r3 : Rp α3} {r4 : Rp α4} {r5 : Rp α5} {pre : α1 → α2 → α3 → α4 → α5 → Prop} {rr : Rp ρ} {f : α1 → α2 → α3 → α4 → α5 → ρ} {e1 e2 e3 e4 e5 : Expr} {x1 : α1} {x2 : α2} {x3 : α3} {x4 : α4} {x5 : α5} (h : FN P w K mg base CX0 j x ps (SpN5 r1 r2 r3 r4 r5 pre rr f)) (h1 : DE X B Γ e1 r1 x1) (h2 : DE X B Γ e2 r2 x2) (h3 : DE X B Γ e3 r3 x3) (h4 : DE X B Γ e4 r4 x4) (h5 : DE X B Γ e5 r5 x5) (hp : pre x1 x2 x3 x4 x5) (hj : j ≤ k := by decide) (hg : glB sc x = true := by decide +kernel)
    (hdb : (x == ("__debug__" : Str)) = false := by decide) (s1 : starEach [e1, e2, e3, e4, e5] X.env = (false, eval e1 X.env) :: starEach [e2, e3, e4, e5] X.env := by rfl) (s2 : starEach [e2, e3, e4, e5] X.env = (false, eval e2 X.env) :: starEach [e3, e4, e5] X.env := by rfl) (s3 : starEach [e3, e4, e5] X.env = (false, eval e3 X.env) :: starEach [e4, e5] X.env := by rfl) (s4 : starEach [e4, e5] X.env = (false, eval e4 X.env) :: starEach [e5] X.env := by rfl) (s5 : starEach [e5] X.env = (false, eval e5 X.env) :: starEach [] X.env := by rfl) (hpl : (backTo pos (starEach [e2, e3, e4, e5] X.env)).any (·.1) = false := by rfl) :
    DN X B Γ (.Call (.Name x p) [e1, e2, e3, e4, e5] [] pos) rr (f x1 x2 x3 x4 x5) := c_callN c h (x1, x2, x3, x4, x5) (da_cons h1 (da_cons h2 (da_cons h3 (da_cons h4 (da_cons h5 da_nil s5) s4) s3) s2) s1) hp hj hg hdb s1 hpl
theorem fnF5 {α1 α2 α3 α4 α5 : Type} {r1 : Rp α1} {r2 : Rp α2} {r3 : Rp α3} {r4 : Rp α4} {r5 : Rp α5} {pre : α1 → α2 → α3 → α4 → α5 → Prop} {rr : Rp ρ} {f : α1 → α2 → α3 → α4 → α5 → ρ} (T : FT K mg x q st ps) (S : FnScope N ps (defScope st)) (hv : locB N (defScope st) vs = true) (Γu : Ctx) (hl : ps.length = 5 := by rfl) (hu : List.replicate (N.length - ps.length) .un = Γu := by rfl)
    (body : ∀ (X : Cx) (B : Bs) (D : Ends) (x1 : α1) (x2 : α2) (x3 : α3) (x4 : α4) (x5 : α5), XC P w K mg base k N (defScope st) vs vs X → pre x1 x2 x3 x4 x5 → RtOk B rr (f x1 x2 x3 x4 x5) D → (∀ σ H, D.nx σ H → D.rt .non H) → SD X B (.val r1 x1 :: .val r2 x2 :: .val r3 x3 :: .val r4 x4 :: .val r5 x5 :: Γu) (defBody st) { D with nx := fun _ H => D.rt .non H }) : FN P w K mg base CX0 (k + 1) x ps (SpF5 r1 r2 r3 r4 r5 pre rr f) :=
  fnF (fun i => .val r1 (i.1) :: .val r2 (i.2.1) :: .val r3 (i.2.2.1) :: .val r4 (i.2.2.2.1) :: .val r5 (i.2.2.2.2) :: Γu) T S hv (fun _ => hl.symm) (fun i => by rw [hu]; rfl) (fun X B D i c hp hD hn => body X B D (i.1) (i.2.1) (i.2.2.1) (i.2.2.2.1) (i.2.2.2.2) c hp hD hn)
theorem meF5 {α1 α2 α3 α4 α5 : Type} {r1 : Rp α1} {r2 : Rp α2} {r3 : Rp α3} {r4 : Rp α4} {r5 : Rp α5} {pre : α1 → α2 → α3 → α4 → α5 → Prop} {rr : Rp ρ} {f : α1 → α2 → α3 → α4 → α5 → ρ} (T : FTm K m q C st ps) (S : FnScope N ps (defScope st)) (hv : locB N (defScope st) vs = true) (Γu : Ctx) (hl : ps.length = 5 := by rfl) (hu : List.replicate (N.length - ps.length) .un = Γu := by rfl)
    (body : ∀ (X : Cx) (B : Bs) (D : Ends) (x1 : α1) (x2 : α2) (x3 : α3) (x4 : α4) (x5 : α5), XC P w K mg base k N (defScope st) vs vs X → pre x1 x2 x3 x4 x5 → RtOk B rr (f x1 x2 x3 x4 x5) D → (∀ σ H, D.nx σ H → D.rt .non H) → SD X B (.val r1 x1 :: .val r2 x2 :: .val r3 x3 :: .val r4 x4 :: .val r5 x5 :: Γu) (defBody st) { D with nx := fun _ H => D.rt .non H }) : FMe P w K mg base (k + 1) C m ps (SpF5 r1 r2 r3 r4 r5 pre rr f) :=
  meF (fun i => .val r1 (i.1) :: .val r2 (i.2.1) :: .val r3 (i.2.2.1) :: .val r4 (i.2.2.2.1) :: .val r5 (i.2.2.2.2) :: Γu) T S hv (fun _ => hl.symm) (fun i => by rw [hu]; rfl) (fun X B D i c hp hD hn => body X B D (i.1) (i.2.1) (i.2.2.1) (i.2.2.2.1) (i.2.2.2.2) c hp hD hn)
theorem fnM5 {α1 α2 α3 α4 α5 : Type} {r1 : Rp α1} {r2 : Rp α2} {r3 : Rp α3} {r4 : Rp α4} {r5 : Rp α5} {pre : α1 → α2 → α3 → α4 → α5 → Prop} {rr : Rp ρ} {f : α1 → α2 → α3 → α4 → α5 → List ρ} (T : FT K mg x q st ps) (S : FnScope N ps (defScope st)) (hv : locB N (defScope st) vs = true) (Γu : Ctx) (hl : ps.length = 5 := by rfl) (hu : List.replicate (N.length - ps.length) .un = Γu := by rfl)
    (body : ∀ (X : Cx) (B : Bs) (D : Ends) (x1 : α1) (x2 : α2) (x3 : α3) (x4 : α4) (x5 : α5), XC P w K mg base k N (defScope st) vs vs X → pre x1 x2 x3 x4 x5 → RtM B rr (f x1 x2 x3 x4 x5) D → SD X B (.val r1 x1 :: .val r2 x2 :: .val r3 x3 :: .val r4 x4 :: .val r5 x5 :: Γu) (defBody st) D) : FN P w K mg base CX0 (k + 1) x ps (SpM5 r1 r2 r3 r4 r5 pre rr f) :=
  fnM (fun i => .val r1 (i.1) :: .val r2 (i.2.1) :: .val r3 (i.2.2.1) :: .val r4 (i.2.2.2.1) :: .val r5 (i.2.2.2.2) :: Γu) T S hv (fun _ => hl.symm) (fun i => by rw [hu]; rfl) (fun X B D i c hp hD => body X B D (i.1) (i.2.1) (i.2.2.1) (i.2.2.2.1) (i.2.2.2.2) c hp hD)
theorem meM5 {α1 α2 α3 α4 α5 : Type} {r1 : Rp α1} {r2 : Rp α2} {r3 : Rp α3} {r4 : Rp α4} {r5 : Rp α5} {pre : α1 → α2 → α3 → α4 → α5 → Prop} {rr : Rp ρ} {f : α1 → α2 → α3 → α4 → α5 → List ρ} (T : FTm K m q C st ps) (S : FnScope N ps (defScope st)) (hv : locB N (defScope st) vs = true) (Γu : Ctx) (hl : ps.length = 5 := by rfl) (hu : List.replicate (N.length - ps.length) .un = Γu := by rfl)
    (body : ∀ (X : Cx) (B : Bs) (D : Ends) (x1 : α1) (x2 : α2) (x3 : α3) (x4 : α4) (x5 : α5), XC P w K mg base k N (defScope st) vs vs X → pre x1 x2 x3 x4 x5 → RtM B rr (f x1 x2 x3 x4 x5) D → SD X B (.val r1 x1 :: .val r2 x2 :: .val r3 x3 :: .val r4 x4 :: .val r5 x5 :: Γu) (defBody st) D) : FMe P w K mg base (k + 1) C m ps (SpM5 r1 r2 r3 r4 r5 pre rr f) :=
  meM (fun i => .val r1 (i.1) :: .val r2 (i.2.1) :: .val r3 (i.2.2.1) :: .val r4 (i.2.2.2.1) :: .val r5 (i.2.2.2.2) :: Γu) T S hv (fun _ => hl.symm) (fun i => by rw [hu]; rfl) (fun X B D i c hp hD => body X B D (i.1) (i.2.1) (i.2.2.1) (i.2.2.2.1) (i.2.2.2.2) c hp hD)
theorem fnN5 {α1 α2 α3 α4 α5 : Type} {r1 : Rp α1} {r2 : Rp α2} {r3 : Rp α3} {r4 : Rp α4} {r5 : Rp α5} {pre : α1 → α2 → α3 → α4 → α5 → Prop} {rr : Rp ρ} {f : α1 → α2 → α3 → α4 → α5 → ρ} (T : FT K mg x q st ps) (S : FnScope N ps (defScope st)) (hv : locB N (defScope st) vs = true) (Γu : Ctx) (hl : ps.length = 5 := by rfl) (hu : List.replicate (N.length - ps.length) .un = Γu := by rfl)
    (body : ∀ (X : Cx) (B : Bs) (D : Ends) (x1 : α1) (x2 : α2) (x3 : α3) (x4 : α4) (x5 : α5), XC P w K mg base k N (defScope st) vs vs X → pre x1 x2 x3 x4 x5 → RtN B rr (f x1 x2 x3 x4 x5) D → SD X B (.val r1 x1 :: .val r2 x2 :: .val r3 x3 :: .val r4 x4 :: .val r5 x5 :: Γu) (defBody st) D) : FN P w K mg base CX0 (k + 1) x ps (SpN5 r1 r2 r3 r4 r5 pre rr f) :=
  fnN (fun i => .val r1 (i.1) :: .val r2 (i.2.1) :: .val r3 (i.2.2.1) :: .val r4 (i.2.2.2.1) :: .val r5 (i.2.2.2.2) :: Γu) T S hv (fun _ => hl.symm) (fun i => by rw [hu]; rfl) (fun X B D i c hp hD => body X B D (i.1) (i.2.1) (i.2.2.1) (i.2.2.2.1) (i.2.2.2.2) c hp hD)
abbrev SpI5 {α1 α2 α3 α4 α5 : Type} (C : Addr) (r1 : Rp α1) (r2 : Rp α2) (r3 : Rp α3) (r4 : Rp α4) (r5 : Rp α5) (pre : α1 → α2 → α3 → α4 → α5 → Prop) (names : List Str) (fl : α1 → α2 → α3 → α4 → α5 → Ctx) : Sp := SpI C (fun i : α1 × α2 × α3 × α4 × α5 => [.val r1 (i.1), .val r2 (i.2.1), .val r3 (i.2.2.1), .val r4 (i.2.2.2.1), .val r5 (i.2.2.2.2)]) (fun i => pre (i.1) (i.2.1) (i.2.2.1) (i.2.2.2.1) (i.2.2.2.2)) names (fun i => fl (i.1) (i.2.1) (i.2.2.1) (i.2.2.2.1) (i.2.2.2.2))
theorem fnI5 {α1 α2 α3 α4 α5 : Type} {r1 : Rp α1} {r2 : Rp α2} {r3 : Rp α3} {r4 : Rp α4} {r5 : Rp α5} {pre : α1 → α2 → α3 → α4 → α5 → Prop} {names : List Str} {fl : α1 → α2 → α3 → α4 → α5 → Ctx} (T : FTk K mg x q C st ps) (S : FnScope N ps (defScope st)) (hv : locB N (defScope st) vs = true) (Γu : Ctx) (hl : ps.length = 6 := by rfl) (hu : List.replicate (N.length - ps.length) .un = Γu := by rfl)
    (body : ∀ (X : Cx) (B : Bs) (D : Ends) (x1 : α1) (x2 : α2) (x3 : α3) (x4 : α4) (x5 : α5) (xd : Addr × Addr), XC P w K mg base k N (defScope st) vs vs X → pre x1 x2 x3 x4 x5 → (∀ σ H' Γ', EnvP B (.own (oObj C names (fl x1 x2 x3 x4 x5)) xd :: Γ') σ H' → D.nx σ H') → SD X B (.own (oObj C [] []) xd :: .val r1 x1 :: .val r2 x2 :: .val r3 x3 :: .val r4 x4 :: .val r5 x5 :: Γu) (defBody st) D) : FMk P w K mg base (k + 1) x C ps (SpI5 C r1 r2 r3 r4 r5 pre names fl) :=
  fnI (fun i xd => .own (oObj C [] []) xd :: .val r1 (i.1) :: .val r2 (i.2.1) :: .val r3 (i.2.2.1) :: .val r4 (i.2.2.2.1) :: .val r5 (i.2.2.2.2) :: Γu) T S hv (fun _ => hl.symm) (fun i xd => by rw [hu]; rfl) (fun X B D i xd c hp hD => body X B D (i.1) (i.2.1) (i.2.2.1) (i.2.2.2.1) (i.2.2.2.2) xd c hp hD)
theorem c_make5 (c : XC P w K mg base k N sc vs ls X) {α1 α2 α3 α4 α5 : Type} {r1 : Rp α1} {r2 : Rp α2} {r3 : Rp α3} {r4 : Rp α4} {r5 : Rp α5} {pre : α1 → α2 → α3 → α4 → α5 → Prop} {names : List Str} {fl : α1 → α2 → α3 → α4 → α5 → Ctx} {cls : β → Addr} {flds : β → Ctx} {e1 e2 e3 e4 e5 : Expr} {x1 : α1} {x2 : α2} {x3 : α3} {x4 : α4} {x5 : α5} (o : β) (h : FMk P w K mg base j x C ps (SpI5 C r1 r2 r3 r4 r5 pre names fl)) (h1 : DE X B Γ e1 r1 x1) (h2 : DE X B Γ e2 r2 x2) (h3 : DE X B Γ e3 r3 x3) (h4 : DE X B Γ e4 r4 x4) (h5 : DE X B Γ e5 r5 x5) (hp : pre x1 x2 x3 x4 x5) (hC : cls o = C := by rfl) (hf : flds o = fl x1 x2 x3 x4 x5 := by rfl) (hj : j + 1 ≤ k := by decide) (hg : glB sc x = true := by decide +kernel)
    (hdb : (x == ("__debug__" : Str)) = false := by decide) (s1 : starEach [e1, e2, e3, e4, e5] X.env = (false, eval e1 X.env) :: starEach [e2, e3, e4, e5] X.env := by rfl) (s2 : starEach [e2, e3, e4, e5] X.env = (false, eval e2 X.env) :: starEach [e3, e4, e5] X.env := by rfl) (s3 : starEach [e3, e4, e5] X.env = (false, eval e3 X.env) :: starEach [e4, e5] X.env := by rfl) (s4 : starEach [e4, e5] X.env = (false, eval e4 X.env) :: starEach [e5] X.env := by rfl) (s5 : starEach [e5] X.env = (false, eval e5 X.env) :: starEach [] X.env := by rfl) (hpl : (backTo pos (starEach [e2, e3, e4, e5] X.env)).any (·.1) = false := by rfl) :
    DE X B Γ (.Call (.Name x p) [e1, e2, e3, e4, e5] [] pos) (rObj cls names flds) o := c_make c (x1, x2, x3, x4, x5) h (da_cons h1 (da_cons h2 (da_cons h3 (da_cons h4 (da_cons h5 da_nil s5) s4) s3) s2) s1) hp hC hf hj hg hdb s1 hpl
theorem c_methF5 (c : XC P w K mg base k N sc vs ls X) {pl : Sem Bool} {α1 α2 α3 α4 α5 : Type} {cls : α1 → Addr} {names : List Str} {flds : α1 → Ctx} {r2 : Rp α2} {r3 : Rp α3} {r4 : Rp α4} {r5 : Rp α5} {pre : α1 → α2 → α3 → α4 → α5 → Prop} {rr : Rp ρ} {f : α1 → α2 → α3 → α4 → α5 → ρ} {e1 e2 e3 e4 e5 : Expr} {x1 : α1} {x2 : α2} {x3 : α3} {x4 : α4} {x5 : α5} (h : FMe P w K mg base j (cls x1) m ps (SpF5 (rObj cls names flds) r2 r3 r4 r5 pre rr f)) (h1 : DE X B Γ e1 (rObj cls names flds) x1) (h2 : DE X B Γ e2 r2 x2) (h3 : DE X B Γ e3 r3 x3) (h4 : DE X B Γ e4 r4 x4) (h5 : DE X B Γ e5 r5 x5) (hp : pre x1 x2 x3 x4 x5) (hj : j ≤ k := by decide) (hnm : names.contains m = false := by decide +kernel)
    (s2 : starEach [e2, e3, e4, e5] X.env = (false, eval e2 X.env) :: starEach [e3, e4, e5] X.env := by rfl) (s3 : starEach [e3, e4, e5] X.env = (false, eval e3 X.env) :: starEach [e4, e5] X.env := by rfl) (s4 : starEach [e4, e5] X.env = (false, eval e4 X.env) :: starEach [e5] X.env := by rfl) (s5 : starEach [e5] X.env = (false, eval e5 X.env) :: starEach [] X.env := by rfl) (hpl : (backTo pos (starEach [e3, e4, e5] X.env)).any (·.1) = false := by rfl)
    (ht : eval (.Call (.Attribute e1 m apos) [e2, e3, e4, e5] [] pos) X.env = (do
      let ov ← eval e1 X.env
      standAt apos.atName
      let (f, first) ← holding [ov] (getMethod ov m pl)
      callWith pos f first (backTo pos (starEach [e2, e3, e4, e5] X.env)) (backToKw pos (keywordEach [] X.env))) := by rfl) : DE X B Γ (.Call (.Attribute e1 m apos) [e2, e3, e4, e5] [] pos) rr (f x1 x2 x3 x4 x5) := c_meth c (x1, x2, x3, x4, x5) h h1 rfl (da_cons h2 (da_cons h3 (da_cons h4 (da_cons h5 da_nil s5) s4) s3) s2) hp hj hnm s2 hpl ht
abbrev SpF6 {α1 α2 α3 α4 α5 α6 : Type} {ρ : Type} (r1 : Rp α1) (r2 : Rp α2) (r3 : Rp α3) (r4 : Rp α4) (r5 : Rp α5) (r6 : Rp α6) (pre : α1 → α2 → α3 → α4 → α5 → α6 → Prop) (rr : Rp ρ) (f : α1 → α2 → α3 → α4 → α5 → α6 → ρ) : Sp := SpF (fun i : α1 × α2 × α3 × α4 × α5 × α6 => [.val r1 (i.1), .val r2 (i.2.1), .val r3 (i.2.2.1), .val r4 (i.2.2.2.1), .val r5 (i.2.2.2.2.1), .val r6 (i.2.2.2.2.2)]) (fun i => pre (i.1) (i.2.1) (i.2.2.1) (i.2.2.2.1) (i.2.2.2.2.1) (i.2.2.2.2.2)) rr (fun i => f (i.1) (i.2.1) (i.2.2.1) (i.2.2.2.1) (i.2.2.2.2.1) (i.2.2.2.2.2))
theorem c_callF6 (c : XC P w K mg base k N sc vs ls X) {α1 α2 α3 α4 α5 α6 : Type} {r1 : Rp α1} {r2 : Rp α2} {r3 : Rp α3} {r4 : Rp α4} {r5 : Rp α5} {r6 : Rp α6} {pre : α1 → α2 → α3 → α4 → α5 → α6 → Prop} {rr : Rp ρ} {f : α1 → α2 → α3 → α4 → α5 → α6 → ρ} {e1 e2 e3 e4 e5 e6 : Expr} {x1 : α1} {x2 : α2} {x3 : α3} {x4 : α4} {x5 : α5} {x6 : α6} (h : FN P w K mg base CX0 j x ps (SpF6 r1 r2 r3 r4 r5 r6 pre rr f)) (h1 : DE X B Γ e1 r1 x1) (h2 : DE X B Γ e2 r2 x2) (h3 : DE X B Γ e3 r3 x3) (h4 : DE X B Γ e4 r4 x4) (h5 : DE X B Γ e5 r5 x5) (h6 : DE X B Γ e6 r6 x6) (hp : pre x1 x2 x3 x4 x5 x6) (hj : j ≤ k := by decide) (hg : glB sc x = true := by decide +kernel)
    (hdb : (x == ("__debug__" : Str)) = false := by decide) (s1 : starEach [e1, e2, e3, e4, e5, e6] X.env = (false, eval e1 X.env) :: starEach [e2, e3, e4, e5, e6] X.env := by rfl) (s2 : starEach [e2, e3, e4, e5, e6] X.env = (false, eval e2 X.env) :: starEach [e3, e4, e5, e6] X.env := by rfl) (s3 : starEach [e3, e4, e5, e6] X.env = (false, eval e3 X.env) :: starEach [e4, e5, e6] X.env := by rfl) (s4 : starEach [e4, e5, e6] X.env = (false, eval e4 X.env) :: starEach [e5, e6] X.env := by rfl) (s5 : starEach [e5, e6] X.env = (false, eval e5 X.env) :: starEach [e6] X.env := by rfl) (s6 : starEach [e6] X.env = (false, eval e6 X.env) :: starEach [] X.env := by rfl) (hpl : (backTo pos (starEach [e2, e3, e4, e5, e6] X.env)).any (·.1) = false := by rfl) :
    DE X B Γ (.Call (.Name x p) [e1, e2, e3, e4, e5, e6] [] pos) rr (f x1 x2 x3 x4 x5 x6) := c_call c h (x1, x2, x3, x4, x5, x6) (da_cons h1 (da_cons h2 (da_cons h3 (da_cons h4 (da_cons h5 (da_cons h6 da_nil s6) s5) s4) s3) s2) s1) hp hj hg hdb s1 hpl
abbrev SpM6 {α1 α2 α3 α4 α5 α6 : Type} {ρ : Type} (r1 : Rp α1) (r2 : Rp α2) (r3 : Rp α3) (r4 : Rp α4) (r5 : Rp α5) (r6 : Rp α6) (pre : α1 → α2 → α3 → α4 → α5 → α6 → Prop) (rr : Rp ρ) (f : α1 → α2 → α3 → α4 → α5 → α6 → List ρ) : Sp := SpM (fun i : α1 × α2 × α3 × α4 × α5 × α6 => [.val r1 (i.1), .val r2 (i.2.1), .val r3 (i.2.2.1), .val r4 (i.2.2.2.1), .val r5 (i.2.2.2.2.1), .val r6 (i.2.2.2.2.2)]) (fun i => pre (i.1) (i.2.1) (i.2.2.1) (i.2.2.2.1) (i.2.2.2.2.1) (i.2.2.2.2.2)) rr (fun i => f (i.1) (i.2.1) (i.2.2.1) (i.2.2.2.1) (i.2.2.2.2.1) (i.2.2.2.2.2))
theorem c_callM6 (c : XC P w K mg base k N sc vs ls X) {α1 α2 α3 α4 α5 α6 : Type} {r1 : Rp α1} {r2 : Rp α2} {r3 : Rp α3} {r4 : Rp α4} {r5 : Rp α5} {r6 : Rp α6} {pre : α1 → α2 → α3 → α4 → α5 → α6 → Prop} {rr : Rp ρ} {f : α1 → α2 → α3 → α4 → α5 → α6 → List ρ} {e1 e2 e3 e4 e5 e6 : Expr} {x1 : α1} {x2 : α2} {x3 : α3} {x4 : α4} {x5 : α5} {x6 : α6} (h : FN P w K mg base CX0 j x ps (SpM6 r1 r2 r3 r4 r5 r6 pre rr f)) (h1 : DE X B Γ e1 r1 x1) (h2 : DE X B Γ e2 r2 x2) (h3 : DE X B Γ e3 r3 x3) (h4 : DE X B Γ e4 r4 x4) (h5 : DE X B Γ e5 r5 x5) (h6 : DE X B Γ e6 r6 x6) (hp : pre x1 x2 x3 x4 x5 x6) (hj : j ≤ k := by decide) (hg : glB sc x = true := by decide +kernel)
    (hdb : (x == ("__debug__" : Str)) = false := by decide) (s1 : starEach [e1, e2, e3, e4, e5, e6] X.env = (false, eval e1 X.env) :: starEach [e2, e3, e4, e5, e6] X.env := by rfl) (s2 : starEach [e2, e3, e4, e5, e6] X.env = (false, eval e2 X.env) :: starEach [e3, e4, e5, e6] X.env := by rfl) (s3 : starEach [e3, e4, e5, e6] X.env = (false, eval e3 X.env) :: starEach [e4, e5, e6] X.env := by rfl) (s4 : starEach [e4, e5, e6] X.env = (false, eval e4 X.env) :: starEach [e5, e6] X.env := by rfl) (s5 : starEach [e5, e6] X.env = (false, eval e5 X.env) :: starEach [e6] X.env := by rfl) (s6 : starEach [e6] X.env = (false, eval e6 X.env) :: starEach [] X.env := by rfl) (hpl : (backTo pos (starEach [e2, e3, e4, e5, e6] X.env)).any (·.1) = false := by rfl) :
    DM X B Γ (.Call (.Name x p) [e1, e2, e3, e4, e5, e6] [] pos) rr (f x1 x2 x3 x4 x5 x6) := c_callM c h (x1, x2, x3, x4, x5, x6) (da_cons h1 (da_cons h2 (da_cons h3 (da_cons h4 (da_cons h5 (da_cons h6 da_nil s6) s5) s4) s3) s2) s1) hp hj hg hdb s1 hpl
abbrev SpN6 {α1 α2 α3 α4 α5 α6 : Type} {ρ : Type} (r1 : Rp α1) (r2 : Rp α2) (r3 : Rp α3) (r4 : Rp α4) (r5 : Rp α5) (r6 : Rp α6) (pre : α1 → α2 → α3 → α4 → α5 → α6 → Prop) (rr : Rp ρ) (f : α1 → α2 → α3 → α4 → α5 → α6 → ρ) : Sp := SpN (fun i : α1 × α2 × α3 × α4 × α5 × α6 => [.val r1 (i.1), .val r2 (i.2.1), .val r3 (i.2.2.1), .val r4 (i.2.2.2.1), .val r5 (i.2.2.2.2.1), .val r6 (i.2.2.2.2.2)]) (fun i => pre (i.1) (i.2.1) (i.2.2.1) (i.2.2.2.1) (i.2.2.2.2.1) (i.2.2.2.2.2)) rr (fun i => f (i.1) (i.2.1) (i.2.2.1) (i.2.2.2.1) (i.2.2.2.2.1) (i.2.2.2.2.2))
theorem c_callN6 (c : XC P w K mg base k N sc vs ls X) {α1 α2 α3 α4 α5 α6 : Type} {r1 : Rp α1} {r2 : Rp α2} {r3 : Rp α3} {r4 : Rp α4} {r5 : Rp α5} {r6 : Rp α6} {pre : α1 → α2 → α3 → α4 → α5 → α6 → Prop} {rr : Rp ρ} {f : α1 → α2 → α3 → α4 → α5 → α6 → ρ} {e1 e2 e3 e4 e5 e6 : Expr} {x1 : α1} {x2 : α2} {x3 : α3} {x4 : α4} {x5 : α5} {x6 : α6} (h : FN P w K mg base CX0 j x ps (SpN6 r1 r2 r3 r4 r5 r6 pre rr f)) (h1 : DE X B Γ e1 r1 x1) (h2 : DE X B Γ e2 r2 x2) (h3 : DE X B Γ e3 r3 x3) (h4 : DE X B Γ e4 r4 x4) (h5 : DE X B Γ e5 r5 x5) (h6 : DE X B Γ e6 r6 x6) (hp : pre x1 x2 x3 x4 x5 x6) (hj : j ≤ k := by decide) (hg : glB sc x = true := by decide +kernel)
    (hdb : (x == ("__debug__" : Str)) = false := by decide) (s1 : starEach [e1, e2, e3, e4, e5, e6] X.env = (false, eval e1 X.env) :: starEach [e2, e3, e4, e5, e6] X.env := by rfl) (s2 : starEach [e2, e3, e4, e5, e6] X.env = (false, eval e2 X.env) :: starEach [e3, e4, e5, e6] X.env := by rfl) (s3 : starEach [e3, e4, e5, e6] X.env = (false, eval e3 X.env) :: starEach [e4, e5, e6] X.env := by rfl) (s4 : starEach [e4, e5, e6] X.env = (false, eval e4 X.env) :: starEach [e5, e6] X.env := by rfl) (s5 : starEach [e5, e6] X.env = (false, eval e5 X.env) :: starEach [e6] X.env := by rfl) (s6 : starEach [e6] X.env = (false, eval e6 X.env) :: starEach [] X.env := by rfl) (hpl : (backTo pos (starEach [e2, e3, e4, e5, e6] X.env)).any (·.1) = false := by rfl) :
    DN X B Γ (.Call (.Name x p) [e1, e2, e3, e4, e5, e6] [] pos) rr (f x1 x2 x3 x4 x5 x6) := c_callN c h (x1, x2, x3, x4, x5, x6) (da_cons h1 (da_cons h2 (da_cons h3 (da_cons h4 (da_cons h5 (da_cons h6 da_nil s6) s5) s4) s3) s2) s1) hp hj hg hdb s1 hpl
theorem fnF6 {α1 α2 α3 α4 α5 α6 : Type} {r1 : Rp α1} {r2 : Rp α2} {r3 : Rp α3} {r4 : Rp α4} {r5 : Rp α5} {r6 : Rp α6} {pre : α1 → α2 → α3 → α4 → α5 → α6 → Prop} {rr : Rp ρ} {f : α1 → α2 → α3 → α4 → α5 → α6 → ρ} (T : FT K mg x q st ps) (S : FnScope N ps (defScope st)) (hv : locB N (defScope st) vs = true) (Γu : Ctx) (hl : ps.length = 6 := by rfl) (hu : List.replicate (N.length - ps.length) .un = Γu := by rfl)
    (body : ∀ (X : Cx) (B : Bs) (D : Ends) (x1 : α1) (x2 : α2) (x3 : α3) (x4 : α4) (x5 : α5) (x6 : α6), XC P w K mg base k N (defScope st) vs vs X → pre x1 x2 x3 x4 x5 x6 → RtOk B rr (f x1 x2 x3 x4 x5 x6) D → (∀ σ H, D.nx σ H → D.rt .non H) → SD X B (.val r1 x1 :: .val r2 x2 :: .val r3 x3 :: .val r4 x4 :: .val r5 x5 :: .val r6 x6 :: Γu) (defBody st) { D with nx := fun _ H => D.rt .non H }) : FN P w K mg base CX0 (k + 1) x ps (SpF6 r1 r2 r3 r4 r5 r6 pre rr f) :=
  fnF (fun i => .val r1 (i.1) :: .val r2 (i.2.1) :: .val r3 (i.2.2.1) :: .val r4 (i.2.2.2.1) :: .val r5 (i.2.2.2.2.1) :: .val r6 (i.2.2.2.2.2) :: Γu) T S hv (fun _ => hl.symm) (fun i => by rw [hu]; rfl) (fun X B D i c hp hD hn => body X B D (i.1) (i.2.1) (i.2.2.1) (i.2.2.2.1) (i.2.2.2.2.1) (i.2.2.2.2.2) c hp hD hn)
theorem meF6 {α1 α2 α3 α4 α5 α6 : Type} {r1 : Rp α1} {r2 : Rp α2} {r3 : Rp α3} {r4 : Rp α4} {r5 : Rp α5} {r6 : Rp α6} {pre : α1 → α2 → α3 → α4 → α5 → α6 → Prop} {rr : Rp ρ} {f : α1 → α2 → α3 → α4 → α5 → α6 → ρ} (T : FTm K m q C st ps) (S : FnScope N ps (defScope st)) (hv : locB N (defScope st) vs = true) (Γu : Ctx) (hl : ps.length = 6 := by rfl) (hu : List.replicate (N.length - ps.length) .un = Γu := by rfl)
    (body : ∀ (X : Cx) (B : Bs) (D : Ends) (x1 : α1) (x2 : α2) (x3 : α3) (x4 : α4) (x5 : α5) (x6 : α6), XC P w K mg base k N (defScope st) vs vs X → pre x1 x2 x3 x4 x5 x6 → RtOk B rr (f x1 x2 x3 x4 x5 x6) D → (∀ σ H, D.nx σ H → D.rt .non H) → SD X B (.val r1 x1 :: .val r2 x2 :: .val r3 x3 :: .val r4 x4 :: .val r5 x5 :: .val r6 x6 :: Γu) (defBody st) { D with nx := fun _ H => D.rt .non H }) : FMe P w K mg base (k + 1) C m ps (SpF6 r1 r2 r3 r4 r5 r6 pre rr f) :=
  meF (fun i => .val r1 (i.1) :: .val r2 (i.2.1) :: .val r3 (i.2.2.1) :: .val r4 (i.2.2.2.1) :: .val r5 (i.2.2.2.2.1) :: .val r6 (i.2.2.2.2.2) :: Γu) T S hv (fun _ => hl.symm) (fun i => by rw [hu]; rfl) (fun X B D i c hp hD hn => body X B D (i.1) (i.2.1) (i.2.2.1) (i.2.2.2.1) (i.2.2.2.2.1) (i.2.2.2.2.2) c hp hD hn)
theorem fnM6 {α1 α2 α3 α4 α5 α6 : Type} {r1 : Rp α1} {r2 : Rp α2} {r3 : Rp α3} {r4 : Rp α4} {r5 : Rp α5} {r6 : Rp α6} {pre : α1 → α2 → α3 → α4 → α5 → α6 → Prop} {rr : Rp ρ} {f : α1 → α2 → α3 → α4 → α5 → α6 → List ρ} (T : FT K mg x q st ps) (S : FnScope N ps (defScope st)) (hv : locB N (defScope st) vs = true) (Γu : Ctx) (hl : ps.length = 6 := by rfl) (hu : List.replicate (N.length - ps.length) .un = Γu := by rfl)
    (body : ∀ (X : Cx) (B : Bs) (D : Ends) (x1 : α1) (x2 : α2) (x3 : α3) (x4 : α4) (x5 : α5) (x6 : α6), XC P w K mg base k N (defScope st) vs vs X → pre x1 x2 x3 x4 x5 x6 → RtM B rr (f x1 x2 x3 x4 x5 x6) D → SD X B (.val r1 x1 :: .val r2 x2 :: .val r3 x3 :: .val r4 x4 :: .val r5 x5 :: .val r6 x6 :: Γu) (defBody st) D) : FN P w K mg base CX0 (k + 1) x ps (SpM6 r1 r2 r3 r4 r5 r6 pre rr f) :=
  fnM (fun i => .val r1 (i.1) :: .val r2 (i.2.1) :: .val r3 (i.2.2.1) :: .val r4 (i.2.2.2.1) :: .val r5 (i.2.2.2.2.1) :: .val r6 (i.2.2.2.2.2) :: Γu) T S hv (fun _ => hl.symm) (fun i => by rw [hu]; rfl) (fun X B D i c hp hD => body X B D (i.1) (i.2.1) (i.2.2.1) (i.2.2.2.1) (i.2.2.2.2.1) (i.2.2.2.2.2) c hp hD)
theorem meM6 {α1 α2 α3 α4 α5 α6 : Type} {r1 : Rp α1} {r2 : Rp α2} {r3 : Rp α3} {r4 : Rp α4} {r5 : Rp α5} {r6 : Rp α6} {pre : α1 → α2 → α3 → α4 → α5 → α6 → Prop} {rr : Rp ρ} {f : α1 → α2 → α3 → α4 → α5 → α6 → List ρ} (T : FTm K m q C st ps) (S : FnScope N ps (defScope st)) (hv : locB N (defScope st) vs = true) (Γu : Ctx) (hl : ps.length = 6 := by rfl) (hu : List.replicate (N.length - ps.length) .un = Γu := by rfl)
    (body : ∀ (X : Cx) (B : Bs) (D : Ends) (x1 : α1) (x2 : α2) (x3 : α3) (x4 : α4) (x5 : α5) (x6 : α6), XC P w K mg base k N (defScope st) vs vs X → pre x1 x2 x3 x4 x5 x6 → RtM B rr (f x1 x2 x3 x4 x5 x6) D → SD X B (.val r1 x1 :: .val r2 x2 :: .val r3 x3 :: .val r4 x4 :: .val r5 x5 :: .val r6 x6 :: Γu) (defBody st) D) : FMe P w K mg base (k + 1) C m ps (SpM6 r1 r2 r3 r4 r5 r6 pre rr f) :=
  meM (fun i => .val r1 (i.1) :: .val r2 (i.2.1) :: .val r3 (i.2.2.1) :: .val r4 (i.2.2.2.1) :: .val r5 (i.2.2.2.2.1) :: .val r6 (i.2.2.2.2.2) :: Γu) T S hv (fun _ => hl.symm) (fun i => by rw [hu]; rfl) (fun X B D i c hp hD => body X B D (i.1) (i.2.1) (i.2.2.1) (i.2.2.2.1) (i.2.2.2.2.1) (i.2.2.2.2.2) c hp hD)
theorem fnN6 {α1 α2 α3 α4 α5 α6 : Type} {r1 : Rp α1} {r2 : Rp α2} {r3 : Rp α3} {r4 : Rp α4} {r5 : Rp α5} {r6 : Rp α6} {pre : α1 → α2 → α3 → α4 → α5 → α6 → Prop} {rr : Rp ρ} {f : α1 → α2 → α3 → α4 → α5 → α6 → ρ} (T : FT K mg x q st ps) (S : FnScope N ps (defScope st)) (hv : locB N (defScope st) vs = true) (Γu : Ctx) (hl : ps.length = 6 := by rfl) (hu : List.replicate (N.length - ps.length) .un = Γu := by rfl)
    (body : ∀ (X : Cx) (B : Bs) (D : Ends) (x1 : α1) (x2 : α2) (x3 : α3) (x4 : α4) (x5 : α5) (x6 : α6), XC P w K mg base k N (defScope st) vs vs X → pre x1 x2 x3 x4 x5 x6 → RtN B rr (f x1 x2 x3 x4 x5 x6) D → SD X B (.val r1 x1 :: .val r2 x2 :: .val r3 x3 :: .val r4 x4 :: .val r5 x5 :: .val r6 x6 :: Γu) (defBody st) D) : FN P w K mg base CX0 (k + 1) x ps (SpN6 r1 r2 r3 r4 r5 r6 pre rr f) :=
  fnN (fun i => .val r1 (i.1) :: .val r2 (i.2.1) :: .val r3 (i.2.2.1) :: .val r4 (i.2.2.2.1) :: .val r5 (i.2.2.2.2.1) :: .val r6 (i.2.2.2.2.2) :: Γu) T S hv (fun _ => hl.symm) (fun i => by rw [hu]; rfl) (fun X B D i c hp hD => body X B D (i.1) (i.2.1) (i.2.2.1) (i.2.2.2.1) (i.2.2.2.2.1) (i.2.2.2.2.2) c hp hD)
abbrev SpI6 {α1 α2 α3 α4 α5 α6 : Type} (C : Addr) (r1 : Rp α1) (r2 : Rp α2) (r3 : Rp α3) (r4 : Rp α4) (r5 : Rp α5) (r6 : Rp α6) (pre : α1 → α2 → α3 → α4 → α5 → α6 → Prop) (names : List Str) (fl : α1 → α2 → α3 → α4 → α5 → α6 → Ctx) : Sp := SpI C (fun i : α1 × α2 × α3 × α4 × α5 × α6 => [.val r1 (i.1), .val r2 (i.2.1), .val r3 (i.2.2.1), .val r4 (i.2.2.2.1), .val r5 (i.2.2.2.2.1), .val r6 (i.2.2.2.2.2)]) (fun i => pre (i.1) (i.2.1) (i.2.2.1) (i.2.2.2.1) (i.2.2.2.2.1) (i.2.2.2.2.2)) names (fun i => fl (i.1) (i.2.1) (i.2.2.1) (i.2.2.2.1) (i.2.2.2.2.1) (i.2.2.2.2.2))
theorem fnI6 {α1 α2 α3 α4 α5 α6 : Type} {r1 : Rp α1} {r2 : Rp α2} {r3 : Rp α3} {r4 : Rp α4} {r5 : Rp α5} {r6 : Rp α6} {pre : α1 → α2 → α3 → α4 → α5 → α6 → Prop} {names : List Str} {fl : α1 → α2 → α3 → α4 → α5 → α6 → Ctx} (T : FTk K mg x q C st ps) (S : FnScope N ps (defScope st)) (hv : locB N (defScope st) vs = true) (Γu : Ctx) (hl : ps.length = 7 := by rfl) (hu : List.replicate (N.length - ps.length) .un = Γu := by rfl)
    (body : ∀ (X : Cx) (B : Bs) (D : Ends) (x1 : α1) (x2 : α2) (x3 : α3) (x4 : α4) (x5 : α5) (x6 : α6) (xd : Addr × Addr), XC P w K mg base k N (defScope st) vs vs X → pre x1 x2 x3 x4 x5 x6 → (∀ σ H' Γ', EnvP B (.own (oObj C names (fl x1 x2 x3 x4 x5 x6)) xd :: Γ') σ H' → D.nx σ H') → SD X B (.own (oObj C [] []) xd :: .val r1 x1 :: .val r2 x2 :: .val r3 x3 :: .val r4 x4 :: .val r5 x5 :: .val r6 x6 :: Γu) (defBody st) D) : FMk P w K mg base (k + 1) x C ps (SpI6 C r1 r2 r3 r4 r5 r6 pre names fl) :=
  fnI (fun i xd => .own (oObj C [] []) xd :: .val r1 (i.1) :: .val r2 (i.2.1) :: .val r3 (i.2.2.1) :: .val r4 (i.2.2.2.1) :: .val r5 (i.2.2.2.2.1) :: .val r6 (i.2.2.2.2.2) :: Γu) T S hv (fun _ => hl.symm) (fun i xd => by rw [hu]; rfl) (fun X B D i xd c hp hD => body X B D (i.1) (i.2.1) (i.2.2.1) (i.2.2.2.1) (i.2.2.2.2.1) (i.2.2.2.2.2) xd c hp hD)
theorem c_make6 (c : XC P w K mg base k N sc vs ls X) {α1 α2 α3 α4 α5 α6 : Type} {r1 : Rp α1} {r2 : Rp α2} {r3 : Rp α3} {r4 : Rp α4} {r5 : Rp α5} {r6 : Rp α6} {pre : α1 → α2 → α3 → α4 → α5 → α6 → Prop} {names : List Str} {fl : α1 → α2 → α3 → α4 → α5 → α6 → Ctx} {cls : β → Addr} {flds : β → Ctx} {e1 e2 e3 e4 e5 e6 : Expr} {x1 : α1} {x2 : α2} {x3 : α3} {x4 : α4} {x5 : α5} {x6 : α6} (o : β) (h : FMk P w K mg base j x C ps (SpI6 C r1 r2 r3 r4 r5 r6 pre names fl)) (h1 : DE X B Γ e1 r1 x1) (h2 : DE X B Γ e2 r2 x2) (h3 : DE X B Γ e3 r3 x3) (h4 : DE X B Γ e4 r4 x4) (h5 : DE X B Γ e5 r5 x5) (h6 : DE X B Γ e6 r6 x6) (hp : pre x1 x2 x3 x4 x5 x6) (hC : cls o = C := by rfl) (hf : flds o = fl x1 x2 x3 x4 x5 x6 := by rfl) (hj : j + 1 ≤ k := by decide) (hg : glB sc x = true := by decide +kernel)
    (hdb : (x == ("__debug__" : Str)) = false := by decide) (s1 : starEach [e1, e2, e3, e4, e5, e6] X.env = (false, eval e1 X.env) :: starEach [e2, e3, e4, e5, e6] X.env := by rfl) (s2 : starEach [e2, e3, e4, e5, e6] X.env = (false, eval e2 X.env) :: starEach [e3, e4, e5, e6] X.env := by rfl) (s3 : starEach [e3, e4, e5, e6] X.env = (false, eval e3 X.env) :: starEach [e4, e5, e6] X.env := by rfl) (s4 : starEach [e4, e5, e6] X.env = (false, eval e4 X.env) :: starEach [e5, e6] X.env := by rfl) (s5 : starEach [e5, e6] X.env = (false, eval e5 X.env) :: starEach [e6] X.env := by rfl) (s6 : starEach [e6] X.env = (false, eval e6 X.env) :: starEach [] X.env := by rfl) (hpl : (backTo pos (starEach [e2, e3, e4, e5, e6] X.env)).any (·.1) = false := by rfl) :
    DE X B Γ (.Call (.Name x p) [e1, e2, e3, e4, e5, e6] [] pos) (rObj cls names flds) o := c_make c (x1, x2, x3, x4, x5, x6) h (da_cons h1 (da_cons h2 (da_cons h3 (da_cons h4 (da_cons h5 (da_cons h6 da_nil s6) s5) s4) s3) s2) s1) hp hC hf hj hg hdb s1 hpl
theorem c_methF6 (c : XC P w K mg base k N sc vs ls X) {pl : Sem Bool} {α1 α2 α3 α4 α5 α6 : Type} {cls : α1 → Addr} {names : List Str} {flds : α1 → Ctx} {r2 : Rp α2} {r3 : Rp α3} {r4 : Rp α4} {r5 : Rp α5} {r6 : Rp α6} {pre : α1 → α2 → α3 → α4 → α5 → α6 → Prop} {rr : Rp ρ} {f : α1 → α2 → α3 → α4 → α5 → α6 → ρ} {e1 e2 e3 e4 e5 e6 : Expr} {x1 : α1} {x2 : α2} {x3 : α3} {x4 : α4} {x5 : α5} {x6 : α6} (h : FMe P w K mg base j (cls x1) m ps (SpF6 (rObj cls names flds) r2 r3 r4 r5 r6 pre rr f)) (h1 : DE X B Γ e1 (rObj cls names flds) x1) (h2 : DE X B Γ e2 r2 x2) (h3 : DE X B Γ e3 r3 x3) (h4 : DE X B Γ e4 r4 x4) (h5 : DE X B Γ e5 r5 x5) (h6 : DE X B Γ e6 r6 x6) (hp : pre x1 x2 x3 x4 x5 x6) (hj : j ≤ k := by decide) (hnm : names.contains m = false := by decide +kernel)
    (s2 : starEach [e2, e3, e4, e5, e6] X.env = (false, eval e2 X.env) :: starEach [e3, e4, e5, e6] X.env := by rfl) (s3 : starEach [e3, e4, e5, e6] X.env = (false, eval e3 X.env) :: starEach [e4, e5, e6] X.env := by rfl) (s4 : starEach [e4, e5, e6] X.env = (false, eval e4 X.env) :: starEach [e5, e6] X.env := by rfl) (s5 : starEach [e5, e6] X.env = (false, eval e5 X.env) :: starEach [e6] X.env := by rfl) (s6 : starEach [e6] X.env = (false, eval e6 X.env) :: starEach [] X.env := by rfl) (hpl : (backTo pos (starEach [e3, e4, e5, e6] X.env)).any (·.1) = false := by rfl)
    (ht : eval (.Call (.Attribute e1 m apos) [e2, e3, e4, e5, e6] [] pos) X.env = (do
      let ov ← eval e1 X.env
      standAt apos.atName
      let (f, first) ← holding [ov] (getMethod ov m pl)
      callWith pos f first (backTo pos (starEach [e2, e3, e4, e5, e6] X.env)) (backToKw pos (keywordEach [] X.env))) := by rfl) : DE X B Γ (.Call (.Attribute e1 m apos) [e2, e3, e4, e5, e6] [] pos) rr (f x1 x2 x3 x4 x5 x6) := c_meth c (x1, x2, x3, x4, x5, x6) h h1 rfl (da_cons h2 (da_cons h3 (da_cons h4 (da_cons h5 (da_cons h6 da_nil s6) s5) s4) s3) s2) hp hj hnm s2 hpl ht
abbrev SpF7 {α1 α2 α3 α4 α5 α6 α7 : Type} {ρ : Type} (r1 : Rp α1) (r2 : Rp α2) (r3 : Rp α3) (r4 : Rp α4) (r5 : Rp α5) (r6 : Rp α6) (r7 : Rp α7) (pre : α1 → α2 → α3 → α4 → α5 → α6 → α7 → Prop) (rr : Rp ρ) (f : α1 → α2 → α3 → α4 → α5 → α6 → α7 → ρ) : Sp := SpF (fun i : α1 × α2 × α3 × α4 × α5 × α6 × α7 => [.val r1 (i.1), .val r2 (i.2.1), .val r3 (i.2.2.1), .val r4 (i.2.2.2.1), .val r5 (i.2.2.2.2.1), .val r6 (i.2.2.2.2.2.1), .val r7 (i.2.2.2.2.2.2)]) (fun i => pre (i.1) (i.2.1) (i.2.2.1) (i.2.2.2.1) (i.2.2.2.2.1) (i.2.2.2.2.2.1) (i.2.2.2.2.2.2)) rr (fun i => f (i.1) (i.2.1) (i.2.2.1) (i.2.2.2.1) (i.2.2.2.2.1) (i.2.2.2.2.2.1) (i.2.2.2.2.2.2))
theorem c_callF7 (c : XC P w K mg base k N sc vs ls X) {α1 α2 α3 α4 α5 α6 α7 : Type} {r1 : Rp α1} {r2 : Rp α2} {r3 : Rp α3} {r4 : Rp α4} {r5 : Rp α5} {r6 : Rp α6} {r7 : Rp α7} {pre : α1 → α2 → α3 → α4 → α5 → α6 → α7 → Prop} {rr : Rp ρ} {f : α1 → α2 → α3 → α4 → α5 → α6 → α7 → ρ} {e1 e2 e3 e4 e5 e6 e7 : Expr} {x1 : α1} {x2 : α2} {x3 : α3} {x4 : α4} {x5 : α5} {x6 : α6} {x7 : α7} (h : FN P w K mg base CX0 j x ps (SpF7 r1 r2 r3 r4 r5 r6 r7 pre rr f)) (h1 : DE X B Γ e1 r1 x1) (h2 : DE X B Γ e2 r2 x2) (h3 : DE X B Γ e3 r3 x3) (h4 : DE X B Γ e4 r4 x4) (h5 : DE X B Γ e5 r5 x5) (h6 : DE X B Γ e6 r6 x6) (h7 : DE X B Γ e7 r7 x7) (hp : pre x1 x2 x3 x4 x5 x6 x7) (hj : j ≤ k := by decide) (hg : glB sc x = true := by decide +kernel)
    (hdb : (x == ("__debug__" : Str)) = false := by decide) (s1 : starEach [e1, e2, e3, e4, e5, e6, e7] X.env = (false, eval e1 X.env) :: starEach [e2, e3, e4, e5, e6, e7] X.env := by rfl) (s2 : starEach [e2, e3, e4, e5, e6, e7] X.env = (false, eval e2 X.env) :: starEach [e3, e4, e5, e6, e7] X.env := by rfl) (s3 : starEach [e3, e4, e5, e6, e7] X.env = (false, eval e3 X.env) :: starEach [e4, e5, e6, e7] X.env := by rfl) (s4 : starEach [e4, e5, e6, e7] X.env = (false, eval e4 X.env) :: starEach [e5, e6, e7] X.env := by rfl) (s5 : starEach [e5, e6, e7] X.env = (false, eval e5 X.env) :: starEach [e6, e7] X.env := by rfl) (s6 : starEach [e6, e7] X.env = (false, eval e6 X.env) :: starEach [e7] X.env := by rfl) (s7 : starEach [e7] X.env = (false, eval e7 X.env) :: starEach [] X.env := by rfl) (hpl : (backTo pos (starEach [e2, e3, e4, e5, e6, e7] X.env)).any (·.1) = false := by rfl) :
    DE X B Γ (.Call (.Name x p) [e1, e2, e3, e4, e5, e6, e7] [] pos) rr (f x1 x2 x3 x4 x5 x6 x7) := c_call c h (x1, x2, x3, x4, x5, x6, x7) (da_cons h1 (da_cons h2 (da_cons h3 (da_cons h4 (da_cons h5 (da_cons h6 (da_cons h7 da_nil s7) s6) s5) s4) s3) s2) s1) hp hj hg hdb s1 hpl
abbrev SpM7 {α1 α2 α3 α4 α5 α6 α7 : Type} {ρ : Type} (r1 : Rp α1) (r2 : Rp α2) (r3 : Rp α3) (r4 : Rp α4) (r5 : Rp α5) (r6 : Rp α6) (r7 : Rp α7) (pre : α1 → α2 → α3 → α4 → α5 → α6 → α7 → Prop) (rr : Rp ρ) (f : α1 → α2 → α3 → α4 → α5 → α6 → α7 → List ρ) : Sp := SpM (fun i : α1 × α2 × α3 × α4 × α5 × α6 × α7 => [.val r1 (i.1), .val r2 (i.2.1), .val r3 (i.2.2.1), .val r4 (i.2.2.2.1), .val r5 (i.2.2.2.2.1), .val r6 (i.2.2.2.2.2.1), .val r7 (i.2.2.2.2.2.2)]) (fun i => pre (i.1) (i.2.1) (i.2.2.1) (i.2.2.2.1) (i.2.2.2.2.1) (i.2.2.2.2.2.1) (i.2.2.2.2.2.2)) rr (fun i => f (i.1) (i.2.1) (i.2.2.1) (i.2.2.2.1) (i.2.2.2.2.1) (i.2.2.2.2.2.1) (i.2.2.2.2.2.2))
theorem c_callM7 (c : XC P w K mg base k N sc vs ls X) {α1 α2 α3 α4 α5 α6 α7 : Type} {r1 : Rp α1} {r2 : Rp α2} {r3 : Rp α3} {r4 : Rp α4} {r5 : Rp α5} {r6 : Rp α6} {r7 : Rp α7} {pre : α1 → α2 → α3 → α4 → α5 → α6 → α7 → Prop} {rr : Rp ρ} {f : α1 → α2 → α3 → α4 → α5 → α6 → α7 → List ρ} {e1 e2 e3 e4 e5 e6 e7 : Expr} {x1 : α1} {x2 : α2} {x3 : α3} {x4 : α4} {x5 : α5} {x6 : α6} {x7 : α7} (h : FN P w K mg base CX0 j x ps (SpM7 r1 r2 r3 r4 r5 r6 r7 pre rr f)) (h1 : DE X B Γ e1 r1 x1) (h2 : DE X B Γ e2 r2 x2) (h3 : DE X B Γ e3 r3 x3) (h4 : DE X B Γ e4 r4 x4) (h5 : DE X B Γ e5 r5 x5) (h6 : DE X B Γ e6 r6 x6) (h7 : DE X B Γ e7 r7 x7) (hp : pre x1 x2 x3 x4 x5 x6 x7) (hj : j ≤ k := by decide) (hg : glB sc x = true := by decide +kernel)
    (hdb : (x == ("__debug__" : Str)) = false := by decide) (s1 : starEach [e1, e2, e3, e4, e5, e6, e7] X.env = (false, eval e1 X.env) :: starEach [e2, e3, e4, e5, e6, e7] X.env := by rfl) (s2 : starEach [e2, e3, e4, e5, e6, e7] X.env = (false, eval e2 X.env) :: starEach [e3, e4, e5, e6, e7] X.env := by rfl) (s3 : starEach [e3, e4, e5, e6, e7] X.env = (false, eval e3 X.env) :: starEach [e4, e5, e6, e7] X.env := by rfl) (s4 : starEach [e4, e5, e6, e7] X.env = (false, eval e4 X.env) :: starEach [e5, e6, e7] X.env := by rfl) (s5 : starEach [e5, e6, e7] X.env = (false, eval e5 X.env) :: starEach [e6, e7] X.env := by rfl) (s6 : starEach [e6, e7] X.env = (false, eval e6 X.env) :: starEach [e7] X.env := by rfl) (s7 : starEach [e7] X.env = (false, eval e7 X.env) :: starEach [] X.env := by rfl) (hpl : (backTo pos (starEach [e2, e3, e4, e5, e6, e7] X.env)).any (·.1) = false := by rfl) :
    DM X B Γ (.Call (.Name x p) [e1, e2, e3, e4, e5, e6, e7] [] pos) rr (f x1 x2 x3 x4 x5 x6 x7) := c_callM c h (x1, x2, x3, x4, x5, x6, x7) (da_cons h1 (da_cons h2 (da_cons h3 (da_cons h4 (da_cons h5 (da_cons h6 (da_cons h7 da_nil s7) s6) s5) s4) s3) s2) s1) hp hj hg hdb s1 hpl
abbrev SpN7 {α1 α2 α3 α4 α5 α6 α7 : Type} {ρ : Type} (r1 : Rp α1) (r2 : Rp α2) (r3 : Rp α3) (r4 : Rp α4) (r5 : Rp α5) (r6 : Rp α6) (r7 : Rp α7) (pre : α1 → α2 → α3 → α4 → α5 → α6 → α7 → Prop) (rr : Rp ρ) (f : α1 → α2 → α3 → α4 → α5 → α6 → α7 → ρ) : Sp := SpN (fun i : α1 × α2 × α3 × α4 × α5 × α6 × α7 => [.val r1 (i.1), .val r2 (i.2.1), .val r3 (i.2.2.1), .val r4 (i.2.2.2.1), .val r5 (i.2.2.2.2.1), .val r6 (i.2.2.2.2.2.1), .val r7 (i.2.2.2.2.2.2)]) (fun i => pre (i.1) (i.2.1) (i.2.2.1) (i.2.2.2.1) (i.2.2.2.2.1) (i.2.2.2.2.2.1) (i.2.2.2.2.2.2)) rr (fun i => f (i.1) (i.2.1) (i.2.2.1) (i.2.2.2.1) (i.2.2.2.2.1) (i.2.2.2.2.2.1) (i.2.2.2.2.2.2))
theorem c_callN7 (c : XC P w K mg base k N sc vs ls X) {α1 α2 α3 α4 α5 α6 α7 : Type} {r1 : Rp α1} {r2 : Rp α2} {r3 : Rp α3} {r4 : Rp α4} {r5 : Rp α5} {r6 : Rp α6} {r7 : Rp α7} {pre : α1 → α2 → α3 → α4 → α5 → α6 → α7 → Prop} {rr : Rp ρ} {f : α1 → α2 → α3 → α4 → α5 → α6 → α7 → ρ} {e1 e2 e3 e4 e5 e6 e7 : Expr} {x1 : α1} {x2 : α2} {x3 : α3} {x4 : α4} {x5 : α5} {x6 : α6} {x7 : α7} (h : FN P w K mg base CX0 j x ps (SpN7 r1 r2 r3 r4 r5 r6 r7 pre rr f)) (h1 : DE X B Γ e1 r1 x1) (h2 : DE X B Γ e2 r2 x2) (h3 : DE X B Γ e3 r3 x3) (h4 : DE X B Γ e4 r4 x4) (h5 : DE X B Γ e5 r5 x5) (h6 : DE X B Γ e6 r6 x6) (h7 : DE X B Γ e7 r7 x7) (hp : pre x1 x2 x3 x4 x5 x6 x7) (hj : j ≤ k := by decide) (hg : glB sc x = true := by decide +kernel)
    (hdb : (x == ("__debug__" : Str)) = false := by decide) (s1 : starEach [e1, e2, e3, e4, e5, e6, e7] X.env = (false, eval e1 X.env) :: starEach [e2, e3, e4, e5, e6, e7] X.env := by rfl) (s2 : starEach [e2, e3, e4, e5, e6, e7] X.env = (false, eval e2 X.env) :: starEach [e3, e4, e5, e6, e7] X.env := by rfl) (s3 : starEach [e3, e4, e5, e6, e7] X.env = (false, eval e3 X.env) :: starEach [e4, e5, e6, e7] X.env := by rfl) (s4 : starEach [e4, e5, e6, e7] X.env = (false, eval e4 X.env) :: starEach [e5, e6, e7] X.env := by rfl) (s5 : starEach [e5, e6, e7] X.env = (false, eval e5 X.env) :: starEach [e6, e7] X.env := by rfl) (s6 : starEach [e6, e7] X.env = (false, eval e6 X.env) :: starEach [e7] X.env := by rfl) (s7 : starEach [e7] X.env = (false, eval e7 X.env) :: starEach [] X.env := by rfl) (hpl : (backTo pos (starEach [e2, e3, e4, e5, e6, e7] X.env)).any (·.1) = false := by rfl) :
    DN X B Γ (.Call (.Name x p) [e1, e2, e3, e4, e5, e6, e7] [] pos) rr (f x1 x2 x3 x4 x5 x6 x7) := c_callN c h (x1, x2, x3, x4, x5, x6, x7) (da_cons h1 (da_cons h2 (da_cons h3 (da_cons h4 (da_cons h5 (da_cons h6 (da_cons h7 da_nil s7) s6) s5) s4) s3) s2) s1) hp hj hg hdb s1 hpl
theorem fnF7 {α1 α2 α3 α4 α5 α6 α7 : Type} {r1 : Rp α1} {r2 : Rp α2} {r3 : Rp α3} {r4 : Rp α4} {r5 : Rp α5} {r6 : Rp α6} {r7 : Rp α7} {pre : α1 → α2 → α3 → α4 → α5 → α6 → α7 → Prop} {rr : Rp ρ} {f : α1 → α2 → α3 → α4 → α5 → α6 → α7 → ρ} (T : FT K mg x q st ps) (S : FnScope N ps (defScope st)) (hv : locB N (defScope st) vs = true) (Γu : Ctx) (hl : ps.length = 7 := by rfl) (hu : List.replicate (N.length - ps.length) .un = Γu := by rfl)
    (body : ∀ (X : Cx) (B : Bs) (D : Ends) (x1 : α1) (x2 : α2) (x3 : α3) (x4 : α4) (x5 : α5) (x6 : α6) (x7 : α7), XC P w K mg base k N (defScope st) vs vs X → pre x1 x2 x3 x4 x5 x6 x7 → RtOk B rr (f x1 x2 x3 x4 x5 x6 x7) D → (∀ σ H, D.nx σ H → D.rt .non H) → SD X B (.val r1 x1 :: .val r2 x2 :: .val r3 x3 :: .val r4 x4 :: .val r5 x5 :: .val r6 x6 :: .val r7 x7 :: Γu) (defBody st) { D with nx := fun _ H => D.rt .non H }) : FN P w K mg base CX0 (k + 1) x ps (SpF7 r1 r2 r3 r4 r5 r6 r7 pre rr f) :=
  fnF (fun i => .val r1 (i.1) :: .val r2 (i.2.1) :: .val r3 (i.2.2.1) :: .val r4 (i.2.2.2.1) :: .val r5 (i.2.2.2.2.1) :: .val r6 (i.2.2.2.2.2.1) :: .val r7 (i.2.2.2.2.2.2) :: Γu) T S hv (fun _ => hl.symm) (fun i => by rw [hu]; rfl) (fun X B D i c hp hD hn => body X B D (i.1) (i.2.1) (i.2.2.1) (i.2.2.2.1) (i.2.2.2.2.1) (i.2.2.2.2.2.1) (i.2.2.2.2.2.2) c hp hD hn)
theorem meF7 {α1 α2 α3 α4 α5 α6 α7 : Type} {r1 : Rp α1} {r2 : Rp α2} {r3 : Rp α3} {r4 : Rp α4} {r5 : Rp α5} {r6 : Rp α6} {r7 : Rp α7} {pre : α1 → α2 → α3 → α4 → α5 → α6 → α7 → Prop} {rr : Rp ρ} {f : α1 → α2 → α3 → α4 → α5 → α6 → α7 → ρ} (T : FTm K m q C st ps) (S : FnScope N ps (defScope st)) (hv : locB N (defScope st) vs = true) (Γu : Ctx) (hl : ps.length = 7 := by rfl) (hu : List.replicate (N.length - ps.length) .un = Γu := by rfl)
    (body : ∀ (X : Cx) (B : Bs) (D : Ends) (x1 : α1) (x2 : α2) (x3 : α3) (x4 : α4) (x5 : α5) (x6 : α6) (x7 : α7), XC P w K mg base k N (defScope st) vs vs X → pre x1 x2 x3 x4 x5 x6 x7 → RtOk B rr (f x1 x2 x3 x4 x5 x6 x7) D → (∀ σ H, D.nx σ H → D.rt .non H) → SD X B (.val r1 x1 :: .val r2 x2 :: .val r3 x3 :: .val r4 x4 :: .val r5 x5 :: .val r6 x6 :: .val r7 x7 :: Γu) (defBody st) { D with nx := fun _ H => D.rt .non H }) : FMe P w K mg base (k + 1) C m ps (SpF7 r1 r2 r3 r4 r5 r6 r7 pre rr f) :=
  meF (fun i => .val r1 (i.1) :: .val r2 (i.2.1) :: .val r3 (i.2.2.1) :: .val r4 (i.2.2.2.1) :: .val r5 (i.2.2.2.2.1) :: .val r6 (i.2.2.2.2.2.1) :: .val r7 (i.2.2.2.2.2.2) :: Γu) T S hv (fun _ => hl.symm) (fun i => by rw [hu]; rfl) (fun X B D i c hp hD hn => body X B D (i.1) (i.2.1) (i.2.2.1) (i.2.2.2.1) (i.2.2.2.2.1) (i.2.2.2.2.2.1) (i.2.2.2.2.2.2) c hp hD hn)
theorem fnM7 {α1 α2 α3 α4 α5 α6 α7 : Type} {r1 : Rp α1} {r2 : Rp α2} {r3 : Rp α3} {r4 : Rp α4} {r5 : Rp α5} {r6 : Rp α6} {r7 : Rp α7} {pre : α1 → α2 → α3 → α4 → α5 → α6 → α7 → Prop} {rr : Rp ρ} {f : α1 → α2 → α3 → α4 → α5 → α6 → α7 → List ρ} (T : FT K mg x q st ps) (S : FnScope N ps (defScope st)) (hv : locB N (defScope st) vs = true) (Γu : Ctx) (hl : ps.length = 7 := by rfl) (hu : List.replicate (N.length - ps.length) .un = Γu := by rfl)
    (body : ∀ (X : Cx) (B : Bs) (D : Ends) (x1 : α1) (x2 : α2) (x3 : α3) (x4 : α4) (x5 : α5) (x6 : α6) (x7 : α7), XC P w K mg base k N (defScope st) vs vs X → pre x1 x2 x3 x4 x5 x6 x7 → RtM B rr (f x1 x2 x3 x4 x5 x6 x7) D → SD X B (.val r1 x1 :: .val r2 x2 :: .val r3 x3 :: .val r4 x4 :: .val r5 x5 :: .val r6 x6 :: .val r7 x7 :: Γu) (defBody st) D) : FN P w K mg base CX0 (k + 1) x ps (SpM7 r1 r2 r3 r4 r5 r6 r7 pre rr f) :=
  fnM (fun i => .val r1 (i.1) :: .val r2 (i.2.1) :: .val r3 (i.2.2.1) :: .val r4 (i.2.2.2.1) :: .val r5 (i.2.2.2.2.1) :: .val r6 (i.2.2.2.2.2.1) :: .val r7 (i.2.2.2.2.2.2) :: Γu) T S hv (fun _ => hl.symm) (fun i => by rw [hu]; rfl) (fun X B D i c hp hD => body X B D (i.1) (i.2.1) (i.2.2.1) (i.2.2.2.1) (i.2.2.2.2.1) (i.2.2.2.2.2.1) (i.2.2.2.2.2.2) c hp hD)
theorem meM7 {α1 α2 α3 α4 α5 α6 α7 : Type} {r1 : Rp α1} {r2 : Rp α2} {r3 : Rp α3} {r4 : Rp α4} {r5 : Rp α5} {r6 : Rp α6} {r7 : Rp α7} {pre : α1 → α2 → α3 → α4 → α5 → α6 → α7 → Prop} {rr : Rp ρ} {f : α1 → α2 → α3 → α4 → α5 → α6 → α7 → List ρ} (T : FTm K m q C st ps) (S : FnScope N ps (defScope st)) (hv : locB N (defScope st) vs = true) (Γu : Ctx) (hl : ps.length = 7 := by rfl) (hu : List.replicate (N.length - ps.length) .un = Γu := by rfl)
    (body : ∀ (X : Cx) (B : Bs) (D : Ends) (x1 : α1) (x2 : α2) (x3 : α3) (x4 : α4) (x5 : α5) (x6 : α6) (x7 : α7), XC P w K mg base k N (defScope st) vs vs X → pre x1 x2 x3 x4 x5 x6 x7 → RtM B rr (f x1 x2 x3 x4 x5 x6 x7) D → SD X B (.val r1 x1 :: .val r2 x2 :: .val r3 x3 :: .val r4 x4 :: .val r5 x5 :: .val r6 x6 :: .val r7 x7 :: Γu) (defBody st) D) : FMe P w K mg base (k + 1) C m ps (SpM7 r1 r2 r3 r4 r5 r6 r7 pre rr f) :=
  meM (fun i => .val r1 (i.1) :: .val r2 (i.2.1) :: .val r3 (i.2.2.1) :: .val r4 (i.2.2.2.1) :: .val r5 (i.2.2.2.2.1) :: .val r6 (i.2.2.2.2.2.1) :: .val r7 (i.2.2.2.2.2.2) :: Γu) T S hv (fun _ => hl.symm) (fun i => by rw [hu]; rfl) (fun X B D i c hp hD => body X B D (i.1) (i.2.1) (i.2.2.1) (i.2.2.2.1) (i.2.2.2.2.1) (i.2.2.2.2.2.1) (i.2.2.2.2.2.2) c hp hD)
theorem fnN7 {α1 α2 α3 α4 α5 α6 α7 : Type} {r1 : Rp α1} {r2 : Rp α2} {r3 : Rp α3} {r4 : Rp α4} {r5 : Rp α5} {r6 : Rp α6} {r7 : Rp α7} {pre : α1 → α2 → α3 → α4 → α5 → α6 → α7 → Prop} {rr : Rp ρ} {f : α1 → α2 → α3 → α4 → α5 → α6 → α7 → ρ} (T : FT K mg x q st ps) (S : FnScope N ps (defScope st)) (hv : locB N (defScope st) vs = true) (Γu : Ctx) (hl : ps.length = 7 := by rfl) (hu : List.replicate (N.length - ps.length) .un = Γu := by rfl)
    (body : ∀ (X : Cx) (B : Bs) (D : Ends) (x1 : α1) (x2 : α2) (x3 : α3) (x4 : α4) (x5 : α5) (x6 : α6) (x7 : α7), XC P w K mg base k N (defScope st) vs vs X → pre x1 x2 x3 x4 x5 x6 x7 → RtN B rr (f x1 x2 x3 x4 x5 x6 x7) D → SD X B (.val r1 x1 :: .val r2 x2 :: .val r3 x3 :: .val r4 x4 :: .val r5 x5 :: .val r6 x6 :: .val r7 x7 :: Γu) (defBody st) D) : FN P w K mg base CX0 (k + 1) x ps (SpN7 r1 r2 r3 r4 r5 r6 r7 pre rr f) :=
  fnN (fun i => .val r1 (i.1) :: .val r2 (i.2.1) :: .val r3 (i.2.2.1) :: .val r4 (i.2.2.2.1) :: .val r5 (i.2.2.2.2.1) :: .val r6 (i.2.2.2.2.2.1) :: .val r7 (i.2.2.2.2.2.2) :: Γu) T S hv (fun _ => hl.symm) (fun i => by rw [hu]; rfl) (fun X B D i c hp hD => body X B D (i.1) (i.2.1) (i.2.2.1) (i.2.2.2.1) (i.2.2.2.2.1) (i.2.2.2.2.2.1) (i.2.2.2.2.2.2) c hp hD)
abbrev SpI7 {α1 α2 α3 α4 α5 α6 α7 : Type} (C : Addr) (r1 : Rp α1) (r2 : Rp α2) (r3 : Rp α3) (r4 : Rp α4) (r5 : Rp α5) (r6 : Rp α6) (r7 : Rp α7) (pre : α1 → α2 → α3 → α4 → α5 → α6 → α7 → Prop) (names : List Str) (fl : α1 → α2 → α3 → α4 → α5 → α6 → α7 → Ctx) : Sp := SpI C (fun i : α1 × α2 × α3 × α4 × α5 × α6 × α7 => [.val r1 (i.1), .val r2 (i.2.1), .val r3 (i.2.2.1), .val r4 (i.2.2.2.1), .val r5 (i.2.2.2.2.1), .val r6 (i.2.2.2.2.2.1), .val r7 (i.2.2.2.2.2.2)]) (fun i => pre (i.1) (i.2.1) (i.2.2.1) (i.2.2.2.1) (i.2.2.2.2.1) (i.2.2.2.2.2.1) (i.2.2.2.2.2.2)) names (fun i => fl (i.1) (i.2.1) (i.2.2.1) (i.2.2.2.1) (i.2.2.2.2.1) (i.2.2.2.2.2.1) (i.2.2.2.2.2.2))
theorem fnI7 {α1 α2 α3 α4 α5 α6 α7 : Type} {r1 : Rp α1} {r2 : Rp α2} {r3 : Rp α3} {r4 : Rp α4} {r5 : Rp α5} {r6 : Rp α6} {r7 : Rp α7} {pre : α1 → α2 → α3 → α4 → α5 → α6 → α7 → Prop} {names : List Str} {fl : α1 → α2 → α3 → α4 → α5 → α6 → α7 → Ctx} (T : FTk K mg x q C st ps) (S : FnScope N ps (defScope st)) (hv : locB N (defScope st) vs = true) (Γu : Ctx) (hl : ps.length = 8 := by rfl) (hu : List.replicate (N.length - ps.length) .un = Γu := by rfl)
    (body : ∀ (X : Cx) (B : Bs) (D : Ends) (x1 : α1) (x2 : α2) (x3 : α3) (x4 : α4) (x5 : α5) (x6 : α6) (x7 : α7) (xd : Addr × Addr), XC P w K mg base k N (defScope st) vs vs X → pre x1 x2 x3 x4 x5 x6 x7 → (∀ σ H' Γ', EnvP B (.own (oObj C names (fl x1 x2 x3 x4 x5 x6 x7)) xd :: Γ') σ H' → D.nx σ H') → SD X B (.own (oObj C [] []) xd :: .val r1 x1 :: .val r2 x2 :: .val r3 x3 :: .val r4 x4 :: .val r5 x5 :: .val r6 x6 :: .val r7 x7 :: Γu) (defBody st) D) : FMk P w K mg base (k + 1) x C ps (SpI7 C r1 r2 r3 r4 r5 r6 r7 pre names fl) :=
  fnI (fun i xd => .own (oObj C [] []) xd :: .val r1 (i.1) :: .val r2 (i.2.1) :: .val r3 (i.2.2.1) :: .val r4 (i.2.2.2.1) :: .val r5 (i.2.2.2.2.1) :: .val r6 (i.2.2.2.2.2.1) :: .val r7 (i.2.2.2.2.2.2) :: Γu) T S hv (fun _ => hl.symm) (fun i xd => by rw [hu]; rfl) (fun X B D i xd c hp hD => body X B D (i.1) (i.2.1) (i.2.2.1) (i.2.2.2.1) (i.2.2.2.2.1) (i.2.2.2.2.2.1) (i.2.2.2.2.2.2) xd c hp hD)
theorem c_make7 (c : XC P w K mg base k N sc vs ls X) {α1 α2 α3 α4 α5 α6 α7 : Type} {r1 : Rp α1} {r2 : Rp α2} {r3 : Rp α3} {r4 : Rp α4} {r5 : Rp α5} {r6 : Rp α6} {r7 : Rp α7} {pre : α1 → α2 → α3 → α4 → α5 → α6 → α7 → Prop} {names : List Str} {fl : α1 → α2 → α3 → α4 → α5 → α6 → α7 → Ctx} {cls : β → Addr} {flds : β → Ctx} {e1 e2 e3 e4 e5 e6 e7 : Expr} {x1 : α1} {x2 : α2} {x3 : α3} {x4 : α4} {x5 : α5} {x6 : α6} {x7 : α7} (o : β) (h : FMk P w K mg base j x C ps (SpI7 C r1 r2 r3 r4 r5 r6 r7 pre names fl)) (h1 : DE X B Γ e1 r1 x1) (h2 : DE X B Γ e2 r2 x2) (h3 : DE X B Γ e3 r3 x3) (h4 : DE X B Γ e4 r4 x4) (h5 : DE X B Γ e5 r5 x5) (h6 : DE X B Γ e6 r6 x6) (h7 : DE X B Γ e7 r7 x7) (hp : pre x1 x2 x3 x4 x5 x6 x7) (hC : cls o = C := by rfl) (hf : flds o = fl x1 x2 x3 x4 x5 x6 x7 := by rfl) (hj : j + 1 ≤ k := by decide) (hg : glB sc x = true := by decide +kernel)
    (hdb : (x == ("__debug__" : Str)) = false := by decide) (s1 : starEach [e1, e2, e3, e4, e5, e6, e7] X.env = (false, eval e1 X.env) :: starEach [e2, e3, e4, e5, e6, e7] X.env := by rfl) (s2 : starEach [e2, e3, e4, e5, e6, e7] X.env = (false, eval e2 X.env) :: starEach [e3, e4, e5, e6, e7] X.env := by rfl) (s3 : starEach [e3, e4, e5, e6, e7] X.env = (false, eval e3 X.env) :: starEach [e4, e5, e6, e7] X.env := by rfl) (s4 : starEach [e4, e5, e6, e7] X.env = (false, eval e4 X.env) :: starEach [e5, e6, e7] X.env := by rfl) (s5 : starEach [e5, e6, e7] X.env = (false, eval e5 X.env) :: starEach [e6, e7] X.env := by rfl) (s6 : starEach [e6, e7] X.env = (false, eval e6 X.env) :: starEach [e7] X.env := by rfl) (s7 : starEach [e7] X.env = (false, eval e7 X.env) :: starEach [] X.env := by rfl) (hpl : (backTo pos (starEach [e2, e3, e4, e5, e6, e7] X.env)).any (·.1) = false := by rfl) :
    DE X B Γ (.Call (.Name x p) [e1, e2, e3, e4, e5, e6, e7] [] pos) (rObj cls names flds) o := c_make c (x1, x2, x3, x4, x5, x6, x7) h (da_cons h1 (da_cons h2 (da_cons h3 (da_cons h4 (da_cons h5 (da_cons h6 (da_cons h7 da_nil s7) s6) s5) s4) s3) s2) s1) hp hC hf hj hg hdb s1 hpl
theorem c_methF7 (c : XC P w K mg base k N sc vs ls X) {pl : Sem Bool} {α1 α2 α3 α4 α5 α6 α7 : Type} {cls : α1 → Addr} {names : List Str} {flds : α1 → Ctx} {r2 : Rp α2} {r3 : Rp α3} {r4 : Rp α4} {r5 : Rp α5} {r6 : Rp α6} {r7 : Rp α7} {pre : α1 → α2 → α3 → α4 → α5 → α6 → α7 → Prop} {rr : Rp ρ} {f : α1 → α2 → α3 → α4 → α5 → α6 → α7 → ρ} {e1 e2 e3 e4 e5 e6 e7 : Expr} {x1 : α1} {x2 : α2} {x3 : α3} {x4 : α4} {x5 : α5} {x6 : α6} {x7 : α7} (h : FMe P w K mg base j (cls x1) m ps (SpF7 (rObj cls names flds) r2 r3 r4 r5 r6 r7 pre rr f)) (h1 : DE X B Γ e1 (rObj cls names flds) x1) (h2 : DE X B Γ e2 r2 x2) (h3 : DE X B Γ e3 r3 x3) (h4 : DE X B Γ e4 r4 x4) (h5 : DE X B Γ e5 r5 x5) (h6 : DE X B Γ e6 r6 x6) (h7 : DE X B Γ e7 r7 x7) (hp : pre x1 x2 x3 x4 x5 x6 x7) (hj : j ≤ k := by decide) (hnm : names.contains m = false := by decide +kernel)
    (s2 : starEach [e2, e3, e4, e5, e6, e7] X.env = (false, eval e2 X.env) :: starEach [e3, e4, e5, e6, e7] X.env := by rfl) (s3 : starEach [e3, e4, e5, e6, e7] X.env = (false, eval e3 X.env) :: starEach [e4, e5, e6, e7] X.env := by rfl) (s4 : starEach [e4, e5, e6, e7] X.env = (false, eval e4 X.env) :: starEach [e5, e6, e7] X.env := by rfl) (s5 : starEach [e5, e6, e7] X.env = (false, eval e5 X.env) :: starEach [e6, e7] X.env := by rfl) (s6 : starEach [e6, e7] X.env = (false, eval e6 X.env) :: starEach [e7] X.env := by rfl) (s7 : starEach [e7] X.env = (false, eval e7 X.env) :: starEach [] X.env := by rfl) (hpl : (backTo pos (starEach [e3, e4, e5, e6, e7] X.env)).any (·.1) = false := by rfl)
    (ht : eval (.Call (.Attribute e1 m apos) [e2, e3, e4, e5, e6, e7] [] pos) X.env = (do
      let ov ← eval e1 X.env
      standAt apos.atName
      let (f, first) ← holding [ov] (getMethod ov m pl)
      callWith pos f first (backTo pos (starEach [e2, e3, e4, e5, e6, e7] X.env)) (backToKw pos (keywordEach [] X.env))) := by rfl) : DE X B Γ (.Call (.Attribute e1 m apos) [e2, e3, e4, e5, e6, e7] [] pos) rr (f x1 x2 x3 x4 x5 x6 x7) := c_meth c (x1, x2, x3, x4, x5, x6, x7) h h1 rfl (da_cons h2 (da_cons h3 (da_cons h4 (da_cons h5 (da_cons h6 (da_cons h7 da_nil s7) s6) s5) s4) s3) s2) hp hj hnm s2 hpl ht
end
end DL
namespace DL
open PySem L2 PySem.Spec PyProof.Rows
section
variable {P : Program} {w : World} {K : PySem.W.Frag} {mg : Str → Option Value} {base : Heap} {k j : Nat} {N : List Str} {sc : Scope} {vs ls : List Nat} {X : Cx} {α β γ ι ρ : Type} {B : Bs} {Γ Γ' : Ctx} {e a b tg iter : Expr} {es : List Expr} {D : Ends} {rest ss body : List Stmt} {p pos apos : Pos} {x y f m : Str}
/-- where no exception leaves -/
theorem po_never (h : X.xe = fun _ _ => False) : PassesOwn (model X.prog X.w) X.A X.env X.xe := by rw [h]; exact PassesOwn.never
theorem sd_le' {D0 : Ends} (k : SD X B Γ ss D0) (l : Le D0 D) : SD X B Γ ss D := sd_le l k
/-- for, as a fold -/
theorem sd_forF (hpo : PassesOwn (model X.prog X.w) X.A X.env X.xe) (hcalm : X.calm = true) {r : Rp α} {xs : List α} {Tgt : Ctx → α → Ctx → Prop} {js : List Nat} {S : Type} (Γs : S → Ctx) (fn : S → α → S) (s0 : S) {Γb : S → α → Ctx}
    (hi : DI X B Γ tg iter r xs) (hg : ∀ L, DG X (B.lo L) tg r Tgt js) (h0 : Cv Γ (Γs s0)) (ht : ∀ s x, Tgt (Γs s) x (Γb s x))
    (hb : ∀ L pre x post s, xs = pre ++ x :: post → s = pre.foldl fn s0 → SD X (B.lo L) (Γb s x) body { nx := EnvP (B.lo L) (Γs (fn s x)), ct := EnvP (B.lo L) (Γs (fn s x)), bk := fun _ _ => False, rt := D.rt })
    (hr : ∀ s, s = xs.foldl fn s0 → SD X B (Γs s) rest D) (hs : ∀ x, foldedSetIterable iter X.env x = pure x := by intro _; rfl) : SD X B Γ (.For tg iter body [] pos :: rest) D :=
  sd_for hpo hcalm Γs (fun pre _ s => s = pre.foldl fn s0) (fun _ => False) s0 hi hg (Env.cv h0) rfl ht
    (fun L pre x post s h1 h2 => sd_le' (hb L pre x post s h1 h2) (by
      have e : fn s x = (pre ++ [x]).foldl fn s0 := by rw [List.foldl_append, ← h2]; rfl
      exact ⟨fun σ H h => ⟨fn s x, e, h⟩, fun _ _ h => h, fun _ _ h => h.elim, fun σ H h => ⟨fn s x, e, h⟩⟩))
    (fun s h => h.elim (hr s) False.elim) hs
/-- for, by what is left: go (what is left) s is the end's answer -/
theorem sd_forR (hpo : PassesOwn (model X.prog X.w) X.A X.env X.xe) (hcalm : X.calm = true) {r : Rp α} {xs : List α} {Tgt : Ctx → α → Ctx → Prop} {js : List Nat} {S R : Type} (Γs : S → Ctx) (go : List α → S → R) (res : R) (s0 : S) {Γb : S → α → Ctx}
    (hi : DI X B Γ tg iter r xs) (hg : ∀ L, DG X (B.lo L) tg r Tgt js) (h0 : Cv Γ (Γs s0)) (i0 : go xs s0 = res) (ht : ∀ s x, Tgt (Γs s) x (Γb s x))
    (hb : ∀ L x post s, x ∈ xs → (∀ y ∈ post, y ∈ xs) → go (x :: post) s = res → SD X (B.lo L) (Γb s x) body { nx := fun σ H => ∃ s', go post s' = res ∧ EnvP (B.lo L) (Γs s') σ H, ct := fun σ H => ∃ s', go post s' = res ∧ EnvP (B.lo L) (Γs s') σ H, bk := fun _ _ => False, rt := D.rt })
    (hr : ∀ s, go [] s = res → SD X B (Γs s) rest D) (hs : ∀ x, foldedSetIterable iter X.env x = pure x := by intro _; rfl) : SD X B Γ (.For tg iter body [] pos :: rest) D :=
  sd_for hpo hcalm Γs (fun _ post s => go post s = res) (fun _ => False) s0 hi hg (Env.cv h0) i0 ht
    (fun L pre x post s h1 h2 => sd_le' (hb L x post s (by rw [h1]; simp) (fun y hy => by rw [h1]; simp [hy]) h2) ⟨fun σ H h => h, fun _ _ h => h, fun _ _ h => h.elim, fun σ H h => h⟩)
    (fun s h => h.elim (hr s) False.elim) hs
/-! ### values for slots -/
def Sto (F H F' H' : Hp) (v : V) : Sl → Prop
  | .un => True
  | .val r a => r.rel F' v a
  | .own o a => ∃ fi, o.rel F' H' v a fi ∧ ∀ b, fi b → F' b = none ∧ H b = none ∧ H' b ≠ none
theorem Env.sto {σ : L2.St} {F H F' H' : Hp} {i : Nat} {v : V} {s : Sl} (h : Env B Γ σ F H) (t : To Γ i s Γ') (e : Ext F H F' H') (hs : Sto F H F' H' v s) : Env B Γ' (σ.set i (some v)) F' H' := by
  cases s with
  | un =>
    obtain ⟨fp, x⟩ := h.ext e
    exact x.put t (fun _ z => z)
  | val r a => exact (h.ext e).put t hs
  | own o a =>
    obtain ⟨fi, h1, h2⟩ := hs
    exact h.putOwn t e h1 h2
def tV (B : Bs) (Γ : Ctx) (s : Sl) : TE := fun σ H Q => ∃ F, Env B Γ σ F H ∧ ∀ v F' H', Ext F H F' H' → Sto F H F' H' v s → Q v H'
abbrev VE (X : Cx) (B : Bs) (Γ : Ctx) (e : Expr) (s : Sl) : Prop := PE X e (tV B Γ s)
theorem ve_d {r : Rp α} {v : α} (h : DE X B Γ e r v) : VE X B Γ e (.val r v) := h
theorem ve_m {r : Rp α} {v : List α} (h : DM X B Γ e r v) : VE X B Γ e (.own (oList r) v) := pe_weak h fun σ H Q ⟨F, en, q⟩ => ⟨F, en, fun p us F' H' e1 h1 h2 h3 h4 => q (.ref p) F' H' e1 ⟨fun b => b = p, ⟨p, us, rfl, rfl, h3, h4⟩, fun b hb => by subst hb; exact ⟨h1, h2, by rw [h3]; intro z; cases z⟩⟩⟩
theorem ve_n {r : Rp α} {v : α} (h : DN X B Γ e r v) : VE X B Γ e (.own (oAll r) v) := pe_weak h fun σ H Q ⟨F, en, q⟩ => ⟨F, en, fun u G H' s1 s2 s3 h4 => q u F H' ⟨Same.refl F, s1, en.same.trans s1, fun b hf _ => hf⟩
    ⟨fun b => G b ≠ none, ⟨G, fun b u q => ⟨(by show G b ≠ none; rw [q]; intro z; cases z), s2 b u q⟩, h4⟩, fun b hb => ⟨en.same.free (s3 b hb), s3 b hb, by
      cases z : G b with
      | none => exact absurd z hb
      | some o => rw [s2 b o z]; intro z; cases z⟩⟩⟩
def setL (σ : L2.St) : List Nat → List V → L2.St
  | i :: is, v :: vs => setL (σ.set i (some v)) is vs
  | _, _ => σ
/-- values for slots is, from Γa (as stored so far) to Γb -/
def tVA (B : Bs) (Γ Γa : Ctx) (is : List Nat) (Γb : Ctx) : TA := fun σ H Q => ∃ F σa, Env B Γ σ F H ∧ Env B Γa σa F H ∧ ∀ vs F' H', Ext F H F' H' → Env B Γb (setL σa is vs) F' H' → vs.length = is.length → Q vs H'
abbrev VA (X : Cx) (B : Bs) (Γ Γa : Ctx) (es : List Expr) (is : List Nat) (Γb : Ctx) : Prop := PA X es (tVA B Γ Γa is Γb)
theorem va_nil {Γa : Ctx} : VA X B Γ Γa [] [] Γa := pa_weak pa_nil fun σ H Q ⟨F, σa, e, ea, k⟩ => k [] F H (Ext.refl e.same) ea rfl
theorem va_cons {Γa Γ1 Γb : Ctx} {i : Nat} {is : List Nat} {s : Sl} (h : VE X B Γ e s) (t : To Γa i s Γ1) (hr : VA X B Γ Γ1 es is Γb) (hs : starEach (e :: es) X.env = (false, eval e X.env) :: starEach es X.env := by rfl) : VA X B Γ Γa (e :: es) (i :: is) Γb :=
  pa_weak (pa_cons h hr hs) fun σ H Q ⟨F, σa, en, ea, k⟩ => ⟨F, en, fun u F1 H1 e1 h1 => ⟨F1, σa.set i (some u), en.ext e1, ea.sto t e1 h1, fun vs F2 H2 e2 en2 hl => k (u :: vs) F2 H2 (e1.trans e2) en2 (by simp [hl])⟩⟩
theorem sw_par2 {env : PySem.Env} {x y : Str} {px py pt pt2 : Pos} {kt k2 : Nat} {e1 e2 : Expr} (hk : env.scope.kind = .function) (hx : env.kindOf x = some .local) (hy : env.kindOf y = some .local) (hl : (py.line == px.line) = true) (hne : (y == x) = false)
    (h1 : (([e1, e2] : List Expr).any fun | .Starred .. => true | _ => false) = false) (h2 : ([e1, e2] : List Expr).all (foldedForSure 8) = false) (h3 : ([e1, e2] : List Expr).all (constantsAlone 8) = false) :
    swappedStores [.Tuple [.Name x px, .Name y py] kt pt] (.Tuple [e1, e2] k2 pt2) env = pure (some [x, y]) := by
  have hb : env.blockKind = .function := by unfold Env.blockKind; rw [hk]; rfl
  unfold swappedStores
  have e0 : (some NameKind.local == some NameKind.local) = true := by decide
  have hxl : (px.line == px.line) = true := by simp
  have he : ([x, y] : List Str).eraseDups = [x, y] := by
    simp [List.eraseDups, List.eraseDupsBy, List.eraseDupsBy.loop, hne]
  have hl' : py.line = px.line := by simpa using hl
  have h1' := h1
  have h2' := h2
  have h3' := h3
  simp only [List.any_cons, List.any_nil, Bool.or_false, Bool.or_eq_false_iff] at h1'
  simp [hb, hx, hy, hl', Expr.pos, he, List.filterMap_cons, h1'.1, h1'.2, -List.all_cons, h2, h3]
  intro hh
  exfalso
  rcases hh with h | h
  · have z := h1'.1
    cases e1 <;> first | exact Bool.noConfusion h | exact Bool.noConfusion z
  · have z := h1'.2
    cases e2 <;> first | exact Bool.noConfusion h | exact Bool.noConfusion z
/-- a, b = e1, e2 (two local names) -/
theorem c_par (c : XC P w K mg base k N sc vs ls X) (i j : Nat) {e1 e2 : Expr} {px py pt pt2 : Pos} {kt k2 : Nat} {Γb : Ctx} (h : VA X B Γ Γ [e1, e2] [i, j] Γb) (hr : SD X B Γb rest D) (hij : i ≠ j := by decide) (hN : N[i]? = some x := by rfl) (hN2 : N[j]? = some y := by rfl)
    (hx : (match sc.names.lookup x with | some .local => true | _ => false) = true := by decide +kernel) (hy : (match sc.names.lookup y with | some .local => true | _ => false) = true := by decide +kernel)
    (hline : (py.line == px.line) = true := by rfl) (hne : (y == x) = false := by decide +kernel)
    (w1 : (([e1, e2] : List Expr).any fun | .Starred .. => true | _ => false) = false := by rfl) (w2 : ([e1, e2] : List Expr).all (foldedForSure 8) = false := by rfl) (w3 : ([e1, e2] : List Expr).all (constantsAlone 8) = false := by rfl)
    (hs : swapsWithSole [.Tuple [.Name x px, .Name y py] kt pt] (.Tuple [e1, e2] k2 pt2) pos.line X.env = pure false := by rfl) :
    SD X B Γ (.Assign [.Tuple [.Name x px, .Name y py] kt pt] (.Tuple [e1, e2] k2 pt2) pos :: rest) D := by
  have hN' : X.N[i]? = some x := by rw [c.N]; exact hN
  have hN2' : X.N[j]? = some y := by rw [c.N]; exact hN2
  have lx : X.env.scope.names.lookup x = some .local := by
    rw [c.sc]
    split at hx
    · assumption
    · cases hx
  have ly : X.env.scope.names.lookup y = some .local := by
    rw [c.sc]
    split at hy
    · assumption
    · cases hy
  refine sd_cons (ps_par c.calm c.nd hN' hN2' hij lx ly h (sw_par2 c.kind lx ly hline hne w1 w2 w3) hs) (fun D' l σ H ⟨F, en⟩ => ⟨F, σ, en, en, fun vs F' H' e1 en1 hl => ?_⟩) hr
  match vs, hl with
  | [u, v], _ => exact ⟨u, v, rfl, l.nx _ _ ⟨F', en1⟩⟩
theorem sd_gen {Γf : α → Ctx} (v : α) (h : ∀ a, a = v → SD X B (Γf a) ss D) : SD X B (Γf v) ss D := h v rfl
/-- if whose test fails -/
theorem sd_ifF {z : Bool} {cnd : Expr} {bd : List Stmt} (hc : DT X B Γ cnd z) (hp : z = false) (h2 : SD X B Γ rest D) : SD X B Γ (.If cnd bd [] pos :: rest) D := by
  subst hp
  refine pss_weak (pss_cons (ps_if hc (pss_never (sts := bd)) pss_nil) h2) fun D' σ H ⟨hd, F, en⟩ => ?_
  refine ⟨F, en, fun F1 H1 e1 => ?_⟩
  show if false = true then _ else _
  rw [if_neg (by decide)]
  exact ⟨hd, F1, en.ext e1⟩
/-- (a, b) = a pair -/
theorem c_asgP (c : XC P w K mg base k N sc vs ls X) (i j : Nat) {p1 p2 p3 : Pos} {kk : Nat} {r : Rp α} {s : Rp β} {z : α × β} {Γ1 Γ2 : α × β → Ctx} (he : DE X B Γ e (rPair r s) z) (t1 : ∀ z : α × β, To Γ i (.val r z.1) (Γ1 z)) (t2 : ∀ z : α × β, To (Γ1 z) j (.val s z.2) (Γ2 z)) (hr : ∀ z', z' = z → SD X B (Γ2 z') rest D)
    (hN : N[i]? = some x := by rfl) (hl : ls.contains i = true := by rfl) (hN2 : N[j]? = some y := by rfl) (hl2 : ls.contains j = true := by rfl)
    (hs : swapsWithSole [.Tuple [.Name x p1, .Name y p2] kk p3] e pos.line X.env = pure false := by rfl) (hw : swappedStores [.Tuple [.Name x p1, .Name y p2] kk p3] e X.env = pure none := by rfl) :
    SD X B Γ (.Assign [.Tuple [.Name x p1, .Name y p2] kk p3] e pos :: rest) D :=
  sd_cons (ps_asg he (c_tpair (B := B) (r := r) (s := s) c i j hN hl hN2 hl2) hs hw) (fun D' l σ H ⟨F, en⟩ => ⟨F, en, fun u F1 H1 e1 h1 => ⟨Γ, z, Γ2 z, F1, en.ext e1, h1, ⟨Γ1 z, t1 z, t2 z⟩, fun σ' en' _ _ => l.nx _ _ ⟨F1, en'⟩⟩⟩) (hr z rfl)
end
end DL
namespace DL
open PySem L2 PySem.Spec PyProof.Rows
/-- an instance in the making, all within it new -/
def oObjN (C : Addr) (names : List Str) (sls : Ctx) : Own (Addr × Addr) :=
  ⟨fun F H v a fp => v = .ref a.1 ∧ fp a.1 ∧ ∃ (G : Hp) (fs : List (Str × V)), (∀ b u, G b = some u → fp b ∧ H b = some u) ∧ G a.1 = none ∧ H a.1 = some (.ins C a.2 fs) ∧ fs.map Prod.fst = names ∧ SlsOk G (fs.map Prod.snd) sls,
   fun {F F' H H' v a fp} e k ⟨h1, h2, G, fs, h3, h4, h5, h6, h7⟩ => ⟨h1, h2, G, fs, fun b u q => ⟨(h3 b u q).1, by rw [k b (h3 b u q).1]; exact (h3 b u q).2⟩, h4, by rw [k a.1 h2]; exact h5, h6, h7⟩⟩
def SpIN {ι : Type} (C : Addr) (args : ι → Ctx) (pre : ι → Prop) (names : List Str) (flds : ι → Ctx) : Sp := fun vs H Q _ => ∃ F i x dx us, vs = .ref x :: us ∧ Same F H ∧ F x = none ∧ H x = some (.ins C dx []) ∧ SlsOk F us (args i) ∧ pre i ∧
  ∀ (G H' : Hp) (fs : List (Str × V)), (∀ b o, b ≠ x → H b = some o → H' b = some o) → Same G H' → (∀ b, G b ≠ none → H b = none) → H' x = some (.ins C dx fs) → fs.map Prod.fst = names → SlsOk G (fs.map Prod.snd) (flds i) → Q .non H'
section
variable {P : Program} {w : World} {K : PySem.W.Frag} {mg : Str → Option Value} {base : Heap} {k j : Nat} {N : List Str} {sc : Scope} {vs ls : List Nat} {X : Cx} {α β γ ι ρ : Type} {B : Bs} {Γ Γ' : Ctx} {e a b : Expr} {es : List Expr} {D : Ends} {rest ss : List Stmt} {p pos apos : Pos} {x f m q : Str} {cls : α → Addr} {names : List Str} {flds : α → Ctx} {ps : List Str} {C : Addr} {st : Stmt} {args : ι → Ctx} {pre : ι → Prop}
/-- self.f = e, e all new -/
theorem c_setFN (c : XC P w K mg base k N sc vs ls X) (i : Nat) {sls : Ctx} {xd : Addr × Addr} {r : Rp β} {v : β} {p1 p2 : Pos} (h : At Γ i (.own (oObjN C names sls) xd)) (he : DN X B Γ e r v) (hc : Cls K C) (hn : NoAttr K C f)
    (t : To Γ i (.own (oObjN C (names ++ [f]) (sls ++ [.val r v])) xd) Γ') (hr : SD X B Γ' rest D) (hnm : names.contains f = false := by decide +kernel) (hz : decide (names.length < 1000) = true := by decide +kernel) (hN : N[i]? = some x := by rfl) (hv : vs.contains i = true := by rfl)
    (hd : (x == ("__debug__" : Str)) = false := by decide) (hcd : (x == ("__classdict__" : Str)) = false := by decide) (hs : swapsWith e (some (.Attribute (.Name x p1) f p2)) pos.line X.env = pure false := by rfl) :
    SD X B Γ (.Assign [.Attribute (.Name x p1) f p2] e pos :: rest) D := by
  have hN' : X.N[i]? = some x := by rw [c.N]; exact hN
  refine sd_cons (ps_fld (pe_var hN' (c.vis i x hN' hv) hd hcd) he hs) (fun D' l σ H ⟨F, en⟩ => ⟨F, en, fun u G1 H1 s1 s2 s3 h1 => ?_⟩) hr
  have ex : Ext F H F H1 := ⟨Same.refl F, s1, en.same.trans s1, fun b hf _ => hf⟩
  obtain ⟨fp, en0⟩ := en
  have en1 := en0.ext ex
  obtain ⟨⟨s, hs, rfl, hfp, G, fs, q3, q4, q5, q6, q7⟩, hown⟩ := en1.ok i _ h.get
  refine ⟨.ref xd.1, hs, xd.1, C, xd.2, fs, rfl, q5, by rw [c.K]; exact hc, by rw [c.K]; exact hn, by have := congrArg List.length q6; simp at this; rw [this]; exact of_decide_eq_true hz, l.nx _ _ ?_⟩
  have hx := hown xd.1 hfp
  have g1new : ∀ j b, fp j b → G1 b = none := fun j b z => by
    cases w : G1 b with
    | none => rfl
    | some o => exact absurd (s3 b (by rw [w]; intro z; cases z)) (en0.own_at z).2.1
  have gx : G1 xd.1 = none := g1new i xd.1 hfp
  refine ⟨F, _, en1.putG (fi := fun b => fp i b ∨ G1 b ≠ none) t rfl (fun j hj => rfl) ⟨en1.base.f, fun b o z => ?_, fun b o z => ?_, en1.base.d⟩ (fun b o z => ?_) (Same.refl F) (fun j b hj z => ?_) ?_ (fun j b hj z w => ?_)⟩
  · rw [upd_ne (ne_of_none z hx.2.2)]; exact en1.base.h b o z
  · rw [upd_ne (ne_of_none z hx.1)]; exact en1.same b o z
  · rw [upd_ne (ne_of_none z hx.1)]; exact en1.same b o z
  · have nb : b ≠ xd.1 := fun w => en1.apart j i hj b z (by rw [w]; exact hfp)
    exact ⟨by rw [upd_ne nb], (en1.own_at z).1⟩
  · refine ⟨⟨.ref xd.1, hs, rfl, .inl hfp, join G G1, putF f u fs, fun b o z => ?_, ?_, upd_same, ?_, ?_⟩, fun b hb => ?_⟩
    · have nb : b ≠ xd.1 := fun w => by
        rw [w] at z
        unfold join at z
        rw [gx, q4] at z
        cases z
      rw [upd_ne nb]
      unfold join at z
      cases w : G1 b with
      | none => rw [w] at z; exact ⟨.inl (q3 b o z).1, (q3 b o z).2⟩
      | some o' => rw [w] at z; cases z; exact ⟨.inr (by rw [w]; intro z; cases z), s2 b _ w⟩
    · unfold join; rw [gx]; exact q4
    · rw [putF_new q6 hnm, List.map_append, q6]; rfl
    · rw [putF_new q6 hnm, List.map_append]
      refine slsOk_app (SlsOk.mono (fun b o z => ?_) q7) ⟨r.mono (fun b o z => by unfold join; rw [z]) h1, trivial⟩
      unfold join
      rw [g1new i b (q3 b o z).1]
      exact z
    · have hb' : F b = none ∧ H1 b ≠ none ∧ B.H b = none := by
        rcases hb with hb | hb
        · exact hown b hb
        · have hH : H b = none := s3 b hb
          refine ⟨en0.same.free hH, ?_, en0.base.h.free hH⟩
          cases w : G1 b with
          | none => exact absurd w hb
          | some o => rw [s2 b o w]; intro z; cases z
      refine ⟨hb'.1, ?_, hb'.2.2⟩
      by_cases z : b = xd.1
      · rw [z, upd_same]; intro w; cases w
      · rw [upd_ne z]; exact hb'.2.1
  · rcases w with w | w
    · exact en1.apart j i hj b z w
    · exact w (g1new j b z)
theorem fnIN {fl : ι → Ctx} (Γ0 : ι → Addr × Addr → Ctx) (T : FTk K mg x q C st ps) (S : FnScope N ps (defScope st)) (hv : locB N (defScope st) vs = true) (hl : ∀ i, (args i).length + 1 = ps.length) (hΓ : ∀ i xd, .own (oObjN C [] []) xd :: args i ++ List.replicate (N.length - ps.length) .un = Γ0 i xd)
    (body : ∀ (X : Cx) (B : Bs) (D : Ends) (i : ι) (xd : Addr × Addr), XC P w K mg base k N (defScope st) vs vs X → pre i → (∀ σ H' Γ', EnvP B (.own (oObjN C names (fl i)) xd :: Γ') σ H' → D.nx σ H') → SD X B (Γ0 i xd) (defBody st) D) :
    FMk P w K mg base (k + 1) x C ps (SpIN C args pre names fl) := by
  obtain ⟨fa, fd, F, hm, hk, hb⟩ := T
  refine ⟨fa, fd, F.ok S (fun us H Q E ⟨F0, i, x, dx, us', e, _, _, _, h, _⟩ => by rw [e, List.length_cons, h.length, hl]) (fun cdv A outer s H us Q E hr ⟨F0, i, y, dy, us', e, s0, hy, hH, h, hp, kq⟩ => ?_), hm, hk, hb⟩
  subst e
  have hN : ps.length ≤ N.length := by have := congrArg List.length S.pre; rw [List.length_take] at this; omega
  let H0 : Hp := fun b => if b = y then none else H b
  have h0y : H0 y = none := if_pos rfl
  have h0 : ∀ b, b ≠ y → H0 b = H b := fun b hb => if_neg hb
  refine ⟨_, body _ ⟨F0, H0, F0⟩ { nx := fun _ H' => Q .non H', rt := Q } i (y, dy) (xc_of S hv hr) hp (fun σ H' Γ' ⟨F', fp, en⟩ => ?_), Le.refl _, F0, ?_⟩
  · obtain ⟨⟨v, _, _, hfp, G, fs, g0, g00, g1, g2, g3⟩, hown⟩ := en.ok 0 _ rfl
    refine kq G H' fs (fun b o hb z => en.base.h b o (by show H0 b = _; rw [h0 b hb]; exact z)) (fun b o z => (g0 b o z).2) (fun b hb => ?_) g1 g2 g3
    cases w : G b with
    | none => exact absurd w hb
    | some o =>
      have z := (hown b (g0 b o w).1).2.2
      have nb : b ≠ y := fun e => by rw [e] at w; rw [g00] at w; cases w
      have z' : H0 b = none := z
      rw [h0 b nb] at z'
      exact z'
  · have s00 : Same F0 H0 := fun b u z => by
      have hb : b ≠ y := fun w => by rw [w, hy] at z; cases z
      rw [h0 b hb]; exact s0 b u z
    obtain ⟨fp, en⟩ := env_start (N := N) (ps := ps) (us := .ref y :: us') (Δ := .val rAny () :: args i) (Γ0 := .val rAny () :: args i ++ List.replicate (N.length - ps.length) .un) (F := F0) (H := H0) s00 ⟨trivial, h⟩ (by rw [List.length_cons, hl]) hN rfl
    rw [← hΓ]
    have t : To (.val rAny () :: (args i ++ List.replicate (N.length - ps.length) .un)) 0 (.own (oObjN C [] []) (y, dy)) (.own (oObjN C [] []) (y, dy) :: (args i ++ List.replicate (N.length - ps.length) .un)) := .z
    have s0H : Same H0 H := fun b u z => by
      have hb : b ≠ y := fun w => by rw [w, h0y] at z; cases z
      rw [← h0 b hb]; exact z
    have hz : ∀ j b, fp j b → False := fun j b z => by
      cases q : (Sl.val rAny () :: args i ++ List.replicate (N.length - ps.length) Sl.un)[j]? with
      | none => exact en.out j q b z
      | some s =>
        have w := en.ok j s q
        cases s with
        | un => exact w b z
        | val r a => exact w.1 b z
        | own o a =>
          have hm := List.mem_of_getElem? q
          have : ∀ {us : List V} {Δ : Ctx}, SlsOk F0 us Δ → Sl.own o a ∉ Δ := fun {us Δ} h => by
            induction Δ generalizing us with
            | nil => simp
            | cons s Δ ih =>
              cases us with
              | nil => exact h.elim
              | cons v us =>
                intro z
                rcases List.mem_cons.mp z with z | z
                · subst z; exact h.1
                · exact ih h.2 z
          rcases List.mem_append.mp hm with hm | hm
          · rcases List.mem_cons.mp hm with hm | hm
            · cases hm
            · exact this h hm
          · have := List.eq_of_mem_replicate hm
            cases this
    refine ⟨_, en.putG (fi := fun b => b = y) t rfl (fun j hj => rfl) ⟨Same.refl F0, s0H, s0, fun b hb _ => hb⟩ s0 (Same.refl F0) (fun j b hj z => (hz j b z).elim) ?_ (fun j b hj z w => hz j b z)⟩
    have hs : (L2.start N (.ref y :: us'))[0]? = some (some (.ref y)) := by unfold L2.start; simp
    rw [hs]
    exact ⟨⟨_, rfl, rfl, rfl, fun _ => none, [], (fun b u z => by cases z), rfl, hH, rfl, trivial⟩, fun b hb => by subst hb; exact ⟨hy, (by rw [hH]; intro w; cases w), h0y⟩⟩
theorem c_makeN (c : XC P w K mg base k N sc vs ls X) {fl : ι → Ctx} {o : α} (i : ι) (h : FMk P w K mg base j x C ps (SpIN C args pre names fl)) (ha : DA X B Γ (a :: es) (args i)) (hp : pre i) (hC : cls o = C) (hf : flds o = fl i) (hj : j + 1 ≤ k := by decide) (hg : glB sc x = true := by decide +kernel)
    (hdb : (x == ("__debug__" : Str)) = false := by decide) (he : starEach (a :: es) X.env = (false, eval a X.env) :: starEach es X.env := by rfl) (hpl : (backTo pos (starEach es X.env)).any (·.1) = false := by rfl) :
    DN X B Γ (.Call (.Name x p) (a :: es) [] pos) (rObj cls names flds) o := by
  obtain ⟨fa, fd, G, h1, h2, h3⟩ := h
  have G' : FnOk X.prog X.w X.K X.mg X.base CX0 j fa fd ps (SpIN C args pre names fl) := by rw [c.p, c.w, c.K, c.mg, c.b]; exact G
  refine pe_weak (pe_make (by rw [c.K]; exact h2) G' (c.room.mono hj) (gl_of c.sc hg) (by rw [c.mg]; exact h1) (by rw [c.K]; exact h3) .nil pass0 ha hdb he hpl) fun σ H Q ⟨F, en, q⟩ => ⟨F, en, fun us F1 H1 e1 h5 => ?_⟩
  intro y dy n1 n2 ne
  rw [List.append_nil]
  have s1 : Same H1 (upd (upd H1 dy (.own y)) y (.ins C dy [])) := fun b u z => by rw [upd_ne (ne_of_none z n1), upd_ne (ne_of_none z n2)]; exact z
  have f1 : F1 y = none := e1.i.free n1
  refine ⟨F1, i, y, dy, us, rfl, e1.i.trans s1, f1, upd_same, h5, hp, fun G H' fs g2 g3 g5 g6 g7 g8 => ⟨rfl, ?_⟩⟩
  have gy : G y = none := by
    cases w : G y with
    | none => rfl
    | some o =>
      have z := g5 y (by rw [w]; intro z; cases z)
      rw [upd_same] at z
      cases z
  have g2' : Same H1 H' := fun b u z => g2 b u (ne_of_none z n1) (s1 b u z)
  refine q (.ref y) (upd G y (.ins C dy fs)) H' (e1.h.trans g2') (same_upd g3 g6) (fun b hb => ?_) ⟨y, dy, fs, rfl, by rw [hC]; exact upd_same, g7, by rw [hf]; exact SlsOk.mono (same_new gy) g8⟩
  by_cases hby : b = y
  · rw [hby]; exact e1.h.free n1
  · rw [upd_ne hby] at hb
    exact e1.h.free (s1.free (g5 b hb))
end
end DL
namespace DL
open PySem L2 PySem.Spec PyProof.Rows
section
variable {P : Program} {w : World} {K : PySem.W.Frag} {mg : Str → Option Value} {base : Heap} {k j : Nat} {N : List Str} {sc : Scope} {vs ls : List Nat} {X : Cx} {β ρ : Type} {B : Bs} {Γ Γ' : Ctx} {D : Ends} {rest ss : List Stmt} {p pos apos : Pos} {x q f m : Str} {ps : List Str} {st : Stmt} {C : Addr}
abbrev SpIN1 {α1 : Type} (C : Addr) (r1 : Rp α1) (pre : α1 → Prop) (names : List Str) (fl : α1 → Ctx) : Sp := SpIN C (fun i : α1 => [.val r1 i]) (fun i => pre (i)) names (fun i => fl (i))
theorem fnIN1 {α1 : Type} {r1 : Rp α1} {pre : α1 → Prop} {names : List Str} {fl : α1 → Ctx} (T : FTk K mg x q C st ps) (S : FnScope N ps (defScope st)) (hv : locB N (defScope st) vs = true) (Γu : Ctx) (hl : ps.length = 2 := by rfl) (hu : List.replicate (N.length - ps.length) .un = Γu := by rfl)
    (body : ∀ (X : Cx) (B : Bs) (D : Ends) (x1 : α1) (xd : Addr × Addr), XC P w K mg base k N (defScope st) vs vs X → pre x1 → (∀ σ H' Γ', EnvP B (.own (oObjN C names (fl x1)) xd :: Γ') σ H' → D.nx σ H') → SD X B (.own (oObjN C [] []) xd :: .val r1 x1 :: Γu) (defBody st) D) : FMk P w K mg base (k + 1) x C ps (SpIN1 C r1 pre names fl) :=
  fnIN (fun i xd => .own (oObjN C [] []) xd :: .val r1 i :: Γu) T S hv (fun _ => hl.symm) (fun i xd => by rw [hu]; rfl) (fun X B D i xd c hp hD => body X B D (i) xd c hp hD)
theorem c_makeN1 (c : XC P w K mg base k N sc vs ls X) {α1 : Type} {r1 : Rp α1} {pre : α1 → Prop} {names : List Str} {fl : α1 → Ctx} {cls : β → Addr} {flds : β → Ctx} {e1 : Expr} {x1 : α1} (o : β) (h : FMk P w K mg base j x C ps (SpIN1 C r1 pre names fl)) (h1 : DE X B Γ e1 r1 x1) (hp : pre x1) (hC : cls o = C := by rfl) (hf : flds o = fl x1 := by rfl) (hj : j + 1 ≤ k := by decide) (hg : glB sc x = true := by decide +kernel)
    (hdb : (x == ("__debug__" : Str)) = false := by decide) (s1 : starEach [e1] X.env = (false, eval e1 X.env) :: starEach [] X.env := by rfl) (hpl : (backTo pos (starEach [] X.env)).any (·.1) = false := by rfl) :
    DN X B Γ (.Call (.Name x p) [e1] [] pos) (rObj cls names flds) o := c_makeN c x1 h (da_cons h1 da_nil s1) hp hC hf hj hg hdb s1 hpl
abbrev SpIN2 {α1 α2 : Type} (C : Addr) (r1 : Rp α1) (r2 : Rp α2) (pre : α1 → α2 → Prop) (names : List Str) (fl : α1 → α2 → Ctx) : Sp := SpIN C (fun i : α1 × α2 => [.val r1 (i.1), .val r2 (i.2)]) (fun i => pre (i.1) (i.2)) names (fun i => fl (i.1) (i.2))
theorem fnIN2 {α1 α2 : Type} {r1 : Rp α1} {r2 : Rp α2} {pre : α1 → α2 → Prop} {names : List Str} {fl : α1 → α2 → Ctx} (T : FTk K mg x q C st ps) (S : FnScope N ps (defScope st)) (hv : locB N (defScope st) vs = true) (Γu : Ctx) (hl : ps.length = 3 := by rfl) (hu : List.replicate (N.length - ps.length) .un = Γu := by rfl)
    (body : ∀ (X : Cx) (B : Bs) (D : Ends) (x1 : α1) (x2 : α2) (xd : Addr × Addr), XC P w K mg base k N (defScope st) vs vs X → pre x1 x2 → (∀ σ H' Γ', EnvP B (.own (oObjN C names (fl x1 x2)) xd :: Γ') σ H' → D.nx σ H') → SD X B (.own (oObjN C [] []) xd :: .val r1 x1 :: .val r2 x2 :: Γu) (defBody st) D) : FMk P w K mg base (k + 1) x C ps (SpIN2 C r1 r2 pre names fl) :=
  fnIN (fun i xd => .own (oObjN C [] []) xd :: .val r1 (i.1) :: .val r2 (i.2) :: Γu) T S hv (fun _ => hl.symm) (fun i xd => by rw [hu]; rfl) (fun X B D i xd c hp hD => body X B D (i.1) (i.2) xd c hp hD)
theorem c_makeN2 (c : XC P w K mg base k N sc vs ls X) {α1 α2 : Type} {r1 : Rp α1} {r2 : Rp α2} {pre : α1 → α2 → Prop} {names : List Str} {fl : α1 → α2 → Ctx} {cls : β → Addr} {flds : β → Ctx} {e1 e2 : Expr} {x1 : α1} {x2 : α2} (o : β) (h : FMk P w K mg base j x C ps (SpIN2 C r1 r2 pre names fl)) (h1 : DE X B Γ e1 r1 x1) (h2 : DE X B Γ e2 r2 x2) (hp : pre x1 x2) (hC : cls o = C := by rfl) (hf : flds o = fl x1 x2 := by rfl) (hj : j + 1 ≤ k := by decide) (hg : glB sc x = true := by decide +kernel)
    (hdb : (x == ("__debug__" : Str)) = false := by decide) (s1 : starEach [e1, e2] X.env = (false, eval e1 X.env) :: starEach [e2] X.env := by rfl) (s2 : starEach [e2] X.env = (false, eval e2 X.env) :: starEach [] X.env := by rfl) (hpl : (backTo pos (starEach [e2] X.env)).any (·.1) = false := by rfl) :
    DN X B Γ (.Call (.Name x p) [e1, e2] [] pos) (rObj cls names flds) o := c_makeN c (x1, x2) h (da_cons h1 (da_cons h2 da_nil s2) s1) hp hC hf hj hg hdb s1 hpl
abbrev SpIN3 {α1 α2 α3 : Type} (C : Addr) (r1 : Rp α1) (r2 : Rp α2) (r3 : Rp α3) (pre : α1 → α2 → α3 → Prop) (names : List Str) (fl : α1 → α2 → α3 → Ctx) : Sp := SpIN C (fun i : α1 × α2 × α3 => [.val r1 (i.1), .val r2 (i.2.1), .val r3 (i.2.2)]) (fun i => pre (i.1) (i.2.1) (i.2.2)) names (fun i => fl (i.1) (i.2.1) (i.2.2))
theorem fnIN3 {α1 α2 α3 : Type} {r1 : Rp α1} {r2 : Rp α2} {r3 : Rp α3} {pre : α1 → α2 → α3 → Prop} {names : List Str} {fl : α1 → α2 → α3 → Ctx} (T : FTk K mg x q C st ps) (S : FnScope N ps (defScope st)) (hv : locB N (defScope st) vs = true) (Γu : Ctx) (hl : ps.length = 4 := by rfl) (hu : List.replicate (N.length - ps.length) .un = Γu := by rfl)
    (body : ∀ (X : Cx) (B : Bs) (D : Ends) (x1 : α1) (x2 : α2) (x3 : α3) (xd : Addr × Addr), XC P w K mg base k N (defScope st) vs vs X → pre x1 x2 x3 → (∀ σ H' Γ', EnvP B (.own (oObjN C names (fl x1 x2 x3)) xd :: Γ') σ H' → D.nx σ H') → SD X B (.own (oObjN C [] []) xd :: .val r1 x1 :: .val r2 x2 :: .val r3 x3 :: Γu) (defBody st) D) : FMk P w K mg base (k + 1) x C ps (SpIN3 C r1 r2 r3 pre names fl) :=
  fnIN (fun i xd => .own (oObjN C [] []) xd :: .val r1 (i.1) :: .val r2 (i.2.1) :: .val r3 (i.2.2) :: Γu) T S hv (fun _ => hl.symm) (fun i xd => by rw [hu]; rfl) (fun X B D i xd c hp hD => body X B D (i.1) (i.2.1) (i.2.2) xd c hp hD)
theorem c_makeN3 (c : XC P w K mg base k N sc vs ls X) {α1 α2 α3 : Type} {r1 : Rp α1} {r2 : Rp α2} {r3 : Rp α3} {pre : α1 → α2 → α3 → Prop} {names : List Str} {fl : α1 → α2 → α3 → Ctx} {cls : β → Addr} {flds : β → Ctx} {e1 e2 e3 : Expr} {x1 : α1} {x2 : α2} {x3 : α3} (o : β) (h : FMk P w K mg base j x C ps (SpIN3 C r1 r2 r3 pre names fl)) (h1 : DE X B Γ e1 r1 x1) (h2 : DE X B Γ e2 r2 x2) (h3 : DE X B Γ e3 r3 x3) (hp : pre x1 x2 x3) (hC : cls o = C := by rfl) (hf : flds o = fl x1 x2 x3 := by rfl) (hj : j + 1 ≤ k := by decide) (hg : glB sc x = true := by decide +kernel)
    (hdb : (x == ("__debug__" : Str)) = false := by decide) (s1 : starEach [e1, e2, e3] X.env = (false, eval e1 X.env) :: starEach [e2, e3] X.env := by rfl) (s2 : starEach [e2, e3] X.env = (false, eval e2 X.env) :: starEach [e3] X.env := by rfl) (s3 : starEach [e3] X.env = (false, eval e3 X.env) :: starEach [] X.env := by rfl) (hpl : (backTo pos (starEach [e2, e3] X.env)).any (·.1) = false := by rfl) :
    DN X B Γ (.Call (.Name x p) [e1, e2, e3] [] pos) (rObj cls names flds) o := c_makeN c (x1, x2, x3) h (da_cons h1 (da_cons h2 (da_cons h3 da_nil s3) s2) s1) hp hC hf hj hg hdb s1 hpl
abbrev SpIN4 {α1 α2 α3 α4 : Type} (C : Addr) (r1 : Rp α1) (r2 : Rp α2) (r3 : Rp α3) (r4 : Rp α4) (pre : α1 → α2 → α3 → α4 → Prop) (names : List Str) (fl : α1 → α2 → α3 → α4 → Ctx) : Sp := SpIN C (fun i : α1 × α2 × α3 × α4 => [.val r1 (i.1), .val r2 (i.2.1), .val r3 (i.2.2.1), .val r4 (i.2.2.2)]) (fun i => pre (i.1) (i.2.1) (i.2.2.1) (i.2.2.2)) names (fun i => fl (i.1) (i.2.1) (i.2.2.1) (i.2.2.2))
theorem fnIN4 {α1 α2 α3 α4 : Type} {r1 : Rp α1} {r2 : Rp α2} {r3 : Rp α3} {r4 : Rp α4} {pre : α1 → α2 → α3 → α4 → Prop} {names : List Str} {fl : α1 → α2 → α3 → α4 → Ctx} (T : FTk K mg x q C st ps) (S : FnScope N ps (defScope st)) (hv : locB N (defScope st) vs = true) (Γu : Ctx) (hl : ps.length = 5 := by rfl) (hu : List.replicate (N.length - ps.length) .un = Γu := by rfl)
    (body : ∀ (X : Cx) (B : Bs) (D : Ends) (x1 : α1) (x2 : α2) (x3 : α3) (x4 : α4) (xd : Addr × Addr), XC P w K mg base k N (defScope st) vs vs X → pre x1 x2 x3 x4 → (∀ σ H' Γ', EnvP B (.own (oObjN C names (fl x1 x2 x3 x4)) xd :: Γ') σ H' → D.nx σ H') → SD X B (.own (oObjN C [] []) xd :: .val r1 x1 :: .val r2 x2 :: .val r3 x3 :: .val r4 x4 :: Γu) (defBody st) D) : FMk P w K mg base (k + 1) x C ps (SpIN4 C r1 r2 r3 r4 pre names fl) :=
  fnIN (fun i xd => .own (oObjN C [] []) xd :: .val r1 (i.1) :: .val r2 (i.2.1) :: .val r3 (i.2.2.1) :: .val r4 (i.2.2.2) :: Γu) T S hv (fun _ => hl.symm) (fun i xd => by rw [hu]; rfl) (fun X B D i xd c hp hD => body X B D (i.1) (i.2.1) (i.2.2.1) (i.2.2.2) xd c hp hD)
theorem c_makeN4 (c : XC P w K mg base k N sc vs ls X) {α1 α2 α3 α4 : Type} {r1 : Rp α1} {r2 : Rp α2} {r3 : Rp α3} {r4 : Rp α4} {pre : α1 → α2 → α3 → α4 → Prop} {names : List Str} {fl : α1 → α2 → α3 → α4 → Ctx} {cls : β → Addr} {flds : β → Ctx} {e1 e2 e3 e4 : Expr} {x1 : α1} {x2 : α2} {x3 : α3} {x4 : α4} (o : β) (h : FMk P w K mg base j x C ps (SpIN4 C r1 r2 r3 r4 pre names fl)) (h1 : DE X B Γ e1 r1 x1) (h2 : DE X B Γ e2 r2 x2) (h3 : DE X B Γ e3 r3 x3) (h4 : DE X B Γ e4 r4 x4) (hp : pre x1 x2 x3 x4) (hC : cls o = C := by rfl) (hf : flds o = fl x1 x2 x3 x4 := by rfl) (hj : j + 1 ≤ k := by decide) (hg : glB sc x = true := by decide +kernel)
    (hdb : (x == ("__debug__" : Str)) = false := by decide) (s1 : starEach [e1, e2, e3, e4] X.env = (false, eval e1 X.env) :: starEach [e2, e3, e4] X.env := by rfl) (s2 : starEach [e2, e3, e4] X.env = (false, eval e2 X.env) :: starEach [e3, e4] X.env := by rfl) (s3 : starEach [e3, e4] X.env = (false, eval e3 X.env) :: starEach [e4] X.env := by rfl) (s4 : starEach [e4] X.env = (false, eval e4 X.env) :: starEach [] X.env := by rfl) (hpl : (backTo pos (starEach [e2, e3, e4] X.env)).any (·.1) = false := by rfl) :
    DN X B Γ (.Call (.Name x p) [e1, e2, e3, e4] [] pos) (rObj cls names flds) o := c_makeN c (x1, x2, x3, x4) h (da_cons h1 (da_cons h2 (da_cons h3 (da_cons h4 da_nil s4) s3) s2) s1) hp hC hf hj hg hdb s1 hpl
abbrev SpIN5 {α1 α2 α3 α4 α5 : Type} (C : Addr) (r1 : Rp α1) (r2 : Rp α2) (r3 : Rp α3) (r4 : Rp α4) (r5 : Rp α5) (pre : α1 → α2 → α3 → α4 → α5 → Prop) (names : List Str) (fl : α1 → α2 → α3 → α4 → α5 → Ctx) : Sp := SpIN C (fun i : α1 × α2 × α3 × α4 × α5 => [.val r1 (i.1), .val r2 (i.2.1), .val r3 (i.2.2.1), .val r4 (i.2.2.2.1), .val r5 (i.2.2.2.2)]) (fun i => pre (i.1) (i.2.1) (i.2.2.1) (i.2.2.2.1) (i.2.2.2.2)) names (fun i => fl (i.1) (i.2.1) (i.2.2.1) (i.2.2.2.1) (i.2.2.2.2))
theorem fnIN5 {α1 α2 α3 α4 α5 : Type} {r1 : Rp α1} {r2 : Rp α2} {r3 : Rp α3} {r4 : Rp α4} {r5 : Rp α5} {pre : α1 → α2 → α3 → α4 → α5 → Prop} {names : List Str} {fl : α1 → α2 → α3 → α4 → α5 → Ctx} (T : FTk K mg x q C st ps) (S : FnScope N ps (defScope st)) (hv : locB N (defScope st) vs = true) (Γu : Ctx) (hl : ps.length = 6 := by rfl) (hu : List.replicate (N.length - ps.length) .un = Γu := by rfl)
    (body : ∀ (X : Cx) (B : Bs) (D : Ends) (x1 : α1) (x2 : α2) (x3 : α3) (x4 : α4) (x5 : α5) (xd : Addr × Addr), XC P w K mg base k N (defScope st) vs vs X → pre x1 x2 x3 x4 x5 → (∀ σ H' Γ', EnvP B (.own (oObjN C names (fl x1 x2 x3 x4 x5)) xd :: Γ') σ H' → D.nx σ H') → SD X B (.own (oObjN C [] []) xd :: .val r1 x1 :: .val r2 x2 :: .val r3 x3 :: .val r4 x4 :: .val r5 x5 :: Γu) (defBody st) D) : FMk P w K mg base (k + 1) x C ps (SpIN5 C r1 r2 r3 r4 r5 pre names fl) :=
  fnIN (fun i xd => .own (oObjN C [] []) xd :: .val r1 (i.1) :: .val r2 (i.2.1) :: .val r3 (i.2.2.1) :: .val r4 (i.2.2.2.1) :: .val r5 (i.2.2.2.2) :: Γu) T S hv (fun _ => hl.symm) (fun i xd => by rw [hu]; rfl) (fun X B D i xd c hp hD => body X B D (i.1) (i.2.1) (i.2.2.1) (i.2.2.2.1) (i.2.2.2.2) xd c hp hD)
theorem c_makeN5 (c : XC P w K mg base k N sc vs ls X) {α1 α2 α3 α4 α5 : Type} {r1 : Rp α1} {r2 : Rp α2} {r3 : Rp α3} {r4 : Rp α4} {r5 : Rp α5} {pre : α1 → α2 → α3 → α4 → α5 → Prop} {names : List Str} {fl : α1 → α2 → α3 → α4 → α5 → Ctx} {cls : β → Addr} {flds : β → Ctx} {e1 e2 e3 e4 e5 : Expr} {x1 : α1} {x2 : α2} {x3 : α3} {x4 : α4} {x5 : α5} (o : β) (h : FMk P w K mg base j x C ps (SpIN5 C r1 r2 r3 r4 r5 pre names fl)) (h1 : DE X B Γ e1 r1 x1) (h2 : DE X B Γ e2 r2 x2) (h3 : DE X B Γ e3 r3 x3) (h4 : DE X B Γ e4 r4 x4) (h5 : DE X B Γ e5 r5 x5) (hp : pre x1 x2 x3 x4 x5) (hC : cls o = C := by rfl) (hf : flds o = fl x1 x2 x3 x4 x5 := by rfl) (hj : j + 1 ≤ k := by decide) (hg : glB sc x = true := by decide +kernel)
    (hdb : (x == ("__debug__" : Str)) = false := by decide) (s1 : starEach [e1, e2, e3, e4, e5] X.env = (false, eval e1 X.env) :: starEach [e2, e3, e4, e5] X.env := by rfl) (s2 : starEach [e2, e3, e4, e5] X.env = (false, eval e2 X.env) :: starEach [e3, e4, e5] X.env := by rfl) (s3 : starEach [e3, e4, e5] X.env = (false, eval e3 X.env) :: starEach [e4, e5] X.env := by rfl) (s4 : starEach [e4, e5] X.env = (false, eval e4 X.env) :: starEach [e5] X.env := by rfl) (s5 : starEach [e5] X.env = (false, eval e5 X.env) :: starEach [] X.env := by rfl) (hpl : (backTo pos (starEach [e2, e3, e4, e5] X.env)).any (·.1) = false := by rfl) :
    DN X B Γ (.Call (.Name x p) [e1, e2, e3, e4, e5] [] pos) (rObj cls names flds) o := c_makeN c (x1, x2, x3, x4, x5) h (da_cons h1 (da_cons h2 (da_cons h3 (da_cons h4 (da_cons h5 da_nil s5) s4) s3) s2) s1) hp hC hf hj hg hdb s1 hpl
abbrev SpIN6 {α1 α2 α3 α4 α5 α6 : Type} (C : Addr) (r1 : Rp α1) (r2 : Rp α2) (r3 : Rp α3) (r4 : Rp α4) (r5 : Rp α5) (r6 : Rp α6) (pre : α1 → α2 → α3 → α4 → α5 → α6 → Prop) (names : List Str) (fl : α1 → α2 → α3 → α4 → α5 → α6 → Ctx) : Sp := SpIN C (fun i : α1 × α2 × α3 × α4 × α5 × α6 => [.val r1 (i.1), .val r2 (i.2.1), .val r3 (i.2.2.1), .val r4 (i.2.2.2.1), .val r5 (i.2.2.2.2.1), .val r6 (i.2.2.2.2.2)]) (fun i => pre (i.1) (i.2.1) (i.2.2.1) (i.2.2.2.1) (i.2.2.2.2.1) (i.2.2.2.2.2)) names (fun i => fl (i.1) (i.2.1) (i.2.2.1) (i.2.2.2.1) (i.2.2.2.2.1) (i.2.2.2.2.2))
theorem fnIN6 {α1 α2 α3 α4 α5 α6 : Type} {r1 : Rp α1} {r2 : Rp α2} {r3 : Rp α3} {r4 : Rp α4} {r5 : Rp α5} {r6 : Rp α6} {pre : α1 → α2 → α3 → α4 → α5 → α6 → Prop} {names : List Str} {fl : α1 → α2 → α3 → α4 → α5 → α6 → Ctx} (T : FTk K mg x q C st ps) (S : FnScope N ps (defScope st)) (hv : locB N (defScope st) vs = true) (Γu : Ctx) (hl : ps.length = 7 := by rfl) (hu : List.replicate (N.length - ps.length) .un = Γu := by rfl)
    (body : ∀ (X : Cx) (B : Bs) (D : Ends) (x1 : α1) (x2 : α2) (x3 : α3) (x4 : α4) (x5 : α5) (x6 : α6) (xd : Addr × Addr), XC P w K mg base k N (defScope st) vs vs X → pre x1 x2 x3 x4 x5 x6 → (∀ σ H' Γ', EnvP B (.own (oObjN C names (fl x1 x2 x3 x4 x5 x6)) xd :: Γ') σ H' → D.nx σ H') → SD X B (.own (oObjN C [] []) xd :: .val r1 x1 :: .val r2 x2 :: .val r3 x3 :: .val r4 x4 :: .val r5 x5 :: .val r6 x6 :: Γu) (defBody st) D) : FMk P w K mg base (k + 1) x C ps (SpIN6 C r1 r2 r3 r4 r5 r6 pre names fl) :=
  fnIN (fun i xd => .own (oObjN C [] []) xd :: .val r1 (i.1) :: .val r2 (i.2.1) :: .val r3 (i.2.2.1) :: .val r4 (i.2.2.2.1) :: .val r5 (i.2.2.2.2.1) :: .val r6 (i.2.2.2.2.2) :: Γu) T S hv (fun _ => hl.symm) (fun i xd => by rw [hu]; rfl) (fun X B D i xd c hp hD => body X B D (i.1) (i.2.1) (i.2.2.1) (i.2.2.2.1) (i.2.2.2.2.1) (i.2.2.2.2.2) xd c hp hD)
theorem c_makeN6 (c : XC P w K mg base k N sc vs ls X) {α1 α2 α3 α4 α5 α6 : Type} {r1 : Rp α1} {r2 : Rp α2} {r3 : Rp α3} {r4 : Rp α4} {r5 : Rp α5} {r6 : Rp α6} {pre : α1 → α2 → α3 → α4 → α5 → α6 → Prop} {names : List Str} {fl : α1 → α2 → α3 → α4 → α5 → α6 → Ctx} {cls : β → Addr} {flds : β → Ctx} {e1 e2 e3 e4 e5 e6 : Expr} {x1 : α1} {x2 : α2} {x3 : α3} {x4 : α4} {x5 : α5} {x6 : α6} (o : β) (h : FMk P w K mg base j x C ps (SpIN6 C r1 r2 r3 r4 r5 r6 pre names fl)) (h1 : DE X B Γ e1 r1 x1) (h2 : DE X B Γ e2 r2 x2) (h3 : DE X B Γ e3 r3 x3) (h4 : DE X B Γ e4 r4 x4) (h5 : DE X B Γ e5 r5 x5) (h6 : DE X B Γ e6 r6 x6) (hp : pre x1 x2 x3 x4 x5 x6) (hC : cls o = C := by rfl) (hf : flds o = fl x1 x2 x3 x4 x5 x6 := by rfl) (hj : j + 1 ≤ k := by decide) (hg : glB sc x = true := by decide +kernel)
    (hdb : (x == ("__debug__" : Str)) = false := by decide) (s1 : starEach [e1, e2, e3, e4, e5, e6] X.env = (false, eval e1 X.env) :: starEach [e2, e3, e4, e5, e6] X.env := by rfl) (s2 : starEach [e2, e3, e4, e5, e6] X.env = (false, eval e2 X.env) :: starEach [e3, e4, e5, e6] X.env := by rfl) (s3 : starEach [e3, e4, e5, e6] X.env = (false, eval e3 X.env) :: starEach [e4, e5, e6] X.env := by rfl) (s4 : starEach [e4, e5, e6] X.env = (false, eval e4 X.env) :: starEach [e5, e6] X.env := by rfl) (s5 : starEach [e5, e6] X.env = (false, eval e5 X.env) :: starEach [e6] X.env := by rfl) (s6 : starEach [e6] X.env = (false, eval e6 X.env) :: starEach [] X.env := by rfl) (hpl : (backTo pos (starEach [e2, e3, e4, e5, e6] X.env)).any (·.1) = false := by rfl) :
    DN X B Γ (.Call (.Name x p) [e1, e2, e3, e4, e5, e6] [] pos) (rObj cls names flds) o := c_makeN c (x1, x2, x3, x4, x5, x6) h (da_cons h1 (da_cons h2 (da_cons h3 (da_cons h4 (da_cons h5 (da_cons h6 da_nil s6) s5) s4) s3) s2) s1) hp hC hf hj hg hdb s1 hpl
abbrev SpIN7 {α1 α2 α3 α4 α5 α6 α7 : Type} (C : Addr) (r1 : Rp α1) (r2 : Rp α2) (r3 : Rp α3) (r4 : Rp α4) (r5 : Rp α5) (r6 : Rp α6) (r7 : Rp α7) (pre : α1 → α2 → α3 → α4 → α5 → α6 → α7 → Prop) (names : List Str) (fl : α1 → α2 → α3 → α4 → α5 → α6 → α7 → Ctx) : Sp := SpIN C (fun i : α1 × α2 × α3 × α4 × α5 × α6 × α7 => [.val r1 (i.1), .val r2 (i.2.1), .val r3 (i.2.2.1), .val r4 (i.2.2.2.1), .val r5 (i.2.2.2.2.1), .val r6 (i.2.2.2.2.2.1), .val r7 (i.2.2.2.2.2.2)]) (fun i => pre (i.1) (i.2.1) (i.2.2.1) (i.2.2.2.1) (i.2.2.2.2.1) (i.2.2.2.2.2.1) (i.2.2.2.2.2.2)) names (fun i => fl (i.1) (i.2.1) (i.2.2.1) (i.2.2.2.1) (i.2.2.2.2.1) (i.2.2.2.2.2.1) (i.2.2.2.2.2.2))
theorem fnIN7 {α1 α2 α3 α4 α5 α6 α7 : Type} {r1 : Rp α1} {r2 : Rp α2} {r3 : Rp α3} {r4 : Rp α4} {r5 : Rp α5} {r6 : Rp α6} {r7 : Rp α7} {pre : α1 → α2 → α3 → α4 → α5 → α6 → α7 → Prop} {names : List Str} {fl : α1 → α2 → α3 → α4 → α5 → α6 → α7 → Ctx} (T : FTk K mg x q C st ps) (S : FnScope N ps (defScope st)) (hv : locB N (defScope st) vs = true) (Γu : Ctx) (hl : ps.length = 8 := by rfl) (hu : List.replicate (N.length - ps.length) .un = Γu := by rfl)
    (body : ∀ (X : Cx) (B : Bs) (D : Ends) (x1 : α1) (x2 : α2) (x3 : α3) (x4 : α4) (x5 : α5) (x6 : α6) (x7 : α7) (xd : Addr × Addr), XC P w K mg base k N (defScope st) vs vs X → pre x1 x2 x3 x4 x5 x6 x7 → (∀ σ H' Γ', EnvP B (.own (oObjN C names (fl x1 x2 x3 x4 x5 x6 x7)) xd :: Γ') σ H' → D.nx σ H') → SD X B (.own (oObjN C [] []) xd :: .val r1 x1 :: .val r2 x2 :: .val r3 x3 :: .val r4 x4 :: .val r5 x5 :: .val r6 x6 :: .val r7 x7 :: Γu) (defBody st) D) : FMk P w K mg base (k + 1) x C ps (SpIN7 C r1 r2 r3 r4 r5 r6 r7 pre names fl) :=
  fnIN (fun i xd => .own (oObjN C [] []) xd :: .val r1 (i.1) :: .val r2 (i.2.1) :: .val r3 (i.2.2.1) :: .val r4 (i.2.2.2.1) :: .val r5 (i.2.2.2.2.1) :: .val r6 (i.2.2.2.2.2.1) :: .val r7 (i.2.2.2.2.2.2) :: Γu) T S hv (fun _ => hl.symm) (fun i xd => by rw [hu]; rfl) (fun X B D i xd c hp hD => body X B D (i.1) (i.2.1) (i.2.2.1) (i.2.2.2.1) (i.2.2.2.2.1) (i.2.2.2.2.2.1) (i.2.2.2.2.2.2) xd c hp hD)
theorem c_makeN7 (c : XC P w K mg base k N sc vs ls X) {α1 α2 α3 α4 α5 α6 α7 : Type} {r1 : Rp α1} {r2 : Rp α2} {r3 : Rp α3} {r4 : Rp α4} {r5 : Rp α5} {r6 : Rp α6} {r7 : Rp α7} {pre : α1 → α2 → α3 → α4 → α5 → α6 → α7 → Prop} {names : List Str} {fl : α1 → α2 → α3 → α4 → α5 → α6 → α7 → Ctx} {cls : β → Addr} {flds : β → Ctx} {e1 e2 e3 e4 e5 e6 e7 : Expr} {x1 : α1} {x2 : α2} {x3 : α3} {x4 : α4} {x5 : α5} {x6 : α6} {x7 : α7} (o : β) (h : FMk P w K mg base j x C ps (SpIN7 C r1 r2 r3 r4 r5 r6 r7 pre names fl)) (h1 : DE X B Γ e1 r1 x1) (h2 : DE X B Γ e2 r2 x2) (h3 : DE X B Γ e3 r3 x3) (h4 : DE X B Γ e4 r4 x4) (h5 : DE X B Γ e5 r5 x5) (h6 : DE X B Γ e6 r6 x6) (h7 : DE X B Γ e7 r7 x7) (hp : pre x1 x2 x3 x4 x5 x6 x7) (hC : cls o = C := by rfl) (hf : flds o = fl x1 x2 x3 x4 x5 x6 x7 := by rfl) (hj : j + 1 ≤ k := by decide) (hg : glB sc x = true := by decide +kernel)
    (hdb : (x == ("__debug__" : Str)) = false := by decide) (s1 : starEach [e1, e2, e3, e4, e5, e6, e7] X.env = (false, eval e1 X.env) :: starEach [e2, e3, e4, e5, e6, e7] X.env := by rfl) (s2 : starEach [e2, e3, e4, e5, e6, e7] X.env = (false, eval e2 X.env) :: starEach [e3, e4, e5, e6, e7] X.env := by rfl) (s3 : starEach [e3, e4, e5, e6, e7] X.env = (false, eval e3 X.env) :: starEach [e4, e5, e6, e7] X.env := by rfl) (s4 : starEach [e4, e5, e6, e7] X.env = (false, eval e4 X.env) :: starEach [e5, e6, e7] X.env := by rfl) (s5 : starEach [e5, e6, e7] X.env = (false, eval e5 X.env) :: starEach [e6, e7] X.env := by rfl) (s6 : starEach [e6, e7] X.env = (false, eval e6 X.env) :: starEach [e7] X.env := by rfl) (s7 : starEach [e7] X.env = (false, eval e7 X.env) :: starEach [] X.env := by rfl) (hpl : (backTo pos (starEach [e2, e3, e4, e5, e6, e7] X.env)).any (·.1) = false := by rfl) :
    DN X B Γ (.Call (.Name x p) [e1, e2, e3, e4, e5, e6, e7] [] pos) (rObj cls names flds) o := c_makeN c (x1, x2, x3, x4, x5, x6, x7) h (da_cons h1 (da_cons h2 (da_cons h3 (da_cons h4 (da_cons h5 (da_cons h6 (da_cons h7 da_nil s7) s6) s5) s4) s3) s2) s1) hp hC hf hj hg hdb s1 hpl
end
end DL
namespace DL
open PySem L2 PySem.Spec PyProof.Rows
section
variable {P : Program} {w : World} {K : PySem.W.Frag} {mg : Str → Option Value} {base : Heap} {k j : Nat} {N : List Str} {sc : Scope} {vs ls : List Nat} {X : Cx} {α β γ ι ρ : Type} {B : Bs} {Γ Γ' : Ctx} {e a b : Expr} {es : List Expr} {D : Ends} {rest ss : List Stmt} {p pos apos : Pos} {x y f m : Str}
theorem c_par2 (c : XC P w K mg base k N sc vs ls X) (i j : Nat) {e1 e2 : Expr} {px py pt pt2 : Pos} {kt k2 : Nat} {s1 : α → Sl} {s2 : β → Sl} {v1 : α} {v2 : β} {Γ1 : α → Ctx} {Γ2 : α → β → Ctx} (h1 : VE X B Γ e1 (s1 v1)) (h2 : VE X B Γ e2 (s2 v2)) (t1 : ∀ a, To Γ i (s1 a) (Γ1 a)) (t2 : ∀ a b, To (Γ1 a) j (s2 b) (Γ2 a b))
    (hr : ∀ a b, a = v1 → b = v2 → SD X B (Γ2 a b) rest D) (hij : i ≠ j := by decide) (hN : N[i]? = some x := by rfl) (hN2 : N[j]? = some y := by rfl)
    (hx : (match sc.names.lookup x with | some .local => true | _ => false) = true := by decide +kernel) (hy : (match sc.names.lookup y with | some .local => true | _ => false) = true := by decide +kernel)
    (hline : (py.line == px.line) = true := by rfl) (hne : (y == x) = false := by decide +kernel)
    (w1 : (([e1, e2] : List Expr).any fun | .Starred .. => true | _ => false) = false := by rfl) (w2 : ([e1, e2] : List Expr).all (foldedForSure 8) = false := by rfl) (w3 : ([e1, e2] : List Expr).all (constantsAlone 8) = false := by rfl)
    (hs : swapsWithSole [.Tuple [.Name x px, .Name y py] kt pt] (.Tuple [e1, e2] k2 pt2) pos.line X.env = pure false := by rfl)
    (hs1 : starEach [e1, e2] X.env = (false, eval e1 X.env) :: starEach [e2] X.env := by rfl) (hs2 : starEach [e2] X.env = (false, eval e2 X.env) :: starEach [] X.env := by rfl) :
    SD X B Γ (.Assign [.Tuple [.Name x px, .Name y py] kt pt] (.Tuple [e1, e2] k2 pt2) pos :: rest) D :=
  c_par c i j (va_cons h1 (t1 v1) (va_cons h2 (t2 v1 v2) va_nil hs2) hs1) (hr v1 v2 rfl rfl) hij hN hN2 hx hy hline hne w1 w2 w3 hs
theorem sw_none2 {env : PySem.Env} {x y : Str} {px py pt pt2 : Pos} {kt k2 : Nat} {e1 e2 : Expr} (hk : env.scope.kind = .function) (hc : (match env.scope.names.lookup x, env.scope.names.lookup y with | some .local, some .local => false | _, _ => true) = true)
    (h1 : (([e1, e2] : List Expr).any fun | .Starred .. => true | _ => false) = false) :
    swappedStores [.Tuple [.Name x px, .Name y py] kt pt] (.Tuple [e1, e2] k2 pt2) env = pure none := by
  have hb : env.blockKind = .function := by unfold Env.blockKind; rw [hk]; rfl
  have hc' : (match env.kindOf x, env.kindOf y with | some .local, some .local => false | _, _ => true) = true := hc
  have hn : ¬ (env.kindOf x = some .local ∧ env.kindOf y = some .local) := fun h => by rw [h.1, h.2] at hc'; cases hc'
  unfold swappedStores
  simp only [List.any_cons, List.any_nil, Bool.or_false, Bool.or_eq_false_iff] at h1
  by_cases hx : env.kindOf x = some .local
  · have hy : ¬ env.kindOf y = some .local := fun h => hn ⟨hx, h⟩
    simp [hb, hx, hy, Expr.pos, List.filterMap_cons]
  · by_cases hy : env.kindOf y = some .local
    · by_cases hl : py.line = px.line
      · simp [hb, hx, hy, hl, Expr.pos, List.filterMap_cons]
      · simp [hb, hx, hy, hl, Expr.pos, List.filterMap_cons]
    · simp [hb, hx, hy, Expr.pos, List.filterMap_cons]
/-- the same by a tuple that is made (a name is captured) -/
theorem c_parT2 (c : XC P w K mg base k N sc vs ls X) (i j : Nat) {e1 e2 : Expr} {px py pt pt2 : Pos} {kt k2 : Nat} {s1 : α → Sl} {s2 : β → Sl} {v1 : α} {v2 : β} {Γ1 : α → Ctx} {Γ2 : α → β → Ctx} (h1 : VE X B Γ e1 (s1 v1)) (h2 : VE X B Γ e2 (s2 v2)) (t1 : ∀ a, To Γ i (s1 a) (Γ1 a)) (t2 : ∀ a b, To (Γ1 a) j (s2 b) (Γ2 a b))
    (hr : ∀ a b, a = v1 → b = v2 → SD X B (Γ2 a b) rest D) (hN : N[i]? = some x := by rfl) (hN2 : N[j]? = some y := by rfl) (hl : ls.contains i = true := by rfl) (hl2 : ls.contains j = true := by rfl)
    (hcell : (match sc.names.lookup x, sc.names.lookup y with | some .local, some .local => false | _, _ => true) = true := by decide +kernel)
    (hs : swapsWithSole [.Tuple [.Name x px, .Name y py] kt pt] (.Tuple [e1, e2] k2 pt2) pos.line X.env = pure false := by rfl)
    (w1 : (([e1, e2] : List Expr).any fun | .Starred .. => true | _ => false) = false := by rfl)
    (hs1 : starEach [e1, e2] X.env = (false, eval e1 X.env) :: starEach [e2] X.env := by rfl) (hs2 : starEach [e2] X.env = (false, eval e2 X.env) :: starEach [] X.env := by rfl) :
    SD X B Γ (.Assign [.Tuple [.Name x px, .Name y py] kt pt] (.Tuple [e1, e2] k2 pt2) pos :: rest) D := by
  have hN' : X.N[i]? = some x := by rw [c.N]; exact hN
  have hN2' : X.N[j]? = some y := by rw [c.N]; exact hN2
  refine sd_cons (ps_asg (pe_tup (va_cons h1 (t1 v1) (va_cons h2 (t2 v1 v2) va_nil hs2) hs1)) (pg_tup c.calm (pgs_cons (pg_name (i := i) c.nd hN' (c.loc i x hN' hl).1 (c.loc i x hN' hl).2) (pgs_cons (pg_name (i := j) c.nd hN2' (c.loc j y hN2' hl2).1 (c.loc j y hN2' hl2).2) pgs_nil))) hs (sw_none2 c.kind (by rw [c.sc]; exact hcell) w1))
    (fun D' l σ H ⟨F, en⟩ => ⟨F, σ, en, en, fun us F' H' e1 en1 hl => ?_⟩) (hr v1 v2 rfl rfl)
  match us, hl with
  | [u, v], _ =>
    refine ⟨by show 2 ≤ sizeLine; decide, fun q hq => ?_⟩
    have e2 := Ext.new en1.same (.tup [u, v]) hq
    exact ⟨q, _, rfl, SqT.of upd_same, rfl, u, _, rfl, v, _, rfl, rfl, l.nx _ _ ⟨_, en1.ext e2⟩⟩
theorem c_gintE (c : XC P w K mg base k N sc vs ls X) {i : Int} (h : ∃ t, mg x = some (.int i t)) (hg : glB sc x = true := by decide +kernel) (hd : (x == ("__debug__" : Str)) = false := by decide) : DE X B Γ (.Name x pos) rInt i :=
  let ⟨t, ht⟩ := h; c_gint c ht ⟨t, rfl⟩ hg hd
theorem c_gstrE (c : XC P w K mg base k N sc vs ls X) {s : Str} {t : Txt} (h : ∃ u, mg x = some (.str s u)) (hs : s = tx t) (ok : okT t = true) (hg : glB sc x = true := by decide +kernel) (hd : (x == ("__debug__" : Str)) = false := by decide) : DE X B Γ (.Name x pos) rTxt t :=
  let ⟨u, hu⟩ := h; c_gstr c hu ⟨u, rfl⟩ hs ok hg hd
/-- e is f of truths -/
theorem c_isB (c : XC P w K mg base k N sc vs ls X) {y z : Bool} (ha : DE X B Γ a rBool y) (hb : DE X B Γ b rBool z) : DC X B Γ (.Compare a [.Is] [b] pos) (decide (y = z)) :=
  dc_cmp (ra := rBool) (rb := rBool) op_is_bl (fun F H u v s h1 h2 Q q => ⟨y, z, h1, h2, q _ F H (Ext.refl s) rfl⟩) (nomark _) ha hb
theorem c_nisB (c : XC P w K mg base k N sc vs ls X) {y z : Bool} (ha : DE X B Γ a rBool y) (hb : DE X B Γ b rBool z) : DC X B Γ (.Compare a [.IsNot] [b] pos) (!decide (y = z)) :=
  dc_cmp (ra := rBool) (rb := rBool) op_isnot_bl (fun F H u v s h1 h2 Q q => ⟨y, z, h1, h2, q _ F H (Ext.refl s) rfl⟩) (nomark _) ha hb
end
theorem kit_sub {K : PySem.W.Frag} {C C' : Addr} {b : Bool} (h1 : PySem.W.isClsIn K C' = true) (h2 : PySem.W.typeIn K (.ref C') = some (.type "type")) (h3 : PySem.W.subIn K (.ref C) (.ref C') = some b) (h4 : PySem.W.subIn K (.ref C) (.ref C) = some true) : PySem.W.kitOne K (.ref C) (.ref C') = some b := by
  unfold PySem.W.kitOne
  by_cases h : C = C'
  · subst h
    rw [h4] at h3
    rw [if_pos (by simp)]
    exact h3
  · rw [if_neg (by simpa using h)]
    show (if ((PySem.W.clsIn K C').isSome && PySem.W.typeIn K (.ref C') == some (.type "type")) = true then _ else _) = _
    have h1' : (PySem.W.clsIn K C').isSome = true := h1
    rw [if_pos (by rw [h1', h2]; rfl)]
    exact h3
/-! ### the law -/
def spLaw (K : PySem.W.Frag) : Sp := fun vs H Q _ => ∃ (a : Addr) (ns : List Int), vs = [.ref a] ∧ SqL K H a (ns.map V.int) ∧ ns.length ≤ 63 ∧ ∀ H', Q (.bl true) H'
theorem law_of {P : Program} {w : World} {K : PySem.W.Frag} {mg : Str → Option Value} {base : Heap} {j : Nat} {fa : Addr} {x : Str} (hfa : mg "law" = some (.ref fa)) (h : FN P w K mg base CX0 j "law" [x] (SpF1 (rScr K) (fun ns => ns.length ≤ 63) rBool (fun _ => true))) :
    ∃ fd, FnOk P w K mg base CX0 j fa fd [x] (spLaw K) := by
  obtain ⟨fa', fd, G, h1, _, _⟩ := h
  rw [hfa] at h1
  cases h1
  refine ⟨fd, G.imp fun vs H Q E ⟨a, ns, hv, hs, hl, q⟩ => ?_⟩
  subst hv
  exact ⟨H, ns, Same.refl H, ⟨⟨a, rfl, hs⟩, trivial⟩, hl, fun v F' H' _ hv => by rw [show v = V.bl true from hv]; exact q H'⟩
theorem law_is {P : Program} {w : World} {K : PySem.W.Frag} {mg : Str → Option Value} {base : Heap} {j : Nat} {fa : Addr} {x : Str} {o : Value} {od : Option Addr} {fd : FuncData} {sl : Array (Option Value)} (hfa : mg "law" = some (.ref fa)) (l : K.lookup fa = some ⟨o, od, .func fd, sl⟩)
    (h : FN P w K mg base CX0 j "law" [x] (SpF1 (rScr K) (fun ns => ns.length ≤ 63) rBool (fun _ => true))) : FnOk P w K mg base CX0 j fa fd [x] (spLaw K) := by
  obtain ⟨fa', fd', G, h1, _, _, o', od', sl', h2⟩ := h
  rw [hfa] at h1
  cases h1
  rw [l] at h2
  cases h2
  exact G.imp fun vs H Q E ⟨a, ns, hv, hs, hl, q⟩ => by
    subst hv
    exact ⟨H, ns, Same.refl H, ⟨⟨a, rfl, hs⟩, trivial⟩, hl, fun v F' H' _ hv => by rw [show v = V.bl true from hv]; exact q H'⟩
/-- a weaker promise -/
theorem SpF.imp {ι ρ : Type} {args : ι → Ctx} {pre pre' : ι → Prop} {rr : Rp ρ} {f f' : ι → ρ} (h : ∀ i, pre' i → pre i ∧ f i = f' i) : ∀ vs H Q E, SpF args pre' rr f' vs H Q E → SpF args pre rr f vs H Q E :=
  fun vs H Q E ⟨F, i, s, a, p, q⟩ => ⟨F, i, s, a, (h i p).1, fun v F' H' e r => q v F' H' e (by rw [← (h i p).2]; exact r)⟩
end DL
namespace DL
open PySem L2 PySem.Spec PyProof.Rows
/-- how many unlike ones -/
def disR : List Str → Nat
  | [] => 0
  | x :: r => if r.any (· == x) = true then disR r else disR r + 1
def dis (l : List Str) : Nat := disR l.reverse
theorem disR_le : ∀ l : List Str, disR l ≤ l.length
  | [] => Nat.le_refl _
  | x :: r => by
    have := disR_le r
    unfold disR
    split <;> simp <;> omega
theorem dis_le (l : List Str) : dis l ≤ l.length := by have := disR_le l.reverse; unfold dis; simpa using this
theorem dis_snoc (l : List Str) (x : Str) : dis (l ++ [x]) = if l.any (· == x) = true then dis l else dis l + 1 := by
  unfold dis
  rw [List.reverse_append]
  show (if l.reverse.any (· == x) = true then disR l.reverse else disR l.reverse + 1) = _
  rw [List.any_reverse]
theorem dis_nodup {l : List Str} (h : l.Nodup) : dis l = l.length := by
  have : ∀ m : List Str, m.Nodup → disR m = m.length := fun m hm => by
    induction m with
    | nil => rfl
    | cons x r ih =>
      have hx := List.nodup_cons.mp hm
      unfold disR
      rw [if_neg (by
        intro z
        obtain ⟨y, hy, e⟩ := List.any_eq_true.mp z
        exact hx.1 (by rw [← eq_of_beq e]; exact hy)), ih hx.2]
      rfl
  unfold dis
  rw [this _ (List.pairwise_reverse.mpr (h.imp Ne.symm)), List.length_reverse]
section
variable {prog : Program} {w : World} {A : Around} {R : Result → Shared → Prop} {I : Addr} {fp wr : List Addr} {G : Array GenState → Array GenState → Prop} {n : Nat} {P : Nat → Value → Prop} {St : Nat → Shared → Prop}
theorem loopG (W : WalksS prog w A.in1 I fp wr G n P St) (S : Addr) (hSf : S ∉ fp) (xs : List Str) (hsz : xs.length = n) (hn1 : n + 2 < scanBound)
    (hval : ∀ i v, P i v → ∃ t, v = .str (xs.getD i Str.empty) t) :
    ∀ (k i : Nat) (s : Shared), n - i = k → i ≤ n → St i s →
      s.heap.SetOf (PySem.strKind prog w) S (fun k' => (xs.take i).any (· == k')) (dis (xs.take i)) →
      (∀ s', Moved (S :: wr) G s s' → s'.heap.SetOf (PySem.strKind prog w) S (fun k' => (xs.take n).any (· == k')) (dis (xs.take n)) → R (.ok (.ret .none)) s') →
      codeAny (model prog w) A (.builtin "set.update.loop" ⟨[.ref S, .ref I], []⟩) R s := by
  have hSw : S ∉ wr := fun h => hSf (W.sub _ h)
  have hsub : ∀ b ∈ wr, b ∈ S :: wr := fun b hb => List.mem_cons_of_mem _ hb
  intro k
  induction k with
  | zero =>
    intro i s hk hi hst hS hR
    have hin : i = n := by omega
    subst hin
    refine codeAny_builtin PyProof.Rows.F.entry_set_update_loop ?_
    rw [Around.under_plainId PyProof.Rows.F.plain_set_update_loop _]
    show wpAny _ A.in1 (pyNext (.ref I) >>= _) _ _ s
    refine wpAny_bind (W.done s _ _ hst fun s' hm => ?_)
    show wpAny _ A.in1 (ret Value.none) _ _ s'
    exact wpAny_pure (hR s' (hm.mono hsub) (by
      obtain ⟨o, es, ep, t, ho, rest⟩ := hS
      exact ⟨o, es, ep, t, hm.heap S _ hSw ho, rest⟩))
  | succ k ih =>
    intro i s hk hi hst hS hR
    have hlt : i < n := by omega
    refine codeAny_builtin PyProof.Rows.F.entry_set_update_loop ?_
    rw [Around.under_plainId PyProof.Rows.F.plain_set_update_loop _]
    show wpAny _ A.in1 (pyNext (.ref I) >>= _) _ _ s
    refine wpAny_bind (W.item i s _ _ hlt hst fun v s' hP hst' hm => ?_)
    obtain ⟨t, rfl⟩ := hval i v hP
    have hS' : s'.heap.SetOf (PySem.strKind prog w) S (fun k' => (xs.take i).any (· == k')) (dis (xs.take i)) := by
      obtain ⟨o, es, ep, tb, ho, rest⟩ := hS
      exact ⟨o, es, ep, tb, hm.heap S _ hSw ho, rest⟩
    show wpAny _ A.in1 (holding [Value.str (xs.getD i Str.empty) t] (setAdd S (.str (xs.getD i Str.empty) t)) >>= _) _ _ s'
    refine wpAny_bind (wpAny_holding ?_)
    unfold setAdd
    refine wpAny_holding ?_
    refine wpAny_bind ((PySem.strKind prog w).pyHash (k := xs.getD i Str.empty) (strKind_is _ _ _ _) ?_)
    have hdl : dis (xs.take i) ≤ i := Nat.le_trans (dis_le _) (by rw [List.length_take]; omega)
    have hnx : xs.take (i + 1) = xs.take i ++ [xs.getD i Str.empty] := by
      rw [List.take_add_one, List.getElem?_eq_getElem (by omega)]
      simp [List.getD, List.getElem?_eq_getElem (show i < xs.length by omega)]
    refine wpAny_setAddHashed_of (knd := PySem.strKind prog w) (s := { s' with toks := s'.toks + 1 }) (strKind_is _ _ _ _) rfl hS' (by omega) fun h' hsb hS2 => ?_
    have hSi : h'.SetOf (PySem.strKind prog w) S (fun k' => (xs.take (i + 1)).any (· == k')) (dis (xs.take (i + 1))) := by
      refine SetOf_congr hS2 (fun k' => ?_) ?_
      · rw [hnx, List.any_append]
        congr 1
        show decide (k' = xs.getD i Str.empty) = ((xs.getD i Str.empty == k') || false)
        rw [Bool.or_false]
        by_cases e : k' = xs.getD i Str.empty
        · rw [e]; simp
        · have hb : (xs.getD i Str.empty == k') = false := by
            cases z : (xs.getD i Str.empty == k') with
            | false => rfl
            | true => exact absurd (eq_of_beq z).symm e
          rw [hb]; exact decide_eq_false e
      · rw [hnx, dis_snoc]
    refine wpAny_pure ⟨plainId_quiet PyProof.Rows.F.plain_set_update_loop _, ih (i + 1) _ (by omega) hlt (W.frame _ s' _ _ hst' (Nat.le_succ _) fun b hb o e => ?_) hSi fun s'' hm'' hS'' => ?_⟩
    · rw [hsb.2 b (fun h : b = S => hSf (by rw [← h]; exact hb))]; exact e
    · refine hR s'' (Moved.trans W.gtrans ((hm.mono hsub).then_heap (Nat.le_succ _) fun b o hb e => ?_) hm'') hS''
      rw [hsb.2 b (fun h : b = S => hb (by rw [h]; exact List.mem_cons_self))]; exact e
end

theorem sub_str_set' : isSubtype (.type "str") (.type "set") = pure false := by rw [isSubtype_type]; kernel_rfl
theorem sub_str_frozenset' : isSubtype (.type "str") (.type "frozenset") = pure false := by rw [isSubtype_type]; kernel_rfl
/-- the signs of a text, as texts -/
def sgS (x : Str) : List Str := x.cps.toList.map fun c => ⟨#[c]⟩
section
variable {prog : Program} {w : World} {A : Around} {E : Value → Shared → Prop} {s : Shared}
set_option maxHeartbeats 3200000 in
/-- set(a text) -/
theorem call_set_text {x : Str} {u : Tok} {Q : Value → Shared → Prop} (hh : A.handled = none) (hz : x.cps.size + 2 < scanBound)
    (h : ∀ (h' : Heap) (tk : Nat), h'.SetOf (PySem.strKind prog w) s.heap.objs.size (fun k' => ((sgS x).take x.cps.size).any (· == k')) (dis ((sgS x).take x.cps.size)) →
      (∀ b o, b < s.heap.objs.size → s.heap.get? b = some o → h'.get? b = some o) → Q (.ref s.heap.objs.size) { s with heap := h', toks := tk }) :
    wpAny (model prog w) A (call (.type "set") [.str x u]) Q E s := by
  obtain ⟨c, tl, hmro⟩ := PySem.F.called_set.mro
  have hmade := PySem.F.called_set.made
  have hsub := PySem.F.called_set.sub
  refine wpAny_call (codeAny_of_tree ?_)
  show wpAny _ _ (callAny (.type "set") _) _ _ _
  refine wpAny_pure ⟨Code.quiet_builtin _ (by decide +kernel), codeAny_builtin PySem.F.entry_type_call ?_⟩
  rw [Around.under_plain (weight_type_call_type "set" [.str x u] []) rfl]
  have h1 := PySem.F.called_set.notType
  have h2 := PySem.F.called_set.canCreate
  have hct := PySem.F.typeCall_set_1 (.str x u)
  repeat (any_goals (first | assumption | wp_step))
  refine codeAny_mono (code_set_new_1 (.str x u) (E := E) (Q₁ := fun obj s₁ => ∃ led : Bool, obj = .ref s.heap.objs.size ∧ s₁ = { s with heap := s.heap.push { cls := .type "set", dict := none, data := .set #[] 0 (.fresh 0 0 led) } }) fun led => ⟨led, rfl, rfl⟩) fun r s₁ hr => ?_
  cases r with
  | error e => exact hr
  | ok fl =>
    cases fl with
    | ret obj =>
      obtain ⟨led, rfl, rfl⟩ := hr
      have hS : (s.heap.push { cls := .type "set", dict := none, data := .set #[] 0 (.fresh 0 0 led) }).get? s.heap.objs.size = some { cls := .type "set", dict := none, data := .set #[] 0 (.fresh 0 0 led) } := Heap.get?_push_size _ rfl
      have hT : Shared.TypeIs { s with heap := s.heap.push { cls := .type "set", dict := none, data := .set #[] 0 (.fresh 0 0 led) } } (.ref s.heap.objs.size) "set" := ⟨_, hS, rfl⟩
      have hli := PySem.F.called_set.init.lookup
      have hbi := PySem.F.called_set.init.bind (.ref s.heap.objs.size)
      repeat (any_goals (first | assumption | wp_step))
      refine codeAny_mono (codeAny_call_builtin (R := wants (fun r s₂ => r = .none ∧ ∃ h' tk, s₂ = { s with heap := h', toks := tk } ∧
          h'.SetOf (PySem.strKind prog w) s.heap.objs.size (fun k' => ((sgS x).take x.cps.size).any (· == k')) (dis ((sgS x).take x.cps.size)) ∧
          (∀ b o, b < s.heap.objs.size → s.heap.get? b = some o → h'.get? b = some o)) E) PySem.F.called_set.init.plain PySem.F.entry_set_init (check_set_init_1 hT ?_)) fun r₂ s₂ hr₂ => ?_
      · have hsls := sub_str_set'
        have hslf := sub_str_frozenset'
        have hne : (Value.type "str" == Value.type "dict") = false := by decide
        unfold Builtin.«set.__init__» noKeywords Builtin.Frozenset.updateFrom
        generalize hPI : pyIter = PI
        wp_walk
        subst hPI
        refine wpAny_pyIter_str fun o St W st0 => ?_
        refine wpAny_bind (wpAny_runValue ?_)
        have hh3 : A.in1.in1.in1.handled = none := by simp [hh]
        have hI : (s.heap.push { cls := .type "set", dict := none, data := .set #[] 0 (.fresh 0 0 led) }).objs.size = s.heap.objs.size + 1 := Heap.size_push ..
        refine loopG ((W _ hh3).toS) s.heap.objs.size (by rw [hI]; simp) (sgS x) (by simp [sgS]) hz (fun i v ⟨c, u, hc, hv⟩ => ⟨u, by
            rw [hv]
            congr 1
            unfold sgS
            rw [List.getD, List.getElem?_map]
            rw [← Array.getElem?_toList] at hc
            rw [hc]; rfl⟩) (x.cps.size - 0) 0 _ (by omega) (Nat.zero_le _) st0 ?hS0 ?hR
        case hS0 =>
          have hget : ((s.heap.push { cls := .type "set", dict := none, data := .set #[] 0 (.fresh 0 0 led) }).push o).get? s.heap.objs.size
              = some { cls := .type "set", dict := none, data := .set #[] 0 (.fresh 0 0 led) } := Heap.get?_push_of_some _ hS
          exact PyProof.Rows.SetOf_congr ((PyProof.Rows.setObjOf_fresh (knd := PySem.strKind prog w) led).setOf hget (by omega)) (fun _ => rfl) rfl
        case hR =>
          intro s' hm hS'
          obtain ⟨h', g', d', tk', os'⟩ := s'
          have eg : g' = s.gens := hm.gens
          have ed : d' = s.drawn := hm.drawn
          have eo : os' = s.os := hm.os
          subst eg; subst ed; subst eo
          show wpAny _ _ _ _ _ _
          refine wpAny_pure ?_
          show wpAny _ _ (ret Value.none) _ _ _
          refine wpAny_pure ⟨rfl, h', tk', rfl, hS', fun b o hb e => ?_⟩
          refine hm.heap b o ?_ (Heap.get?_push_of_some _ (Heap.get?_push_of_some _ e))
          rw [hI]
          simp only [List.mem_cons, List.not_mem_nil, or_false, not_or]
          exact ⟨Nat.ne_of_lt hb, Nat.ne_of_lt (Nat.lt_succ_of_lt hb)⟩
      · cases r₂ with
        | error e => exact hr₂
        | ok fl₂ =>
          cases fl₂ with
          | ret r =>
            obtain ⟨rfl, h', tk, rfl, hS', hk'⟩ := hr₂
            repeat (any_goals (first | assumption | wp_step))
            exact h _ _ hS' hk'
          | _ => exact hr₂.elim
    | _ => exact hr.elim
end
end DL
namespace DL
open PySem L2 PySem.Spec PyProof.Rows
def disT (t : Txt) : Nat := dis (sgS (tx t))
theorem sgS_tx (t : Txt) : sgS (tx t) = (sgs t).map tx := by
  unfold sgS sgs
  have : (tx t).cps.toList = t := by simp [tx]
  rw [this, List.map_map]
  rfl
theorem sgs_len (t : Txt) : (sgs t).length = t.length := by simp [sgs]
theorem nodup_map {α β : Type} {f : α → β} (hf : ∀ a b, f a = f b → a = b) {l : List α} (h : l.Nodup) : (l.map f).Nodup := List.pairwise_map.mpr (h.imp fun hne e => hne (hf _ _ e))
theorem disT_nodup {t : Txt} (h : t.Nodup) : disT t = t.length := by
  unfold disT
  have h2 : (sgs t).Nodup := nodup_map (fun a b e => by simpa using e) h
  rw [sgS_tx, dis_nodup (nodup_map (fun a b e => tx_inj e) h2), List.length_map, sgs_len]
def tLenSetT (ta : TE) : TE := fun σ H Q => ta σ H fun x H1 => ∃ t, x = .str t ∧ t.cps.size + 2 < scanBound ∧ Q (.int (dis (sgS t) : Nat)) H1
section
variable {P : Program} {w : World} {K : PySem.W.Frag} {mg : Str → Option Value} {base : Heap} {k j : Nat} {N : List Str} {sc : Scope} {vs ls : List Nat} {X : Cx} {α β γ ι ρ : Type} {B : Bs} {Γ Γ' : Ctx} {e a b : Expr} {es : List Expr} {D : Ends} {rest ss : List Stmt} {p pos apos : Pos} {x y f m : Str}
theorem pe_lenSetT {ta : TE} {p2 q : Pos} (hc : X.calm = true) (hg : Gl X "len") (hm : X.mg "len" = none) (hg2 : Gl X "set") (hm2 : X.mg "set" = none) (ha : PE X a ta)
    (na : starEach [a] X.env = (false, eval a X.env) :: starEach [] X.env := by rfl) : PE X (.Call (.Name "len" p) [.Call (.Name "set" p2) [a] [] q] [] pos) (tLenSetT ta) := by
  refine ⟨fun pins s σ H Q I h => ?_⟩
  refine Call_ (ld_blt I hg hm boot_len ?_)
  refine PyProof.Rows.callWith_builtin1 (PyProof.Rows.args_cons ?_ rfl) rfl rfl
  refine Call_ (ld_blt I hg2 hm2 boot_set ?_)
  refine PyProof.Rows.callWith_type1 (PyProof.Rows.args_cons (thn (ha.run pins s σ H _ I h) fun v s1 ⟨x, H1, I1, r1, q1⟩ => PyProof.Rows.args_nil ?_) na) na rfl
  obtain ⟨t, rfl, hz, q1⟩ := q1
  obtain ⟨u, rfl⟩ := r1
  refine call_set_text (I1.ok.hd hc) hz fun h' tk hS hk => PyProof.Rows.args_nil ?_
  have hl : (sgS t).take t.cps.size = sgS t := by rw [List.take_of_length_le]; simp [sgS]
  rw [hl] at hS
  obtain ⟨o, es, ep, t', ho, hex, hd, _, _, _, hf, hn⟩ := hS
  have hle : dis (sgS t) ≤ t.cps.size := Nat.le_trans (dis_le _) (by simp [sgS])
  have I2 : Inv X pins σ H1 { s1 with heap := h', toks := tk } := I1.kept fun b o e => hk b o (Heap.lt_size e) e
  refine call_len_set ho hex hd hf (by rw [hn]; unfold scanBound at hz; omega) ⟨.int (dis (sgS t) : Nat), H1, I2.tok _, ⟨_, by rw [hn]⟩, q1⟩
theorem c_lenSetS (c : XC P w K mg base k N sc vs ls X) {t : Txt} {p2 q : Pos} (ha : DE X B Γ a rTxt t) (hm : mg "len" = none) (hm2 : mg "set" = none) (hz : t.length ≤ 10) (hg : glB sc "len" = true := by decide +kernel) (hg2 : glB sc "set" = true := by decide +kernel)
    (na : starEach [a] X.env = (false, eval a X.env) :: starEach [] X.env := by rfl) : DE X B Γ (.Call (.Name "len" p) [.Call (.Name "set" p2) [a] [] q] [] pos) rInt (disT t) :=
  pe_weak (pe_lenSetT c.calm (gl_of c.sc hg) (by rw [c.mg]; exact hm) (gl_of c.sc hg2) (by rw [c.mg]; exact hm2) ha na) fun σ H Q ⟨F, en, q⟩ => ⟨F, en, fun v F1 H1 e1 h1 =>
    ⟨tx t, h1.1, by show (tx t).length + 2 < _; rw [tx_len]; unfold scanBound; omega, q _ F1 H1 e1 rfl⟩⟩
/-! one sign in a text -/
def inT (x t : Txt) : Bool := (sgs t).contains x
theorem inT_one {c : Nat} {t : Txt} : inT [c] t = decide (c ∈ t) := by
  unfold inT sgs
  rw [Bool.eq_iff_iff, List.contains_iff_mem, decide_eq_true_eq, List.mem_map]
  exact ⟨fun ⟨a, h, e⟩ => by cases e; exact h, fun h => ⟨c, h, rfl⟩⟩
theorem one_of {x : Txt} (h : x.length = 1) : ∃ c, x = [c] := List.length_eq_one_iff.mp h
theorem one_sgs {x t : Txt} (h : x ∈ sgs t) : x.length = 1 := by obtain ⟨c, _, rfl⟩ := List.mem_map.mp h; rfl
theorem tx_one (c : Nat) : tx [c] = ⟨#[c]⟩ := rfl
theorem c_inS (c : XC P w K mg base k N sc vs ls X) {x t : Txt} (ha : DE X B Γ a rTxt x) (hb : DE X B Γ b rTxt t) (h1 : x.length = 1) (hm : behindInMarks .In b = false := by with_unfolding_all rfl) : DC X B Γ (.Compare a [.In] [b] pos) (inT x t) := by
  obtain ⟨d, rfl⟩ := one_of h1
  rw [inT_one]
  exact dc_cmp (ra := rTxt) (rb := rTxt) op_in_sign (fun F H u v s h1 h2 Q q => ⟨d, tx t, h1.1, h2.1, q _ F H (Ext.refl s) (by show V.bl _ = V.bl _; congr 2)⟩) hm ha hb
theorem c_ninS (c : XC P w K mg base k N sc vs ls X) {x t : Txt} (ha : DE X B Γ a rTxt x) (hb : DE X B Γ b rTxt t) (h1 : x.length = 1) (hm : behindInMarks .NotIn b = false := by with_unfolding_all rfl) : DC X B Γ (.Compare a [.NotIn] [b] pos) (!inT x t) := by
  obtain ⟨d, rfl⟩ := one_of h1
  rw [inT_one]
  exact dc_cmp (ra := rTxt) (rb := rTxt) op_notIn_sign (fun F H u v s h1 h2 Q q => ⟨d, tx t, h1.1, h2.1, q _ F H (Ext.refl s) (by show V.bl _ = V.bl _; congr 2)⟩) hm ha hb
/-! text.index(sign) -/
def ixT (x t : Txt) : Int := ((sgs t).idxOf x : Nat)
theorem ixT_in {x t : Txt} (h : inT x t = true) : 0 ≤ ixT x t ∧ ixT x t < t.length := by
  have hm : x ∈ sgs t := List.contains_iff_mem.mp h
  have := List.idxOf_lt_length_iff.mpr hm
  rw [sgs_len] at this
  unfold ixT
  omega
open Builtin Builtin.Str StrLaws in
theorem occ_grown (s sub : Str) (hi : Nat) : ∀ (l : List Nat) (st : Array Nat × Nat), st.fst.size = 1 → (forIn l st (occBody s sub hi 1)).run.fst = st.fst
  | [], st, h => rfl
  | a :: l, st, h => by
    rw [List.forIn_cons]
    unfold occBody
    rw [if_neg (fun z => by have := z.1.1.1; omega)]
    exact occ_grown s sub hi l _ h
open Builtin Builtin.Str StrLaws in
theorem occ_first (s : Str) (c : Nat) (n : Nat) : ∀ (m lo free : Nat), free ≤ lo → lo ≤ n → n < lo + m → s.cps.toList[n]? = some c → (∀ i, lo ≤ i → i < n → s.cps.toList[i]? ≠ some c) →
    (forIn (List.range' lo m) ((#[] : Array Nat), free) (occBody s ⟨#[c]⟩ s.length 1)).run.fst = #[n]
  | 0, lo, free, h0, h1, h2, h3, h4 => by omega
  | m + 1, lo, free, h0, h1, h2, h3, h4 => by
    rw [List.range'_succ, List.forIn_cons]
    unfold occBody
    by_cases e : lo = n
    · subst e
      have q := (subAt_one s c lo).mpr h3
      rw [if_pos ⟨⟨⟨by simp, h0⟩, q.1⟩, q.2⟩]
      exact occ_grown s _ _ _ _ rfl
    · have q : ¬ (lo + (⟨#[c]⟩ : Str).length ≤ s.length ∧ subAt s ⟨#[c]⟩ lo = true) := fun z => h4 lo (Nat.le_refl _) (by omega) ((subAt_one s c lo).mp z)
      rw [if_neg (fun z => q ⟨z.1.2, z.2⟩)]
      exact occ_first s c n m (lo + 1) free (by omega) (by omega) (by omega) h3 fun i hi hn => h4 i (by omega) hn
theorem occ_ix {x t : Txt} (h : inT x t = true) : ∃ d, x = [d] ∧ Builtin.Str.occurrences (tx t) ⟨#[d]⟩ 0 (tx t).length 1 = [(sgs t).idxOf x] := by
  have hm : x ∈ sgs t := List.contains_iff_mem.mp h
  obtain ⟨d, hd, rfl⟩ := List.mem_map.mp hm
  refine ⟨d, rfl, ?_⟩
  have hl := List.idxOf_lt_length_iff.mpr hm
  have hl' : (sgs t).idxOf [d] < t.length := by rw [sgs_len] at hl; exact hl
  have ht : (tx t).cps.toList = t := by simp [tx]
  rw [StrLaws.occ_eq, occ_first (tx t) d ((sgs t).idxOf [d]) ((tx t).length + 1 - 0) 0 0 (Nat.le_refl _) (Nat.zero_le _) (by rw [tx_len]; omega)]
  · rw [ht]
    have q : (sgs t)[(sgs t).idxOf [d]]? = some [d] := by rw [List.getElem?_eq_getElem hl]; simp
    unfold sgs at q ⊢
    rw [List.getElem?_map] at q
    cases z : t[List.idxOf [d] (List.map (fun c => [c]) t)]? with
    | none => rw [z] at q; cases q
    | some v => rw [z] at q; have := Option.some.inj q; simp at this; rw [this]
  · intro i _ hi
    rw [ht]
    intro z
    have q : (sgs t)[i]? = some [d] := by unfold sgs; rw [List.getElem?_map, z]; rfl
    have q' := List.not_of_lt_findIdx (p := fun y => y == [d]) (xs := sgs t) (i := i) hi
    have hi2 : i < (sgs t).length := by omega
    rw [List.getElem?_eq_getElem hi2] at q
    have := Option.some.inj q
    rw [this] at q'
    simp at q'
theorem c_indexS (c : XC P w K mg base k N sc vs ls X) {x t : Txt} (ha : DE X B Γ a rTxt t) (hb : DE X B Γ b rTxt x) (h : inT x t = true)
    (hs : starEach [b] X.env = [(false, eval b X.env)] := by rfl) (hbase : attributeBase a "index" X.env (eval a X.env) = eval a X.env := by rfl) (hline : (apos.endLine == pos.line) = true := by rfl) :
    DE X B Γ (.Call (.Attribute a "index" apos) [b] [] pos) rInt (ixT x t) :=
  pe_weak (pe_m1 PySem.F.slot_str_index PySem.F.type_str_index mt_sindex ha hb hs hbase hline) fun σ H Q ⟨F, en, q⟩ => ⟨F, en, fun v F1 H1 e1 h1 => ⟨⟨_, h1.1⟩, F1, en.ext e1, fun u F2 H2 e2 h2 => by
    obtain ⟨d, hd, ho⟩ := occ_ix h
    exact ⟨tx t, tx x, (sgs t).idxOf x, [], h1.1, by rw [h2.1], by rw [hd, tx_one, ho, hd], q _ F2 H2 (e1.trans e2) rfl⟩⟩⟩
end
end DL
namespace DL
open PySem L2 PySem.Spec PyProof.Rows
def tRevS (te : TE) : TE := fun σ H Q => te σ H fun x H1 => ∃ t : Txt, x = .str (tx t) ∧ t.length ≤ 1000000 ∧ Q (.str (tx t.reverse)) H1
theorem joinL_nil : ∀ l : List (List Nat), TL.joinL [] l = l.flatten
  | [] => rfl
  | [x] => by simp [TL.joinL]
  | x :: y :: l => by
    have := joinL_nil (y :: l)
    unfold TL.joinL
    simp [this]
section
variable {P : Program} {w : World} {K : PySem.W.Frag} {mg : Str → Option Value} {base : Heap} {k j : Nat} {N : List Str} {sc : Scope} {vs ls : List Nat} {X : Cx} {α β γ δ ι ρ : Type} {B : Bs} {Γ Γ' : Ctx} {e a b d : Expr} {es : List Expr} {D : Ends} {rest ss : List Stmt} {p pos apos : Pos} {x y f m : Str}
theorem pe_revS {te : TE} {k : Nat} {p1 p2 p3 : Pos} (he : PE X e te) : PE X (.Subscript e (.Slice none none (some (.UnaryOp .USub (.Constant (.int 1) k p1) p2)) p3) pos) (tRevS te) := by
  refine ⟨fun pins s σ H Q I h => ?_⟩
  refine Subscript_ (thn (he.run pins s σ H _ I h) fun v s1 ⟨x, H1, I1, r1, q1⟩ => ?_)
  obtain ⟨t, ex, hz, q⟩ := q1
  subst ex
  obtain ⟨tk, rfl⟩ := r1
  have hst : PO X (some (.UnaryOp .USub (.Constant (.int 1) k p1) p2)) (tPart (tUn (rU fun i => .int (-i)) (tC (.int 1)))) := po_some (pe_un un_neg pe_int)
  refine wpAny_Slice (thn (po_none.run pins s1 σ H1 (fun o H2 => o = none ∧ H2 = H1) I1 ⟨rfl, rfl⟩) fun vl s2 ⟨l, H2, I2, pl, el, e2⟩ => ?_)
  subst el e2
  refine thn (po_none.run pins s2 σ H2 (fun o H3 => o = none ∧ H3 = H2) I2 ⟨rfl, rfl⟩) fun vu s3 ⟨u, H3, I3, pu, eu, e3⟩ => ?_
  subst eu e3
  refine thn (hst.run pins s3 σ H3 (fun o H4 => o = some (-1) ∧ H4 = H3) I3 ⟨1, rfl, -1, rfl, rfl, rfl⟩) fun vs s4 ⟨o, H4, I4, ps, eo, e4⟩ => ?_
  subst eo e4
  cases pl
  cases pu
  cases ps with
  | int _ stk =>
  have I5 : Inv X pins σ H4 { s4 with heap := s4.heap.push { cls := .type "slice", data := .fields #[.none, .none, .int (-1) stk] } } := I4.kept (t' := s4.toks) fun b ob q => Heap.get?_push_of_some _ q
  show wpAny (model X.prog X.w) X.A (subscriptTail e (.Slice none none (some (.UnaryOp .USub (.Constant (.int 1) k p1) p2)) p3) (.str (tx t) tk) (.ref s4.heap.objs.size)) (EP X pins σ Q) X.xe { s4 with heap := s4.heap.push { cls := .type "slice", data := .fields #[.none, .none, .int (-1) stk] } }
  refine tail_any (ops := [.str (tx t) tk, .ref s4.heap.objs.size]) (typeIs_str _ _ _) (PySem.F.slot_str_getitem.lookup) ?_ (by with_unfolding_all rfl)
  refine wpAny_getItem_str_slice (l := none) (u := none) (st := some (-1, stk)) ⟨_, Heap.get?_push_size _ rfl, rfl, rfl⟩ rfl ?_
  unfold sliceMade
  rw [if_neg (by show ¬ (((-1 : Int) == 1) && _) = true; intro z; exact Bool.noConfusion z)]
  have hp : ((slicePicked (tx t) none none (some (-1, stk))).filterMap ((tx t).cps[·]?)).toArray = (tx t.reverse).cps := by
    unfold slicePicked
    show ((sliceRange (((tx t).length : Int) - 1) (-1) (-1)).filterMap ((tx t).cps[·]?)).toArray = _
    rw [PySem.W.krv_sliceRange, PySem.W.krv_range, List.filterMap_reverse]
    show ((List.filterMap ((tx t).cps[·]?) (List.range (tx t).cps.size)).reverse).toArray = _
    rw [PySem.W.krv_all]
    simp [tx]
  rw [hp]
  exact ⟨by show (tx t.reverse).length ≤ _; rw [tx_len, List.length_reverse]; exact Nat.le_trans hz (by decide), .str (tx t.reverse), H4, I5.tok _, ⟨_, rfl⟩, q⟩
theorem c_revS (c : XC P w K mg base k N sc vs ls X) {t : Txt} {kk : Nat} {p1 p2 p3 : Pos} (he : DE X B Γ e rTxt t) (hz : t.length ≤ 1000000) : DE X B Γ (.Subscript e (.Slice none none (some (.UnaryOp .USub (.Constant (.int 1) kk p1) p2)) p3) pos) rTxt t.reverse :=
  pe_weak (pe_revS he) fun σ H Q ⟨F, en, q⟩ => ⟨F, en, fun v F1 H1 e1 h1 => ⟨t, h1.1, hz, q _ F1 H1 e1 ⟨rfl, okT_sub (fun c hc => List.mem_reverse.mp hc) h1.2⟩⟩⟩
theorem rl_txt {F : Hp} : ∀ {us : List V} {xs : List Txt}, Rl (rTxt.rel F) us xs → us = (xs.map tx).map V.str ∧ okT xs.flatten = true
  | [], [], _ => ⟨rfl, rfl⟩
  | u :: us, x :: xs, h => by
    obtain ⟨h1, h2⟩ := rl_txt h.2
    exact ⟨by rw [h1, h.1.1]; rfl, by rw [List.flatten_cons]; exact okT_append h.1.2 h2⟩
  | [], _ :: _, h => h.elim
  | _ :: _, [], h => h.elim
theorem sum_tx (xs : List Txt) : ((xs.map tx).map (·.length)).sum = xs.flatten.length := by
  induction xs with
  | nil => rfl
  | cons x xs ih => rw [List.map_cons, List.map_cons, List.sum_cons, ih, tx_len, List.flatten_cons, List.length_append]
/-- "".join(xs) -/
theorem c_join (c : XC P w K mg base k N sc vs ls X) {xs : List Txt} (ha : DE X B Γ a rTxt []) (hb : DE X B Γ b (rList rTxt) xs) (hz : xs.flatten.length ≤ 1000000)
    (hs : starEach [b] X.env = [(false, eval b X.env)] := by rfl) (hbase : attributeBase a "join" X.env (eval a X.env) = eval a X.env := by rfl) (hline : (apos.endLine == pos.line) = true := by rfl) :
    DE X B Γ (.Call (.Attribute a "join" apos) [b] [] pos) rTxt xs.flatten :=
  pe_weak (pe_join ha hb hs hbase hline) fun σ H Q ⟨F, en, q⟩ => ⟨F, en, fun v F1 H1 e1 h1 => ⟨⟨_, h1.1⟩, F1, en.ext e1, fun u F2 H2 e2 ⟨p', us, g1, g2, g3⟩ => by
    obtain ⟨g4, g5⟩ := rl_txt g3
    refine ⟨tx [], p', xs.map tx, h1.1, by rw [g1], .inl (by rw [← g4]; exact SqL.of (e2.i _ _ g2)), ?_, q _ F2 H2 (e1.trans e2) ⟨?_, g5⟩⟩
    · rw [sum_tx, tx_len, List.length_nil, Nat.mul_zero, Nat.add_zero]; omega
    · have := SX.join_S [] xs
      show V.str _ = V.str _
      rw [show tx [] = SX.S [] from rfl, show xs.map tx = xs.map SX.S from rfl, this, joinL_nil]; rfl⟩⟩
/-- e.clear() of a new list, for nothing -/
theorem sd_clearN {r : Rp α} {as : List α} (he : DM X B Γ e r as) (hr : SD X B Γ rest D)
    (hbase : attributeBase e "clear" X.env (eval e X.env) = eval e X.env := by rfl)
    (hline : (apos.endLine == p.line) = true := by rfl) (hsw : swapsWith (.Call (.Attribute e "clear" apos) [] [] p) none pos.line X.env = pure false := by rfl) :
    SD X B Γ (.Expr (.Call (.Attribute e "clear" apos) [] [] p) pos :: rest) D := by
  refine sd_cons (ps_expr (pe_bm0 PySem.F.plainAttrs_list PySem.F.slot_list_clear PySem.F.type_list_clear mt_clear he hbase hline) hsw) (fun D' l σ H ⟨F, en⟩ => ⟨F, en, fun p us F1 H1 e1 h1 h2 h3 h4 => ?_⟩) hr
  refine ⟨.inl ⟨rfl, us, SqL.of h3⟩, p, us, rfl, rfl, h3, l.nx _ _ ?_⟩
  obtain ⟨fp, en0⟩ := id en
  have en2 := en0.ext e1
  have hpB : B.H p = none := en.base.h.free h2
  exact ⟨F1, fp, en2.side h1 hpB fun j z => (en0.own_at z).2.1 h2⟩
theorem de_ixT0 {r : Rp α} {s : Rp β} {t : Rp γ} {z : α × β × γ} {j p2} (ha : DE X B Γ a (rTri r s t) z) : DE X B Γ (.Subscript a (.Constant (.int 0) j p2) pos) r z.1 :=
  pe_weak (pe_ix ix_tup ha pe_int (by intro _ _; rfl)) fun σ H Q ⟨F, en, q⟩ => ⟨F, en, fun v F1 H1 e1 ⟨p, u, u', u'', h1, h2, h3, h4, h5⟩ => ⟨p, [u, u', u''], 0, u, h1, rfl, SqT.of (e1.i _ _ h2), rfl, q u F1 H1 e1 h3⟩⟩
theorem de_ixT1 {r : Rp α} {s : Rp β} {t : Rp γ} {z : α × β × γ} {j p2} (ha : DE X B Γ a (rTri r s t) z) : DE X B Γ (.Subscript a (.Constant (.int 1) j p2) pos) s z.2.1 :=
  pe_weak (pe_ix ix_tup ha pe_int (by intro _ _; rfl)) fun σ H Q ⟨F, en, q⟩ => ⟨F, en, fun v F1 H1 e1 ⟨p, u, u', u'', h1, h2, h3, h4, h5⟩ => ⟨p, [u, u', u''], 1, u', h1, rfl, SqT.of (e1.i _ _ h2), rfl, q u' F1 H1 e1 h4⟩⟩
theorem de_ixT2 {r : Rp α} {s : Rp β} {t : Rp γ} {z : α × β × γ} {j p2} (ha : DE X B Γ a (rTri r s t) z) : DE X B Γ (.Subscript a (.Constant (.int 2) j p2) pos) t z.2.2 :=
  pe_weak (pe_ix ix_tup ha pe_int (by intro _ _; rfl)) fun σ H Q ⟨F, en, q⟩ => ⟨F, en, fun v F1 H1 e1 ⟨p, u, u', u'', h1, h2, h3, h4, h5⟩ => ⟨p, [u, u', u''], 2, u'', h1, rfl, SqT.of (e1.i _ _ h2), rfl, q u'' F1 H1 e1 h5⟩⟩
end
end DL
namespace DL
open PySem L2 PySem.Spec PyProof.Rows
section
variable {P : Program} {w : World} {K : PySem.W.Frag} {mg : Str → Option Value} {base : Heap} {k j : Nat} {N : List Str} {sc : Scope} {vs ls : List Nat} {X : Cx} {β ρ : Type} {B : Bs} {Γ Γ' : Ctx} {D : Ends} {rest ss : List Stmt} {p pos apos : Pos} {x q f m : Str} {ps : List Str} {st : Stmt} {C : Addr}
abbrev SpF0 (pre : Prop) (rr : Rp ρ) (f : ρ) : Sp := SpF (fun _ : Unit => []) (fun _ => pre) rr (fun _ => f)
theorem c_callF0 (c : XC P w K mg base k N sc vs ls X) {pre : Prop} {rr : Rp ρ} {f : ρ} (h : FN P w K mg base CX0 j x ps (SpF0 pre rr f)) (hp : pre) (hj : j ≤ k := by decide) (hg : glB sc x = true := by decide +kernel)
    (hdb : (x == ("__debug__" : Str)) = false := by decide) :
    DE X B Γ (.Call (.Name x p) [] [] pos) rr f := c_call0 c h () rfl hp hj hg hdb
theorem fnF0 {pre : Prop} {rr : Rp ρ} {f : ρ} (T : FT K mg x q st ps) (S : FnScope N ps (defScope st)) (hv : locB N (defScope st) vs = true) (Γu : Ctx) (hl : ps.length = 0 := by rfl) (hu : List.replicate (N.length - ps.length) .un = Γu := by rfl)
    (body : ∀ (X : Cx) (B : Bs) (D : Ends), XC P w K mg base k N (defScope st) vs vs X → pre → RtOk B rr f D → (∀ σ H, D.nx σ H → D.rt .non H) → SD X B Γu (defBody st) { D with nx := fun _ H => D.rt .non H }) : FN P w K mg base CX0 (k + 1) x ps (SpF0 pre rr f) :=
  fnF (fun _ => Γu) T S hv (fun _ => hl.symm) (fun i => by rw [hu]; rfl) (fun X B D i c hp hD hn => body X B D c hp hD hn)
end
end DL
namespace DL
open PySem L2 PySem.Spec PyProof.Rows
def Itz3 (K : PySem.W.Frag) (a b d : Addr) : It :=
  ⟨fun i H => ∃ (xs ys zs : List V) (x y z : V), SqL K H a xs ∧ SqL K H b ys ∧ SqL K H d zs ∧ xs[i]? = some x ∧ ys[i]? = some y ∧ zs[i]? = some z,
    fun i H v H' => ∃ T x y z, v = .ref T ∧ H T = none ∧ H' = upd H T (.tup [x, y, z]) ∧ (∀ xs, SqL K H a xs → xs[i]? = some x) ∧ (∀ ys, SqL K H b ys → ys[i]? = some y) ∧ ∀ zs, SqL K H d zs → zs[i]? = some z,
    fun i H => ∃ xs ys zs : List V, SqL K H a xs ∧ SqL K H b ys ∧ SqL K H d zs ∧ i ≤ xs.length ∧ i ≤ ys.length ∧ i ≤ zs.length ∧ (i = xs.length ∨ i = ys.length ∨ i = zs.length)⟩
theorem turn_zip3 {P : Program} {w : World} {K : PySem.W.Frag} {elts : List Expr} {kk : Nat} {tpos : Pos} {a b d z TI TO i1 i2 i3 : Addr} (D : ZipSep3 z TI TO i1 i2 i3 [i1, a] [i2, b] [i3, d]) (na : a ≠ i1) (nb : b ≠ i2) (nd : d ≠ i3) :
    Turn P w K (.Tuple elts kk tpos) (Itz3 K a b d) [z, TI, TO, i1, i2, i3] z (fun i h => IsZip h z TI TO .none ∧ IsTupOf3 h TI (.ref i1) (.ref i2) (.ref i3) ∧ (∃ x y u, IsTupOf3 h TO x y u) ∧ h.IsListIter i1 a i ∧ h.IsListIter i2 b i ∧ h.IsListIter i3 d i) where
  mem := by simp
  obj := fun i h st c hc => by
    obtain ⟨hz, hTI, ⟨x, y, u, hTO⟩, ⟨o1, e1, _, d1⟩, ⟨o2, e2, _, d2⟩, ⟨o3, e3, _, d3⟩⟩ := st
    have e' : c = z ∨ c = TI ∨ c = TO ∨ c = i1 ∨ c = i2 ∨ c = i3 := by simpa using hc
    rcases e' with q | q | q | q | q | q
    · rw [q]; exact ⟨_, hz, fun v q => nomatch q⟩
    · rw [q]; exact ⟨_, hTI, fun v q => nomatch q⟩
    · rw [q]; exact ⟨_, hTO, fun v q => nomatch q⟩
    · rw [q]; exact ⟨o1, e1, fun v q => by rw [d1] at q; cases q⟩
    · rw [q]; exact ⟨o2, e2, fun v q => by rw [d2] at q; cases q⟩
    · rw [q]; exact ⟨o3, e3, fun v q => by rw [d3] at q; cases q⟩
  keep := fun i h h' st k => by
    obtain ⟨hz, hTI, ⟨x, y, u, hTO⟩, h1, h2, h3⟩ := st
    exact ⟨k z (by simp) _ hz, k TI (by simp) _ hTI, ⟨x, y, u, k TO (by simp) _ hTO⟩, h1.at fun o q => k i1 (by simp) o q, h2.at fun o q => k i2 (by simp) o q, h3.at fun o q => k i3 (by simp) o q⟩
  item := by
    intro X hP hw hK hc i pins s σ H E I hf st hg
    subst hP hw hK
    obtain ⟨hz, hTI, ⟨x0, y0, u0, hTO⟩, h1, h2, h3⟩ := st
    obtain ⟨xs, ys, zs, x, y, u, hqx, hqy, hqz, hx, hy, hu⟩ := hg
    obtain ⟨its, rv, p, _⟩ := I.list hqx
    obtain ⟨its2, rv2, p2, _⟩ := I.list hqy
    obtain ⟨its3, rv3, p3, _⟩ := I.list hqz
    obtain ⟨v1, hv1, ru1⟩ := rv.get hx
    obtain ⟨v2, hv2, ru2⟩ := rv2.get hy
    obtain ⟨v3, hv3, ru3⟩ := rv3.get hu
    have hh : X.A.in1.handled = none := by simp [I.ok.hd hc]
    have hzl : z < s.heap.objs.size := Heap.lt_size hz
    have lt1 : i < its.toArray.size := by have := (List.getElem?_eq_some_iff.mp hv1).1; simpa using this
    have lt2 : i < its2.toArray.size := by have := (List.getElem?_eq_some_iff.mp hv2).1; simpa using this
    have lt3 : i < its3.toArray.size := by have := (List.getElem?_eq_some_iff.mp hv3).1; simpa using this
    refine wpAny_pyNext_zipD3_item D (Draws.list hh i1 a na its.toArray) (Draws.list hh i2 b nb its2.toArray) (Draws.list hh i3 d nd its3.toArray) hz hTI hTO ⟨h1, p.isList⟩ ⟨h2, p2.isList⟩ ⟨h3, p3.isList⟩ lt1 lt2 lt3
      fun w1 w2 w3 h' tk g1 g2 g3 z' TO' st1 st2 st3 hT hsz hk => ?_
    have e1 : w1 = v1 := by
      have q : its.toArray[i]? = some v1 := by simpa using hv1
      rw [q] at g1; exact (Option.some.inj g1).symm
    have e2 : w2 = v2 := by
      have q : its2.toArray[i]? = some v2 := by simpa using hv2
      rw [q] at g2; exact (Option.some.inj g2).symm
    have e3 : w3 = v3 := by
      have q : its3.toArray[i]? = some v3 := by simpa using hv3
      rw [q] at g3; exact (Option.some.inj g3).symm
    subst e1 e2 e3
    refine ⟨_, rfl, wpAny_letOwnedTupleGo_zip (s := { s with heap := h', toks := tk }) z' fun h'' z'' sb => ?_⟩
    have hT2 : h''.get? s.heap.objs.size = some { cls := .type "tuple", data := .seq #[w1, w2, w3] } := (sb.2 _ (Nat.ne_of_gt hzl)).trans hT
    have new : ObjOk X.prog X.w (upd H s.heap.objs.size (.tup [x, y, u])) h'' s.heap.objs.size (.tup [x, y, u]) :=
      ⟨by show 3 ≤ sizeLine; decide, [w1, w2, w3], .cons ru1 (.cons ru2 (.cons ru3 .nil)), ⟨_, hT2, rfl, _, rfl⟩⟩
    have I1 : Inv X pins σ (upd H s.heap.objs.size (.tup [x, y, u])) { s with heap := h'', toks := tk } :=
      I.turnedNew (t' := tk) (ch := [z, TI, TO, i1, i2, i3]) (fun c o hb q => (sb.2 c (fun q' => hb (by simp [q']))).trans (hk c o (fun q' => hb (by simp [q'])) (fun q' => hb (by simp [q'])) (fun q' => hb (by simp [q'])) (fun q' => hb (by simp [q'])) (fun q' => hb (by simp [q'])) q)) hf (Nat.le_refl _) new
    refine ⟨.ref s.heap.objs.size, _, I1, rfl, ⟨_, x, y, u, rfl, I.hok.fresh (Nat.le_refl _), rfl, fun l hl => by rw [I.list_inj hl hqx]; exact hx, fun l hl => by rw [I.list_inj hl hqy]; exact hy, fun l hl => by rw [I.list_inj hl hqz]; exact hu⟩, ⟨z'', ?_, ⟨w1, w2, w3, ?_⟩, ?_, ?_, ?_⟩, fun c hcm => ?_⟩
    · exact (sb.2 _ D.TIz).trans (hk _ _ D.TIz D.TITO D.TIi1 D.TIi2 D.TIi3 hTI)
    · exact (sb.2 _ D.TOz).trans TO'
    · exact st1.1.at fun o q => (sb.2 _ D.zi1.symm).trans q
    · exact st2.1.at fun o q => (sb.2 _ D.zi2.symm).trans q
    · exact st3.1.at fun o q => (sb.2 _ D.zi3.symm).trans q
    · have hlt : c < s.heap.objs.size := by
        have e' : c = z ∨ c = TI ∨ c = TO ∨ c = i1 ∨ c = i2 ∨ c = i3 := by simpa using hcm
        rcases e' with q | q | q | q | q | q
        · rw [q]; exact hzl
        · rw [q]; exact Heap.lt_size hTI
        · rw [q]; exact Heap.lt_size hTO
        · rw [q]; obtain ⟨_, e1, _⟩ := h1; exact Heap.lt_size e1
        · rw [q]; obtain ⟨_, e2, _⟩ := h2; exact Heap.lt_size e2
        · rw [q]; obtain ⟨_, e3, _⟩ := h3; exact Heap.lt_size e3
      rw [upd_ne (Nat.ne_of_lt hlt)]
      exact (hf c hcm).1
  done := by
    intro X hP hw hK hc i pins s σ H E I hf st hg
    subst hP hw hK
    obtain ⟨hz, hTI, ⟨x0, y0, u0, hTO⟩, h1, h2, h3⟩ := st
    obtain ⟨xs, ys, zs, hqx, hqy, hqz, l1, l2, l3, hend⟩ := hg
    obtain ⟨its, rv, p, _⟩ := I.list hqx
    obtain ⟨its2, rv2, p2, _⟩ := I.list hqy
    obtain ⟨its3, rv3, p3, _⟩ := I.list hqz
    have hh : X.A.in1.handled = none := by simp [I.ok.hd hc]
    have m1 : its.toArray.size = xs.length := by rw [List.size_toArray, ← rv.length]
    have m2 : its2.toArray.size = ys.length := by rw [List.size_toArray, ← rv2.length]
    have m3 : its3.toArray.size = zs.length := by rw [List.size_toArray, ← rv3.length]
    exact wpAny_pyNext_zipD3_end D (Draws.list hh i1 a na its.toArray) (Draws.list hh i2 b nb its2.toArray) (Draws.list hh i3 d nd its3.toArray) hz hTI hTO ⟨h1, p.isList⟩ ⟨h2, p2.isList⟩ ⟨h3, p3.isList⟩ (by omega) (by omega) (by omega) (by omega)
      fun h' tk hk => ⟨rfl, I.turnedL (t' := tk) (ch := [z, TI, TO, i1, i2, i3]) (fun c o hb q => hk c o (fun q' => hb (by simp [q'])) (fun q' => hb (by simp [q'])) (fun q' => hb (by simp [q'])) (fun q' => hb (by simp [q'])) (fun q' => hb (by simp [q'])) q) hf⟩
  self := fun A i s Q E st h => wpAny_pyIter_zip st.1 h
section
variable {P : Program} {w : World} {K : PySem.W.Frag} {mg : Str → Option Value} {base : Heap} {k j : Nat} {N : List Str} {sc : Scope} {vs ls : List Nat} {X : Cx} {α β γ δ ι ρ : Type} {B : Bs} {Γ Γ' : Ctx} {e a b d tg : Expr} {es : List Expr} {D : Ends} {rest ss : List Stmt} {p pos apos : Pos} {x y z f m : Str}
def iZip3 (K : PySem.W.Frag) (ta : TA) : TI := fun σ H R => ta σ H fun vs H1 => ∃ a b d xs ys zs, vs = [.ref a, .ref b, .ref d] ∧ SqL K H1 a xs ∧ SqL K H1 b ys ∧ SqL K H1 d zs ∧ R (Itz3 K a b d) H1
theorem pi_zip3 {ta : TA} {tpos : Pos} {elts : List Expr} {kk : Nat} (hg : Gl X "zip") (hm : X.mg "zip" = none) (ha : PA X [a, b, d] ta)
    (hs : starEach [a, b, d] X.env = (false, eval a X.env) :: starEach [b, d] X.env := by rfl) (hpl : (backTo pos (starEach [b, d] X.env)).any (·.1) = false := by rfl) :
    PI X (.Tuple elts kk tpos) (.Call (.Name "zip" p) [a, b, d] [] pos) (iZip3 X.K ta) := by
  refine ⟨fun pins s σ H R I h => ?_⟩
  refine Call_ (ld_blt I hg hm PyProof.Rows.boot_zip (PyProof.Rows.callWith_type1 (thn (ha.run pos pins s σ H _ I h) fun us s1 ⟨vs, H1, I1, r1, q1⟩ => ?_) hs hpl))
  obtain ⟨a, b, d, xs, ys, zs, ex, hqx, hqy, hqz, q⟩ := q1
  subst ex
  cases r1 with
  | cons r rr =>
    cases rr with
    | cons r' rr =>
      cases rr with
      | cons r'' rr =>
      cases rr
      cases r
      cases r'
      cases r''
      obtain ⟨its, rv, p1, _⟩ := I1.list hqx
      obtain ⟨its2, rv2, p2, _⟩ := I1.list hqy
      obtain ⟨its3, rv3, p3, _⟩ := I1.list hqz
      have la : a < s1.heap.objs.size := p1.lt
      have lb : b < s1.heap.objs.size := p2.lt
      have ld : d < s1.heap.objs.size := p3.lt
      refine zip_begins3 (begins_list a its.toArray) (begins_list b its2.toArray) (begins_list d its3.toArray) p1.isList p2.isList p3.isList fun h' hz hTI hTO h1 h2 h3 hsz hk => wpAny_pyIter_zip hz ?_
      have I2 : Inv X pins σ H1 { s1 with heap := h' } := I1.kept (t' := s1.toks) hk
      refine ⟨s1.heap.objs.size + 5, [s1.heap.objs.size + 5, s1.heap.objs.size + 3, s1.heap.objs.size + 4, s1.heap.objs.size, s1.heap.objs.size + 1, s1.heap.objs.size + 2], _, _, H1, rfl, I2,
        turn_zip3 (zip_sep3 (N := s1.heap.objs.size) (fp1 := [a]) (fp2 := [b]) (fp3 := [d]) (by simpa using la) (by simpa using lb) (by simpa using ld)) (Nat.ne_of_lt la) (Nat.ne_of_lt (Nat.lt_succ_of_lt lb)) (Nat.ne_of_lt (Nat.lt_succ_of_lt (Nat.lt_succ_of_lt ld))),
        ⟨hz, hTI, ⟨_, _, _, hTO⟩, ⟨_, h1, rfl, rfl⟩, ⟨_, h2, rfl, rfl⟩, ⟨_, h3, rfl, rfl⟩⟩, fun c hcm => ?_, q⟩
      have hle : s1.heap.objs.size ≤ c := by
        have e' : c = s1.heap.objs.size + 5 ∨ c = s1.heap.objs.size + 3 ∨ c = s1.heap.objs.size + 4 ∨ c = s1.heap.objs.size ∨ c = s1.heap.objs.size + 1 ∨ c = s1.heap.objs.size + 2 := by simpa using hcm
        rcases e' with z | z | z | z | z | z
        · rw [z]; exact Nat.le_add_right _ _
        · rw [z]; exact Nat.le_add_right _ _
        · rw [z]; exact Nat.le_add_right _ _
        · rw [z]; exact Nat.le_refl _
        · rw [z]; exact Nat.le_add_right _ _
        · rw [z]; exact Nat.le_add_right _ _
      exact I1.fpOk hle (I1.hok.fresh hle)
theorem ext_tri {F H : Hp} {T : Addr} {x y z : V} {r : Rp α} {s : Rp β} {t : Rp γ} {a : α} {b : β} {c : γ} (sm : Same F H) (hT : H T = none) (h1 : r.rel F x a) (h2 : s.rel F y b) (h3 : t.rel F z c) :
    Ext F H (upd F T (.tup [x, y, z])) (upd H T (.tup [x, y, z])) ∧ (rTri r s t).rel (upd F T (.tup [x, y, z])) (.ref T) (a, b, c) := by
  have e := Ext.new sm (.tup [x, y, z]) hT
  exact ⟨e, T, x, y, z, rfl, upd_same, r.mono e.f h1, s.mono e.f h2, t.mono e.f h3⟩
def zip3L (xs : List α) (ys : List β) (zs : List γ) : List (α × β × γ) := xs.zip (ys.zip zs)
theorem c_zip3 (c : XC P w K mg base k N sc vs ls X) {r : Rp α} {s : Rp β} {t : Rp γ} {xs : List α} {ys : List β} {zs : List γ} {tpos : Pos} {elts : List Expr} {kk : Nat} (h1 : DE X B Γ a (rList r) xs) (h2 : DE X B Γ b (rList s) ys) (h3 : DE X B Γ d (rList t) zs) (hm : mg "zip" = none) (hg : glB sc "zip" = true := by decide +kernel)
    (hs : starEach [a, b, d] X.env = (false, eval a X.env) :: starEach [b, d] X.env := by rfl) (hpl : (backTo pos (starEach [b, d] X.env)).any (·.1) = false := by rfl) (hs2 : starEach [b, d] X.env = (false, eval b X.env) :: starEach [d] X.env := by rfl) (hs3 : starEach [d] X.env = (false, eval d X.env) :: starEach [] X.env := by rfl) :
    DI X B Γ (.Tuple elts kk tpos) (.Call (.Name "zip" p) [a, b, d] [] pos) (rTri r s t) (zip3L xs ys zs) :=
  pi_weak (pi_zip3 (gl_of c.sc hg) (by rw [c.mg]; exact hm) (da_cons h1 (da_cons h2 (da_cons h3 da_nil hs3) hs2) hs) hs hpl) fun σ H R ⟨F, en, kq⟩ => ⟨F, en, fun vs F1 H1 e1 h1 => by
    obtain ⟨v, w, u, rfl, ⟨q, us, rfl, g2, g3⟩, ⟨q', us', rfl, g2', g3'⟩, ⟨q'', us'', rfl, g2'', g3''⟩⟩ := h1.three
    have hl := g3.length
    have hl' := g3'.length
    have hl'' := g3''.length
    have hz : (zip3L xs ys zs).length = min xs.length (min ys.length zs.length) := by simp [zip3L]
    refine ⟨q, q', q'', us, us', us'', rfl, SqL.of (e1.i _ _ g2), SqL.of (e1.i _ _ g2'), SqL.of (e1.i _ _ g2''), kq _ F1 H1 e1 ?_⟩
    have sq : ∀ F H, Same F1 F → Same F H → SqL X.K H q us := fun F H s1 s2 => SqL.of (s2 _ _ (s1 _ _ g2))
    have sq' : ∀ F H, Same F1 F → Same F H → SqL X.K H q' us' := fun F H s1 s2 => SqL.of (s2 _ _ (s1 _ _ g2'))
    have sq'' : ∀ F H, Same F1 F → Same F H → SqL X.K H q'' us'' := fun F H s1 s2 => SqL.of (s2 _ _ (s1 _ _ g2''))
    refine ⟨fun i F H hi s1 s2 => ⟨us, us', us'', us[i]'(by omega), us'[i]'(by omega), us''[i]'(by omega), sq F H s1 s2, sq' F H s1 s2, sq'' F H s1 s2, by simp, by simp, by simp⟩, fun F H s1 s2 => ⟨us, us', us'', sq F H s1 s2, sq' F H s1 s2, sq'' F H s1 s2, by omega, by omega, by omega, by omega⟩, fun i F H v H' hi s1 s2 y => ?_⟩
    obtain ⟨T, x, z, w, y1, y2, y3, y4, y5, y6⟩ := y
    obtain ⟨x', z1, z2⟩ := g3.getV (y4 us (sq F H s1 s2))
    obtain ⟨z', z3, z4⟩ := g3'.getV (y5 us' (sq' F H s1 s2))
    obtain ⟨w', z5, z6⟩ := g3''.getV (y6 us'' (sq'' F H s1 s2))
    subst y1
    subst y3
    have hb := ext_tri s2 y2 (r.mono s1 z2) (s.mono s1 z4) (t.mono s1 z6)
    exact ⟨_, (x', z', w'), List.getElem?_zip_eq_some.mpr ⟨z1, List.getElem?_zip_eq_some.mpr ⟨z3, z5⟩⟩, hb.1, hb.2⟩⟩
theorem c_ttri (c : XC P w K mg base k N sc vs ls X) (i j l : Nat) {p1 p2 p3 : Pos} {kk : Nat} {r : Rp α} {s : Rp β} {t : Rp γ} (hN : N[i]? = some x := by rfl) (hl : ls.contains i = true := by rfl) (hN2 : N[j]? = some y := by rfl) (hl2 : ls.contains j = true := by rfl) (hN3 : N[l]? = some z := by rfl) (hl3 : ls.contains l = true := by rfl) :
    DG X B (.Tuple [.Name x p1, .Name y p2, .Name z p3] kk pos) (rTri r s t) (fun Γ a Γ' => ∃ Γ1 Γ2, To Γ i (.val r a.1) Γ1 ∧ To Γ1 j (.val s a.2.1) Γ2 ∧ To Γ2 l (.val t a.2.2) Γ') [i, j, l] := by
  have hN' : X.N[i]? = some x := by rw [c.N]; exact hN
  have hN2' : X.N[j]? = some y := by rw [c.N]; exact hN2
  have hN3' : X.N[l]? = some z := by rw [c.N]; exact hN3
  refine pg_weak (pg_tup c.calm (pgs_cons (pg_name (i := i) c.nd hN' (c.loc i x hN' hl).1 (c.loc i x hN' hl).2) (pgs_cons (pg_name (i := j) c.nd hN2' (c.loc j y hN2' hl2).1 (c.loc j y hN2' hl2).2) (pgs_cons (pg_name (i := l) c.nd hN3' (c.loc l z hN3' hl3).1 (c.loc l z hN3' hl3).2) pgs_nil))))
    fun v σ H Q ⟨Γ, a, Γ', F, en, ⟨q, u, u', u'', h1, h2, h3, h4, h5⟩, ⟨Γ1, Γ2, t1, t2, t3⟩, kq⟩ => ?_
  refine ⟨q, _, h1, SqT.of (en.same _ _ h2), rfl, u, _, rfl, u', _, rfl, u'', _, rfl, rfl, kq _ (((en.put t1 h3).put t2 h4).put t3 h5) (by simp) fun m hm => ?_⟩
  rw [List.getElem?_set_ne fun z => hm (by simp [z]), List.getElem?_set_ne fun z => hm (by simp [z]), List.getElem?_set_ne fun z => hm (by simp [z])]
end
end DL
namespace Law
open PySem L2 DL PySem.Spec PyProof.Rows
def withinI (t l h : Int) : Bool := decide (l ≤ t) && decide (t ≤ h)
def areWithin (xs : List Int) (l h : Int) : Bool := xs.all fun t => withinI t l h
def weighedL (a b : List Int) : Int := (if ltL b a = true then 1 else 0) - (if ltL a b = true then 1 else 0)
def cellAt (s : List Int) (k : Int) : Int := if k < s.length then gI s k else 0
def primesL : List Int := [1000003, 1000033, 1000037, 1000039, 1000081, 1000099, 1000117, 1000121, 1000133, 1000151, 1000159, 1000171, 1000183, 1000187, 1000193, 1000199]
def draw (cell k most : Int) : Int := (cell * 48271 + k * 69621) % gI primesL (k % 16) % most
theorem prime_pos (k : Int) : 0 < gI primesL (k % 16) := by
  have h0 : 0 ≤ k % 16 := Int.emod_nonneg _ (by decide)
  have h1 : k % 16 < 16 := Int.emod_lt_of_pos _ (by decide)
  rw [gI_nat h0]
  have h2 : (k % 16).toNat < 16 := by omega
  generalize (k % 16).toNat = n at h2
  have : ∀ n < 16, 0 < primesL.getD n default := by decide
  exact this n h2
def number (cell k limit : Int) : Int :=
  if 0 < (rng 0 (k % 24).toNat).foldl (fun r _ => r / 1009) (cell - 10 ^ 18) then (rng 0 (k % 24).toNat).foldl (fun r _ => r / 1009) (cell - 10 ^ 18) % 1009 % limit
  else draw ((cell % 1000003 + 977 * k) * (cell % 1000003 + 31 * k + 5)) (k % 9 + 1) 999983 % limit
theorem number_in (cell k : Int) {limit : Int} (h : 0 < limit) : 0 ≤ number cell k limit ∧ number cell k limit < limit := by
  unfold number
  split
  · exact ⟨Int.emod_nonneg _ (by omega), Int.emod_lt_of_pos _ h⟩
  · exact ⟨Int.emod_nonneg _ (by omega), Int.emod_lt_of_pos _ h⟩
/-! ### levels -/
def lvC (CL CB : Addr) (o : Bool × List Int) : Addr := cond o.1 CB CL
abbrev rLv (CL CB : Addr) : Rp (Bool × List Int) := rObj (lvC CL CB) ["held"] (fun o => [.val (rList rInt) o.2])
structure TLev (K : PySem.W.Frag) (mg : Str → Option Value) (CL CB : Addr) : Prop where
  ci : ∀ o, ClsI K (lvC CL CB o)
  cl : ∀ o, Cls K (lvC CL CB o)
  na : ∀ o, NoAttr K (lvC CL CB o) "held"
  kL : ∀ o, PySem.W.kitOne K (.ref (lvC CL CB o)) (.ref CL) = some true
  kB : ∀ o, PySem.W.kitOne K (.ref (lvC CL CB o)) (.ref CB) = some o.1
theorem cutL_len {α : Type} (xs : List α) (l h : Option Int) : (cutL xs l h).length ≤ xs.length := by
  unfold cutL
  rw [List.length_take, List.length_drop]
  omega
theorem ranks_ok (cell : Int) (n : Nat) : areWithin ((rng 0 n).map fun k => number cell (k + 3) 100) 0 99 = true := by
  unfold areWithin withinI
  rw [List.all_eq_true]
  intro x hx
  obtain ⟨k, _, rfl⟩ := List.mem_map.mp hx
  have := number_in cell (k + 3) (limit := 100) (by decide)
  simp
  omega
def seenL (back : Bool) (row : List Int) : List Int := cond back row.reverse row
def okRanks (rs : List Int) : Prop := 1 ≤ rs.length ∧ rs.length ≤ 8 ∧ areWithin rs 0 99 = true
def dueGo (m t : List Int) : List (Int × Int) → Unit → Int
  | [], _ => (if t.length < m.length then 1 else 0) - (if m.length < t.length then 1 else 0)
  | z :: r, u => if z.1 ≠ z.2 then (if z.1 < z.2 then -1 else 1) else dueGo m t r u
def dueL (one other : List Int) (back : Bool) : Int := dueGo (if back = true then (one.reverse, other.reverse) else (one, other)).1 (if back = true then (one.reverse, other.reverse) else (one, other)).2
  ((if back = true then (one.reverse, other.reverse) else (one, other)).1.zip (if back = true then (one.reverse, other.reverse) else (one, other)).2) ()
theorem weigh_go (M T : List Int) : ∀ (a b : List Int) (n : Nat), M.length = a.length + n → T.length = b.length + n → weighedL a b = dueGo M T (a.zip b) ()
  | [], [], n, h1, h2 => by
    simp only [List.zip_nil_left, dueGo, weighedL, ltL]
    simp at h1 h2
    rw [if_neg (by omega), if_neg (by omega)]; rfl
  | [], b :: bs, n, h1, h2 => by
    simp at h1 h2
    show (if ltL (b :: bs) [] = true then 1 else 0) - (if ltL [] (b :: bs) = true then (1 : Int) else 0) = (if T.length < M.length then 1 else 0) - (if M.length < T.length then 1 else 0)
    rw [if_neg (by simp [ltL]), if_pos (by simp [ltL]), if_neg (by omega), if_pos (by omega)]
  | a :: as, [], n, h1, h2 => by
    simp at h1 h2
    show (if ltL [] (a :: as) = true then 1 else 0) - (if ltL (a :: as) [] = true then (1 : Int) else 0) = (if T.length < M.length then 1 else 0) - (if M.length < T.length then 1 else 0)
    rw [if_pos (by simp [ltL]), if_neg (by simp [ltL]), if_pos (by omega), if_neg (by omega)]
  | a :: as, b :: bs, n, h1, h2 => by
    simp at h1 h2
    simp only [List.zip_cons_cons, dueGo]
    by_cases q : a = b
    · subst q
      simp only [ne_eq, not_true, if_false]
      rw [← weigh_go M T as bs (n + 1) (by omega) (by omega)]
      simp [weighedL, ltL]
    · rw [if_pos q]
      simp only [weighedL, ltL, if_neg q, if_neg (Ne.symm q)]
      by_cases l : a < b
      · have l2 : ¬ b < a := by omega
        simp [l, l2]
      · have l2 : b < a := by omega
        simp [l, l2]
theorem weigh_anti (a b : List Int) : weighedL b a = - weighedL a b := by unfold weighedL; omega
theorem weigh_due (a b : List Int) (back : Bool) : weighedL (seenL back a) (seenL back b) = dueL a b back := by
  unfold dueL seenL
  cases back
  · exact weigh_go _ _ _ _ 0 rfl rfl
  · exact weigh_go _ _ _ _ 0 rfl rfl
end Law
namespace Law
open PySem L2 DL PySem.Spec PyProof.Rows
/-- the 29 signs -/
def allS : Txt := [97,98,99,100,101,102,103,104,105,106,107,108,109,110,111,112,113,114,115,116,117,118,119,120,121,122,32,45,39]
/-! ### lists -/
theorem nodup_sub {α : Type} [DecidableEq α] : ∀ (l s : List α), l.Nodup → (∀ a ∈ l, a ∈ s) → l.length ≤ s.length
  | [], s, _, _ => Nat.zero_le _
  | a :: l, s, h, hs => by
    have h' := List.nodup_cons.mp h
    have ha := hs a (by simp)
    have ih := nodup_sub l (s.erase a) h'.2 fun b hb => (List.mem_erase_of_ne (fun e => h'.1 (by rw [← e]; exact hb))).mpr (hs b (by simp [hb]))
    have hl := List.length_erase_of_mem ha
    have hp := List.length_pos_of_mem ha
    simp
    omega
theorem len_filter_add {α : Type} (p : α → Bool) : ∀ l : List α, (l.filter p).length + (l.filter fun a => !p a).length = l.length
  | [] => rfl
  | a :: l => by
    have := len_filter_add p l
    cases h : p a <;> simp [List.filter_cons, h] <;> omega
theorem left_len (found : Txt) : allS.length - found.length ≤ ((sgs allS).filter fun s => !inT s found).length := by
  have h1 := len_filter_add (fun s => inT s found) (sgs allS)
  have h2 : ((sgs allS).filter fun s => inT s found).length ≤ (sgs found).length := nodup_sub _ _ (List.Nodup.sublist List.filter_sublist (by decide)) fun a ha => List.contains_iff_mem.mp (List.mem_filter.mp ha).2
  rw [sgs_len] at h2
  rw [sgs_len] at h1
  omega
/-! ### alphabets -/
def leftL (found : Txt) : List Txt := (sgs allS).filter fun s => !inT s found
def alphaStep (cell : Int) (found : Txt) (k : Int) : Txt := found ++ gI (leftL found) (number cell (k + 2) (leftL found).length)
def alphabetL (cell most : Int) : Txt := (rng 0 (2 + number cell 1 (most - 1)).toNat).foldl (alphaStep cell) []
theorem gI_mem {α : Type} [Inhabited α] {xs : List α} {i : Int} (h0 : 0 ≤ i) (h1 : i < xs.length) : gI xs i ∈ xs := by
  rw [gI_nat h0]
  rw [List.getD, List.getElem?_eq_getElem (by omega)]
  exact List.getElem_mem _
/-- texts of unlike signs of the 29 -/
structure Alph (s : Txt) : Prop where
  nd : s.Nodup
  sub : ∀ c ∈ s, c ∈ allS
theorem alpha_step {cell : Int} {s : Txt} {k : Int} (h : Alph s) (hl : s.length ≤ 20) : Alph (alphaStep cell s k) ∧ (alphaStep cell s k).length = s.length + 1 := by
  have hll := left_len s
  have hpos : 0 < (leftL s).length := by
    unfold leftL
    have : allS.length = 29 := rfl
    omega
  have q := number_in cell (k + 2) (limit := ((leftL s).length : Int)) (by omega)
  have hm := gI_mem q.1 q.2
  have hm2 := List.mem_filter.mp hm
  obtain ⟨c, hc, e⟩ := List.mem_map.mp hm2.1
  have hn : c ∉ s := fun z => by
    have h2 := hm2.2
    rw [← e] at h2
    change (!inT [c] s) = true at h2
    rw [inT_one] at h2
    simp [z] at h2
  unfold alphaStep
  rw [← e]
  refine ⟨⟨?_, ?_⟩, by simp⟩
  · rw [List.nodup_append]
    exact ⟨h.nd, by simp, fun a ha b hb => by
      have : b = c := by simpa using hb
      rw [this]; intro z; rw [z] at ha; exact hn ha⟩
  · intro d hd
    rcases List.mem_append.mp hd with hd | hd
    · exact h.sub d hd
    · have : d = c := by simpa using hd
      rw [this]; exact hc
theorem alpha_fold {cell : Int} : ∀ (ks : List Int) (s : Txt), Alph s → s.length + ks.length ≤ 20 → Alph (ks.foldl (alphaStep cell) s) ∧ (ks.foldl (alphaStep cell) s).length = s.length + ks.length
  | [], s, h, _ => ⟨h, rfl⟩
  | k :: ks, s, h, hl => by
    simp at hl
    have h1 := alpha_step (cell := cell) (k := k) h (by omega)
    have h2 := alpha_fold (cell := cell) ks (alphaStep cell s k) h1.1 (by rw [h1.2]; omega)
    refine ⟨h2.1, ?_⟩
    show (ks.foldl (alphaStep cell) (alphaStep cell s k)).length = _
    rw [h2.2, h1.2]
    simp
    omega
theorem alph_nil : Alph [] := ⟨List.nodup_nil, fun c h => by cases h⟩
theorem alpha_ok (cell most : Int) (h : 2 ≤ most ∧ most ≤ 8) : Alph (alphabetL cell most) ∧ 2 ≤ (alphabetL cell most).length ∧ (alphabetL cell most).length ≤ 8 ∧ ((alphabetL cell most).length : Int) ≤ most := by
  have q := number_in cell 1 (limit := most - 1) (by omega)
  have hl : (rng 0 (2 + number cell 1 (most - 1)).toNat).length = (2 + number cell 1 (most - 1)).toNat := rng_len _ _
  have := alpha_fold (cell := cell) (rng 0 (2 + number cell 1 (most - 1)).toNat) [] alph_nil (by rw [hl]; simp; omega)
  rw [hl] at this
  unfold alphabetL
  refine ⟨this.1, ?_, ?_, ?_⟩ <;> rw [this.2] <;> simp <;> omega
theorem alph_ok {s : Txt} (h : Alph s) : okT s = true := okT_sub h.sub (by decide)
/-! ### ranks and levels, told -/
def mostOf (cell k : Int) : Int := gI [2, 3, 100, 5] (number cell k 4)
theorem most_in (cell k : Int) : 2 ≤ mostOf cell k ∧ mostOf cell k ≤ 100 := by
  have q := number_in cell k (limit := 4) (by decide)
  unfold mostOf
  rw [gI_nat q.1]
  have h : (number cell k 4).toNat < 4 := by omega
  generalize (number cell k 4).toNat = n at h
  have : ∀ n < 4, 2 ≤ ([2, 3, 100, 5] : List Int).getD n default ∧ ([2, 3, 100, 5] : List Int).getD n default ≤ 100 := by decide
  exact this n h
def ranks0 (cell k many : Int) : List Int := (rng 0 many.toNat).map fun at_ => number cell (k + at_ + 1) (mostOf cell k)
def ranksL (cell k many : Int) : List Int := if 0 < number cell (k + 11) 3 then ranks0 cell k many else (ranks0 cell k many).map fun r => 1 + r % 99
theorem ranks_len (cell k many : Int) : (ranksL cell k many).length = many.toNat := by
  unfold ranksL ranks0
  split <;> simp [rng_len]
theorem within_all {xs : List Int} {l h : Int} : areWithin xs l h = true ↔ ∀ x ∈ xs, l ≤ x ∧ x ≤ h := by
  unfold areWithin withinI
  rw [List.all_eq_true]
  simp
theorem ranks_in (cell k many : Int) : areWithin (ranksL cell k many) 0 99 = true := by
  rw [within_all]
  unfold ranksL
  have hm := most_in cell k
  split
  · intro x hx
    obtain ⟨a, _, rfl⟩ := List.mem_map.mp hx
    have q := number_in cell (k + a + 1) (limit := mostOf cell k) (by omega)
    omega
  · intro x hx
    obtain ⟨a, _, rfl⟩ := List.mem_map.mp hx
    have := Int.emod_nonneg a (b := 99) (by decide)
    have := Int.emod_lt_of_pos a (b := 99) (by decide)
    omega
def toldOne (cell many at_ : Int) : List Int × Bool := (ranksL (cell + 31 * at_) (2 * at_) many, decide (number (cell + at_) (at_ + 21) 3 = 0))
def toldL (cell many : Int) : List (List Int × Bool) := (rng 0 (1 + number cell 20 3).toNat).map (toldOne cell many)
theorem fold_snoc {α β : Type} (f : α → β) : ∀ (xs : List α) (s : List β), xs.foldl (fun s x => s ++ [f x]) s = s ++ xs.map f
  | [], s => by simp
  | x :: xs, s => by rw [List.foldl_cons, fold_snoc f xs]; simp
theorem told_len (cell many : Int) : 1 ≤ (toldL cell many).length ∧ (toldL cell many).length ≤ 3 := by
  have q := number_in cell 20 (limit := 3) (by decide)
  unfold toldL
  rw [List.length_map, rng_len]
  omega
/-! ### names -/
def isNameL (n signs : Txt) : Bool := (decide ((1 : Int) ≤ n.length) && decide ((n.length : Int) ≤ 20)) && (sgs n).all fun s => inT s signs
/-- of these signs -/
def Of (s n : Txt) : Prop := ∀ c ∈ n, c ∈ s
theorem of_sgs {s n : Txt} (h : Of s n) : ∀ x ∈ sgs n, inT x s = true := fun x hx => by
  obtain ⟨c, hc, rfl⟩ := List.mem_map.mp hx
  rw [inT_one, decide_eq_true_eq]
  exact h c hc
theorem is_name {s n : Txt} (h : Of s n) (h1 : 1 ≤ n.length) (h2 : n.length ≤ 20) : isNameL n s = true := by
  unfold isNameL
  rw [Bool.and_eq_true, List.all_eq_true]
  exact ⟨by simp; omega, of_sgs h⟩
theorem of_is {s n : Txt} (h : isNameL n s = true) : Of s n ∧ 1 ≤ n.length ∧ n.length ≤ 20 := by
  unfold isNameL at h
  rw [Bool.and_eq_true, Bool.and_eq_true, List.all_eq_true, decide_eq_true_eq, decide_eq_true_eq] at h
  exact ⟨fun c hc => by
    have := h.2 [c] (List.mem_map.mpr ⟨c, hc, rfl⟩)
    rw [inT_one, decide_eq_true_eq] at this
    exact this, by omega, by omega⟩
def nameStep (script : List Int) (by_ : Int) (signs found : Txt) (k : Int) : Txt := found ++ [gI signs (number (cellAt script (by_ + k / 4) + 31 * k) (k + 2) signs.length)]
def nameL (script : List Int) (by_ : Int) (signs : Txt) (most : Int) : Txt := (rng 0 (1 + number (cellAt script by_) 1 most).toNat).foldl (nameStep script by_ signs) []
theorem name_fold {script : List Int} {by_ : Int} {signs : Txt} (hs : 0 < signs.length) : ∀ (ks : List Int) (s : Txt), Of signs s → Of signs (ks.foldl (nameStep script by_ signs) s) ∧ (ks.foldl (nameStep script by_ signs) s).length = s.length + ks.length
  | [], s, h => ⟨h, rfl⟩
  | k :: ks, s, h => by
    have q := number_in (cellAt script (by_ + k / 4) + 31 * k) (k + 2) (limit := (signs.length : Int)) (by omega)
    have h1 : Of signs (nameStep script by_ signs s k) := fun c hc => by
      rcases List.mem_append.mp hc with hc | hc
      · exact h c hc
      · rw [List.mem_singleton.mp hc]; exact gI_mem q.1 q.2
    have h2 := name_fold (script := script) (by_ := by_) hs ks _ h1
    refine ⟨h2.1, ?_⟩
    show (ks.foldl (nameStep script by_ signs) (nameStep script by_ signs s k)).length = _
    rw [h2.2]
    unfold nameStep
    simp
    omega
theorem name_ok {script : List Int} {by_ : Int} {signs : Txt} {most : Int} (hs : 0 < signs.length) (hm : 0 < most) : Of signs (nameL script by_ signs most) ∧ 1 ≤ (nameL script by_ signs most).length ∧ ((nameL script by_ signs most).length : Int) ≤ most := by
  have q := number_in (cellAt script by_) 1 (limit := most) hm
  have h := name_fold (script := script) (by_ := by_) hs (rng 0 (1 + number (cellAt script by_) 1 most).toNat) [] (fun c hc => by cases hc)
  rw [rng_len] at h
  unfold nameL
  refine ⟨h.1, ?_, ?_⟩ <;> rw [h.2] <;> simp <;> omega
def namesL (script : List Int) (by_ : Int) (signs : Txt) (many most : Int) : List Txt := (rng 0 many.toNat).map fun k => nameL script (by_ + k) signs most
theorem names_ok {script : List Int} {by_ : Int} {signs : Txt} {many most : Int} (hs : 0 < signs.length) (hm : 0 < most) : ∀ n ∈ namesL script by_ signs many most, Of signs n ∧ 1 ≤ n.length ∧ (n.length : Int) ≤ most := fun n hn => by
  obtain ⟨k, _, rfl⟩ := List.mem_map.mp hn
  exact name_ok hs hm
theorem names_len (script : List Int) (by_ : Int) (signs : Txt) (many most : Int) : (namesL script by_ signs many most).length = many.toNat := by simp [namesL, rng_len]
/-! ### books -/
abbrev Lv : Type := Bool × List Int
abbrev Bk : Type := Txt × List Lv
abbrev rBk (CL CB CBk : Addr) : Rp Bk := rObj (fun _ => CBk) ["alphabet", "ladder"] (fun o => [.val rTxt o.1, .val (rList (rLv CL CB)) o.2])
structure OkBk (b : Bk) : Prop where
  al : Alph b.1
  s1 : 1 ≤ b.1.length
  s8 : b.1.length ≤ 8
  l1 : 1 ≤ b.2.length
  l3 : b.2.length ≤ 3
  lv : ∀ l ∈ b.2, l.2.length = b.1.length ∧ areWithin l.2 0 99 = true
def toB (s : Txt) (ls : List (List Int × Bool)) : Bk := (s, ls.map fun p => (p.2, p.1))
theorem told_ok {s : Txt} {cell : Int} (h : Alph s) (h1 : 1 ≤ s.length) (h8 : s.length ≤ 8) : OkBk (toB s (toldL cell s.length)) := by
  have q := told_len cell s.length
  refine ⟨h, h1, h8, by unfold toB; simpa using q.1, by unfold toB; simpa using q.2, fun l hl => ?_⟩
  unfold toB toldL at hl
  simp only [List.mem_map] at hl
  obtain ⟨p, ⟨a, _, rfl⟩, rfl⟩ := hl
  refine ⟨?_, ranks_in _ _ _⟩
  show (ranksL _ _ _).length = _
  rw [ranks_len]
  simp [toB]
def firstL (b : Bk) : List Int := (gI b.2 0).2
def keptL (b : Bk) (n : Txt) : Txt := ((sgs n).filter fun s => decide (0 < gI (firstL b) (ixT s b.1))).flatten
def placesL (b : Bk) (n : Txt) : List Int := (sgs (keptL b n)).map fun s => ixT s b.1
def weighGo : List Lv → List Int → List Int → Int
  | [], _, _ => 0
  | l :: r, m, t => if weighedL (seenL l.1 (m.map (gI l.2))) (seenL l.1 (t.map (gI l.2))) ≠ 0 then weighedL (seenL l.1 (m.map (gI l.2))) (seenL l.1 (t.map (gI l.2))) else weighGo r m t
def weighB (b : Bk) (one other : Txt) : Int := weighGo b.2 (placesL b one) (placesL b other)
theorem sgs_flat (n : Txt) (p : Txt → Bool) : sgs ((sgs n).filter p).flatten = (sgs n).filter p := by
  unfold sgs
  induction n with
  | nil => rfl
  | cons c n ih =>
    rw [List.map_cons, List.filter_cons]
    split
    · rw [List.flatten_cons, List.map_append, ih]; rfl
    · exact ih
theorem kept_sub (b : Bk) (n : Txt) : ∀ c ∈ keptL b n, c ∈ n := fun c hc => by
  obtain ⟨x, hx, hcx⟩ := List.mem_flatten.mp hc
  obtain ⟨d, hd, rfl⟩ := List.mem_map.mp (List.mem_filter.mp hx).1
  have : c = d := by simpa using hcx
  rw [this]; exact hd
theorem flat_len (n : Txt) (p : Txt → Bool) : ((sgs n).filter p).flatten.length ≤ n.length := by
  have := sgs_len ((sgs n).filter p).flatten
  rw [sgs_flat] at this
  have h2 := List.length_filter_le p (sgs n)
  rw [sgs_len] at h2
  omega
theorem kept_len (b : Bk) (n : Txt) : (keptL b n).length ≤ n.length := flat_len _ _
/-- the row of a name on a told level -/
def rowL (s : Txt) (ls : List (List Int × Bool)) (at_ : Int) (n : Txt) : List Int :=
  seenL (gI ls at_).2 (((sgs n).filter fun x => decide (0 < gI (gI ls 0).1 (ixT x s))).map fun x => gI (gI ls at_).1 (ixT x s))
def parGo (k : Int) (m t : List Int) : List (Int × Int) → Unit → Int
  | [], _ => if m.length ≠ t.length then (if m.length < t.length then -1 else 1) else k
  | z :: r, u => if z.1 ≠ z.2 then (if z.1 < z.2 then -1 else 1) else parGo k m t r u
def weighToldGo (s : Txt) (ls : List (List Int × Bool)) (one other : Txt) : List Int → Unit → Int
  | [], _ => 0
  | at_ :: r, u => parGo (weighToldGo s ls one other r u) (rowL s ls at_ one) (rowL s ls at_ other) ((rowL s ls at_ one).zip (rowL s ls at_ other)) ()
def weighT (s : Txt) (ls : List (List Int × Bool)) (one other : Txt) : Int := weighToldGo s ls one other (rng 0 ls.length) ()
theorem weighed_cases (a b : List Int) : weighedL a b = -1 ∨ weighedL a b = 0 ∨ weighedL a b = 1 := by
  unfold weighedL
  split <;> split <;> simp
theorem par_weighed (k : Int) (M T : List Int) : ∀ (a b : List Int) (n : Nat), M.length = a.length + n → T.length = b.length + n → parGo k M T (a.zip b) () = if weighedL a b ≠ 0 then weighedL a b else k
  | [], [], n, h1, h2 => by
    simp at h1 h2
    simp only [List.zip_nil_left, parGo, weighedL, ltL]
    rw [if_neg (by omega)]; rfl
  | [], b :: bs, n, h1, h2 => by
    simp at h1 h2
    show (if M.length ≠ T.length then (if M.length < T.length then -1 else 1) else k) = _
    rw [if_pos (by omega), if_pos (by omega)]
    have : weighedL [] (b :: bs) = -1 := rfl
    rw [this]; rfl
  | a :: as, [], n, h1, h2 => by
    simp at h1 h2
    show (if M.length ≠ T.length then (if M.length < T.length then -1 else 1) else k) = _
    rw [if_pos (by omega), if_neg (by omega)]
    have : weighedL (a :: as) [] = 1 := rfl
    rw [this]; rfl
  | a :: as, b :: bs, n, h1, h2 => by
    simp at h1 h2
    simp only [List.zip_cons_cons, parGo]
    by_cases q : a = b
    · subst q
      simp only [ne_eq, not_true, if_false]
      rw [par_weighed k M T as bs (n + 1) (by omega) (by omega)]
      have : weighedL (a :: as) (a :: bs) = weighedL as bs := by simp [weighedL, ltL]
      rw [this]
    · rw [if_pos q]
      by_cases l : a < b
      · have l2 : ¬ b < a := by omega
        have : weighedL (a :: as) (b :: bs) = -1 := by simp [weighedL, ltL, q, Ne.symm q, l, l2]
        rw [this, if_pos l]; rfl
      · have l2 : b < a := by omega
        have : weighedL (a :: as) (b :: bs) = 1 := by simp [weighedL, ltL, q, Ne.symm q, l, l2]
        rw [this, if_neg l]; rfl
theorem row_eq (s : Txt) (ls : List (List Int × Bool)) (n : Txt) (at_ : Int) (h0 : 0 ≤ at_) (h1 : at_ < ls.length) :
    rowL s ls at_ n = seenL (gI (toB s ls).2 at_).1 ((placesL (toB s ls) n).map (gI (gI (toB s ls).2 at_).2)) := by
  have hmap : ∀ i : Int, 0 ≤ i → i < ls.length → gI (toB s ls).2 i = ((gI ls i).2, (gI ls i).1) := fun i h0 h1 => by
    unfold toB
    rw [gI_nat h0, gI_nat h0]
    have : i.toNat < ls.length := by omega
    simp [List.getD, List.getElem?_map, List.getElem?_eq_getElem this]
  rw [hmap at_ h0 h1]
  unfold rowL placesL keptL firstL
  rw [sgs_flat, hmap 0 (by decide) (by omega), List.map_map]
  rfl
theorem rng_map_get {α : Type} [Inhabited α] (xs : List α) : (rng 0 xs.length).map (gI xs) = xs := by
  apply List.ext_getElem?
  intro i
  rw [List.getElem?_map]
  by_cases h : i < xs.length
  · rw [rng_get h]
    show some (gI xs (0 + (i : Int))) = _
    rw [gI_nat (by omega)]
    have : (0 + (i : Int)).toNat = i := by omega
    rw [this, List.getD, List.getElem?_eq_getElem h]; rfl
  · rw [List.getElem?_eq_none (by rw [rng_len]; omega), List.getElem?_eq_none (by omega)]; rfl
theorem weigh_go2 (s : Txt) (ls : List (List Int × Bool)) (one other : Txt) : ∀ (ats : List Int), (∀ a ∈ ats, 0 ≤ a ∧ a < ls.length) →
    weighToldGo s ls one other ats () = weighGo (ats.map (gI (toB s ls).2)) (placesL (toB s ls) one) (placesL (toB s ls) other)
  | [], _ => rfl
  | a :: r, h => by
    have ha := h a (by simp)
    have ih := weigh_go2 s ls one other r fun b hb => h b (by simp [hb])
    rw [List.map_cons]
    unfold weighToldGo weighGo
    rw [par_weighed _ _ _ _ _ 0 rfl rfl, ih, row_eq s ls one a ha.1 ha.2, row_eq s ls other a ha.1 ha.2]
theorem weigh_told (s : Txt) (ls : List (List Int × Bool)) (one other : Txt) : weighB (toB s ls) one other = weighT s ls one other := by
  unfold weighT weighB
  rw [weigh_go2 s ls one other _ fun a ha => by have := mem_rng ha; omega]
  have hl : (toB s ls).2.length = ls.length := by simp [toB]
  rw [← hl, rng_map_get]
theorem weighGo_anti : ∀ (ls : List Lv) (m t : List Int), weighGo ls t m = - weighGo ls m t
  | [], _, _ => rfl
  | l :: r, m, t => by
    have ih := weighGo_anti r m t
    unfold weighGo
    rw [weigh_anti (seenL l.1 (m.map (gI l.2))) (seenL l.1 (t.map (gI l.2))), ih]
    generalize weighedL _ _ = x
    by_cases h : x = 0
    · simp [h]
    · have : -x ≠ 0 := by omega
      simp [h, this]
theorem weighB_anti (b : Bk) (one other : Txt) : weighB b other one = - weighB b one other := weighGo_anti _ _ _
/-! ### names in order -/
theorem weighed_zero : ∀ {a b : List Int}, weighedL a b = 0 → a = b
  | [], [], _ => rfl
  | [], _ :: _, h => by cases h
  | _ :: _, [], h => by cases h
  | a :: as, b :: bs, h => by
    by_cases q : a = b
    · subst q
      have : weighedL (a :: as) (a :: bs) = weighedL as bs := by simp [weighedL, ltL]
      rw [this] at h
      rw [weighed_zero h]
    · exfalso
      by_cases l : a < b
      · have l2 : ¬ b < a := by omega
        have : weighedL (a :: as) (b :: bs) = -1 := by simp [weighedL, ltL, q, Ne.symm q, l, l2]
        rw [this] at h; cases h
      · have l2 : b < a := by omega
        have : weighedL (a :: as) (b :: bs) = 1 := by simp [weighedL, ltL, q, Ne.symm q, l, l2]
        rw [this] at h; cases h
theorem weighed_self (a : List Int) : weighedL a a = 0 := by unfold weighedL; omega
theorem weighed_cons (a b : Int) (as bs : List Int) : weighedL (a :: as) (b :: bs) = if a = b then weighedL as bs else if a < b then -1 else 1 := by
  by_cases q : a = b
  · subst q; simp [weighedL, ltL]
  · by_cases l : a < b
    · have l2 : ¬ b < a := by omega
      simp [weighedL, ltL, q, Ne.symm q, l, l2]
    · have l2 : b < a := by omega
      simp [weighedL, ltL, q, Ne.symm q, l, l2]
theorem weighed_trans : ∀ {a b c : List Int}, weighedL a b < 0 → weighedL b c < 0 → weighedL a c < 0
  | [], [], _, h, _ => by cases h
  | [], _ :: _, [], _, h => by cases h
  | [], _ :: _, _ :: _, _, _ => by show (-1 : Int) < 0; decide
  | _ :: _, [], _, h, _ => by cases h
  | _ :: _, _ :: _, [], _, h => by cases h
  | a :: as, b :: bs, c :: cs, h1, h2 => by
    rw [weighed_cons] at h1 h2 ⊢
    by_cases q1 : a = b
    · subst q1
      rw [if_pos rfl] at h1
      by_cases q2 : a = c
      · subst q2
        rw [if_pos rfl] at h2 ⊢
        exact weighed_trans h1 h2
      · rw [if_neg q2] at h2 ⊢; exact h2
    · rw [if_neg q1] at h1
      have hab : a < b := by
        by_cases l : a < b
        · exact l
        · rw [if_neg l] at h1; cases h1
      by_cases q2 : b = c
      · subst q2
        rw [if_neg q1, if_pos hab]; decide
      · rw [if_neg q2] at h2
        have hbc : b < c := by
          by_cases l : b < c
          · exact l
          · rw [if_neg l] at h2; cases h2
        rw [if_neg (by omega), if_pos (by omega)]; decide
theorem weighGo_trans : ∀ (ls : List Lv) (a b c : List Int), weighGo ls a b ≤ 0 → weighGo ls b c ≤ 0 → weighGo ls a c ≤ 0
  | [], _, _, _, _, _ => Int.le_refl _
  | l :: r, a, b, c, h1, h2 => by
    unfold weighGo at h1 h2 ⊢
    generalize seenL l.1 (a.map (gI l.2)) = x at *
    generalize seenL l.1 (b.map (gI l.2)) = y at *
    generalize seenL l.1 (c.map (gI l.2)) = z at *
    by_cases q1 : weighedL x y = 0
    · have := weighed_zero q1
      subst this
      rw [if_neg (by simpa using q1)] at h1
      by_cases q2 : weighedL x z = 0
      · rw [if_neg (by simpa using q2)] at h2 ⊢
        exact weighGo_trans r a b c h1 h2
      · rw [if_pos q2] at h2 ⊢; exact h2
    · rw [if_pos q1] at h1
      by_cases q2 : weighedL y z = 0
      · have := weighed_zero q2
        subst this
        rw [if_pos q1]; exact h1
      · rw [if_pos q2] at h2
        have := weighed_trans (a := x) (b := y) (c := z) (by omega) (by omega)
        rw [if_pos (by omega)]; omega
theorem weighB_trans (bk : Bk) {a b c : Txt} (h1 : weighB bk a b ≤ 0) (h2 : weighB bk b c ≤ 0) : weighB bk a c ≤ 0 := weighGo_trans _ _ _ _ h1 h2
theorem kept_told (s : Txt) (ls : List (List Int × Bool)) (n : Txt) (h : 1 ≤ ls.length) : keptL (toB s ls) n = ((sgs n).filter fun x => decide (0 < gI (gI ls 0).1 (ixT x s))).flatten := by
  unfold keptL firstL
  have : gI (toB s ls).2 0 = ((gI ls 0).2, (gI ls 0).1) := by
    unfold toB
    rw [gI_nat (by decide), gI_nat (by decide)]
    have h0 : 0 < ls.length := by omega
    show ((ls.map fun p => (p.2, p.1)).getD 0 default) = _
    cases ls with
    | nil => simp at h0
    | cons p r => rfl
  rw [this]
  rfl
end Law
namespace Law
open PySem L2 DL PySem.Spec PyProof.Rows
structure TBk (K : PySem.W.Frag) (mg : Str → Option Value) (CBk : Addr) : Prop where
  ci : ClsI K CBk
  cl : Cls K CBk
  n1 : NoAttr K CBk "alphabet"
  n2 : NoAttr K CBk "ladder"
  kB : PySem.W.kitOne K (.ref CBk) (.ref CBk) = some true
theorem places_in (b : Bk) {n : Txt} (h : Of b.1 n) : ∀ i ∈ (sgs (keptL b n)).map (fun s => ixT s b.1), 0 ≤ i ∧ i < b.1.length := fun i hi => by
  obtain ⟨s, hs, rfl⟩ := List.mem_map.mp hi
  exact ixT_in (of_sgs (fun c hc => h c (kept_sub b n c hc)) s hs)
theorem told_ranks {s : Txt} {ls : List (List Int × Bool)} (h : OkBk (toB s ls)) : ∀ p ∈ ls, okRanks p.1 := fun p hp => by
  have q := h.lv (p.2, p.1) (by unfold toB; exact List.mem_map.mpr ⟨p, hp, rfl⟩)
  have h1 := h.s1
  have h8 := h.s8
  exact ⟨by rw [q.1]; exact h1, by rw [q.1]; exact h8, q.2⟩
theorem told_each {s : Txt} {ls : List (List Int × Bool)} (h : OkBk (toB s ls)) : ∀ i : Int, 0 ≤ i → i < ls.length → (gI ls i).1.length = s.length := fun i h0 h1 => by
  have hm := gI_mem h0 h1
  exact (h.lv ((gI ls i).2, (gI ls i).1) (by unfold toB; exact List.mem_map.mpr ⟨gI ls i, hm, rfl⟩)).1
/-- names near a name -/
def nearL (n signs : Txt) (cell : Int) : List Txt :=
  let at_ := number cell 15 n.length
  let s : Txt := [gI signs (number cell 16 signs.length)]
  (([cutL n none (some at_) ++ s ++ cutL n (some at_) none, cutL n none (some at_) ++ s ++ cutL n (some (at_ + 1)) none, n.reverse, cutL n (some at_) none, cutL n none (some (at_ + 1))] ++
    [cutL n none (some at_) ++ (cutL n (some at_) (some (at_ + 2))).reverse ++ cutL n (some (at_ + 2)) none, s, n]).filter fun x => !decide (x = [])).map fun x => cutL x none (some 20)
theorem of_cut {s n : Txt} (l h : Option Int) (q : Of s n) : Of s (cutL n l h) := fun c hc => q c (List.mem_of_mem_drop (List.mem_of_mem_take hc))
theorem of_app {s n m : Txt} (h1 : Of s n) (h2 : Of s m) : Of s (n ++ m) := fun c hc => (List.mem_append.mp hc).elim (h1 c) (h2 c)
theorem of_rev {s n : Txt} (h1 : Of s n) : Of s n.reverse := fun c hc => h1 c (List.mem_reverse.mp hc)
theorem cut20 (n : Txt) (h : n ≠ []) : 1 ≤ (cutL n none (some 20)).length ∧ (cutL n none (some 20)).length ≤ 20 := by
  have h0 : 0 < n.length := List.length_pos_iff.mpr h
  unfold cutL
  have h1 : HT.sIx n.length 0 none = 0 := rfl
  have h2 : HT.sIx n.length n.length (some 20) = min 20 n.length := by
    unfold HT.sIx
    simp
  rw [h1, h2, List.length_take, List.length_drop]
  omega
theorem near_len (n signs : Txt) (cell : Int) : (nearL n signs cell).length ≤ 8 := by
  unfold nearL
  simp only [List.length_map]
  exact Nat.le_trans (List.length_filter_le _ _) (by simp)
theorem near_ok {n signs : Txt} {cell : Int} (h : Of signs n) (hs : 0 < signs.length) : ∀ m ∈ nearL n signs cell, Of signs m ∧ 1 ≤ m.length ∧ m.length ≤ 20 := fun m hm => by
  unfold nearL at hm
  obtain ⟨x, hx, rfl⟩ := List.mem_map.mp hm
  obtain ⟨hx, hne⟩ := List.mem_filter.mp hx
  have q := number_in cell 16 (limit := (signs.length : Int)) (by omega)
  have hS : Of signs [gI signs (number cell 16 signs.length)] := fun c hc => by rw [List.mem_singleton.mp hc]; exact gI_mem q.1 q.2
  have : Of signs x := by
    simp only [List.cons_append, List.nil_append, List.mem_cons, List.not_mem_nil, or_false] at hx
    rcases hx with rfl | rfl | rfl | rfl | rfl | rfl | rfl | rfl
    · exact of_app (of_app (of_cut _ _ h) hS) (of_cut _ _ h)
    · exact of_app (of_app (of_cut _ _ h) hS) (of_cut _ _ h)
    · exact of_rev h
    · exact of_cut _ _ h
    · exact of_cut _ _ h
    · exact of_app (of_app (of_cut _ _ h) (of_rev (of_cut _ _ h))) (of_cut _ _ h)
    · exact hS
    · exact h
  have hc := cut20 x (by simpa using hne)
  exact ⟨of_cut _ _ this, hc.1, hc.2⟩
theorem zip3_mem {α β γ : Type} {xs : List α} {ys : List β} {zs : List γ} {t : α × β × γ} (h : t ∈ zip3L xs ys zs) : t.1 ∈ xs ∧ t.2.1 ∈ ys ∧ t.2.2 ∈ zs := by
  unfold zip3L at h
  obtain ⟨a, b, c⟩ := t
  have h1 := List.of_mem_zip h
  have h2 := List.of_mem_zip h1.2
  exact ⟨h1.1, h2.1, h2.2⟩
theorem mem_cut {α : Type} {xs : List α} {l h : Option Int} {x : α} (q : x ∈ cutL xs l h) : x ∈ xs := List.mem_of_mem_drop (List.mem_of_mem_take q)
theorem gi2 {a b i : Int} (h : 0 ≤ i ∧ i < 2) : gI [a, b] i = a ∨ gI [a, b] i = b := by
  have : i = 0 ∨ i = 1 := by omega
  rcases this with h | h <;> subst h
  · exact .inl rfl
  · exact .inr rfl
/-- names that a book takes -/
def NameOf (s n : Txt) : Prop := Of s n ∧ 1 ≤ n.length ∧ n.length ≤ 20
theorem NameOf.is {s n : Txt} (h : NameOf s n) : isNameL n s = true := is_name h.1 h.2.1 h.2.2
end Law
namespace Law
open PySem L2 DL PySem.Spec PyProof.Rows
def top (i : Nat) : Stmt := PySem.Challenge.pw_filedcards_k02_whole_weighed.main.body.getD i (.Pass ⟨0, 0, 0, 0⟩)
section
variable {P : Program} {w : World} {K : PySem.W.Frag} {mg : Str → Option Value} {base : Heap}
abbrev s_within : Stmt := top 5
theorem sc_s_within : FnScope ["thing", "low", "high"] ["thing", "low", "high"] (defScope s_within) := ⟨rfl, rfl, rfl, by decide +kernel, rfl, by decide +kernel, by decide +kernel⟩
abbrev P_within (P : Program) (w : World) (K : PySem.W.Frag) (mg : Str → Option Value) (base : Heap) : Prop := FN P w K mg base CX0 1 "within" ["thing", "low", "high"] (SpF3 rInt rInt rInt (fun _ _ _ => True) rBool (withinI))
set_option maxHeartbeats 4000000 in
theorem ok_within (b_bool : mg "bool" = none) (b_int : mg "int" = none) (b_isinstance : mg "isinstance" = none) (T : FT K mg "within" "within" s_within ["thing", "low", "high"]) : P_within P w K mg base :=
  fnF3 T sc_s_within (vs := [0, 1, 2]) (by decide +kernel) [] (body := fun X B D v_thing v_low v_high c hp hD hn =>
  (sd_retC hD (de_and (c_isi (T' := "int") (b := true) c (c_var c 0 (.z)) ty_int (kit_ty (by decide +kernel)) b_isinstance b_int) (fun h1 => (de_and (de_not (c_isi (T' := "bool") (b := false) c (c_var c 0 (.z)) ty_int (kit_ty (by decide +kernel)) b_isinstance b_bool)) (fun h2 => (de_one ((dc_leLe (c_var c 1 (.s (.z))) (c_var c 0 (.z)) (c_var c 2 (.s (.s (.z)))))).v))))) (by /- ret 1 -/ simp [withinI])))
abbrev s_are_within : Stmt := top 6
theorem sc_s_are_within : FnScope ["thing", "low", "high", "one"] ["thing", "low", "high"] (defScope s_are_within) := ⟨rfl, rfl, rfl, by decide +kernel, rfl, by decide +kernel, by decide +kernel⟩
abbrev P_are_within (P : Program) (w : World) (K : PySem.W.Frag) (mg : Str → Option Value) (base : Heap) : Prop := FN P w K mg base CX0 2 "are_within" ["thing", "low", "high"] (SpF3 (rList rInt) rInt rInt (fun xs _ _ => xs.length ≤ 1000000) rBool (areWithin))
set_option maxHeartbeats 4000000 in
theorem ok_are_within (h_within : P_within P w K mg base) (b_all : mg "all" = none) (b_isinstance : mg "isinstance" = none) (b_list : mg "list" = none) (T : FT K mg "are_within" "are_within" s_are_within ["thing", "low", "high"]) : P_are_within P w K mg base :=
  fnF3 T sc_s_are_within (vs := [0, 1, 2]) (by decide +kernel) [.un] (body := fun X B D v_thing v_low v_high c hp hD hn =>
  (sd_retC hD (de_and (c_isi (T' := "list") (b := true) c (c_var c 0 (.z)) ty_list (kit_ty (by decide +kernel)) b_isinstance b_list) (fun h1 => (de_one (c_all c (de_of_dm (dm_lc c (c_lc c [("one", 3)] [1, 2, 3] [3] _ (di_list (c_var c 0 (.z))) (fun _ _ c1 => (c_tname c1 3)) (fun _ => .s (.s (.s (.z)))) (fun _ _ x1 c1 hx1 => (c_callF3 c1 h_within (c_var c1 3 (.s (.s (.s (.z))))) (c_var c1 1 (.s (.z))) (c_var c1 2 (.s (.s (.z)))) (by /- 0 -/ first | trivial | omega | assumption | exact one_sgs (by assumption) | decide | (rw [sgs_len]; omega) | (subst_vars; rfl)))) (by /- 1 -/ first | trivial | omega | assumption | exact one_sgs (by assumption) | decide | (rw [sgs_len]; omega) | (subst_vars; rfl)) (Uns.all (.cons (.s (.s (.s (.z)))) .nil))))) b_all)))) (by /- ret 1 -/ simp [areWithin, List.all_map, Function.comp_def])))
abbrev s_is_name : Stmt := top 7
theorem sc_s_is_name : FnScope ["thing", "signs", "sign"] ["thing", "signs"] (defScope s_is_name) := ⟨rfl, rfl, rfl, by decide +kernel, rfl, by decide +kernel, by decide +kernel⟩
abbrev P_is_name (P : Program) (w : World) (K : PySem.W.Frag) (mg : Str → Option Value) (base : Heap) : Prop := FN P w K mg base CX0 1 "is_name" ["thing", "signs"] (SpF2 rTxt rTxt (fun n _ => n.length ≤ 1000) rBool (isNameL))
set_option maxHeartbeats 4000000 in
theorem ok_is_name (b_all : mg "all" = none) (b_isinstance : mg "isinstance" = none) (b_len : mg "len" = none) (b_str : mg "str" = none) (m_LONGEST : ∃ t, mg "LONGEST" = some (.int 20 t)) (T : FT K mg "is_name" "is_name" s_is_name ["thing", "signs"]) : P_is_name P w K mg base :=
  fnF2 T sc_s_is_name (vs := [0, 1]) (by decide +kernel) [.un] (body := fun X B D v_thing v_signs c hp hD hn =>
  (sd_retC hD (de_and (c_isi (T' := "str") (b := true) c (c_var c 0 (.z)) ty_txt (kit_ty (by decide +kernel)) b_isinstance b_str) (fun h1 => (de_and ((dc_leLe de_int (c_lenS c (c_var c 0 (.z)) b_len (by /- 0 -/ first | omega | (rw [sgs_len]; omega) | exact one_sgs (by assumption))) (c_gintE c m_LONGEST))).v (fun h2 => (de_one (c_all c (de_of_dm (dm_lc c (c_lc c [("sign", 2)] [1, 2] [2] _ (di_str (c_var c 0 (.z))) (fun _ _ c1 => (c_tname c1 2)) (fun _ => .s (.s (.z))) (fun _ _ x1 c1 hx1 => ((c_inS c1 (c_var c1 2 (.s (.s (.z)))) (c_var c1 1 (.s (.z))) (by /- 1 -/ first | omega | (rw [sgs_len]; omega) | exact one_sgs (by assumption)))).v) (by /- 2 -/ first | omega | (rw [sgs_len]; omega) | exact one_sgs (by assumption)) (Uns.all (.cons (.s (.s (.z))) .nil))))) b_all)))))) (by /- ret 1 -/ simp [isNameL, List.all_map, Function.comp_def, Bool.and_assoc])))
abbrev s_weighed : Stmt := top 8
theorem sc_s_weighed : FnScope ["one", "other"] ["one", "other"] (defScope s_weighed) := ⟨rfl, rfl, rfl, by decide +kernel, rfl, by decide +kernel, by decide +kernel⟩
abbrev P_weighed (P : Program) (w : World) (K : PySem.W.Frag) (mg : Str → Option Value) (base : Heap) : Prop := FN P w K mg base CX0 1 "weighed" ["one", "other"] (SpF2 (rList rInt) (rList rInt) (fun _ _ => True) rInt (weighedL))
set_option maxHeartbeats 4000000 in
theorem ok_weighed (b_int : mg "int" = none) (T : FT K mg "weighed" "weighed" s_weighed ["one", "other"]) : P_weighed P w K mg base :=
  fnF2 T sc_s_weighed (vs := [0, 1]) (by decide +kernel) [] (body := fun X B D v_one v_other c hp hD hn =>
  (sd_retC hD (de_sub (c_intB c ((c_gtL c (c_var c 0 (.z)) (c_var c 1 (.s (.z))))).v b_int) (c_intB c ((c_ltL c (c_var c 0 (.z)) (c_var c 1 (.s (.z))))).v b_int)) (by /- ret 1 -/ rfl)))
abbrev s__law_cell_at : Stmt := top 22
theorem sc_s__law_cell_at : FnScope ["_law_script", "_law_k"] ["_law_script", "_law_k"] (defScope s__law_cell_at) := ⟨rfl, rfl, rfl, by decide +kernel, rfl, by decide +kernel, by decide +kernel⟩
abbrev P__law_cell_at (P : Program) (w : World) (K : PySem.W.Frag) (mg : Str → Option Value) (base : Heap) : Prop := FN P w K mg base CX0 1 "_law_cell_at" ["_law_script", "_law_k"] (SpF2 (rScr K) rInt (fun _ k => 0 ≤ k) rInt (cellAt))
set_option maxHeartbeats 4000000 in
theorem ok__law_cell_at (b_len : mg "len" = none) (T : FT K mg "_law_cell_at" "_law_cell_at" s__law_cell_at ["_law_script", "_law_k"]) : P__law_cell_at P w K mg base :=
  fnF2 T sc_s__law_cell_at (vs := [0, 1]) (by decide +kernel) [] (body := fun X B D v_script v_k c hp hD hn =>
  (sd_ifT ((dc_lt (c_var c 1 (.s (.z))) (c_lenScr c (c_var c 0 (.z)) b_len))).t (fun ht1 => (sd_retC hD (c_ixScr c (c_var c 0 (.z)) (c_var c 1 (.s (.z))) (by /- 0 -/ have := of_decide_eq_true ht1; omega)) (by /- ret 1 -/ exact (if_pos (of_decide_eq_true ht1)).symm))) (fun he1 =>
  (sd_retC hD de_int (by /- ret 2 -/ exact (if_neg (of_decide_eq_false he1)).symm)))))
abbrev s__law_draw : Stmt := top 23
theorem sc_s__law_draw : FnScope ["_law_cell", "_law_k", "_law_most", "_law_primes"] ["_law_cell", "_law_k", "_law_most"] (defScope s__law_draw) := ⟨rfl, rfl, rfl, by decide +kernel, rfl, by decide +kernel, by decide +kernel⟩
abbrev P__law_draw (P : Program) (w : World) (K : PySem.W.Frag) (mg : Str → Option Value) (base : Heap) : Prop := FN P w K mg base CX0 1 "_law_draw" ["_law_cell", "_law_k", "_law_most"] (SpF3 rInt rInt rInt (fun _ _ m => 0 < m) rInt (draw))
set_option maxHeartbeats 4000000 in
theorem ok__law_draw  (T : FT K mg "_law_draw" "_law_draw" s__law_draw ["_law_cell", "_law_k", "_law_most"]) : P__law_draw P w K mg base :=
  fnF3 T sc_s__law_draw (vs := [0, 1, 2, 3]) (by decide +kernel) [.un] (body := fun X B D v_cell v_k v_most c hp hD hn =>
  (c_asg c 3 (de_tupL (dl_cons de_int (dl_cons de_int (dl_cons de_int (dl_cons de_int (dl_cons de_int (dl_cons de_int (dl_cons de_int (dl_cons de_int (dl_cons de_int (dl_cons de_int (dl_cons de_int (dl_cons de_int (dl_cons de_int (dl_cons de_int (dl_cons de_int (dl_cons de_int dl_nil))))))))))))))))) (fun _ => .s (.s (.s (.z)))) (fun v_primes e_v_primes =>
  (sd_retC hD (de_mod (de_mod (de_add (de_mul (c_var c 0 (.z)) de_int (by /- 0 -/ first | trivial | omega | assumption | exact one_sgs (by assumption) | decide | (rw [sgs_len]; omega) | (subst_vars; rfl))) (de_mul (c_var c 1 (.s (.z))) de_int (by /- 1 -/ first | trivial | omega | assumption | exact one_sgs (by assumption) | decide | (rw [sgs_len]; omega) | (subst_vars; rfl)))) (de_ixT (c_var c 3 (.s (.s (.s (.z))))) (de_mod (c_var c 1 (.s (.z))) de_int (by /- 2 -/ first | trivial | omega | assumption | exact one_sgs (by assumption) | decide | (rw [sgs_len]; omega) | (subst_vars; rfl))) (by /- 3 -/ subst_vars; simp; omega)) (by /- 4 -/ subst_vars; exact prime_pos _)) (c_var c 2 (.s (.s (.z)))) (by /- 5 -/ exact hp)) (by /- ret 1 -/ subst_vars; rfl)))))
abbrev s__law_number : Stmt := top 24
theorem sc_s__law_number : FnScope ["_law_cell", "_law_k", "_law_limit", "_law_rest", "_law_turn", "_law_small"] ["_law_cell", "_law_k", "_law_limit"] (defScope s__law_number) := ⟨rfl, rfl, rfl, by decide +kernel, rfl, by decide +kernel, by decide +kernel⟩
abbrev P__law_number (P : Program) (w : World) (K : PySem.W.Frag) (mg : Str → Option Value) (base : Heap) : Prop := FN P w K mg base CX0 2 "_law_number" ["_law_cell", "_law_k", "_law_limit"] (SpF3 rInt rInt rInt (fun _ k m => 0 ≤ k ∧ k ≤ 1000000 ∧ 0 < m) rInt (number))
set_option maxHeartbeats 4000000 in
theorem ok__law_number (h__law_draw : P__law_draw P w K mg base) (b_range : mg "range" = none) (T : FT K mg "_law_number" "_law_number" s__law_number ["_law_cell", "_law_k", "_law_limit"]) : P__law_number P w K mg base :=
  fnF3 T sc_s__law_number (vs := [0, 1, 2, 3, 4, 5]) (by decide +kernel) [.un, .un, .un] (body := fun X B D v_cell v_k v_limit c hp hD hn =>
  (c_asg c 3 (de_sub (c_var c 0 (.z)) (de_pow de_int de_int (by /- 0 -/ first | trivial | omega | assumption | exact one_sgs (by assumption) | decide | (rw [sgs_len]; omega) | (subst_vars; rfl)))) (fun _ => .s (.s (.s (.z)))) (fun v_rest e_v_rest =>
  (sd_forF c.po c.calm (S := Int) (fun s1 => [.val rInt v_cell, .val rInt v_k, .val rInt v_limit, .val rInt s1, .un, .un]) (fun r _ => r / 1009) (v_rest) (c_range1 c (de_mod (c_var c 1 (.s (.z))) de_int (by /- 1 -/ first | trivial | omega | assumption | exact one_sgs (by assumption) | decide | (rw [sgs_len]; omega) | (subst_vars; rfl))) b_range (by /- 2 -/ first | trivial | omega | assumption | exact one_sgs (by assumption) | decide | (rw [sgs_len]; omega) | (subst_vars; rfl))) (fun _ => (c_tname c 4)) (.k (.k (.k (.k (.k (.k .nil)))))) (fun _ => fun _ => .s (.s (.s (.s (.z))))) (fun _ pre1 y1 post1 s1 hp1 hs1 =>
    (have hr_y1 := mem_rng (by rw [hp1]; simp : y1 ∈ _); (c_asg c 3 (de_fdiv (c_var c 3 (.s (.s (.s (.z))))) de_int (by /- 3 -/ first | trivial | omega | assumption | exact one_sgs (by assumption) | decide | (rw [sgs_len]; omega) | (subst_vars; rfl))) (fun _ => .s (.s (.s (.z)))) (fun v_rest_1 e_v_rest_1 =>
    (sd_go (.k (.k (.k (.e (by /- 4 -/ subst_vars; rfl) (.u (.k .nil)))))) (fun _ _ h => h))))))
  (fun s1 hs1 =>
  (sd_ifT ((dc_gt (c_var c 3 (.s (.s (.s (.z))))) de_int)).t (fun ht1 => (sd_retC hD (de_mod (de_mod (c_var c 3 (.s (.s (.s (.z))))) de_int (by /- 5 -/ first | trivial | omega | assumption | exact one_sgs (by assumption) | decide | (rw [sgs_len]; omega) | (subst_vars; rfl))) (c_var c 2 (.s (.s (.z)))) (by /- 6 -/ first | trivial | omega | assumption | exact one_sgs (by assumption) | decide | (rw [sgs_len]; omega) | (subst_vars; rfl))) (by /- ret 1 -/ subst_vars; exact (if_pos (of_decide_eq_true ht1)).symm))) (fun he1 =>
  (c_asg c 5 (de_mod (c_var c 0 (.z)) de_int (by /- 7 -/ first | trivial | omega | assumption | exact one_sgs (by assumption) | decide | (rw [sgs_len]; omega) | (subst_vars; rfl))) (fun _ => .s (.s (.s (.s (.s (.z)))))) (fun v_small e_v_small =>
  (sd_retC hD (de_mod (c_callF3 c h__law_draw (de_mul (de_add (c_var c 5 (.s (.s (.s (.s (.s (.z))))))) (de_mul de_int (c_var c 1 (.s (.z))) (by /- 8 -/ first | trivial | omega | assumption | exact one_sgs (by assumption) | decide | (rw [sgs_len]; omega) | (subst_vars; rfl)))) (de_add (de_add (c_var c 5 (.s (.s (.s (.s (.s (.z))))))) (de_mul de_int (c_var c 1 (.s (.z))) (by /- 9 -/ first | trivial | omega | assumption | exact one_sgs (by assumption) | decide | (rw [sgs_len]; omega) | (subst_vars; rfl)))) de_int) (by /- 10 -/ left; subst_vars; constructor <;> omega)) (de_add (de_mod (c_var c 1 (.s (.z))) de_int (by /- 11 -/ first | trivial | omega | assumption | exact one_sgs (by assumption) | decide | (rw [sgs_len]; omega) | (subst_vars; rfl))) de_int) de_int (by /- 12 -/ first | trivial | omega | assumption | exact one_sgs (by assumption) | decide | (rw [sgs_len]; omega) | (subst_vars; rfl))) (c_var c 2 (.s (.s (.z)))) (by /- 13 -/ first | trivial | omega | assumption | exact one_sgs (by assumption) | decide | (rw [sgs_len]; omega) | (subst_vars; rfl))) (by /- ret 2 -/ subst_vars; exact (if_neg (of_decide_eq_false he1)).symm)))))))))))
abbrev s__law_signs : Stmt := top 25
theorem sc_s__law_signs : FnScope [] [] (defScope s__law_signs) := ⟨rfl, rfl, rfl, by decide +kernel, rfl, by decide +kernel, by decide +kernel⟩
abbrev P__law_signs (P : Program) (w : World) (K : PySem.W.Frag) (mg : Str → Option Value) (base : Heap) : Prop := FN P w K mg base CX0 1 "_law_signs" [] (SpF0  (True) rTxt (allS))
set_option maxHeartbeats 4000000 in
theorem ok__law_signs  (T : FT K mg "_law_signs" "_law_signs" s__law_signs []) : P__law_signs P w K mg base :=
  fnF0 T sc_s__law_signs (vs := []) (by decide +kernel) [] (body := fun X B D  c hp hD hn =>
  (sd_retC hD (de_str (l := [97, 98, 99, 100, 101, 102, 103, 104, 105, 106, 107, 108, 109, 110, 111, 112, 113, 114, 115, 116, 117, 118, 119, 120, 121, 122, 32, 45, 39]) (by decide +kernel) (by decide)) (by /- ret 1 -/ rfl)))
abbrev s__law_alphabet : Stmt := top 26
theorem sc_s__law_alphabet : FnScope ["_law_cell", "_law_most", "_law_found", "_law_many", "_law_k", "_law_left", "_law_sign"] ["_law_cell", "_law_most"] (defScope s__law_alphabet) := ⟨rfl, rfl, rfl, by decide +kernel, rfl, by decide +kernel, by decide +kernel⟩
abbrev P__law_alphabet (P : Program) (w : World) (K : PySem.W.Frag) (mg : Str → Option Value) (base : Heap) : Prop := FN P w K mg base CX0 3 "_law_alphabet" ["_law_cell", "_law_most"] (SpF2 rInt rInt (fun _ m => 2 ≤ m ∧ m ≤ 8) rTxt (alphabetL))
set_option maxHeartbeats 4000000 in
theorem ok__law_alphabet (h__law_number : P__law_number P w K mg base) (h__law_signs : P__law_signs P w K mg base) (b_len : mg "len" = none) (b_range : mg "range" = none) (T : FT K mg "_law_alphabet" "_law_alphabet" s__law_alphabet ["_law_cell", "_law_most"]) : P__law_alphabet P w K mg base :=
  fnF2 T sc_s__law_alphabet (vs := [0, 1, 2, 3, 4, 5]) (by decide +kernel) [.un, .un, .un, .un, .un] (body := fun X B D v_cell v_most c hp hD hn =>
  (c_parT2 c 2 3 (s1 := fun a => .val rTxt a) (s2 := fun a => .val rInt a) (ve_d (de_str (l := []) (by decide +kernel) (by decide))) (ve_d (de_add de_int (c_callF3 c h__law_number (c_var c 0 (.z)) de_int (de_sub (c_var c 1 (.s (.z))) de_int) (by /- 0 -/ first | omega | exact one_sgs (by assumption) | decide | (rw [e_v_found_1, lf]; rfl) | (rw [sgs_len]; decide))))) (fun _ => .s (.s (.z))) (fun _ _ => .s (.s (.s (.z)))) (fun v_found v_many e_v_found e_v_many =>
  (have q1 := number_in v_cell 1 (limit := v_most - 1) (by omega)
  (sd_forF c.po c.calm (S := Txt) (fun s1 => [.val rInt v_cell, .val rInt v_most, .val rTxt s1, .val rInt v_many, .un, .un, .un]) (alphaStep v_cell) (v_found) (c_range1 c (c_var c 3 (.s (.s (.s (.z))))) b_range (by /- 1 -/ first | omega | exact one_sgs (by assumption) | decide | (rw [e_v_found_1, lf]; rfl) | (rw [sgs_len]; decide))) (fun _ => (c_tname c 4)) (.k (.k (.k (.k (.k (.k (.k .nil))))))) (fun _ => fun _ => .s (.s (.s (.s (.z))))) (fun _ pre1 y1 post1 s1 hp1 hs1 =>
    (have hr_y1 := mem_rng (by rw [hp1]; simp : y1 ∈ _); (c_asgLc c 5 (c_lcF c [("_law_sign", 6)] [2, 6] [6] _ _ (di_str (c_callF0 c h__law_signs  (by /- 2 -/ first | omega | exact one_sgs (by assumption) | decide | (rw [e_v_found_1, lf]; rfl) | (rw [sgs_len]; decide)))) (fun _ _ c1 => (c_tname c1 6)) (fun _ => .s (.s (.s (.s (.s (.s (.z))))))) (fun _ _ x1 c1 hx1 => (dts_one ((c_ninS c1 (c_var c1 6 (.s (.s (.s (.s (.s (.s (.z)))))))) (c_var c1 2 (.s (.s (.z)))) (by /- 3 -/ first | omega | exact one_sgs (by assumption) | decide | (rw [e_v_found_1, lf]; rfl) | (rw [sgs_len]; decide)))).t)) (fun _ _ x1 c1 hx1 h1 => (c_var c1 6 (.s (.s (.s (.s (.s (.s (.z))))))))) (by /- 4 -/ first | omega | exact one_sgs (by assumption) | decide | (rw [e_v_found_1, lf]; rfl) | (rw [sgs_len]; decide)) (Uns.all (.cons (.s (.s (.s (.s (.s (.s (.z))))))) .nil))) (fun _ => .s (.s (.s (.s (.s (.z)))))) (fun v_left e_v_left =>
    (have hl : pre1.length < v_many.toNat := by have := congrArg List.length hp1; simp [rng_len] at this; omega
    have es : s1 = pre1.foldl (alphaStep v_cell) [] := by rw [hs1, e_v_found]
    have af := alpha_fold (cell := v_cell) pre1 [] alph_nil (by simp; omega)
    have ls : s1.length = pre1.length := by rw [es, af.2]; simp
    have lf : v_left = leftL s1 := by rw [e_v_left]; simp [leftL]
    have ll : 0 < v_left.length := by rw [lf]; have h := left_len s1; unfold leftL; have : allS.length = 29 := rfl; omega
    have qn := number_in v_cell (y1 + 2) (limit := (v_left.length : Int)) (by omega)
    have lsub : ∀ x ∈ v_left, x.length = 1 := by rw [lf]; exact fun x h => one_sgs (List.mem_filter.mp h).1
    have lx := lsub _ (gI_mem qn.1 qn.2)
    (c_asg c 2 (de_catS (c_var c 2 (.s (.s (.z)))) (de_ixL (c_var c 5 (.s (.s (.s (.s (.s (.z))))))) (c_callF3 c h__law_number (c_var c 0 (.z)) (de_add (c_var c 4 (.s (.s (.s (.s (.z)))))) de_int) (c_len c (c_var c 5 (.s (.s (.s (.s (.s (.z))))))) b_len) (by /- 5 -/ first | omega | exact one_sgs (by assumption) | decide | (rw [e_v_found_1, lf]; rfl) | (rw [sgs_len]; decide))) (by /- 6 -/ first | omega | exact one_sgs (by assumption) | decide | (rw [e_v_found_1, lf]; rfl) | (rw [sgs_len]; decide))) (by /- 7 -/ first | omega | exact one_sgs (by assumption) | decide | (rw [e_v_found_1, lf]; rfl) | (rw [sgs_len]; decide))) (fun _ => .s (.s (.z))) (fun v_found_1 e_v_found_1 =>
    (sd_go (.k (.k (.e (by /- 8 -/ first | omega | exact one_sgs (by assumption) | decide | (rw [e_v_found_1, lf]; rfl) | (rw [sgs_len]; decide)) (.k (.u (.u (.k .nil))))))) (fun _ _ h => h)))))))))
  (fun s1 hs1 =>
  (sd_retC hD (c_var c 2 (.s (.s (.z)))) (by /- ret 1 -/ subst_vars; rfl))))))))
abbrev s_Level___init__ : Stmt := inClass (top 16) 0
theorem sc_s_Level___init__ : FnScope ["self", "ranks"] ["self", "ranks"] (defScope s_Level___init__) := ⟨rfl, rfl, rfl, by decide +kernel, rfl, by decide +kernel, by decide +kernel⟩
abbrev I_Level (P : Program) (w : World) (K : PySem.W.Frag) (mg : Str → Option Value) (base : Heap) (CL CB : Addr) : Prop := FMk P w K mg base 3 "Level" CL ["self", "ranks"] (SpIN1 CL (rList rInt) (okRanks) ["held"] (fun rs => [.val (rList rInt) rs]))
set_option maxHeartbeats 4000000 in
theorem ok_Level_init {CL CB : Addr} (h_are_within : P_are_within P w K mg base) (b_len : mg "len" = none) (b_list : mg "list" = none) (m_GREATEST : ∃ t, mg "GREATEST" = some (.int 99 t)) (m_MOST_SIGNS : ∃ t, mg "MOST_SIGNS" = some (.int 8 t)) (hc : Cls K CL) (hn : NoAttr K CL "held") (T : FTk K mg "Level" "Level.__init__" CL s_Level___init__ ["self", "ranks"]) : I_Level P w K mg base CL CB :=
  fnIN1 T sc_s_Level___init__ (vs := [0, 1]) (by decide +kernel) [] (body := fun X B D v_ranks xd c hp hD =>
  (sd_ifF (dw_pt (dw_or (dt_not (dt_val (c_callF3 c h_are_within (c_var c 1 (.s (.z))) de_int (c_gintE c m_GREATEST) (by /- 0 -/ have := hp.2.1; omega)))) (fun h1 => (dw_or1 (dt_not ((dc_leLe de_int (c_len c (c_var c 1 (.s (.z))) b_len) (c_gintE c m_MOST_SIGNS))).t))))) (by /- 1 -/ have := hp.2.2; have := hp.1; have := hp.2.1; simp_all; omega)
  (c_setFN c 0 (.z) (dn_of_dm sc_int (c_list c (c_var c 1 (.s (.z))) b_list)) hc hn (.z)
  (sd_nil (fun σ H e => hD σ H _ e)))))
abbrev I_Backward (P : Program) (w : World) (K : PySem.W.Frag) (mg : Str → Option Value) (base : Heap) (CL CB : Addr) : Prop := FMk P w K mg base 3 "Backward" CB ["self", "ranks"] (SpIN1 CB (rList rInt) (okRanks) ["held"] (fun rs => [.val (rList rInt) rs]))
set_option maxHeartbeats 4000000 in
theorem ok_Backward_init {CL CB : Addr} (h_are_within : P_are_within P w K mg base) (b_len : mg "len" = none) (b_list : mg "list" = none) (m_GREATEST : ∃ t, mg "GREATEST" = some (.int 99 t)) (m_MOST_SIGNS : ∃ t, mg "MOST_SIGNS" = some (.int 8 t)) (hc : Cls K CB) (hn : NoAttr K CB "held") (T : FTk K mg "Backward" "Level.__init__" CB s_Level___init__ ["self", "ranks"]) : I_Backward P w K mg base CL CB :=
  fnIN1 T sc_s_Level___init__ (vs := [0, 1]) (by decide +kernel) [] (body := fun X B D v_ranks xd c hp hD =>
  (sd_ifF (dw_pt (dw_or (dt_not (dt_val (c_callF3 c h_are_within (c_var c 1 (.s (.z))) de_int (c_gintE c m_GREATEST) (by /- 0 -/ have := hp.2.1; omega)))) (fun h1 => (dw_or1 (dt_not ((dc_leLe de_int (c_len c (c_var c 1 (.s (.z))) b_len) (c_gintE c m_MOST_SIGNS))).t))))) (by /- 1 -/ have := hp.2.2; have := hp.1; have := hp.2.1; simp_all; omega)
  (c_setFN c 0 (.z) (dn_of_dm sc_int (c_list c (c_var c 1 (.s (.z))) b_list)) hc hn (.z)
  (sd_nil (fun σ H e => hD σ H _ e)))))
abbrev s_Level_ranks : Stmt := inClass (top 16) 1
theorem sc_s_Level_ranks : FnScope ["self"] ["self"] (defScope s_Level_ranks) := ⟨rfl, rfl, rfl, by decide +kernel, rfl, by decide +kernel, by decide +kernel⟩
set_option maxHeartbeats 4000000 in
theorem ok_Level_ranks {CL CB : Addr} (o : Lv) (b_list : mg "list" = none) (TL : TLev K mg CL CB) (T : FTm K "ranks" "Level.ranks" (lvC CL CB o) s_Level_ranks ["self"]) : FMe P w K mg base 1 (lvC CL CB o) "ranks" ["self"] (SpM1 (rLv CL CB) (fun _ => True) rInt (fun o => o.2)) :=
  meM1 T sc_s_Level_ranks (vs := [0]) (by decide +kernel) [] (body := fun X B D v_self c hp hD =>
  (sd_retM hD (c_list c (c_fld c 0 (c_var c 0 (.z)) (.z) (TL.cl _) (TL.na _)) b_list) (by /- ret 1 -/ rfl)))
abbrev M_Level_ranks (P : Program) (w : World) (K : PySem.W.Frag) (mg : Str → Option Value) (base : Heap) (CL CB : Addr) : Prop := ∀ o : Lv, FMe P w K mg base 1 (lvC CL CB o) "ranks" ["self"] (SpM1 (rLv CL CB) (fun _ => True) rInt (fun o => o.2))
abbrev s_Level_seen : Stmt := inClass (top 16) 2
theorem sc_s_Level_seen : FnScope ["self", "row"] ["self", "row"] (defScope s_Level_seen) := ⟨rfl, rfl, rfl, by decide +kernel, rfl, by decide +kernel, by decide +kernel⟩
set_option maxHeartbeats 4000000 in
theorem ok_Level_seen {CL CB : Addr}   (T : FTm K "seen" "Level.seen" CL s_Level_seen ["self", "row"]) : FMe P w K mg base 1 CL "seen" ["self", "row"] (SpF2 (rLv CL CB) (rList rInt) (fun o _ => o.1 = false) (rList rInt) (fun o row => seenL o.1 row)) :=
  meF2 T sc_s_Level_seen (vs := [0, 1]) (by decide +kernel) [] (body := fun X B D v_self v_row c hp hD hn =>
  (sd_retC hD (c_var c 1 (.s (.z))) (by /- ret 1 -/ rw [hp]; rfl)))
abbrev s_Backward_seen : Stmt := inClass (top 17) 0
theorem sc_s_Backward_seen : FnScope ["self", "row"] ["self", "row"] (defScope s_Backward_seen) := ⟨rfl, rfl, rfl, by decide +kernel, rfl, by decide +kernel, by decide +kernel⟩
set_option maxHeartbeats 4000000 in
theorem ok_Backward_seen {CL CB : Addr}   (T : FTm K "seen" "Backward.seen" CB s_Backward_seen ["self", "row"]) : FMe P w K mg base 1 CB "seen" ["self", "row"] (SpF2 (rLv CL CB) (rList rInt) (fun o _ => o.1 = true) (rList rInt) (fun o row => seenL o.1 row)) :=
  meF2 T sc_s_Backward_seen (vs := [0, 1]) (by decide +kernel) [] (body := fun X B D v_self v_row c hp hD hn =>
  (sd_retC hD (de_of_dm (dm_rev (c_var c 1 (.s (.z))))) (by /- ret 1 -/ rw [hp]; rfl)))
abbrev M_Level_seen (P : Program) (w : World) (K : PySem.W.Frag) (mg : Str → Option Value) (base : Heap) (CL CB : Addr) : Prop := ∀ o : Lv, FMe P w K mg base 1 (lvC CL CB o) "seen" ["self", "row"] (SpF2 (rLv CL CB) (rList rInt) (fun o' _ => o'.1 = o.1) (rList rInt) (fun o row => seenL o.1 row))
theorem all_seen {CL CB : Addr} (h1 : FMe P w K mg base 1 CL "seen" ["self", "row"] (SpF2 (rLv CL CB) (rList rInt) (fun o _ => o.1 = false) (rList rInt) (fun o row => seenL o.1 row))) (h2 : FMe P w K mg base 1 CB "seen" ["self", "row"] (SpF2 (rLv CL CB) (rList rInt) (fun o _ => o.1 = true) (rList rInt) (fun o row => seenL o.1 row))) : M_Level_seen P w K mg base CL CB := fun o => match o with
  | (false, _) => h1
  | (true, _) => h2
abbrev s_Level_weigh : Stmt := inClass (top 16) 4
theorem sc_s_Level_weigh : FnScope ["self", "one", "other"] ["self", "one", "other"] (defScope s_Level_weigh) := ⟨rfl, rfl, rfl, by decide +kernel, rfl, by decide +kernel, by decide +kernel⟩
set_option maxHeartbeats 4000000 in
theorem ok_Level_weigh {CL CB : Addr} (o : Lv) (h_Level_seen : M_Level_seen P w K mg base CL CB) (h_weighed : P_weighed P w K mg base) (T : FTm K "weigh" "Level.weigh" (lvC CL CB o) s_Level_weigh ["self", "one", "other"]) : FMe P w K mg base 2 (lvC CL CB o) "weigh" ["self", "one", "other"] (SpF3 (rLv CL CB) (rList rInt) (rList rInt) (fun _ _ _ => True) rInt (fun o a b => weighedL (seenL o.1 a) (seenL o.1 b))) :=
  meF3 T sc_s_Level_weigh (vs := [0, 1, 2]) (by decide +kernel) [] (body := fun X B D v_self v_one v_other c hp hD hn =>
  (sd_retC hD (c_callF2 c h_weighed (c_methF2 c (h_Level_seen _) (c_var c 0 (.z)) (c_var c 1 (.s (.z))) (by /- 0 -/ first | trivial | omega | assumption | exact one_sgs (by assumption) | decide | (rw [sgs_len]; omega) | (subst_vars; rfl))) (c_methF2 c (h_Level_seen _) (c_var c 0 (.z)) (c_var c 2 (.s (.s (.z)))) (by /- 1 -/ first | trivial | omega | assumption | exact one_sgs (by assumption) | decide | (rw [sgs_len]; omega) | (subst_vars; rfl))) (by /- 2 -/ first | trivial | omega | assumption | exact one_sgs (by assumption) | decide | (rw [sgs_len]; omega) | (subst_vars; rfl))) (by /- ret 1 -/ rfl)))
abbrev M_Level_weigh (P : Program) (w : World) (K : PySem.W.Frag) (mg : Str → Option Value) (base : Heap) (CL CB : Addr) : Prop := ∀ o : Lv, FMe P w K mg base 2 (lvC CL CB o) "weigh" ["self", "one", "other"] (SpF3 (rLv CL CB) (rList rInt) (rList rInt) (fun _ _ _ => True) rInt (fun o a b => weighedL (seenL o.1 a) (seenL o.1 b)))
abbrev s_Book___init__ : Stmt := inClass (top 20) 0
theorem sc_s_Book___init__ : FnScope ["self", "signs", "levels", "sign", "level"] ["self", "signs", "levels"] (defScope s_Book___init__) := ⟨rfl, rfl, rfl, by decide +kernel, rfl, by decide +kernel, by decide +kernel⟩
abbrev I_Book (P : Program) (w : World) (K : PySem.W.Frag) (mg : Str → Option Value) (base : Heap) (CL CB CBk : Addr) : Prop := FMk P w K mg base 1 "Book" CBk ["self", "signs", "levels"] (SpI2 CBk rTxt (rList (rLv CL CB)) (fun s ls => OkBk (s, ls)) ["alphabet", "ladder"] (fun s ls => [.val rTxt s, .val (rList (rLv CL CB)) ls]))
set_option maxHeartbeats 4000000 in
theorem ok_Book_init {CL CB CBk : Addr} (b_all : mg "all" = none) (b_isinstance : mg "isinstance" = none) (b_len : mg "len" = none) (b_list : mg "list" = none) (b_set : mg "set" = none) (b_str : mg "str" = none) (m_MOST_SIGNS : ∃ t, mg "MOST_SIGNS" = some (.int 8 t)) (m_MOST_LEVELS : ∃ t, mg "MOST_LEVELS" = some (.int 3 t)) (m_ALL_SIGNS : ∃ t, mg "ALL_SIGNS" = some (.str (tx allS) t)) (TL : TLev K mg CL CB) (TB : TBk K mg CBk) (m_Level : mg "Level" = some (.ref CL)) (T : FTk K mg "Book" "Book.__init__" CBk s_Book___init__ ["self", "signs", "levels"]) : I_Book P w K mg base CL CB CBk :=
  fnI2 T sc_s_Book___init__ (vs := [0, 1, 2]) (by decide +kernel) [.un, .un] (body := fun X B D v_signs v_levels xd c hp hD =>
  (have s1 : 1 ≤ v_signs.length := hp.s1
  have s8 : v_signs.length ≤ 8 := hp.s8
  have nd := disT_nodup (t := v_signs) hp.al.nd
  have al : ∀ x ∈ sgs v_signs, inT x allS = true := of_sgs hp.al.sub
  have l1 : 1 ≤ v_levels.length := hp.l1
  have l3 : v_levels.length ≤ 3 := hp.l3
  have lv : ∀ l ∈ v_levels, l.2.length = v_signs.length := fun l h => (hp.lv l h).1
  (sd_ifF (dw_pt (dw_or (dt_not (dt_val (c_isi (T' := "str") (b := true) c (c_var c 1 (.s (.z))) ty_txt (kit_ty (by decide +kernel)) b_isinstance b_str))) (fun h1 => (dw_or (dt_not ((dc_leLe de_int (c_lenS c (c_var c 1 (.s (.z))) b_len (by /- 0 -/ first | omega | exact one_sgs (by assumption) | (rw [sgs_len]; omega) | (have := lv _ (by assumption); omega))) (c_gintE c m_MOST_SIGNS))).t) (fun h2 => (dw_or1 ((dc_lt (c_lenSetS c (c_var c 1 (.s (.z))) b_len b_set (by /- 1 -/ first | omega | exact one_sgs (by assumption) | (rw [sgs_len]; omega) | (have := lv _ (by assumption); omega))) (c_lenS c (c_var c 1 (.s (.z))) b_len (by /- 2 -/ first | omega | exact one_sgs (by assumption) | (rw [sgs_len]; omega) | (have := lv _ (by assumption); omega))))).t)))))) (by /- if 1 -/ simp [nd]; omega)
  (sd_ifF (dt_not (dt_val (c_all c (de_of_dm (dm_lc c (c_lc c [("sign", 3)] [3] [3] _ (di_str (c_var c 1 (.s (.z)))) (fun _ _ c1 => (c_tname c1 3)) (fun _ => .s (.s (.s (.z)))) (fun _ _ x1 c1 hx1 => ((c_inS c1 (c_var c1 3 (.s (.s (.s (.z))))) (c_gstrE c1 m_ALL_SIGNS rfl (by decide)) (by /- 3 -/ first | omega | exact one_sgs (by assumption) | (rw [sgs_len]; omega) | (have := lv _ (by assumption); omega)))).v) (by /- 4 -/ first | omega | exact one_sgs (by assumption) | (rw [sgs_len]; omega) | (have := lv _ (by assumption); omega)) (Uns.all (.cons (.s (.s (.s (.z)))) .nil))))) b_all))) (by /- if 2 -/ simp [List.all_map, Function.comp_def]; exact al)
  (sd_ifF (dw_pt (dw_or (dt_not (dt_val (c_isi (T' := "list") (b := true) c (c_var c 2 (.s (.s (.z)))) ty_list (kit_ty (by decide +kernel)) b_isinstance b_list))) (fun h3 => (dw_or1 (dt_not ((dc_leLe de_int (c_len c (c_var c 2 (.s (.s (.z)))) b_len) (c_gintE c m_MOST_LEVELS))).t))))) (by /- if 3 -/ simp; omega)
  (sd_ifF (dt_not (dt_val (c_all c (de_of_dm (dm_lc c (c_lc c [("level", 4)] [1, 4] [4] _ (di_list (c_var c 2 (.s (.s (.z))))) (fun _ _ c2 => (c_tname c2 4)) (fun _ => .s (.s (.s (.s (.z))))) (fun _ _ x2 c2 hx2 => (de_and (c_isiC c2 (c_var c2 4 (.s (.s (.s (.s (.z)))))) (ty_obj (TL.ci _)) (TL.kL _) b_isinstance m_Level) (fun h4 => (de_one ((dc_eqI (c_len c2 (c_fld c2 0 (c_var c2 4 (.s (.s (.s (.s (.z)))))) (.z) (TL.cl _) (TL.na _)) b_len) (c_lenS c2 (c_var c2 1 (.s (.z))) b_len (by /- 5 -/ first | omega | exact one_sgs (by assumption) | (rw [sgs_len]; omega) | (have := lv _ (by assumption); omega))))).v)))) (by /- 6 -/ first | omega | exact one_sgs (by assumption) | (rw [sgs_len]; omega) | (have := lv _ (by assumption); omega)) (Uns.all (.cons (.s (.s (.s (.s (.z))))) .nil))))) b_all))) (by /- if 4 -/ simp [List.all_map, Function.comp_def]; exact ⟨fun b h => congrArg Int.ofNat (lv (false, b) h), fun b h => congrArg Int.ofNat (lv (true, b) h)⟩)
  (c_setF c 0 (.z) (c_var c 1 (.s (.z))) TB.cl TB.n1 (.z)
  (c_setF c 0 (.z) (de_of_dm (c_list c (c_var c 2 (.s (.s (.z)))) b_list)) TB.cl TB.n2 (.z)
  (sd_nil (fun σ H e => hD σ H _ e))))))))))
abbrev s_Book_signs : Stmt := inClass (top 20) 1
theorem sc_s_Book_signs : FnScope ["self"] ["self"] (defScope s_Book_signs) := ⟨rfl, rfl, rfl, by decide +kernel, rfl, by decide +kernel, by decide +kernel⟩
set_option maxHeartbeats 4000000 in
theorem ok_Book_signs {CL CB CBk : Addr}  (TB : TBk K mg CBk) (T : FTm K "signs" "Book.signs" CBk s_Book_signs ["self"]) : FMe P w K mg base 1 CBk "signs" ["self"] (SpF1 (rBk CL CB CBk) (fun _ => True) rTxt (fun b => b.1)) :=
  meF1 T sc_s_Book_signs (vs := [0]) (by decide +kernel) [] (body := fun X B D v_self c hp hD hn =>
  (sd_retC hD (c_fld c 0 (c_var c 0 (.z)) (.z) TB.cl TB.n1) (by /- ret 1 -/ rfl)))
abbrev M_Book_signs (P : Program) (w : World) (K : PySem.W.Frag) (mg : Str → Option Value) (base : Heap) (CL CB CBk : Addr) : Prop := FMe P w K mg base 1 CBk "signs" ["self"] (SpF1 (rBk CL CB CBk) (fun _ => True) rTxt (fun b => b.1))
abbrev s_Book_levels : Stmt := inClass (top 20) 2
theorem sc_s_Book_levels : FnScope ["self"] ["self"] (defScope s_Book_levels) := ⟨rfl, rfl, rfl, by decide +kernel, rfl, by decide +kernel, by decide +kernel⟩
set_option maxHeartbeats 4000000 in
theorem ok_Book_levels {CL CB CBk : Addr}  (b_list : mg "list" = none) (TB : TBk K mg CBk) (T : FTm K "levels" "Book.levels" CBk s_Book_levels ["self"]) : FMe P w K mg base 1 CBk "levels" ["self"] (SpM1 (rBk CL CB CBk) (fun _ => True) (rLv CL CB) (fun b => b.2)) :=
  meM1 T sc_s_Book_levels (vs := [0]) (by decide +kernel) [] (body := fun X B D v_self c hp hD =>
  (sd_retM hD (c_list c (c_fld c 1 (c_var c 0 (.z)) (.s (.z)) TB.cl TB.n2) b_list) (by /- ret 1 -/ rfl)))
abbrev M_Book_levels (P : Program) (w : World) (K : PySem.W.Frag) (mg : Str → Option Value) (base : Heap) (CL CB CBk : Addr) : Prop := FMe P w K mg base 1 CBk "levels" ["self"] (SpM1 (rBk CL CB CBk) (fun _ => True) (rLv CL CB) (fun b => b.2))
abbrev s_Book_check_name : Stmt := inClass (top 20) 3
theorem sc_s_Book_check_name : FnScope ["self", "name"] ["self", "name"] (defScope s_Book_check_name) := ⟨rfl, rfl, rfl, by decide +kernel, rfl, by decide +kernel, by decide +kernel⟩
set_option maxHeartbeats 4000000 in
theorem ok_Book_check_name {CL CB CBk : Addr}  (h_is_name : P_is_name P w K mg base) (TB : TBk K mg CBk) (T : FTm K "check_name" "Book.check_name" CBk s_Book_check_name ["self", "name"]) : FMe P w K mg base 2 CBk "check_name" ["self", "name"] (SpF2 (rBk CL CB CBk) rTxt (fun b n => isNameL n b.1 = true) rNon (fun _ _ => ())) :=
  meF2 T sc_s_Book_check_name (vs := [0, 1]) (by decide +kernel) [] (body := fun X B D v_self v_name c hp hD hn =>
  (sd_ifF (dt_not (dt_val (c_callF2 c h_is_name (c_var c 1 (.s (.z))) (c_fld c 0 (c_var c 0 (.z)) (.z) TB.cl TB.n1) (by /- 0 -/ first | (have := (of_is hp).2.2; omega) | (rw [hp]; rfl))))) (by /- 1 -/ first | (have := (of_is hp).2.2; omega) | (rw [hp]; rfl))
  (sd_nil (fun σ H h => h.elim fun F en => hD _ F H en.base rfl))))
abbrev M_Book_check_name (P : Program) (w : World) (K : PySem.W.Frag) (mg : Str → Option Value) (base : Heap) (CL CB CBk : Addr) : Prop := FMe P w K mg base 2 CBk "check_name" ["self", "name"] (SpF2 (rBk CL CB CBk) rTxt (fun b n => isNameL n b.1 = true) rNon (fun _ _ => ()))
abbrev s_Book_kept_of : Stmt := inClass (top 20) 4
theorem sc_s_Book_kept_of : FnScope ["self", "name", "first", "sign"] ["self", "name"] (defScope s_Book_kept_of) := ⟨rfl, rfl, rfl, by decide +kernel, rfl, by decide +kernel, by decide +kernel⟩
set_option maxHeartbeats 4000000 in
theorem ok_Book_kept_of {CL CB CBk : Addr}  (TL : TLev K mg CL CB) (TB : TBk K mg CBk) (T : FTm K "kept_of" "Book.kept_of" CBk s_Book_kept_of ["self", "name"]) : FMe P w K mg base 1 CBk "kept_of" ["self", "name"] (SpF2 (rBk CL CB CBk) rTxt (fun b n => OkBk b ∧ isNameL n b.1 = true) rTxt (keptL)) :=
  meF2 T sc_s_Book_kept_of (vs := [0, 1, 2]) (by decide +kernel) [.un, .un] (body := fun X B D v_self v_name c hp hD hn =>
  (have hn := of_is hp.2
  have bk := hp.1
  (c_asg c 2 (c_fld c 0 (de_ixL (c_fld c 1 (c_var c 0 (.z)) (.s (.z)) TB.cl TB.n2) de_int (by /- 0 -/ first | omega | exact of_sgs hn.1 _ (by assumption) | (have := ixT_in (of_sgs hn.1 _ (by assumption)); omega) | (rw [sgs_len]; omega) | (have := bk.l1; omega) | (rw [List.map_id']; exact Nat.le_trans (flat_len _ _) (by omega)))) (.z) (TL.cl _) (TL.na _)) (fun _ => .s (.s (.z))) (fun v_first e_v_first =>
  (have fl : v_first.length = v_self.1.length := by rw [e_v_first]; exact (bk.lv _ (gI_mem (by decide) (by have := bk.l1; omega))).1
  (sd_retC hD (c_join c (de_str (l := []) (by decide +kernel) (by decide)) (de_of_dm (dm_lc c (c_lcF c [("sign", 3)] [0, 2, 3] [3] _ _ (di_str (c_var c 1 (.s (.z)))) (fun _ _ c1 => (c_tname c1 3)) (fun _ => .s (.s (.s (.z)))) (fun _ _ x1 c1 hx1 => (dts_one ((dc_gt (de_ixL (c_var c1 2 (.s (.s (.z)))) (c_indexS c1 (c_fld c1 0 (c_var c1 0 (.z)) (.z) TB.cl TB.n1) (c_var c1 3 (.s (.s (.s (.z))))) (by /- 1 -/ first | omega | exact of_sgs hn.1 _ (by assumption) | (have := ixT_in (of_sgs hn.1 _ (by assumption)); omega) | (rw [sgs_len]; omega) | (have := bk.l1; omega) | (rw [List.map_id']; exact Nat.le_trans (flat_len _ _) (by omega)))) (by /- 2 -/ first | omega | exact of_sgs hn.1 _ (by assumption) | (have := ixT_in (of_sgs hn.1 _ (by assumption)); omega) | (rw [sgs_len]; omega) | (have := bk.l1; omega) | (rw [List.map_id']; exact Nat.le_trans (flat_len _ _) (by omega)))) de_int)).t)) (fun _ _ x1 c1 hx1 h1 => (c_var c1 3 (.s (.s (.s (.z)))))) (by /- 3 -/ first | omega | exact of_sgs hn.1 _ (by assumption) | (have := ixT_in (of_sgs hn.1 _ (by assumption)); omega) | (rw [sgs_len]; omega) | (have := bk.l1; omega) | (rw [List.map_id']; exact Nat.le_trans (flat_len _ _) (by omega))) (Uns.all (.cons (.s (.s (.s (.z)))) .nil))))) (by /- 4 -/ first | omega | exact of_sgs hn.1 _ (by assumption) | (have := ixT_in (of_sgs hn.1 _ (by assumption)); omega) | (rw [sgs_len]; omega) | (have := bk.l1; omega) | (rw [List.map_id']; exact Nat.le_trans (flat_len _ _) (by omega)))) (by /- ret 1 -/ subst_vars; simp [keptL, firstL]; rfl)))))))
abbrev M_Book_kept_of (P : Program) (w : World) (K : PySem.W.Frag) (mg : Str → Option Value) (base : Heap) (CL CB CBk : Addr) : Prop := FMe P w K mg base 1 CBk "kept_of" ["self", "name"] (SpF2 (rBk CL CB CBk) rTxt (fun b n => OkBk b ∧ isNameL n b.1 = true) rTxt (keptL))
abbrev s_Book_kept : Stmt := inClass (top 20) 5
theorem sc_s_Book_kept : FnScope ["self", "name"] ["self", "name"] (defScope s_Book_kept) := ⟨rfl, rfl, rfl, by decide +kernel, rfl, by decide +kernel, by decide +kernel⟩
set_option maxHeartbeats 4000000 in
theorem ok_Book_kept {CL CB CBk : Addr}  (h_Book_check_name : M_Book_check_name P w K mg base CL CB CBk) (h_Book_kept_of : M_Book_kept_of P w K mg base CL CB CBk) (T : FTm K "kept" "Book.kept" CBk s_Book_kept ["self", "name"]) : FMe P w K mg base 3 CBk "kept" ["self", "name"] (SpF2 (rBk CL CB CBk) rTxt (fun b n => OkBk b ∧ isNameL n b.1 = true) rTxt (keptL)) :=
  meF2 T sc_s_Book_kept (vs := [0, 1]) (by decide +kernel) [] (body := fun X B D v_self v_name c hp hD hn =>
  (sd_drop (c_methF2 c (h_Book_check_name) (c_var c 0 (.z)) (c_var c 1 (.s (.z))) (by /- 0 -/ first | exact hp.2 | exact hp))
  (sd_retC hD (c_methF2 c (h_Book_kept_of) (c_var c 0 (.z)) (c_var c 1 (.s (.z))) (by /- 1 -/ first | exact hp.2 | exact hp)) (by /- ret 1 -/ rfl))))
abbrev M_Book_kept (P : Program) (w : World) (K : PySem.W.Frag) (mg : Str → Option Value) (base : Heap) (CL CB CBk : Addr) : Prop := FMe P w K mg base 3 CBk "kept" ["self", "name"] (SpF2 (rBk CL CB CBk) rTxt (fun b n => OkBk b ∧ isNameL n b.1 = true) rTxt (keptL))
abbrev s_Book_weigh_of : Stmt := inClass (top 20) 6
theorem sc_s_Book_weigh_of : FnScope ["self", "one", "other", "mine", "theirs", "level", "found", "sign", "at"] ["self", "one", "other"] (defScope s_Book_weigh_of) := ⟨rfl, rfl, rfl, by decide +kernel, rfl, by decide +kernel, by decide +kernel⟩
set_option maxHeartbeats 4000000 in
theorem ok_Book_weigh_of {CL CB CBk : Addr}  (h_Book_kept_of : M_Book_kept_of P w K mg base CL CB CBk) (h_Level_weigh : M_Level_weigh P w K mg base CL CB) (TL : TLev K mg CL CB) (TB : TBk K mg CBk) (T : FTm K "weigh_of" "Book.weigh_of" CBk s_Book_weigh_of ["self", "one", "other"]) : FMe P w K mg base 3 CBk "weigh_of" ["self", "one", "other"] (SpF3 (rBk CL CB CBk) rTxt rTxt (fun b n m => OkBk b ∧ isNameL n b.1 = true ∧ isNameL m b.1 = true) rInt (weighB)) :=
  meF3 T sc_s_Book_weigh_of (vs := [0, 1, 2, 3, 4, 5, 6]) (by decide +kernel) [.un, .un, .un, .un, .un, .un] (body := fun X B D v_self v_one v_other c hp hD hn =>
  (have bk := hp.1
  have n1 := of_is hp.2.1
  have n2 := of_is hp.2.2
  (c_asgLc c 3 (c_lc c [("sign", 7)] [0, 7] [7] _ (di_str (c_methF2 c (h_Book_kept_of) (c_var c 0 (.z)) (c_var c 1 (.s (.z))) (by /- 0 -/ first | trivial | exact ⟨hp.1, hp.2.1⟩ | exact ⟨hp.1, hp.2.2⟩ | omega | exact of_sgs (fun c hc => n1.1 c (kept_sub _ _ c hc)) _ (by assumption) | exact of_sgs (fun c hc => n2.1 c (kept_sub _ _ c hc)) _ (by assumption) | (rw [sgs_len]; have := kept_len v_self v_one; have := kept_len v_self v_other; omega) | (have := bk.lv _ (by assumption); have := pm _ (by assumption); omega) | (have := bk.lv _ (by assumption); have := pt _ (by assumption); omega) | (rw [e_v_mine, List.length_map, sgs_len]; have := kept_len v_self v_one; omega) | (rw [e_v_theirs, List.length_map, sgs_len]; have := kept_len v_self v_other; omega) | (unfold weighGo at hs1; rw [e_v_found] at he1; rw [if_neg (by simpa using he1)] at hs1; exact hs1) | (rw [e_v_mine, e_v_theirs]; rfl)))) (fun _ _ c1 => (c_tname c1 7)) (fun _ => .s (.s (.s (.s (.s (.s (.s (.z)))))))) (fun _ _ x1 c1 hx1 => (c_indexS c1 (c_fld c1 0 (c_var c1 0 (.z)) (.z) TB.cl TB.n1) (c_var c1 7 (.s (.s (.s (.s (.s (.s (.s (.z))))))))) (by /- 1 -/ first | trivial | exact ⟨hp.1, hp.2.1⟩ | exact ⟨hp.1, hp.2.2⟩ | omega | exact of_sgs (fun c hc => n1.1 c (kept_sub _ _ c hc)) _ (by assumption) | exact of_sgs (fun c hc => n2.1 c (kept_sub _ _ c hc)) _ (by assumption) | (rw [sgs_len]; have := kept_len v_self v_one; have := kept_len v_self v_other; omega) | (have := bk.lv _ (by assumption); have := pm _ (by assumption); omega) | (have := bk.lv _ (by assumption); have := pt _ (by assumption); omega) | (rw [e_v_mine, List.length_map, sgs_len]; have := kept_len v_self v_one; omega) | (rw [e_v_theirs, List.length_map, sgs_len]; have := kept_len v_self v_other; omega) | (unfold weighGo at hs1; rw [e_v_found] at he1; rw [if_neg (by simpa using he1)] at hs1; exact hs1) | (rw [e_v_mine, e_v_theirs]; rfl)))) (by /- 2 -/ first | trivial | exact ⟨hp.1, hp.2.1⟩ | exact ⟨hp.1, hp.2.2⟩ | omega | exact of_sgs (fun c hc => n1.1 c (kept_sub _ _ c hc)) _ (by assumption) | exact of_sgs (fun c hc => n2.1 c (kept_sub _ _ c hc)) _ (by assumption) | (rw [sgs_len]; have := kept_len v_self v_one; have := kept_len v_self v_other; omega) | (have := bk.lv _ (by assumption); have := pm _ (by assumption); omega) | (have := bk.lv _ (by assumption); have := pt _ (by assumption); omega) | (rw [e_v_mine, List.length_map, sgs_len]; have := kept_len v_self v_one; omega) | (rw [e_v_theirs, List.length_map, sgs_len]; have := kept_len v_self v_other; omega) | (unfold weighGo at hs1; rw [e_v_found] at he1; rw [if_neg (by simpa using he1)] at hs1; exact hs1) | (rw [e_v_mine, e_v_theirs]; rfl)) (Uns.all (.cons (.s (.s (.s (.s (.s (.s (.s (.z)))))))) .nil))) (fun _ => .s (.s (.s (.z)))) (fun v_mine e_v_mine =>
  (c_asgLc c 4 (c_lc c [("sign", 7)] [0, 7] [7] _ (di_str (c_methF2 c (h_Book_kept_of) (c_var c 0 (.z)) (c_var c 2 (.s (.s (.z)))) (by /- 3 -/ first | trivial | exact ⟨hp.1, hp.2.1⟩ | exact ⟨hp.1, hp.2.2⟩ | omega | exact of_sgs (fun c hc => n1.1 c (kept_sub _ _ c hc)) _ (by assumption) | exact of_sgs (fun c hc => n2.1 c (kept_sub _ _ c hc)) _ (by assumption) | (rw [sgs_len]; have := kept_len v_self v_one; have := kept_len v_self v_other; omega) | (have := bk.lv _ (by assumption); have := pm _ (by assumption); omega) | (have := bk.lv _ (by assumption); have := pt _ (by assumption); omega) | (rw [e_v_mine, List.length_map, sgs_len]; have := kept_len v_self v_one; omega) | (rw [e_v_theirs, List.length_map, sgs_len]; have := kept_len v_self v_other; omega) | (unfold weighGo at hs1; rw [e_v_found] at he1; rw [if_neg (by simpa using he1)] at hs1; exact hs1) | (rw [e_v_mine, e_v_theirs]; rfl)))) (fun _ _ c2 => (c_tname c2 7)) (fun _ => .s (.s (.s (.s (.s (.s (.s (.z)))))))) (fun _ _ x2 c2 hx2 => (c_indexS c2 (c_fld c2 0 (c_var c2 0 (.z)) (.z) TB.cl TB.n1) (c_var c2 7 (.s (.s (.s (.s (.s (.s (.s (.z))))))))) (by /- 4 -/ first | trivial | exact ⟨hp.1, hp.2.1⟩ | exact ⟨hp.1, hp.2.2⟩ | omega | exact of_sgs (fun c hc => n1.1 c (kept_sub _ _ c hc)) _ (by assumption) | exact of_sgs (fun c hc => n2.1 c (kept_sub _ _ c hc)) _ (by assumption) | (rw [sgs_len]; have := kept_len v_self v_one; have := kept_len v_self v_other; omega) | (have := bk.lv _ (by assumption); have := pm _ (by assumption); omega) | (have := bk.lv _ (by assumption); have := pt _ (by assumption); omega) | (rw [e_v_mine, List.length_map, sgs_len]; have := kept_len v_self v_one; omega) | (rw [e_v_theirs, List.length_map, sgs_len]; have := kept_len v_self v_other; omega) | (unfold weighGo at hs1; rw [e_v_found] at he1; rw [if_neg (by simpa using he1)] at hs1; exact hs1) | (rw [e_v_mine, e_v_theirs]; rfl)))) (by /- 5 -/ first | trivial | exact ⟨hp.1, hp.2.1⟩ | exact ⟨hp.1, hp.2.2⟩ | omega | exact of_sgs (fun c hc => n1.1 c (kept_sub _ _ c hc)) _ (by assumption) | exact of_sgs (fun c hc => n2.1 c (kept_sub _ _ c hc)) _ (by assumption) | (rw [sgs_len]; have := kept_len v_self v_one; have := kept_len v_self v_other; omega) | (have := bk.lv _ (by assumption); have := pm _ (by assumption); omega) | (have := bk.lv _ (by assumption); have := pt _ (by assumption); omega) | (rw [e_v_mine, List.length_map, sgs_len]; have := kept_len v_self v_one; omega) | (rw [e_v_theirs, List.length_map, sgs_len]; have := kept_len v_self v_other; omega) | (unfold weighGo at hs1; rw [e_v_found] at he1; rw [if_neg (by simpa using he1)] at hs1; exact hs1) | (rw [e_v_mine, e_v_theirs]; rfl)) (Uns.all (.cons (.s (.s (.s (.s (.s (.s (.s (.z)))))))) .nil))) (fun _ => .s (.s (.s (.s (.z))))) (fun v_theirs e_v_theirs =>
  (have pm : ∀ i ∈ v_mine, 0 ≤ i ∧ i < v_self.1.length := by rw [e_v_mine]; exact places_in _ n1.1
  have pt : ∀ i ∈ v_theirs, 0 ≤ i ∧ i < v_self.1.length := by rw [e_v_theirs]; exact places_in _ n2.1
  (sd_forR c.po c.calm (S := Unit) (fun s1 => [.val (rBk CL CB CBk) v_self, .val rTxt v_one, .val rTxt v_other, .val (rList rInt) v_mine, .val (rList rInt) v_theirs, .un, .un, .un, .un]) (fun ls _ => weighGo ls v_mine v_theirs) (weighB v_self v_one v_other) () (di_list (c_fld c 1 (c_var c 0 (.z)) (.s (.z)) TB.cl TB.n2)) (fun _ => (c_tname c 5)) (.k (.k (.k (.k (.k (.k (.k (.k (.k .nil))))))))) (by /- 12 -/ first | trivial | exact ⟨hp.1, hp.2.1⟩ | exact ⟨hp.1, hp.2.2⟩ | omega | exact of_sgs (fun c hc => n1.1 c (kept_sub _ _ c hc)) _ (by assumption) | exact of_sgs (fun c hc => n2.1 c (kept_sub _ _ c hc)) _ (by assumption) | (rw [sgs_len]; have := kept_len v_self v_one; have := kept_len v_self v_other; omega) | (have := bk.lv _ (by assumption); have := pm _ (by assumption); omega) | (have := bk.lv _ (by assumption); have := pt _ (by assumption); omega) | (rw [e_v_mine, List.length_map, sgs_len]; have := kept_len v_self v_one; omega) | (rw [e_v_theirs, List.length_map, sgs_len]; have := kept_len v_self v_other; omega) | (unfold weighGo at hs1; rw [e_v_found] at he1; rw [if_neg (by simpa using he1)] at hs1; exact hs1) | (rw [e_v_mine, e_v_theirs]; rfl)) (fun _ => fun _ => .s (.s (.s (.s (.s (.z)))))) (fun _ y1 post1 s1 hm1 hq1 hs1 =>
    (c_asg c 6 (c_methF3 c (h_Level_weigh _) (c_var c 5 (.s (.s (.s (.s (.s (.z))))))) (de_of_dm (dm_lc c (c_lc c [("at", 8)] [5, 8] [8] _ (di_list (c_var c 3 (.s (.s (.s (.z)))))) (fun _ _ c3 => (c_tname c3 8)) (fun _ => .s (.s (.s (.s (.s (.s (.s (.s (.z))))))))) (fun _ _ x3 c3 hx3 => (de_ixL (c_fld c3 0 (c_var c3 5 (.s (.s (.s (.s (.s (.z))))))) (.z) (TL.cl _) (TL.na _)) (c_var c3 8 (.s (.s (.s (.s (.s (.s (.s (.s (.z)))))))))) (by /- 6 -/ first | trivial | exact ⟨hp.1, hp.2.1⟩ | exact ⟨hp.1, hp.2.2⟩ | omega | exact of_sgs (fun c hc => n1.1 c (kept_sub _ _ c hc)) _ (by assumption) | exact of_sgs (fun c hc => n2.1 c (kept_sub _ _ c hc)) _ (by assumption) | (rw [sgs_len]; have := kept_len v_self v_one; have := kept_len v_self v_other; omega) | (have := bk.lv _ (by assumption); have := pm _ (by assumption); omega) | (have := bk.lv _ (by assumption); have := pt _ (by assumption); omega) | (rw [e_v_mine, List.length_map, sgs_len]; have := kept_len v_self v_one; omega) | (rw [e_v_theirs, List.length_map, sgs_len]; have := kept_len v_self v_other; omega) | (unfold weighGo at hs1; rw [e_v_found] at he1; rw [if_neg (by simpa using he1)] at hs1; exact hs1) | (rw [e_v_mine, e_v_theirs]; rfl)))) (by /- 7 -/ first | trivial | exact ⟨hp.1, hp.2.1⟩ | exact ⟨hp.1, hp.2.2⟩ | omega | exact of_sgs (fun c hc => n1.1 c (kept_sub _ _ c hc)) _ (by assumption) | exact of_sgs (fun c hc => n2.1 c (kept_sub _ _ c hc)) _ (by assumption) | (rw [sgs_len]; have := kept_len v_self v_one; have := kept_len v_self v_other; omega) | (have := bk.lv _ (by assumption); have := pm _ (by assumption); omega) | (have := bk.lv _ (by assumption); have := pt _ (by assumption); omega) | (rw [e_v_mine, List.length_map, sgs_len]; have := kept_len v_self v_one; omega) | (rw [e_v_theirs, List.length_map, sgs_len]; have := kept_len v_self v_other; omega) | (unfold weighGo at hs1; rw [e_v_found] at he1; rw [if_neg (by simpa using he1)] at hs1; exact hs1) | (rw [e_v_mine, e_v_theirs]; rfl)) (Uns.all (.cons (.s (.s (.s (.s (.s (.s (.s (.s (.z))))))))) .nil))))) (de_of_dm (dm_lc c (c_lc c [("at", 8)] [5, 8] [8] _ (di_list (c_var c 4 (.s (.s (.s (.s (.z))))))) (fun _ _ c4 => (c_tname c4 8)) (fun _ => .s (.s (.s (.s (.s (.s (.s (.s (.z))))))))) (fun _ _ x4 c4 hx4 => (de_ixL (c_fld c4 0 (c_var c4 5 (.s (.s (.s (.s (.s (.z))))))) (.z) (TL.cl _) (TL.na _)) (c_var c4 8 (.s (.s (.s (.s (.s (.s (.s (.s (.z)))))))))) (by /- 8 -/ first | trivial | exact ⟨hp.1, hp.2.1⟩ | exact ⟨hp.1, hp.2.2⟩ | omega | exact of_sgs (fun c hc => n1.1 c (kept_sub _ _ c hc)) _ (by assumption) | exact of_sgs (fun c hc => n2.1 c (kept_sub _ _ c hc)) _ (by assumption) | (rw [sgs_len]; have := kept_len v_self v_one; have := kept_len v_self v_other; omega) | (have := bk.lv _ (by assumption); have := pm _ (by assumption); omega) | (have := bk.lv _ (by assumption); have := pt _ (by assumption); omega) | (rw [e_v_mine, List.length_map, sgs_len]; have := kept_len v_self v_one; omega) | (rw [e_v_theirs, List.length_map, sgs_len]; have := kept_len v_self v_other; omega) | (unfold weighGo at hs1; rw [e_v_found] at he1; rw [if_neg (by simpa using he1)] at hs1; exact hs1) | (rw [e_v_mine, e_v_theirs]; rfl)))) (by /- 9 -/ first | trivial | exact ⟨hp.1, hp.2.1⟩ | exact ⟨hp.1, hp.2.2⟩ | omega | exact of_sgs (fun c hc => n1.1 c (kept_sub _ _ c hc)) _ (by assumption) | exact of_sgs (fun c hc => n2.1 c (kept_sub _ _ c hc)) _ (by assumption) | (rw [sgs_len]; have := kept_len v_self v_one; have := kept_len v_self v_other; omega) | (have := bk.lv _ (by assumption); have := pm _ (by assumption); omega) | (have := bk.lv _ (by assumption); have := pt _ (by assumption); omega) | (rw [e_v_mine, List.length_map, sgs_len]; have := kept_len v_self v_one; omega) | (rw [e_v_theirs, List.length_map, sgs_len]; have := kept_len v_self v_other; omega) | (unfold weighGo at hs1; rw [e_v_found] at he1; rw [if_neg (by simpa using he1)] at hs1; exact hs1) | (rw [e_v_mine, e_v_theirs]; rfl)) (Uns.all (.cons (.s (.s (.s (.s (.s (.s (.s (.s (.z))))))))) .nil))))) (by /- 10 -/ first | trivial | exact ⟨hp.1, hp.2.1⟩ | exact ⟨hp.1, hp.2.2⟩ | omega | exact of_sgs (fun c hc => n1.1 c (kept_sub _ _ c hc)) _ (by assumption) | exact of_sgs (fun c hc => n2.1 c (kept_sub _ _ c hc)) _ (by assumption) | (rw [sgs_len]; have := kept_len v_self v_one; have := kept_len v_self v_other; omega) | (have := bk.lv _ (by assumption); have := pm _ (by assumption); omega) | (have := bk.lv _ (by assumption); have := pt _ (by assumption); omega) | (rw [e_v_mine, List.length_map, sgs_len]; have := kept_len v_self v_one; omega) | (rw [e_v_theirs, List.length_map, sgs_len]; have := kept_len v_self v_other; omega) | (unfold weighGo at hs1; rw [e_v_found] at he1; rw [if_neg (by simpa using he1)] at hs1; exact hs1) | (rw [e_v_mine, e_v_theirs]; rfl))) (fun _ => .s (.s (.s (.s (.s (.s (.z))))))) (fun v_found e_v_found =>
    (sd_ifT ((dc_neI (c_var c 6 (.s (.s (.s (.s (.s (.s (.z)))))))) de_int)).t (fun ht1 => (sd_retC hD (c_var c 6 (.s (.s (.s (.s (.s (.s (.z)))))))) (by /- ret 1 -/ unfold weighGo at hs1; rw [e_v_found] at ht1 ⊢; rw [if_pos (by simpa using ht1)] at hs1; exact hs1))) (fun he1 =>
    (sd_turn (Γs := fun s1 => [.val (rBk CL CB CBk) v_self, .val rTxt v_one, .val rTxt v_other, .val (rList rInt) v_mine, .val (rList rInt) v_theirs, .un, .un, .un, .un]) (Φ := fun s1 => (fun ls _ => weighGo ls v_mine v_theirs) post1 s1 = (weighB v_self v_one v_other)) () (.k (.k (.k (.k (.k (.u (.u (.k (.k .nil))))))))) (by /- 11 -/ first | trivial | exact ⟨hp.1, hp.2.1⟩ | exact ⟨hp.1, hp.2.2⟩ | omega | exact of_sgs (fun c hc => n1.1 c (kept_sub _ _ c hc)) _ (by assumption) | exact of_sgs (fun c hc => n2.1 c (kept_sub _ _ c hc)) _ (by assumption) | (rw [sgs_len]; have := kept_len v_self v_one; have := kept_len v_self v_other; omega) | (have := bk.lv _ (by assumption); have := pm _ (by assumption); omega) | (have := bk.lv _ (by assumption); have := pt _ (by assumption); omega) | (rw [e_v_mine, List.length_map, sgs_len]; have := kept_len v_self v_one; omega) | (rw [e_v_theirs, List.length_map, sgs_len]; have := kept_len v_self v_other; omega) | (unfold weighGo at hs1; rw [e_v_found] at he1; rw [if_neg (by simpa using he1)] at hs1; exact hs1) | (rw [e_v_mine, e_v_theirs]; rfl))))))))
  (fun s1 hs1 =>
  (sd_retC hD de_int (by /- ret 2 -/ exact hs1)))))))))))
abbrev M_Book_weigh_of (P : Program) (w : World) (K : PySem.W.Frag) (mg : Str → Option Value) (base : Heap) (CL CB CBk : Addr) : Prop := FMe P w K mg base 3 CBk "weigh_of" ["self", "one", "other"] (SpF3 (rBk CL CB CBk) rTxt rTxt (fun b n m => OkBk b ∧ isNameL n b.1 = true ∧ isNameL m b.1 = true) rInt (weighB))
abbrev s_Book_weigh : Stmt := inClass (top 20) 7
theorem sc_s_Book_weigh : FnScope ["self", "one", "other"] ["self", "one", "other"] (defScope s_Book_weigh) := ⟨rfl, rfl, rfl, by decide +kernel, rfl, by decide +kernel, by decide +kernel⟩
set_option maxHeartbeats 4000000 in
theorem ok_Book_weigh {CL CB CBk : Addr}  (h_Book_check_name : M_Book_check_name P w K mg base CL CB CBk) (h_Book_weigh_of : M_Book_weigh_of P w K mg base CL CB CBk) (T : FTm K "weigh" "Book.weigh" CBk s_Book_weigh ["self", "one", "other"]) : FMe P w K mg base 4 CBk "weigh" ["self", "one", "other"] (SpF3 (rBk CL CB CBk) rTxt rTxt (fun b n m => OkBk b ∧ isNameL n b.1 = true ∧ isNameL m b.1 = true) rInt (weighB)) :=
  meF3 T sc_s_Book_weigh (vs := [0, 1, 2]) (by decide +kernel) [] (body := fun X B D v_self v_one v_other c hp hD hn =>
  (sd_drop (c_methF2 c (h_Book_check_name) (c_var c 0 (.z)) (c_var c 1 (.s (.z))) (by /- 0 -/ first | exact hp.2.1 | exact hp.2.2 | exact hp))
  (sd_drop (c_methF2 c (h_Book_check_name) (c_var c 0 (.z)) (c_var c 2 (.s (.s (.z)))) (by /- 1 -/ first | exact hp.2.1 | exact hp.2.2 | exact hp))
  (sd_retC hD (c_methF3 c (h_Book_weigh_of) (c_var c 0 (.z)) (c_var c 1 (.s (.z))) (c_var c 2 (.s (.s (.z)))) (by /- 2 -/ first | exact hp.2.1 | exact hp.2.2 | exact hp)) (by /- ret 1 -/ rfl)))))
abbrev M_Book_weigh (P : Program) (w : World) (K : PySem.W.Frag) (mg : Str → Option Value) (base : Heap) (CL CB CBk : Addr) : Prop := FMe P w K mg base 4 CBk "weigh" ["self", "one", "other"] (SpF3 (rBk CL CB CBk) rTxt rTxt (fun b n m => OkBk b ∧ isNameL n b.1 = true ∧ isNameL m b.1 = true) rInt (weighB))
abbrev s__law_ranks : Stmt := top 27
theorem sc_s__law_ranks : FnScope ["_law_cell", "_law_k", "_law_many", "_law_most", "_law_found", "_law_at", "_law_rank"] ["_law_cell", "_law_k", "_law_many"] (defScope s__law_ranks) := ⟨rfl, rfl, rfl, by decide +kernel, rfl, by decide +kernel, by decide +kernel⟩
abbrev P__law_ranks (P : Program) (w : World) (K : PySem.W.Frag) (mg : Str → Option Value) (base : Heap) : Prop := FN P w K mg base CX0 3 "_law_ranks" ["_law_cell", "_law_k", "_law_many"] (SpF3 rInt rInt rInt (fun _ k m => 0 ≤ k ∧ k ≤ 1000 ∧ 0 ≤ m ∧ m ≤ 100) (rList rInt) (ranksL))
set_option maxHeartbeats 4000000 in
theorem ok__law_ranks (h__law_number : P__law_number P w K mg base) (b_range : mg "range" = none) (T : FT K mg "_law_ranks" "_law_ranks" s__law_ranks ["_law_cell", "_law_k", "_law_many"]) : P__law_ranks P w K mg base :=
  fnF3 T sc_s__law_ranks (vs := [0, 1, 2, 3, 4]) (by decide +kernel) [.un, .un, .un, .un] (body := fun X B D v_cell v_k v_many c hp hD hn =>
  (have q4 := number_in v_cell v_k (limit := 4) (by decide)
  (c_asg c 3 (de_ixT (de_tupL (dl_cons de_int (dl_cons de_int (dl_cons de_int (dl_cons de_int dl_nil))))) (c_callF3 c h__law_number (c_var c 0 (.z)) (c_var c 1 (.s (.z))) de_int (by /- 0 -/ first | omega | decide | (simp; omega) | (rw [e_v_found, List.length_map, rng_len]; omega) | (rw [rng_len]; omega))) (by /- 1 -/ first | omega | decide | (simp; omega) | (rw [e_v_found, List.length_map, rng_len]; omega) | (rw [rng_len]; omega))) (fun _ => .s (.s (.s (.z)))) (fun v_most e_v_most =>
  (have qm : 2 ≤ v_most ∧ v_most ≤ 100 := by rw [e_v_most]; exact most_in _ _
  (c_asgLc c 4 (c_lc c [("_law_at", 5)] [0, 1, 3, 5] [5] _ (c_range1 c (c_var c 2 (.s (.s (.z)))) b_range (by /- 2 -/ first | omega | decide | (simp; omega) | (rw [e_v_found, List.length_map, rng_len]; omega) | (rw [rng_len]; omega))) (fun _ _ c1 => (c_tname c1 5)) (fun _ => .s (.s (.s (.s (.s (.z)))))) (fun _ _ x1 c1 hx1 => (have hr_x1 := mem_rng hx1; (c_callF3 c1 h__law_number (c_var c1 0 (.z)) (de_add (de_add (c_var c1 1 (.s (.z))) (c_var c1 5 (.s (.s (.s (.s (.s (.z)))))))) de_int) (c_var c1 3 (.s (.s (.s (.z))))) (by /- 3 -/ first | omega | decide | (simp; omega) | (rw [e_v_found, List.length_map, rng_len]; omega) | (rw [rng_len]; omega))))) (by /- 4 -/ first | omega | decide | (simp; omega) | (rw [e_v_found, List.length_map, rng_len]; omega) | (rw [rng_len]; omega)) (Uns.all (.cons (.s (.s (.s (.s (.s (.z)))))) .nil))) (fun _ => .s (.s (.s (.s (.z))))) (fun v_found e_v_found =>
  (sd_ifT ((dc_gt (c_callF3 c h__law_number (c_var c 0 (.z)) (de_add (c_var c 1 (.s (.z))) de_int) de_int (by /- 5 -/ first | omega | decide | (simp; omega) | (rw [e_v_found, List.length_map, rng_len]; omega) | (rw [rng_len]; omega))) de_int)).t (fun ht1 => (sd_retC hD (c_var c 4 (.s (.s (.s (.s (.z)))))) (by /- ret 1 -/ rw [e_v_found, e_v_most]; unfold ranksL; rw [if_pos (of_decide_eq_true ht1)]; rfl))) (fun he1 =>
  (sd_retC hD (de_of_dm (dm_lc c (c_lc c [("_law_rank", 6)] [6] [6] _ (di_list (c_var c 4 (.s (.s (.s (.s (.z))))))) (fun _ _ c2 => (c_tname c2 6)) (fun _ => .s (.s (.s (.s (.s (.s (.z))))))) (fun _ _ x2 c2 hx2 => (de_add de_int (de_mod (c_var c2 6 (.s (.s (.s (.s (.s (.s (.z)))))))) de_int (by /- 6 -/ first | omega | decide | (simp; omega) | (rw [e_v_found, List.length_map, rng_len]; omega) | (rw [rng_len]; omega))))) (by /- 7 -/ first | omega | decide | (simp; omega) | (rw [e_v_found, List.length_map, rng_len]; omega) | (rw [rng_len]; omega)) (Uns.all (.cons (.s (.s (.s (.s (.s (.s (.z))))))) .nil))))) (by /- ret 2 -/ rw [e_v_found, e_v_most]; unfold ranksL; rw [if_neg (of_decide_eq_false he1)]; rfl)))))))))))
abbrev s__law_told : Stmt := top 28
theorem sc_s__law_told : FnScope ["_law_cell", "_law_many", "_law_found", "_law_at"] ["_law_cell", "_law_many"] (defScope s__law_told) := ⟨rfl, rfl, rfl, by decide +kernel, rfl, by decide +kernel, by decide +kernel⟩
abbrev P__law_told (P : Program) (w : World) (K : PySem.W.Frag) (mg : Str → Option Value) (base : Heap) : Prop := FN P w K mg base CX0 4 "_law_told" ["_law_cell", "_law_many"] (SpM2 rInt rInt (fun _ m => 0 ≤ m ∧ m ≤ 100) (rPair (rList rInt) rBool) (toldL))
set_option maxHeartbeats 4000000 in
theorem ok__law_told (h__law_number : P__law_number P w K mg base) (h__law_ranks : P__law_ranks P w K mg base) (b_range : mg "range" = none) (T : FT K mg "_law_told" "_law_told" s__law_told ["_law_cell", "_law_many"]) : P__law_told P w K mg base :=
  fnM2 T sc_s__law_told (vs := [0, 1, 2, 3]) (by decide +kernel) [.un, .un] (body := fun X B D v_cell v_many c hp hD =>
  (have q20 := number_in v_cell 20 (limit := 3) (by decide)
  (c_asgM c 2 (dm_list (dl_nil (r := (rPair (rList rInt) rBool)))) (fun _ => .s (.s (.z))) (fun v_found e_v_found =>
  (sd_forF c.po c.calm (S := (List ((List Int) × Bool))) (fun s1 => [.val rInt v_cell, .val rInt v_many, .own (oList (rPair (rList rInt) rBool)) s1, .un]) (fun s a => s ++ [toldOne v_cell v_many a]) (v_found) (c_range1 c (de_add de_int (c_callF3 c h__law_number (c_var c 0 (.z)) de_int de_int (by /- 0 -/ first | omega | (rw [e_v_found_1]; rfl) | (rw [hs1, fold_snoc, e_v_found]; have h := congrArg List.length hp1; simp [rng_len] at h; simp; omega)))) b_range (by /- 1 -/ first | omega | (rw [e_v_found_1]; rfl) | (rw [hs1, fold_snoc, e_v_found]; have h := congrArg List.length hp1; simp [rng_len] at h; simp; omega))) (fun _ => (c_tname c 3)) (.k (.k (.k (.k .nil)))) (fun _ => fun _ => .s (.s (.s (.z)))) (fun _ pre1 y1 post1 s1 hp1 hs1 =>
    (have hr_y1 := mem_rng (by rw [hp1]; simp : y1 ∈ _); (c_append c 2 (.s (.s (.z))) (de_pair (da_cons (c_callF3 c h__law_ranks (de_add (c_var c 0 (.z)) (de_mul de_int (c_var c 3 (.s (.s (.s (.z))))) (by /- 2 -/ first | omega | (rw [e_v_found_1]; rfl) | (rw [hs1, fold_snoc, e_v_found]; have h := congrArg List.length hp1; simp [rng_len] at h; simp; omega)))) (de_mul de_int (c_var c 3 (.s (.s (.s (.z))))) (by /- 3 -/ first | omega | (rw [e_v_found_1]; rfl) | (rw [hs1, fold_snoc, e_v_found]; have h := congrArg List.length hp1; simp [rng_len] at h; simp; omega))) (c_var c 1 (.s (.z))) (by /- 4 -/ first | omega | (rw [e_v_found_1]; rfl) | (rw [hs1, fold_snoc, e_v_found]; have h := congrArg List.length hp1; simp [rng_len] at h; simp; omega))) (da_cons ((dc_eqI (c_callF3 c h__law_number (de_add (c_var c 0 (.z)) (c_var c 3 (.s (.s (.s (.z)))))) (de_add (c_var c 3 (.s (.s (.s (.z))))) de_int) de_int (by /- 5 -/ first | omega | (rw [e_v_found_1]; rfl) | (rw [hs1, fold_snoc, e_v_found]; have h := congrArg List.length hp1; simp [rng_len] at h; simp; omega))) de_int)).v da_nil))) (.s (.s (.z))) (sd_gen (Γf := fun v_found_1 => [.val rInt v_cell, .val rInt v_many, .own (oList (rPair (rList rInt) rBool)) v_found_1, .val rInt y1]) _ (fun v_found_1 e_v_found_1 =>
    (sd_go (.k (.k (.o (by /- 6 -/ first | omega | (rw [e_v_found_1]; rfl) | (rw [hs1, fold_snoc, e_v_found]; have h := congrArg List.length hp1; simp [rng_len] at h; simp; omega)) (.u .nil)))) (fun _ _ h => h)))) (by /- 7 -/ first | omega | (rw [e_v_found_1]; rfl) | (rw [hs1, fold_snoc, e_v_found]; have h := congrArg List.length hp1; simp [rng_len] at h; simp; omega)))))
  (fun s1 hs1 =>
  (c_retO c 2 hD (.s (.s (.z))) (by /- ret 1 -/ rw [hs1, fold_snoc, e_v_found]; rfl))))))))
abbrev s__law_name : Stmt := top 29
theorem sc_s__law_name : FnScope ["_law_script", "_law_by", "_law_signs_here", "_law_most", "_law_found", "_law_k"] ["_law_script", "_law_by", "_law_signs_here", "_law_most"] (defScope s__law_name) := ⟨rfl, rfl, rfl, by decide +kernel, rfl, by decide +kernel, by decide +kernel⟩
abbrev P__law_name (P : Program) (w : World) (K : PySem.W.Frag) (mg : Str → Option Value) (base : Heap) : Prop := FN P w K mg base CX0 3 "_law_name" ["_law_script", "_law_by", "_law_signs_here", "_law_most"] (SpF4 (rScr K) rInt rTxt rInt (fun _ b s m => 0 ≤ b ∧ b ≤ 1000 ∧ 1 ≤ s.length ∧ s.length ≤ 100 ∧ 0 < m ∧ m ≤ 100) rTxt (nameL))
set_option maxHeartbeats 4000000 in
theorem ok__law_name (h__law_cell_at : P__law_cell_at P w K mg base) (h__law_number : P__law_number P w K mg base) (b_len : mg "len" = none) (b_range : mg "range" = none) (T : FT K mg "_law_name" "_law_name" s__law_name ["_law_script", "_law_by", "_law_signs_here", "_law_most"]) : P__law_name P w K mg base :=
  fnF4 T sc_s__law_name (vs := [0, 1, 2, 3, 4, 5]) (by decide +kernel) [.un, .un] (body := fun X B D v_script v_by v_signs_here v_most c hp hD hn =>
  (have q1 := number_in (cellAt v_script v_by) 1 (limit := v_most) (by omega)
  (c_asg c 4 (de_str (l := []) (by decide +kernel) (by decide)) (fun _ => .s (.s (.s (.s (.z))))) (fun v_found e_v_found =>
  (sd_forF c.po c.calm (S := Txt) (fun s1 => [.val (rScr K) v_script, .val rInt v_by, .val rTxt v_signs_here, .val rInt v_most, .val rTxt s1, .un]) (nameStep v_script v_by v_signs_here) (v_found) (c_range1 c (de_add de_int (c_callF3 c h__law_number (c_callF2 c h__law_cell_at (c_var c 0 (.z)) (c_var c 1 (.s (.z))) (by /- 0 -/ first | omega | (simp; omega) | (rw [e_v_found_1]; rfl))) de_int (c_var c 3 (.s (.s (.s (.z))))) (by /- 1 -/ first | omega | (simp; omega) | (rw [e_v_found_1]; rfl)))) b_range (by /- 2 -/ first | omega | (simp; omega) | (rw [e_v_found_1]; rfl))) (fun _ => (c_tname c 5)) (.k (.k (.k (.k (.k (.k .nil)))))) (fun _ => fun _ => .s (.s (.s (.s (.s (.z)))))) (fun _ pre1 y1 post1 s1 hp1 hs1 =>
    (have hr_y1 := mem_rng (by rw [hp1]; simp : y1 ∈ _); (have hl : pre1.length < (1 + number (cellAt v_script v_by) 1 v_most).toNat := by have h := congrArg List.length hp1; simp [rng_len] at h; omega
    have nf := name_fold (script := v_script) (by_ := v_by) (signs := v_signs_here) (by omega) pre1 [] (fun c hc => by cases hc)
    have ls : s1.length = pre1.length := by rw [hs1, e_v_found, nf.2]; simp
    have qn := number_in (cellAt v_script (v_by + y1 / 4) + 31 * y1) (y1 + 2) (limit := (v_signs_here.length : Int)) (by omega)
    (c_asg c 4 (de_catS (c_var c 4 (.s (.s (.s (.s (.z)))))) (de_ixS (c_var c 2 (.s (.s (.z)))) (c_callF3 c h__law_number (de_add (c_callF2 c h__law_cell_at (c_var c 0 (.z)) (de_add (c_var c 1 (.s (.z))) (de_fdiv (c_var c 5 (.s (.s (.s (.s (.s (.z))))))) de_int (by /- 3 -/ first | omega | (simp; omega) | (rw [e_v_found_1]; rfl)))) (by /- 4 -/ first | omega | (simp; omega) | (rw [e_v_found_1]; rfl))) (de_mul de_int (c_var c 5 (.s (.s (.s (.s (.s (.z))))))) (by /- 5 -/ first | omega | (simp; omega) | (rw [e_v_found_1]; rfl)))) (de_add (c_var c 5 (.s (.s (.s (.s (.s (.z))))))) de_int) (c_lenS c (c_var c 2 (.s (.s (.z)))) b_len (by /- 6 -/ first | omega | (simp; omega) | (rw [e_v_found_1]; rfl))) (by /- 7 -/ first | omega | (simp; omega) | (rw [e_v_found_1]; rfl))) (by /- 8 -/ first | omega | (simp; omega) | (rw [e_v_found_1]; rfl)) (by /- 9 -/ first | omega | (simp; omega) | (rw [e_v_found_1]; rfl))) (by /- 10 -/ first | omega | (simp; omega) | (rw [e_v_found_1]; rfl))) (fun _ => .s (.s (.s (.s (.z))))) (fun v_found_1 e_v_found_1 =>
    (sd_go (.k (.k (.k (.k (.e (by /- 11 -/ first | omega | (simp; omega) | (rw [e_v_found_1]; rfl)) (.u .nil)))))) (fun _ _ h => h)))))))
  (fun s1 hs1 =>
  (sd_retC hD (c_var c 4 (.s (.s (.s (.s (.z)))))) (by /- ret 1 -/ rw [hs1, e_v_found]; rfl))))))))
abbrev s__law_names : Stmt := top 30
theorem sc_s__law_names : FnScope ["_law_script", "_law_by", "_law_signs_here", "_law_many", "_law_most", "_law_k"] ["_law_script", "_law_by", "_law_signs_here", "_law_many", "_law_most"] (defScope s__law_names) := ⟨rfl, rfl, rfl, by decide +kernel, rfl, by decide +kernel, by decide +kernel⟩
abbrev P__law_names (P : Program) (w : World) (K : PySem.W.Frag) (mg : Str → Option Value) (base : Heap) : Prop := FN P w K mg base CX0 4 "_law_names" ["_law_script", "_law_by", "_law_signs_here", "_law_many", "_law_most"] (SpM5 (rScr K) rInt rTxt rInt rInt (fun _ b s n m => 0 ≤ b ∧ b ≤ 100 ∧ 1 ≤ s.length ∧ s.length ≤ 100 ∧ 0 ≤ n ∧ n ≤ 100 ∧ 0 < m ∧ m ≤ 100) rTxt (namesL))
set_option maxHeartbeats 4000000 in
theorem ok__law_names (h__law_name : P__law_name P w K mg base) (b_range : mg "range" = none) (T : FT K mg "_law_names" "_law_names" s__law_names ["_law_script", "_law_by", "_law_signs_here", "_law_many", "_law_most"]) : P__law_names P w K mg base :=
  fnM5 T sc_s__law_names (vs := [0, 1, 2, 3, 4]) (by decide +kernel) [.un] (body := fun X B D v_script v_by v_signs_here v_many v_most c hp hD =>
  (sd_retM hD (dm_lc c (c_lc c [("_law_k", 5)] [0, 1, 2, 4, 5] [5] _ (c_range1 c (c_var c 3 (.s (.s (.s (.z))))) b_range (by /- 0 -/ first | omega | (rw [rng_len]; omega))) (fun _ _ c1 => (c_tname c1 5)) (fun _ => .s (.s (.s (.s (.s (.z)))))) (fun _ _ x1 c1 hx1 => (have hr_x1 := mem_rng hx1; (c_callF4 c1 h__law_name (c_var c1 0 (.z)) (de_add (c_var c1 1 (.s (.z))) (c_var c1 5 (.s (.s (.s (.s (.s (.z)))))))) (c_var c1 2 (.s (.s (.z)))) (c_var c1 4 (.s (.s (.s (.s (.z)))))) (by /- 1 -/ first | omega | (rw [rng_len]; omega))))) (by /- 2 -/ first | omega | (rw [rng_len]; omega)) (Uns.all (.cons (.s (.s (.s (.s (.s (.z)))))) .nil)))) (by /- ret 1 -/ rfl)))
abbrev s__law_book : Stmt := top 31
theorem sc_s__law_book : FnScope ["_law_signs_here", "_law_levels", "_law_ranks_here", "_law_back"] ["_law_signs_here", "_law_levels"] (defScope s__law_book) := ⟨rfl, rfl, rfl, by decide +kernel, rfl, by decide +kernel, by decide +kernel⟩
abbrev P__law_book (P : Program) (w : World) (K : PySem.W.Frag) (mg : Str → Option Value) (base : Heap) (CL CB CBk : Addr) : Prop := FN P w K mg base CX0 5 "_law_book" ["_law_signs_here", "_law_levels"] (SpF2 rTxt (rList (rPair (rList rInt) rBool)) (fun s ls => OkBk (toB s ls)) (rBk CL CB CBk) (toB))
set_option maxHeartbeats 4000000 in
theorem ok__law_book {CL CB CBk : Addr} (h_Backward : I_Backward P w K mg base CL CB) (h_Book : I_Book P w K mg base CL CB CBk) (h_Level : I_Level P w K mg base CL CB) (T : FT K mg "_law_book" "_law_book" s__law_book ["_law_signs_here", "_law_levels"]) : P__law_book P w K mg base CL CB CBk :=
  fnF2 T sc_s__law_book (vs := [0, 1]) (by decide +kernel) [.un, .un] (body := fun X B D v_signs_here v_levels c hp hD hn =>
  (have eb : (v_levels.map fun x1 => if x1.2 = true then ((true, x1.1) : Lv) else (false, x1.1)) = (toB v_signs_here v_levels).2 := by unfold toB; apply List.map_congr_left; rintro ⟨r, b⟩ _; cases b <;> rfl
  have rk : ∀ p ∈ v_levels, okRanks p.1 := told_ranks hp
  have l3 := hp.l3
  have ln : v_levels.length ≤ 3 := by unfold toB at l3; simpa using l3
  (sd_retC hD (c_make2 c (_, _) h_Book (c_var c 0 (.z)) (de_of_dm (dm_lc c (c_lc c [("_law_ranks_here", 2), ("_law_back", 3)] [2, 3] [2, 3] _ (di_list (c_var c 1 (.s (.z)))) (fun _ _ c1 => (c_tpair c1 2 3)) (fun _ => ⟨_, .s (.s (.z)), .s (.s (.s (.z)))⟩) (fun _ _ x1 c1 hx1 => (de_ifExp (dt_val (c_var c1 3 (.s (.s (.s (.z)))))) (fun h1 => (de_of_dn (c_makeN1 c1 (true, _) h_Backward (c_var c1 2 (.s (.s (.z)))) (by /- 0 -/ first | omega | exact rk _ (by assumption) | (rw [eb]; exact hp))))) (fun h2 => (de_of_dn (c_makeN1 c1 (false, _) h_Level (c_var c1 2 (.s (.s (.z)))) (by /- 1 -/ first | omega | exact rk _ (by assumption) | (rw [eb]; exact hp))))))) (by /- 2 -/ first | omega | exact rk _ (by assumption) | (rw [eb]; exact hp)) (Uns.all (.cons (.s (.s (.z))) (.cons (.s (.s (.s (.z)))) .nil)))))) (by /- 3 -/ first | omega | exact rk _ (by assumption) | (rw [eb]; exact hp))) (by /- ret 1 -/ rw [eb]; rfl))))
abbrev s__law_row : Stmt := top 32
theorem sc_s__law_row : FnScope ["_law_signs_here", "_law_levels", "_law_at", "_law_name_here", "_law_first", "_law_here", "_law_found", "_law_sign"] ["_law_signs_here", "_law_levels", "_law_at", "_law_name_here"] (defScope s__law_row) := ⟨rfl, rfl, rfl, by decide +kernel, rfl, by decide +kernel, by decide +kernel⟩
abbrev P__law_row (P : Program) (w : World) (K : PySem.W.Frag) (mg : Str → Option Value) (base : Heap) : Prop := FN P w K mg base CX0 1 "_law_row" ["_law_signs_here", "_law_levels", "_law_at", "_law_name_here"] (SpF4 rTxt (rList (rPair (rList rInt) rBool)) rInt rTxt (fun s ls a n => OkBk (toB s ls) ∧ 0 ≤ a ∧ a < ls.length ∧ Of s n ∧ n.length ≤ 1000) (rList rInt) (rowL))
set_option maxHeartbeats 4000000 in
theorem ok__law_row  (T : FT K mg "_law_row" "_law_row" s__law_row ["_law_signs_here", "_law_levels", "_law_at", "_law_name_here"]) : P__law_row P w K mg base :=
  fnF4 T sc_s__law_row (vs := [0, 1, 2, 3, 4, 5, 6]) (by decide +kernel) [.un, .un, .un, .un] (body := fun X B D v_signs_here v_levels v_at v_name_here c hp hD hn =>
  (have ll := told_each hp.1
  have lz := ll 0 (by decide) (by omega)
  have la := ll v_at hp.2.1 hp.2.2.1
  (c_parT2 c 4 5 (s1 := fun a => .val (rList rInt) a) (s2 := fun a => .val (rList rInt) a) (ve_d (de_ixP0 (de_ixL (c_var c 1 (.s (.z))) de_int (by /- 0 -/ first | omega | exact of_sgs hp.2.2.2.1 _ (by assumption) | (have := ixT_in (of_sgs hp.2.2.2.1 _ (by assumption)); omega) | (rw [sgs_len]; omega))))) (ve_d (de_ixP0 (de_ixL (c_var c 1 (.s (.z))) (c_var c 2 (.s (.s (.z)))) (by /- 1 -/ first | omega | exact of_sgs hp.2.2.2.1 _ (by assumption) | (have := ixT_in (of_sgs hp.2.2.2.1 _ (by assumption)); omega) | (rw [sgs_len]; omega))))) (fun _ => .s (.s (.s (.s (.z))))) (fun _ _ => .s (.s (.s (.s (.s (.z)))))) (fun v_first v_here e_v_first e_v_here =>
  (have lf : v_first.length = v_signs_here.length := by rw [e_v_first]; exact lz
  have lh : v_here.length = v_signs_here.length := by rw [e_v_here]; exact la
  (c_asgLc c 6 (c_lcF c [("_law_sign", 7)] [0, 4, 5, 7] [7] _ _ (di_str (c_var c 3 (.s (.s (.s (.z)))))) (fun _ _ c1 => (c_tname c1 7)) (fun _ => .s (.s (.s (.s (.s (.s (.s (.z)))))))) (fun _ _ x1 c1 hx1 => (dts_one ((dc_gt (de_ixL (c_var c1 4 (.s (.s (.s (.s (.z)))))) (c_indexS c1 (c_var c1 0 (.z)) (c_var c1 7 (.s (.s (.s (.s (.s (.s (.s (.z))))))))) (by /- 2 -/ first | omega | exact of_sgs hp.2.2.2.1 _ (by assumption) | (have := ixT_in (of_sgs hp.2.2.2.1 _ (by assumption)); omega) | (rw [sgs_len]; omega))) (by /- 3 -/ first | omega | exact of_sgs hp.2.2.2.1 _ (by assumption) | (have := ixT_in (of_sgs hp.2.2.2.1 _ (by assumption)); omega) | (rw [sgs_len]; omega))) de_int)).t)) (fun _ _ x1 c1 hx1 h1 => (de_ixL (c_var c1 5 (.s (.s (.s (.s (.s (.z))))))) (c_indexS c1 (c_var c1 0 (.z)) (c_var c1 7 (.s (.s (.s (.s (.s (.s (.s (.z))))))))) (by /- 4 -/ first | omega | exact of_sgs hp.2.2.2.1 _ (by assumption) | (have := ixT_in (of_sgs hp.2.2.2.1 _ (by assumption)); omega) | (rw [sgs_len]; omega))) (by /- 5 -/ first | omega | exact of_sgs hp.2.2.2.1 _ (by assumption) | (have := ixT_in (of_sgs hp.2.2.2.1 _ (by assumption)); omega) | (rw [sgs_len]; omega)))) (by /- 6 -/ first | omega | exact of_sgs hp.2.2.2.1 _ (by assumption) | (have := ixT_in (of_sgs hp.2.2.2.1 _ (by assumption)); omega) | (rw [sgs_len]; omega)) (Uns.all (.cons (.s (.s (.s (.s (.s (.s (.s (.z)))))))) .nil))) (fun _ => .s (.s (.s (.s (.s (.s (.z))))))) (fun v_found e_v_found =>
  (sd_retC hD (de_ifExp (dt_val (de_ixP1 (de_ixL (c_var c 1 (.s (.z))) (c_var c 2 (.s (.s (.z)))) (by /- 7 -/ first | omega | exact of_sgs hp.2.2.2.1 _ (by assumption) | (have := ixT_in (of_sgs hp.2.2.2.1 _ (by assumption)); omega) | (rw [sgs_len]; omega))))) (fun h2 => (de_of_dm (dm_rev (c_var c 6 (.s (.s (.s (.s (.s (.s (.z))))))))))) (fun h3 => (c_var c 6 (.s (.s (.s (.s (.s (.s (.z)))))))))) (by /- ret 1 -/ rw [e_v_found, e_v_here, e_v_first]; unfold rowL seenL; cases (gI v_levels v_at).2 <;> rfl)))))))))
abbrev s__law_weigh : Stmt := top 33
theorem sc_s__law_weigh : FnScope ["_law_signs_here", "_law_levels", "_law_one", "_law_other", "_law_at", "_law_mine", "_law_theirs", "_law_a", "_law_b"] ["_law_signs_here", "_law_levels", "_law_one", "_law_other"] (defScope s__law_weigh) := ⟨rfl, rfl, rfl, by decide +kernel, rfl, by decide +kernel, by decide +kernel⟩
abbrev P__law_weigh (P : Program) (w : World) (K : PySem.W.Frag) (mg : Str → Option Value) (base : Heap) : Prop := FN P w K mg base CX0 2 "_law_weigh" ["_law_signs_here", "_law_levels", "_law_one", "_law_other"] (SpF4 rTxt (rList (rPair (rList rInt) rBool)) rTxt rTxt (fun s ls n m => OkBk (toB s ls) ∧ Of s n ∧ Of s m ∧ n.length ≤ 1000 ∧ m.length ≤ 1000) rInt (weighT))
set_option maxHeartbeats 4000000 in
theorem ok__law_weigh (h__law_row : P__law_row P w K mg base) (b_len : mg "len" = none) (b_range : mg "range" = none) (b_zip : mg "zip" = none) (T : FT K mg "_law_weigh" "_law_weigh" s__law_weigh ["_law_signs_here", "_law_levels", "_law_one", "_law_other"]) : P__law_weigh P w K mg base :=
  fnF4 T sc_s__law_weigh (vs := [0, 1, 2, 3, 4, 5, 6, 7, 8]) (by decide +kernel) [.un, .un, .un, .un, .un] (body := fun X B D v_signs_here v_levels v_one v_other c hp hD hn =>
  (have l3 := hp.1.l3
  have ln : v_levels.length ≤ 3 := by unfold toB at l3; simpa using l3
  (sd_forR c.po c.calm (S := Unit) (fun s1 => [.val rTxt v_signs_here, .val (rList (rPair (rList rInt) rBool)) v_levels, .val rTxt v_one, .val rTxt v_other, .un, .un, .un, .un, .un]) (weighToldGo v_signs_here v_levels v_one v_other) (weighT v_signs_here v_levels v_one v_other) () (c_range1 c (c_len c (c_var c 1 (.s (.z))) b_len) b_range (by /- 0 -/ first | (show _ ∧ _; exact ⟨hp.1, by omega, by omega, hp.2.1, hp.2.2.2.1⟩) | (show _ ∧ _; exact ⟨hp.1, by omega, by omega, hp.2.2.1, hp.2.2.2.2⟩) | omega | (unfold parGo at hs2; rw [if_neg (by simpa using he1)] at hs2; exact hs2) | (unfold parGo at hs2; rw [if_neg (by simp at he2; omega)] at hs2; exact hs2) | (rw [e_v_mine, e_v_theirs]; exact hs1) | (simp; rfl))) (fun _ => (c_tname c 4)) (.k (.k (.k (.k (.k (.k (.k (.k (.k .nil))))))))) (by /- 6 -/ first | (show _ ∧ _; exact ⟨hp.1, by omega, by omega, hp.2.1, hp.2.2.2.1⟩) | (show _ ∧ _; exact ⟨hp.1, by omega, by omega, hp.2.2.1, hp.2.2.2.2⟩) | omega | (unfold parGo at hs2; rw [if_neg (by simpa using he1)] at hs2; exact hs2) | (unfold parGo at hs2; rw [if_neg (by simp at he2; omega)] at hs2; exact hs2) | (rw [e_v_mine, e_v_theirs]; exact hs1) | (simp; rfl)) (fun _ => fun _ => .s (.s (.s (.s (.z))))) (fun _ y1 post1 s1 hm1 hq1 hs1 =>
    (have hr_y1 := mem_rng hm1; (c_par2 c 5 6 (s1 := fun a => .val (rList rInt) a) (s2 := fun a => .val (rList rInt) a) (ve_d (c_callF4 c h__law_row (c_var c 0 (.z)) (c_var c 1 (.s (.z))) (c_var c 4 (.s (.s (.s (.s (.z)))))) (c_var c 2 (.s (.s (.z)))) (by /- 1 -/ first | (show _ ∧ _; exact ⟨hp.1, by omega, by omega, hp.2.1, hp.2.2.2.1⟩) | (show _ ∧ _; exact ⟨hp.1, by omega, by omega, hp.2.2.1, hp.2.2.2.2⟩) | omega | (unfold parGo at hs2; rw [if_neg (by simpa using he1)] at hs2; exact hs2) | (unfold parGo at hs2; rw [if_neg (by simp at he2; omega)] at hs2; exact hs2) | (rw [e_v_mine, e_v_theirs]; exact hs1) | (simp; rfl)))) (ve_d (c_callF4 c h__law_row (c_var c 0 (.z)) (c_var c 1 (.s (.z))) (c_var c 4 (.s (.s (.s (.s (.z)))))) (c_var c 3 (.s (.s (.s (.z))))) (by /- 2 -/ first | (show _ ∧ _; exact ⟨hp.1, by omega, by omega, hp.2.1, hp.2.2.2.1⟩) | (show _ ∧ _; exact ⟨hp.1, by omega, by omega, hp.2.2.1, hp.2.2.2.2⟩) | omega | (unfold parGo at hs2; rw [if_neg (by simpa using he1)] at hs2; exact hs2) | (unfold parGo at hs2; rw [if_neg (by simp at he2; omega)] at hs2; exact hs2) | (rw [e_v_mine, e_v_theirs]; exact hs1) | (simp; rfl)))) (fun _ => .s (.s (.s (.s (.s (.z)))))) (fun _ _ => .s (.s (.s (.s (.s (.s (.z))))))) (fun v_mine v_theirs e_v_mine e_v_theirs =>
    (sd_forR c.po c.calm (S := Unit) (fun s2 => [.val rTxt v_signs_here, .val (rList (rPair (rList rInt) rBool)) v_levels, .val rTxt v_one, .val rTxt v_other, .val rInt y1, .val (rList rInt) v_mine, .val (rList rInt) v_theirs, .un, .un]) (parGo (weighToldGo v_signs_here v_levels v_one v_other post1 ()) v_mine v_theirs) (weighT v_signs_here v_levels v_one v_other) () (c_zip c (c_var c 5 (.s (.s (.s (.s (.s (.z))))))) (c_var c 6 (.s (.s (.s (.s (.s (.s (.z)))))))) b_zip) (fun _ => (c_tpair c 7 8)) (.k (.k (.k (.k (.k (.k (.k (.k (.k .nil))))))))) (by /- 4 -/ first | (show _ ∧ _; exact ⟨hp.1, by omega, by omega, hp.2.1, hp.2.2.2.1⟩) | (show _ ∧ _; exact ⟨hp.1, by omega, by omega, hp.2.2.1, hp.2.2.2.2⟩) | omega | (unfold parGo at hs2; rw [if_neg (by simpa using he1)] at hs2; exact hs2) | (unfold parGo at hs2; rw [if_neg (by simp at he2; omega)] at hs2; exact hs2) | (rw [e_v_mine, e_v_theirs]; exact hs1) | (simp; rfl)) (fun _ => fun _ => ⟨_, .s (.s (.s (.s (.s (.s (.s (.z))))))), .s (.s (.s (.s (.s (.s (.s (.s (.z))))))))⟩) (fun _ y2 post2 s2 hm2 hq2 hs2 =>
      (sd_ifT ((dc_neI (c_var c 7 (.s (.s (.s (.s (.s (.s (.s (.z))))))))) (c_var c 8 (.s (.s (.s (.s (.s (.s (.s (.s (.z)))))))))))).t (fun ht1 => (sd_retC hD (de_ifExp ((dc_lt (c_var c 7 (.s (.s (.s (.s (.s (.s (.s (.z))))))))) (c_var c 8 (.s (.s (.s (.s (.s (.s (.s (.s (.z)))))))))))).t (fun h1 => (de_neg de_int)) (fun h2 => de_int)) (by /- ret 1 -/ unfold parGo at hs2; rw [if_pos (by simpa using ht1)] at hs2; rw [← hs2]; simp))) (fun he1 =>
      (sd_turn (Γs := fun s2 => [.val rTxt v_signs_here, .val (rList (rPair (rList rInt) rBool)) v_levels, .val rTxt v_one, .val rTxt v_other, .val rInt y1, .val (rList rInt) v_mine, .val (rList rInt) v_theirs, .un, .un]) (Φ := fun s2 => (parGo (weighToldGo v_signs_here v_levels v_one v_other post1 ()) v_mine v_theirs) post2 s2 = (weighT v_signs_here v_levels v_one v_other)) () (.k (.k (.k (.k (.k (.k (.k (.u (.u .nil))))))))) (by /- 3 -/ first | (show _ ∧ _; exact ⟨hp.1, by omega, by omega, hp.2.1, hp.2.2.2.1⟩) | (show _ ∧ _; exact ⟨hp.1, by omega, by omega, hp.2.2.1, hp.2.2.2.2⟩) | omega | (unfold parGo at hs2; rw [if_neg (by simpa using he1)] at hs2; exact hs2) | (unfold parGo at hs2; rw [if_neg (by simp at he2; omega)] at hs2; exact hs2) | (rw [e_v_mine, e_v_theirs]; exact hs1) | (simp; rfl))))))
    (fun s2 hs2 =>
    (sd_ifT ((dc_neI (c_len c (c_var c 5 (.s (.s (.s (.s (.s (.z))))))) b_len) (c_len c (c_var c 6 (.s (.s (.s (.s (.s (.s (.z)))))))) b_len))).t (fun ht2 => (sd_retC hD (de_ifExp ((dc_lt (c_len c (c_var c 5 (.s (.s (.s (.s (.s (.z))))))) b_len) (c_len c (c_var c 6 (.s (.s (.s (.s (.s (.s (.z)))))))) b_len))).t (fun h3 => (de_neg de_int)) (fun h4 => de_int)) (by /- ret 2 -/ unfold parGo at hs2; rw [if_pos (by simp at ht2; omega)] at hs2; rw [← hs2]; simp))) (fun he2 =>
    (sd_turn (Γs := fun s1 => [.val rTxt v_signs_here, .val (rList (rPair (rList rInt) rBool)) v_levels, .val rTxt v_one, .val rTxt v_other, .un, .un, .un, .un, .un]) (Φ := fun s1 => (weighToldGo v_signs_here v_levels v_one v_other) post1 s1 = (weighT v_signs_here v_levels v_one v_other)) () (.k (.k (.k (.k (.u (.u (.u (.k (.k .nil))))))))) (by /- 5 -/ first | (show _ ∧ _; exact ⟨hp.1, by omega, by omega, hp.2.1, hp.2.2.2.1⟩) | (show _ ∧ _; exact ⟨hp.1, by omega, by omega, hp.2.2.1, hp.2.2.2.2⟩) | omega | (unfold parGo at hs2; rw [if_neg (by simpa using he1)] at hs2; exact hs2) | (unfold parGo at hs2; rw [if_neg (by simp at he2; omega)] at hs2; exact hs2) | (rw [e_v_mine, e_v_theirs]; exact hs1) | (simp; rfl)))))))))))
  (fun s1 hs1 =>
  (sd_retC hD de_int (by /- ret 3 -/ exact hs1))))))
abbrev s__law_near : Stmt := top 34
theorem sc_s__law_near : FnScope ["_law_name_here", "_law_signs_here", "_law_cell", "_law_at", "_law_sign", "_law_found", "_law_turned", "_law_one"] ["_law_name_here", "_law_signs_here", "_law_cell"] (defScope s__law_near) := ⟨rfl, rfl, rfl, by decide +kernel, rfl, by decide +kernel, by decide +kernel⟩
abbrev P__law_near (P : Program) (w : World) (K : PySem.W.Frag) (mg : Str → Option Value) (base : Heap) : Prop := FN P w K mg base CX0 3 "_law_near" ["_law_name_here", "_law_signs_here", "_law_cell"] (SpM3 rTxt rTxt rInt (fun n s _ => 1 ≤ n.length ∧ n.length ≤ 1000 ∧ 1 ≤ s.length ∧ s.length ≤ 100) rTxt (nearL))
set_option maxHeartbeats 4000000 in
theorem ok__law_near (h__law_number : P__law_number P w K mg base) (b_len : mg "len" = none) (T : FT K mg "_law_near" "_law_near" s__law_near ["_law_name_here", "_law_signs_here", "_law_cell"]) : P__law_near P w K mg base :=
  fnM3 T sc_s__law_near (vs := [0, 1, 2, 3, 4, 5, 6]) (by decide +kernel) [.un, .un, .un, .un, .un] (body := fun X B D v_name_here v_signs_here v_cell c hp hD =>
  (have q15 := number_in v_cell 15 (limit := (v_name_here.length : Int)) (by omega)
  have q16 := number_in v_cell 16 (limit := (v_signs_here.length : Int)) (by omega)
  (c_par2 c 3 4 (s1 := fun a => .val rInt a) (s2 := fun a => .val rTxt a) (ve_d (c_callF3 c h__law_number (c_var c 2 (.s (.s (.z)))) de_int (c_lenS c (c_var c 0 (.z)) b_len (by /- 0 -/ first | omega | (rw [List.length_append]; omega) | (rw [List.length_append, List.length_append]; omega) | (rw [List.length_reverse]; omega) | (simp; omega) | (rw [e_v_found]; simp) | (have := lx _ (by assumption); omega))) (by /- 1 -/ first | omega | (rw [List.length_append]; omega) | (rw [List.length_append, List.length_append]; omega) | (rw [List.length_reverse]; omega) | (simp; omega) | (rw [e_v_found]; simp) | (have := lx _ (by assumption); omega)))) (ve_d (de_ixS (c_var c 1 (.s (.z))) (c_callF3 c h__law_number (c_var c 2 (.s (.s (.z)))) de_int (c_lenS c (c_var c 1 (.s (.z))) b_len (by /- 2 -/ first | omega | (rw [List.length_append]; omega) | (rw [List.length_append, List.length_append]; omega) | (rw [List.length_reverse]; omega) | (simp; omega) | (rw [e_v_found]; simp) | (have := lx _ (by assumption); omega))) (by /- 3 -/ first | omega | (rw [List.length_append]; omega) | (rw [List.length_append, List.length_append]; omega) | (rw [List.length_reverse]; omega) | (simp; omega) | (rw [e_v_found]; simp) | (have := lx _ (by assumption); omega))) (by /- 4 -/ first | omega | (rw [List.length_append]; omega) | (rw [List.length_append, List.length_append]; omega) | (rw [List.length_reverse]; omega) | (simp; omega) | (rw [e_v_found]; simp) | (have := lx _ (by assumption); omega)) (by /- 5 -/ first | omega | (rw [List.length_append]; omega) | (rw [List.length_append, List.length_append]; omega) | (rw [List.length_reverse]; omega) | (simp; omega) | (rw [e_v_found]; simp) | (have := lx _ (by assumption); omega)))) (fun _ => .s (.s (.s (.z)))) (fun _ _ => .s (.s (.s (.s (.z))))) (fun v_at v_sign e_v_at e_v_sign =>
  (have ls : v_sign.length = 1 := by rw [e_v_sign]; rfl
  have cl : ∀ l h, (cutL v_name_here l h).length ≤ v_name_here.length := cutL_len v_name_here
  have c1 := cl none (some v_at)
  have c2 := cl (some v_at) none
  have c3 := cl (some (v_at + 1)) none
  have c4 := cl (some v_at) (some (v_at + 2))
  have c5 := cl (some (v_at + 2)) none
  (c_asg c 5 (de_of_dm (dm_list (dl_cons (de_catS (de_catS (de_slS (c_var c 0 (.z)) do_none (do_some (c_var c 3 (.s (.s (.s (.z)))))) (by /- 6 -/ first | omega | (rw [List.length_append]; omega) | (rw [List.length_append, List.length_append]; omega) | (rw [List.length_reverse]; omega) | (simp; omega) | (rw [e_v_found]; simp) | (have := lx _ (by assumption); omega))) (c_var c 4 (.s (.s (.s (.s (.z)))))) (by /- 7 -/ first | omega | (rw [List.length_append]; omega) | (rw [List.length_append, List.length_append]; omega) | (rw [List.length_reverse]; omega) | (simp; omega) | (rw [e_v_found]; simp) | (have := lx _ (by assumption); omega))) (de_slS (c_var c 0 (.z)) (do_some (c_var c 3 (.s (.s (.s (.z)))))) do_none (by /- 8 -/ first | omega | (rw [List.length_append]; omega) | (rw [List.length_append, List.length_append]; omega) | (rw [List.length_reverse]; omega) | (simp; omega) | (rw [e_v_found]; simp) | (have := lx _ (by assumption); omega))) (by /- 9 -/ first | omega | (rw [List.length_append]; omega) | (rw [List.length_append, List.length_append]; omega) | (rw [List.length_reverse]; omega) | (simp; omega) | (rw [e_v_found]; simp) | (have := lx _ (by assumption); omega))) (dl_cons (de_catS (de_catS (de_slS (c_var c 0 (.z)) do_none (do_some (c_var c 3 (.s (.s (.s (.z)))))) (by /- 10 -/ first | omega | (rw [List.length_append]; omega) | (rw [List.length_append, List.length_append]; omega) | (rw [List.length_reverse]; omega) | (simp; omega) | (rw [e_v_found]; simp) | (have := lx _ (by assumption); omega))) (c_var c 4 (.s (.s (.s (.s (.z)))))) (by /- 11 -/ first | omega | (rw [List.length_append]; omega) | (rw [List.length_append, List.length_append]; omega) | (rw [List.length_reverse]; omega) | (simp; omega) | (rw [e_v_found]; simp) | (have := lx _ (by assumption); omega))) (de_slS (c_var c 0 (.z)) (do_some (de_add (c_var c 3 (.s (.s (.s (.z))))) de_int)) do_none (by /- 12 -/ first | omega | (rw [List.length_append]; omega) | (rw [List.length_append, List.length_append]; omega) | (rw [List.length_reverse]; omega) | (simp; omega) | (rw [e_v_found]; simp) | (have := lx _ (by assumption); omega))) (by /- 13 -/ first | omega | (rw [List.length_append]; omega) | (rw [List.length_append, List.length_append]; omega) | (rw [List.length_reverse]; omega) | (simp; omega) | (rw [e_v_found]; simp) | (have := lx _ (by assumption); omega))) (dl_cons (c_revS c (c_var c 0 (.z)) (by /- 14 -/ first | omega | (rw [List.length_append]; omega) | (rw [List.length_append, List.length_append]; omega) | (rw [List.length_reverse]; omega) | (simp; omega) | (rw [e_v_found]; simp) | (have := lx _ (by assumption); omega))) (dl_cons (de_slS (c_var c 0 (.z)) (do_some (c_var c 3 (.s (.s (.s (.z)))))) do_none (by /- 15 -/ first | omega | (rw [List.length_append]; omega) | (rw [List.length_append, List.length_append]; omega) | (rw [List.length_reverse]; omega) | (simp; omega) | (rw [e_v_found]; simp) | (have := lx _ (by assumption); omega))) (dl_cons (de_slS (c_var c 0 (.z)) do_none (do_some (de_add (c_var c 3 (.s (.s (.s (.z))))) de_int)) (by /- 16 -/ first | omega | (rw [List.length_append]; omega) | (rw [List.length_append, List.length_append]; omega) | (rw [List.length_reverse]; omega) | (simp; omega) | (rw [e_v_found]; simp) | (have := lx _ (by assumption); omega))) dl_nil))))))) (fun _ => .s (.s (.s (.s (.s (.z)))))) (fun v_found e_v_found =>
  (have cl : ∀ l h, (cutL v_name_here l h).length ≤ v_name_here.length := cutL_len v_name_here
  (c_asg c 6 (de_catS (de_slS (c_var c 0 (.z)) do_none (do_some (c_var c 3 (.s (.s (.s (.z)))))) (by /- 17 -/ first | omega | (rw [List.length_append]; omega) | (rw [List.length_append, List.length_append]; omega) | (rw [List.length_reverse]; omega) | (simp; omega) | (rw [e_v_found]; simp) | (have := lx _ (by assumption); omega))) (c_revS c (de_slS (c_var c 0 (.z)) (do_some (c_var c 3 (.s (.s (.s (.z)))))) (do_some (de_add (c_var c 3 (.s (.s (.s (.z))))) de_int)) (by /- 18 -/ first | omega | (rw [List.length_append]; omega) | (rw [List.length_append, List.length_append]; omega) | (rw [List.length_reverse]; omega) | (simp; omega) | (rw [e_v_found]; simp) | (have := lx _ (by assumption); omega))) (by /- 19 -/ first | omega | (rw [List.length_append]; omega) | (rw [List.length_append, List.length_append]; omega) | (rw [List.length_reverse]; omega) | (simp; omega) | (rw [e_v_found]; simp) | (have := lx _ (by assumption); omega))) (by /- 20 -/ first | omega | (rw [List.length_append]; omega) | (rw [List.length_append, List.length_append]; omega) | (rw [List.length_reverse]; omega) | (simp; omega) | (rw [e_v_found]; simp) | (have := lx _ (by assumption); omega))) (fun _ => .s (.s (.s (.s (.s (.s (.z))))))) (fun v_turned e_v_turned =>
  (have lt : v_turned.length ≤ 2000 := by rw [e_v_turned]; simp; omega
  (c_asg c 5 (de_of_dm (dm_cat (c_var c 5 (.s (.s (.s (.s (.s (.z))))))) (de_of_dm (dm_list (dl_cons (de_catS (c_var c 6 (.s (.s (.s (.s (.s (.s (.z)))))))) (de_slS (c_var c 0 (.z)) (do_some (de_add (c_var c 3 (.s (.s (.s (.z))))) de_int)) do_none (by /- 21 -/ first | omega | (rw [List.length_append]; omega) | (rw [List.length_append, List.length_append]; omega) | (rw [List.length_reverse]; omega) | (simp; omega) | (rw [e_v_found]; simp) | (have := lx _ (by assumption); omega))) (by /- 22 -/ first | omega | (rw [List.length_append]; omega) | (rw [List.length_append, List.length_append]; omega) | (rw [List.length_reverse]; omega) | (simp; omega) | (rw [e_v_found]; simp) | (have := lx _ (by assumption); omega))) (dl_cons (c_var c 4 (.s (.s (.s (.s (.z)))))) (dl_cons (c_var c 0 (.z)) dl_nil))))) (by /- 23 -/ first | omega | (rw [List.length_append]; omega) | (rw [List.length_append, List.length_append]; omega) | (rw [List.length_reverse]; omega) | (simp; omega) | (rw [e_v_found]; simp) | (have := lx _ (by assumption); omega)))) (fun _ => .s (.s (.s (.s (.s (.z)))))) (fun v_found_1 e_v_found_1 =>
  (have lx : ∀ x ∈ v_found_1, x.length ≤ 3100 := by
      intro x hx
      rw [e_v_found_1, e_v_found] at hx
      simp only [List.cons_append, List.nil_append, List.mem_cons, List.not_mem_nil, or_false] at hx
      rcases hx with rfl | rfl | rfl | rfl | rfl | rfl | rfl | rfl <;> (try simp) <;> first | omega | exact Nat.le_trans (cl _ _) (by omega)
  have lf : v_found_1.length ≤ 8 := by rw [e_v_found_1, e_v_found]; simp
  (sd_retM hD (dm_lc c (c_lcF c [("_law_one", 7)] [7] [7] _ _ (di_list (c_var c 5 (.s (.s (.s (.s (.s (.z)))))))) (fun _ _ c1 => (c_tname c1 7)) (fun _ => .s (.s (.s (.s (.s (.s (.s (.z)))))))) (fun _ _ x1 c1 hx1 => (dts_one ((dc_neS (c_var c1 7 (.s (.s (.s (.s (.s (.s (.s (.z))))))))) (de_str (l := []) (by decide +kernel) (by decide)))).t)) (fun _ _ x1 c1 hx1 h1 => (de_slS (c_var c1 7 (.s (.s (.s (.s (.s (.s (.s (.z))))))))) do_none (do_some de_int) (by /- 24 -/ first | omega | (rw [List.length_append]; omega) | (rw [List.length_append, List.length_append]; omega) | (rw [List.length_reverse]; omega) | (simp; omega) | (rw [e_v_found]; simp) | (have := lx _ (by assumption); omega)))) (by /- 25 -/ first | omega | (rw [List.length_append]; omega) | (rw [List.length_append, List.length_append]; omega) | (rw [List.length_reverse]; omega) | (simp; omega) | (rw [e_v_found]; simp) | (have := lx _ (by assumption); omega)) (Uns.all (.cons (.s (.s (.s (.s (.s (.s (.s (.z)))))))) .nil)))) (by /- ret 1 -/ rw [e_v_found_1, e_v_found, e_v_turned, e_v_at, e_v_sign]; rfl))))))))))))))))
abbrev s__law_right : Stmt := top 35
theorem sc_s__law_right : FnScope ["_law_book_here", "_law_signs_here", "_law_levels", "_law_one", "_law_other", "_law_found"] ["_law_book_here", "_law_signs_here", "_law_levels", "_law_one", "_law_other"] (defScope s__law_right) := ⟨rfl, rfl, rfl, by decide +kernel, rfl, by decide +kernel, by decide +kernel⟩
abbrev P__law_right (P : Program) (w : World) (K : PySem.W.Frag) (mg : Str → Option Value) (base : Heap) (CL CB CBk : Addr) : Prop := FN P w K mg base CX0 5 "_law_right" ["_law_book_here", "_law_signs_here", "_law_levels", "_law_one", "_law_other"] (SpF5 (rBk CL CB CBk) rTxt (rList (rPair (rList rInt) rBool)) rTxt rTxt (fun b s ls n m => b = toB s ls ∧ OkBk (toB s ls) ∧ isNameL n s = true ∧ isNameL m s = true) rBool (fun _ _ _ _ _ => true))
set_option maxHeartbeats 4000000 in
theorem ok__law_right {CL CB CBk : Addr} (h_Book_weigh : M_Book_weigh P w K mg base CL CB CBk) (h__law_weigh : P__law_weigh P w K mg base) (b_bool : mg "bool" = none) (b_int : mg "int" = none) (b_isinstance : mg "isinstance" = none) (T : FT K mg "_law_right" "_law_right" s__law_right ["_law_book_here", "_law_signs_here", "_law_levels", "_law_one", "_law_other"]) : P__law_right P w K mg base CL CB CBk :=
  fnF5 T sc_s__law_right (vs := [0, 1, 2, 3, 4, 5]) (by decide +kernel) [.un] (body := fun X B D v_book_here v_signs_here v_levels v_one v_other c hp hD hn =>
  (have n1 := of_is hp.2.2.1
  have n2 := of_is hp.2.2.2
  have eb : v_book_here.1 = v_signs_here := by rw [hp.1]; rfl
  (c_asg c 5 (c_methF3 c (h_Book_weigh) (c_var c 0 (.z)) (c_var c 3 (.s (.s (.s (.z))))) (c_var c 4 (.s (.s (.s (.s (.z)))))) (by /- 0 -/ first | (rw [eb, hp.1]; exact ⟨hp.2.1, hp.2.2.1, hp.2.2.2⟩) | (rw [eb, hp.1]; exact ⟨hp.2.1, hp.2.2.2, hp.2.2.1⟩) | exact ⟨hp.2.1, n1.1, n2.1, by omega, by omega⟩)) (fun _ => .s (.s (.s (.s (.s (.z)))))) (fun v_found e_v_found =>
  (sd_ifF (dw_pt (dw_or (dt_val (c_isi (T' := "bool") (b := false) c (c_var c 5 (.s (.s (.s (.s (.s (.z))))))) ty_int (kit_ty (by decide +kernel)) b_isinstance b_bool)) (fun h1 => (dw_or (dt_not (dt_val (c_isi (T' := "int") (b := true) c (c_var c 5 (.s (.s (.s (.s (.s (.z))))))) ty_int (kit_ty (by decide +kernel)) b_isinstance b_int))) (fun h2 => (dw_or1 ((dc_neI (c_var c 5 (.s (.s (.s (.s (.s (.z))))))) (c_callF4 c h__law_weigh (c_var c 1 (.s (.z))) (c_var c 2 (.s (.s (.z)))) (c_var c 3 (.s (.s (.s (.z))))) (c_var c 4 (.s (.s (.s (.s (.z)))))) (by /- 1 -/ first | (rw [eb, hp.1]; exact ⟨hp.2.1, hp.2.2.1, hp.2.2.2⟩) | (rw [eb, hp.1]; exact ⟨hp.2.1, hp.2.2.2, hp.2.2.1⟩) | exact ⟨hp.2.1, n1.1, n2.1, by omega, by omega⟩)))).t)))))) (by /- if 1 -/ rw [e_v_found, hp.1, weigh_told]; simp)
  (sd_retC hD ((dc_eqI (c_methF3 c (h_Book_weigh) (c_var c 0 (.z)) (c_var c 4 (.s (.s (.s (.s (.z)))))) (c_var c 3 (.s (.s (.s (.z))))) (by /- 2 -/ first | (rw [eb, hp.1]; exact ⟨hp.2.1, hp.2.2.1, hp.2.2.2⟩) | (rw [eb, hp.1]; exact ⟨hp.2.1, hp.2.2.2, hp.2.2.1⟩) | exact ⟨hp.2.1, n1.1, n2.1, by omega, by omega⟩)) (de_neg (c_var c 5 (.s (.s (.s (.s (.s (.z)))))))))).v (by /- ret 1 -/ rw [e_v_found, weighB_anti]; simp)))))))
end
end Law
namespace Law
open PySem L2 DL PySem.Spec PyProof.Rows
section
variable {P : Program} {w : World} {K : PySem.W.Frag} {mg : Str → Option Value} {base : Heap}
abbrev s_law : Stmt := top 36
theorem sc_s_law : FnScope ["_law_script", "_law_by", "_law_late", "_law_cell", "_law_signs_here", "_law_levels", "_law_book_here", "_law_names_here", "_law_due", "_law_one", "_law_other", "_law_third", "_law_ranks_here", "_law_back", "_law_level", "_law_sign"] ["_law_script"] (defScope s_law) := ⟨rfl, rfl, rfl, by decide +kernel, rfl, by decide +kernel, by decide +kernel⟩
abbrev P_law (P : Program) (w : World) (K : PySem.W.Frag) (mg : Str → Option Value) (base : Heap) (CL CB CBk : Addr) : Prop := FN P w K mg base CX0 6 "law" ["_law_script"] (SpF1 (rScr K) (fun ns => ns.length ≤ 63) rBool (fun _ => true))
set_option maxHeartbeats 4000000 in
theorem ok_law {CL CB CBk : Addr} (h_Backward : I_Backward P w K mg base CL CB) (h_Book : I_Book P w K mg base CL CB CBk) (h_Book_kept : M_Book_kept P w K mg base CL CB CBk) (h_Book_levels : M_Book_levels P w K mg base CL CB CBk) (h_Book_signs : M_Book_signs P w K mg base CL CB CBk) (h_Book_weigh : M_Book_weigh P w K mg base CL CB CBk) (h_Level : I_Level P w K mg base CL CB) (h_Level_ranks : M_Level_ranks P w K mg base CL CB) (h__law_alphabet : P__law_alphabet P w K mg base) (h__law_book : P__law_book P w K mg base CL CB CBk) (h__law_cell_at : P__law_cell_at P w K mg base) (h__law_names : P__law_names P w K mg base) (h__law_near : P__law_near P w K mg base) (h__law_right : P__law_right P w K mg base CL CB CBk) (h__law_told : P__law_told P w K mg base) (b_all : mg "all" = none) (b_isinstance : mg "isinstance" = none) (b_len : mg "len" = none) (b_range : mg "range" = none) (b_zip : mg "zip" = none) (TL : TLev K mg CL CB) (TB : TBk K mg CBk) (m_Backward : mg "Backward" = some (.ref CB)) (T : FT K mg "law" "law" s_law ["_law_script"]) : P_law P w K mg base CL CB CBk :=
  fnF1 T sc_s_law (vs := [0, 1, 2, 3, 4, 5, 6, 7, 8, 9, 10, 11]) (by decide +kernel) [.un, .un, .un, .un, .un, .un, .un, .un, .un, .un, .un, .un, .un, .un, .un] (body := fun X B D v_script c hp hD hn =>
  (have ob : OkBk ([97, 98, 45], [(false, [1, 1, 2]), (true, [1, 2, 0])]) := ⟨⟨by decide, by decide⟩, by decide, by decide, by decide, by decide, by decide⟩
  have ox : OkBk ([120, 121], [(false, [0, 3])]) := ⟨⟨by decide, by decide⟩, by decide, by decide, by decide, by decide, by decide⟩
  (sd_forR c.po c.calm (S := Unit) (fun s1 => [.val (rScr K) v_script, .un, .un, .un, .un, .un, .un, .un, .un, .un, .un, .un, .un, .un, .un, .un]) (fun _ _ => true) true () (c_range1 c de_int b_range (by /- 0 -/ first | trivial | omega | exact bk | (rw [e_v_book_here]; exact ⟨bk, n2.is⟩) | exact of_sgs n2.1 _ (by assumption) | (have := ixT_in (of_sgs n2.1 _ (by assumption)); omega) | (have := n2.2; rw [sgs_len]; omega) | (have := n2.2; rw [List.map_id']; exact Nat.le_trans (flat_len _ _) (by omega)) | (have q := nk1 _ (by assumption); exact ⟨e_v_book_here, bk, n2.is, q.is⟩) | (have := cutL_len v_names_here_1 none (some 6); omega) | (rw [e_v_book_here]; exact ⟨bk, q1.is, q2.is⟩) | (rw [e_v_book_here]; exact ⟨bk, q2.is, q3.is⟩) | (rw [e_v_book_here]; exact ⟨bk, q1.is, q3.is⟩) | exact ob | exact ox | exact ⟨by decide, by decide, by decide⟩ | (rw [e_v_late]; exact ⟨ob, by decide, by decide⟩) | exact ⟨ox, by decide, by decide⟩ | exact ⟨ox, by decide⟩ | (rw [List.length_append]; omega) | decide | (simp; omega))) (fun _ => (c_tname c 1)) (.k (.k (.k (.k (.k (.k (.k (.k (.k (.k (.k (.k (.k (.k (.k (.k .nil)))))))))))))))) (by /- 40 -/ first | trivial | omega | exact bk | (rw [e_v_book_here]; exact ⟨bk, n2.is⟩) | exact of_sgs n2.1 _ (by assumption) | (have := ixT_in (of_sgs n2.1 _ (by assumption)); omega) | (have := n2.2; rw [sgs_len]; omega) | (have := n2.2; rw [List.map_id']; exact Nat.le_trans (flat_len _ _) (by omega)) | (have q := nk1 _ (by assumption); exact ⟨e_v_book_here, bk, n2.is, q.is⟩) | (have := cutL_len v_names_here_1 none (some 6); omega) | (rw [e_v_book_here]; exact ⟨bk, q1.is, q2.is⟩) | (rw [e_v_book_here]; exact ⟨bk, q2.is, q3.is⟩) | (rw [e_v_book_here]; exact ⟨bk, q1.is, q3.is⟩) | exact ob | exact ox | exact ⟨by decide, by decide, by decide⟩ | (rw [e_v_late]; exact ⟨ob, by decide, by decide⟩) | exact ⟨ox, by decide, by decide⟩ | exact ⟨ox, by decide⟩ | (rw [List.length_append]; omega) | decide | (simp; omega)) (fun _ => fun _ => .s (.z)) (fun _ y1 post1 s1 hm1 hq1 hs1 =>
    (have hr_y1 := mem_rng hm1; (have m8 : 2 ≤ gI ([8, 4] : List Int) y1 ∧ gI ([8, 4] : List Int) y1 ≤ 8 := by rcases gi2 (a := 8) (b := 4) (i := y1) (by omega) with h | h <;> rw [h] <;> decide
    (c_asg c 3 (c_callF2 c h__law_cell_at (c_var c 0 (.z)) (c_var c 1 (.s (.z))) (by /- 1 -/ first | trivial | omega | exact bk | (rw [e_v_book_here]; exact ⟨bk, n2.is⟩) | exact of_sgs n2.1 _ (by assumption) | (have := ixT_in (of_sgs n2.1 _ (by assumption)); omega) | (have := n2.2; rw [sgs_len]; omega) | (have := n2.2; rw [List.map_id']; exact Nat.le_trans (flat_len _ _) (by omega)) | (have q := nk1 _ (by assumption); exact ⟨e_v_book_here, bk, n2.is, q.is⟩) | (have := cutL_len v_names_here_1 none (some 6); omega) | (rw [e_v_book_here]; exact ⟨bk, q1.is, q2.is⟩) | (rw [e_v_book_here]; exact ⟨bk, q2.is, q3.is⟩) | (rw [e_v_book_here]; exact ⟨bk, q1.is, q3.is⟩) | exact ob | exact ox | exact ⟨by decide, by decide, by decide⟩ | (rw [e_v_late]; exact ⟨ob, by decide, by decide⟩) | exact ⟨ox, by decide, by decide⟩ | exact ⟨ox, by decide⟩ | (rw [List.length_append]; omega) | decide | (simp; omega))) (fun _ => .s (.s (.s (.z)))) (fun v_cell e_v_cell =>
    (c_asg c 4 (c_callF2 c h__law_alphabet (c_var c 3 (.s (.s (.s (.z))))) (de_ixT (de_tupL (dl_cons de_int (dl_cons de_int dl_nil))) (c_var c 1 (.s (.z))) (by /- 2 -/ first | trivial | omega | exact bk | (rw [e_v_book_here]; exact ⟨bk, n2.is⟩) | exact of_sgs n2.1 _ (by assumption) | (have := ixT_in (of_sgs n2.1 _ (by assumption)); omega) | (have := n2.2; rw [sgs_len]; omega) | (have := n2.2; rw [List.map_id']; exact Nat.le_trans (flat_len _ _) (by omega)) | (have q := nk1 _ (by assumption); exact ⟨e_v_book_here, bk, n2.is, q.is⟩) | (have := cutL_len v_names_here_1 none (some 6); omega) | (rw [e_v_book_here]; exact ⟨bk, q1.is, q2.is⟩) | (rw [e_v_book_here]; exact ⟨bk, q2.is, q3.is⟩) | (rw [e_v_book_here]; exact ⟨bk, q1.is, q3.is⟩) | exact ob | exact ox | exact ⟨by decide, by decide, by decide⟩ | (rw [e_v_late]; exact ⟨ob, by decide, by decide⟩) | exact ⟨ox, by decide, by decide⟩ | exact ⟨ox, by decide⟩ | (rw [List.length_append]; omega) | decide | (simp; omega))) (by /- 3 -/ first | trivial | omega | exact bk | (rw [e_v_book_here]; exact ⟨bk, n2.is⟩) | exact of_sgs n2.1 _ (by assumption) | (have := ixT_in (of_sgs n2.1 _ (by assumption)); omega) | (have := n2.2; rw [sgs_len]; omega) | (have := n2.2; rw [List.map_id']; exact Nat.le_trans (flat_len _ _) (by omega)) | (have q := nk1 _ (by assumption); exact ⟨e_v_book_here, bk, n2.is, q.is⟩) | (have := cutL_len v_names_here_1 none (some 6); omega) | (rw [e_v_book_here]; exact ⟨bk, q1.is, q2.is⟩) | (rw [e_v_book_here]; exact ⟨bk, q2.is, q3.is⟩) | (rw [e_v_book_here]; exact ⟨bk, q1.is, q3.is⟩) | exact ob | exact ox | exact ⟨by decide, by decide, by decide⟩ | (rw [e_v_late]; exact ⟨ob, by decide, by decide⟩) | exact ⟨ox, by decide, by decide⟩ | exact ⟨ox, by decide⟩ | (rw [List.length_append]; omega) | decide | (simp; omega))) (fun _ => .s (.s (.s (.s (.z))))) (fun v_signs_here e_v_signs_here =>
    (have al := alpha_ok v_cell (gI [8, 4] y1) m8
    have as : Alph v_signs_here := by rw [e_v_signs_here]; exact al.1
    have s2 : 2 ≤ v_signs_here.length := by rw [e_v_signs_here]; exact al.2.1
    have s8 : v_signs_here.length ≤ 8 := by rw [e_v_signs_here]; exact al.2.2.1
    (c_asg c 5 (de_of_dm (c_callM2 c h__law_told (c_callF2 c h__law_cell_at (c_var c 0 (.z)) (de_add (c_var c 1 (.s (.z))) de_int) (by /- 4 -/ first | trivial | omega | exact bk | (rw [e_v_book_here]; exact ⟨bk, n2.is⟩) | exact of_sgs n2.1 _ (by assumption) | (have := ixT_in (of_sgs n2.1 _ (by assumption)); omega) | (have := n2.2; rw [sgs_len]; omega) | (have := n2.2; rw [List.map_id']; exact Nat.le_trans (flat_len _ _) (by omega)) | (have q := nk1 _ (by assumption); exact ⟨e_v_book_here, bk, n2.is, q.is⟩) | (have := cutL_len v_names_here_1 none (some 6); omega) | (rw [e_v_book_here]; exact ⟨bk, q1.is, q2.is⟩) | (rw [e_v_book_here]; exact ⟨bk, q2.is, q3.is⟩) | (rw [e_v_book_here]; exact ⟨bk, q1.is, q3.is⟩) | exact ob | exact ox | exact ⟨by decide, by decide, by decide⟩ | (rw [e_v_late]; exact ⟨ob, by decide, by decide⟩) | exact ⟨ox, by decide, by decide⟩ | exact ⟨ox, by decide⟩ | (rw [List.length_append]; omega) | decide | (simp; omega))) (c_lenS c (c_var c 4 (.s (.s (.s (.s (.z)))))) b_len (by /- 5 -/ first | trivial | omega | exact bk | (rw [e_v_book_here]; exact ⟨bk, n2.is⟩) | exact of_sgs n2.1 _ (by assumption) | (have := ixT_in (of_sgs n2.1 _ (by assumption)); omega) | (have := n2.2; rw [sgs_len]; omega) | (have := n2.2; rw [List.map_id']; exact Nat.le_trans (flat_len _ _) (by omega)) | (have q := nk1 _ (by assumption); exact ⟨e_v_book_here, bk, n2.is, q.is⟩) | (have := cutL_len v_names_here_1 none (some 6); omega) | (rw [e_v_book_here]; exact ⟨bk, q1.is, q2.is⟩) | (rw [e_v_book_here]; exact ⟨bk, q2.is, q3.is⟩) | (rw [e_v_book_here]; exact ⟨bk, q1.is, q3.is⟩) | exact ob | exact ox | exact ⟨by decide, by decide, by decide⟩ | (rw [e_v_late]; exact ⟨ob, by decide, by decide⟩) | exact ⟨ox, by decide, by decide⟩ | exact ⟨ox, by decide⟩ | (rw [List.length_append]; omega) | decide | (simp; omega))) (by /- 6 -/ first | trivial | omega | exact bk | (rw [e_v_book_here]; exact ⟨bk, n2.is⟩) | exact of_sgs n2.1 _ (by assumption) | (have := ixT_in (of_sgs n2.1 _ (by assumption)); omega) | (have := n2.2; rw [sgs_len]; omega) | (have := n2.2; rw [List.map_id']; exact Nat.le_trans (flat_len _ _) (by omega)) | (have q := nk1 _ (by assumption); exact ⟨e_v_book_here, bk, n2.is, q.is⟩) | (have := cutL_len v_names_here_1 none (some 6); omega) | (rw [e_v_book_here]; exact ⟨bk, q1.is, q2.is⟩) | (rw [e_v_book_here]; exact ⟨bk, q2.is, q3.is⟩) | (rw [e_v_book_here]; exact ⟨bk, q1.is, q3.is⟩) | exact ob | exact ox | exact ⟨by decide, by decide, by decide⟩ | (rw [e_v_late]; exact ⟨ob, by decide, by decide⟩) | exact ⟨ox, by decide, by decide⟩ | exact ⟨ox, by decide⟩ | (rw [List.length_append]; omega) | decide | (simp; omega)))) (fun _ => .s (.s (.s (.s (.s (.z)))))) (fun v_levels e_v_levels =>
    (have bk : OkBk (toB v_signs_here v_levels) := by rw [e_v_levels]; exact told_ok as (by omega) s8
    have l1 : 1 ≤ v_levels.length ∧ v_levels.length ≤ 3 := by rw [e_v_levels]; exact told_len _ _
    have ll := told_each bk
    have lz := ll 0 (by decide) (by omega)
    (c_parT2 c 6 7 (s1 := fun a => .val (rBk CL CB CBk) a) (s2 := fun a => .val (rList rTxt) a) (ve_d (c_callF2 c h__law_book (c_var c 4 (.s (.s (.s (.s (.z)))))) (c_var c 5 (.s (.s (.s (.s (.s (.z))))))) (by /- 7 -/ first | trivial | omega | exact bk | (rw [e_v_book_here]; exact ⟨bk, n2.is⟩) | exact of_sgs n2.1 _ (by assumption) | (have := ixT_in (of_sgs n2.1 _ (by assumption)); omega) | (have := n2.2; rw [sgs_len]; omega) | (have := n2.2; rw [List.map_id']; exact Nat.le_trans (flat_len _ _) (by omega)) | (have q := nk1 _ (by assumption); exact ⟨e_v_book_here, bk, n2.is, q.is⟩) | (have := cutL_len v_names_here_1 none (some 6); omega) | (rw [e_v_book_here]; exact ⟨bk, q1.is, q2.is⟩) | (rw [e_v_book_here]; exact ⟨bk, q2.is, q3.is⟩) | (rw [e_v_book_here]; exact ⟨bk, q1.is, q3.is⟩) | exact ob | exact ox | exact ⟨by decide, by decide, by decide⟩ | (rw [e_v_late]; exact ⟨ob, by decide, by decide⟩) | exact ⟨ox, by decide, by decide⟩ | exact ⟨ox, by decide⟩ | (rw [List.length_append]; omega) | decide | (simp; omega)))) (ve_d (de_of_dm (c_callM5 c h__law_names (c_var c 0 (.z)) (de_add (c_var c 1 (.s (.z))) de_int) (c_var c 4 (.s (.s (.s (.s (.z)))))) de_int de_int (by /- 8 -/ first | trivial | omega | exact bk | (rw [e_v_book_here]; exact ⟨bk, n2.is⟩) | exact of_sgs n2.1 _ (by assumption) | (have := ixT_in (of_sgs n2.1 _ (by assumption)); omega) | (have := n2.2; rw [sgs_len]; omega) | (have := n2.2; rw [List.map_id']; exact Nat.le_trans (flat_len _ _) (by omega)) | (have q := nk1 _ (by assumption); exact ⟨e_v_book_here, bk, n2.is, q.is⟩) | (have := cutL_len v_names_here_1 none (some 6); omega) | (rw [e_v_book_here]; exact ⟨bk, q1.is, q2.is⟩) | (rw [e_v_book_here]; exact ⟨bk, q2.is, q3.is⟩) | (rw [e_v_book_here]; exact ⟨bk, q1.is, q3.is⟩) | exact ob | exact ox | exact ⟨by decide, by decide, by decide⟩ | (rw [e_v_late]; exact ⟨ob, by decide, by decide⟩) | exact ⟨ox, by decide, by decide⟩ | exact ⟨ox, by decide⟩ | (rw [List.length_append]; omega) | decide | (simp; omega))))) (fun _ => .s (.s (.s (.s (.s (.s (.z))))))) (fun _ _ => .s (.s (.s (.s (.s (.s (.s (.z)))))))) (fun v_book_here v_names_here e_v_book_here e_v_names_here =>
    (have nk : ∀ n ∈ v_names_here, NameOf v_signs_here n := by rw [e_v_names_here]; intro n hn; have q := names_ok (by omega) (by decide) n hn; exact ⟨q.1, q.2.1, by omega⟩
    have nl : v_names_here.length = 4 := by rw [e_v_names_here, names_len]; rfl
    have g0 := nk _ (gI_mem (i := 0) (by decide) (by omega))
    have g1 := nk _ (gI_mem (i := 1) (by decide) (by omega))
    have g02 := g0.2
    have g12 := g1.2
    have nr1 := near_len (gI v_names_here 0) v_signs_here v_cell
    have nr2 := near_len (gI v_names_here 1) v_signs_here v_cell
    have b2 : v_book_here.2.length = v_levels.length := by rw [e_v_book_here]; simp [toB]
    (c_asgLc c 8 (c_lc c [("_law_ranks_here", 12), ("_law_back", 13)] [12, 13] [12, 13] _ (di_list (c_var c 5 (.s (.s (.s (.s (.s (.z)))))))) (fun _ _ c1 => (c_tpair c1 12 13)) (fun _ => ⟨_, .s (.s (.s (.s (.s (.s (.s (.s (.s (.s (.s (.s (.z)))))))))))), .s (.s (.s (.s (.s (.s (.s (.s (.s (.s (.s (.s (.s (.z)))))))))))))⟩) (fun _ _ x1 c1 hx1 => (c_var c1 12 (.s (.s (.s (.s (.s (.s (.s (.s (.s (.s (.s (.s (.z))))))))))))))) (by /- 9 -/ first | trivial | omega | exact bk | (rw [e_v_book_here]; exact ⟨bk, n2.is⟩) | exact of_sgs n2.1 _ (by assumption) | (have := ixT_in (of_sgs n2.1 _ (by assumption)); omega) | (have := n2.2; rw [sgs_len]; omega) | (have := n2.2; rw [List.map_id']; exact Nat.le_trans (flat_len _ _) (by omega)) | (have q := nk1 _ (by assumption); exact ⟨e_v_book_here, bk, n2.is, q.is⟩) | (have := cutL_len v_names_here_1 none (some 6); omega) | (rw [e_v_book_here]; exact ⟨bk, q1.is, q2.is⟩) | (rw [e_v_book_here]; exact ⟨bk, q2.is, q3.is⟩) | (rw [e_v_book_here]; exact ⟨bk, q1.is, q3.is⟩) | exact ob | exact ox | exact ⟨by decide, by decide, by decide⟩ | (rw [e_v_late]; exact ⟨ob, by decide, by decide⟩) | exact ⟨ox, by decide, by decide⟩ | exact ⟨ox, by decide⟩ | (rw [List.length_append]; omega) | decide | (simp; omega)) (Uns.all (.cons (.s (.s (.s (.s (.s (.s (.s (.s (.s (.s (.s (.s (.z))))))))))))) (.cons (.s (.s (.s (.s (.s (.s (.s (.s (.s (.s (.s (.s (.s (.z)))))))))))))) .nil)))) (fun _ => .s (.s (.s (.s (.s (.s (.s (.s (.z))))))))) (fun v_due e_v_due =>
    (sd_ifF (dw_pt (dw_or ((dc_neS (c_methF1 c (h_Book_signs) (c_var c 6 (.s (.s (.s (.s (.s (.s (.z)))))))) (by /- 10 -/ first | trivial | omega | exact bk | (rw [e_v_book_here]; exact ⟨bk, n2.is⟩) | exact of_sgs n2.1 _ (by assumption) | (have := ixT_in (of_sgs n2.1 _ (by assumption)); omega) | (have := n2.2; rw [sgs_len]; omega) | (have := n2.2; rw [List.map_id']; exact Nat.le_trans (flat_len _ _) (by omega)) | (have q := nk1 _ (by assumption); exact ⟨e_v_book_here, bk, n2.is, q.is⟩) | (have := cutL_len v_names_here_1 none (some 6); omega) | (rw [e_v_book_here]; exact ⟨bk, q1.is, q2.is⟩) | (rw [e_v_book_here]; exact ⟨bk, q2.is, q3.is⟩) | (rw [e_v_book_here]; exact ⟨bk, q1.is, q3.is⟩) | exact ob | exact ox | exact ⟨by decide, by decide, by decide⟩ | (rw [e_v_late]; exact ⟨ob, by decide, by decide⟩) | exact ⟨ox, by decide, by decide⟩ | exact ⟨ox, by decide⟩ | (rw [List.length_append]; omega) | decide | (simp; omega))) (c_var c 4 (.s (.s (.s (.s (.z)))))))).t (fun h1 => (dw_or1 ((c_neD c (eqList (eqList eqInt)) (de_of_dm (dm_lc c (c_lc c [("_law_level", 14)] [14] [14] _ (di_list (de_of_dm (c_methM1 c (h_Book_levels) (c_var c 6 (.s (.s (.s (.s (.s (.s (.z)))))))) (by /- 11 -/ first | trivial | omega | exact bk | (rw [e_v_book_here]; exact ⟨bk, n2.is⟩) | exact of_sgs n2.1 _ (by assumption) | (have := ixT_in (of_sgs n2.1 _ (by assumption)); omega) | (have := n2.2; rw [sgs_len]; omega) | (have := n2.2; rw [List.map_id']; exact Nat.le_trans (flat_len _ _) (by omega)) | (have q := nk1 _ (by assumption); exact ⟨e_v_book_here, bk, n2.is, q.is⟩) | (have := cutL_len v_names_here_1 none (some 6); omega) | (rw [e_v_book_here]; exact ⟨bk, q1.is, q2.is⟩) | (rw [e_v_book_here]; exact ⟨bk, q2.is, q3.is⟩) | (rw [e_v_book_here]; exact ⟨bk, q1.is, q3.is⟩) | exact ob | exact ox | exact ⟨by decide, by decide, by decide⟩ | (rw [e_v_late]; exact ⟨ob, by decide, by decide⟩) | exact ⟨ox, by decide, by decide⟩ | exact ⟨ox, by decide⟩ | (rw [List.length_append]; omega) | decide | (simp; omega))))) (fun _ _ c2 => (c_tname c2 14)) (fun _ => .s (.s (.s (.s (.s (.s (.s (.s (.s (.s (.s (.s (.s (.s (.z))))))))))))))) (fun _ _ x2 c2 hx2 => (de_of_dm (c_methM1 c2 (h_Level_ranks _) (c_var c2 14 (.s (.s (.s (.s (.s (.s (.s (.s (.s (.s (.s (.s (.s (.s (.z)))))))))))))))) (by /- 12 -/ first | trivial | omega | exact bk | (rw [e_v_book_here]; exact ⟨bk, n2.is⟩) | exact of_sgs n2.1 _ (by assumption) | (have := ixT_in (of_sgs n2.1 _ (by assumption)); omega) | (have := n2.2; rw [sgs_len]; omega) | (have := n2.2; rw [List.map_id']; exact Nat.le_trans (flat_len _ _) (by omega)) | (have q := nk1 _ (by assumption); exact ⟨e_v_book_here, bk, n2.is, q.is⟩) | (have := cutL_len v_names_here_1 none (some 6); omega) | (rw [e_v_book_here]; exact ⟨bk, q1.is, q2.is⟩) | (rw [e_v_book_here]; exact ⟨bk, q2.is, q3.is⟩) | (rw [e_v_book_here]; exact ⟨bk, q1.is, q3.is⟩) | exact ob | exact ox | exact ⟨by decide, by decide, by decide⟩ | (rw [e_v_late]; exact ⟨ob, by decide, by decide⟩) | exact ⟨ox, by decide, by decide⟩ | exact ⟨ox, by decide⟩ | (rw [List.length_append]; omega) | decide | (simp; omega))))) (by /- 13 -/ first | trivial | omega | exact bk | (rw [e_v_book_here]; exact ⟨bk, n2.is⟩) | exact of_sgs n2.1 _ (by assumption) | (have := ixT_in (of_sgs n2.1 _ (by assumption)); omega) | (have := n2.2; rw [sgs_len]; omega) | (have := n2.2; rw [List.map_id']; exact Nat.le_trans (flat_len _ _) (by omega)) | (have q := nk1 _ (by assumption); exact ⟨e_v_book_here, bk, n2.is, q.is⟩) | (have := cutL_len v_names_here_1 none (some 6); omega) | (rw [e_v_book_here]; exact ⟨bk, q1.is, q2.is⟩) | (rw [e_v_book_here]; exact ⟨bk, q2.is, q3.is⟩) | (rw [e_v_book_here]; exact ⟨bk, q1.is, q3.is⟩) | exact ob | exact ox | exact ⟨by decide, by decide, by decide⟩ | (rw [e_v_late]; exact ⟨ob, by decide, by decide⟩) | exact ⟨ox, by decide, by decide⟩ | exact ⟨ox, by decide⟩ | (rw [List.length_append]; omega) | decide | (simp; omega)) (Uns.all (.cons (.s (.s (.s (.s (.s (.s (.s (.s (.s (.s (.s (.s (.s (.s (.z))))))))))))))) .nil))))) (c_var c 8 (.s (.s (.s (.s (.s (.s (.s (.s (.z)))))))))))).t)))) (by /- if 1 -/ rw [e_v_book_here, e_v_due]; simp [toB])
    (sd_clearN (c_methM1 c (h_Book_levels) (c_var c 6 (.s (.s (.s (.s (.s (.s (.z)))))))) (by /- 14 -/ first | trivial | omega | exact bk | (rw [e_v_book_here]; exact ⟨bk, n2.is⟩) | exact of_sgs n2.1 _ (by assumption) | (have := ixT_in (of_sgs n2.1 _ (by assumption)); omega) | (have := n2.2; rw [sgs_len]; omega) | (have := n2.2; rw [List.map_id']; exact Nat.le_trans (flat_len _ _) (by omega)) | (have q := nk1 _ (by assumption); exact ⟨e_v_book_here, bk, n2.is, q.is⟩) | (have := cutL_len v_names_here_1 none (some 6); omega) | (rw [e_v_book_here]; exact ⟨bk, q1.is, q2.is⟩) | (rw [e_v_book_here]; exact ⟨bk, q2.is, q3.is⟩) | (rw [e_v_book_here]; exact ⟨bk, q1.is, q3.is⟩) | exact ob | exact ox | exact ⟨by decide, by decide, by decide⟩ | (rw [e_v_late]; exact ⟨ob, by decide, by decide⟩) | exact ⟨ox, by decide, by decide⟩ | exact ⟨ox, by decide⟩ | (rw [List.length_append]; omega) | decide | (simp; omega)))
    (sd_ifF ((c_neD c (eqList eqBool) (de_of_dm (dm_lc c (c_lc c [("_law_level", 14)] [14] [14] _ (di_list (de_of_dm (c_methM1 c (h_Book_levels) (c_var c 6 (.s (.s (.s (.s (.s (.s (.z)))))))) (by /- 15 -/ first | trivial | omega | exact bk | (rw [e_v_book_here]; exact ⟨bk, n2.is⟩) | exact of_sgs n2.1 _ (by assumption) | (have := ixT_in (of_sgs n2.1 _ (by assumption)); omega) | (have := n2.2; rw [sgs_len]; omega) | (have := n2.2; rw [List.map_id']; exact Nat.le_trans (flat_len _ _) (by omega)) | (have q := nk1 _ (by assumption); exact ⟨e_v_book_here, bk, n2.is, q.is⟩) | (have := cutL_len v_names_here_1 none (some 6); omega) | (rw [e_v_book_here]; exact ⟨bk, q1.is, q2.is⟩) | (rw [e_v_book_here]; exact ⟨bk, q2.is, q3.is⟩) | (rw [e_v_book_here]; exact ⟨bk, q1.is, q3.is⟩) | exact ob | exact ox | exact ⟨by decide, by decide, by decide⟩ | (rw [e_v_late]; exact ⟨ob, by decide, by decide⟩) | exact ⟨ox, by decide, by decide⟩ | exact ⟨ox, by decide⟩ | (rw [List.length_append]; omega) | decide | (simp; omega))))) (fun _ _ c3 => (c_tname c3 14)) (fun _ => .s (.s (.s (.s (.s (.s (.s (.s (.s (.s (.s (.s (.s (.s (.z))))))))))))))) (fun _ _ x3 c3 hx3 => (c_isiC c3 (c_var c3 14 (.s (.s (.s (.s (.s (.s (.s (.s (.s (.s (.s (.s (.s (.s (.z)))))))))))))))) (ty_obj (TL.ci _)) (TL.kB _) b_isinstance m_Backward)) (by /- 16 -/ first | trivial | omega | exact bk | (rw [e_v_book_here]; exact ⟨bk, n2.is⟩) | exact of_sgs n2.1 _ (by assumption) | (have := ixT_in (of_sgs n2.1 _ (by assumption)); omega) | (have := n2.2; rw [sgs_len]; omega) | (have := n2.2; rw [List.map_id']; exact Nat.le_trans (flat_len _ _) (by omega)) | (have q := nk1 _ (by assumption); exact ⟨e_v_book_here, bk, n2.is, q.is⟩) | (have := cutL_len v_names_here_1 none (some 6); omega) | (rw [e_v_book_here]; exact ⟨bk, q1.is, q2.is⟩) | (rw [e_v_book_here]; exact ⟨bk, q2.is, q3.is⟩) | (rw [e_v_book_here]; exact ⟨bk, q1.is, q3.is⟩) | exact ob | exact ox | exact ⟨by decide, by decide, by decide⟩ | (rw [e_v_late]; exact ⟨ob, by decide, by decide⟩) | exact ⟨ox, by decide, by decide⟩ | exact ⟨ox, by decide⟩ | (rw [List.length_append]; omega) | decide | (simp; omega)) (Uns.all (.cons (.s (.s (.s (.s (.s (.s (.s (.s (.s (.s (.s (.s (.s (.s (.z))))))))))))))) .nil))))) (de_of_dm (dm_lc c (c_lc c [("_law_ranks_here", 12), ("_law_back", 13)] [12, 13] [12, 13] _ (di_list (c_var c 5 (.s (.s (.s (.s (.s (.z)))))))) (fun _ _ c4 => (c_tpair c4 12 13)) (fun _ => ⟨_, .s (.s (.s (.s (.s (.s (.s (.s (.s (.s (.s (.s (.z)))))))))))), .s (.s (.s (.s (.s (.s (.s (.s (.s (.s (.s (.s (.s (.z)))))))))))))⟩) (fun _ _ x4 c4 hx4 => (c_var c4 13 (.s (.s (.s (.s (.s (.s (.s (.s (.s (.s (.s (.s (.s (.z)))))))))))))))) (by /- 17 -/ first | trivial | omega | exact bk | (rw [e_v_book_here]; exact ⟨bk, n2.is⟩) | exact of_sgs n2.1 _ (by assumption) | (have := ixT_in (of_sgs n2.1 _ (by assumption)); omega) | (have := n2.2; rw [sgs_len]; omega) | (have := n2.2; rw [List.map_id']; exact Nat.le_trans (flat_len _ _) (by omega)) | (have q := nk1 _ (by assumption); exact ⟨e_v_book_here, bk, n2.is, q.is⟩) | (have := cutL_len v_names_here_1 none (some 6); omega) | (rw [e_v_book_here]; exact ⟨bk, q1.is, q2.is⟩) | (rw [e_v_book_here]; exact ⟨bk, q2.is, q3.is⟩) | (rw [e_v_book_here]; exact ⟨bk, q1.is, q3.is⟩) | exact ob | exact ox | exact ⟨by decide, by decide, by decide⟩ | (rw [e_v_late]; exact ⟨ob, by decide, by decide⟩) | exact ⟨ox, by decide, by decide⟩ | exact ⟨ox, by decide⟩ | (rw [List.length_append]; omega) | decide | (simp; omega)) (Uns.all (.cons (.s (.s (.s (.s (.s (.s (.s (.s (.s (.s (.s (.s (.z))))))))))))) (.cons (.s (.s (.s (.s (.s (.s (.s (.s (.s (.s (.s (.s (.s (.z)))))))))))))) .nil)))))))).t (by /- if 2 -/ rw [e_v_book_here]; simp [toB])
    (c_asg c 7 (de_of_dm (dm_cat (de_of_dm (dm_cat (c_var c 7 (.s (.s (.s (.s (.s (.s (.s (.z))))))))) (de_of_dm (c_callM3 c h__law_near (de_ixL (c_var c 7 (.s (.s (.s (.s (.s (.s (.s (.z))))))))) de_int (by /- 18 -/ first | trivial | omega | exact bk | (rw [e_v_book_here]; exact ⟨bk, n2.is⟩) | exact of_sgs n2.1 _ (by assumption) | (have := ixT_in (of_sgs n2.1 _ (by assumption)); omega) | (have := n2.2; rw [sgs_len]; omega) | (have := n2.2; rw [List.map_id']; exact Nat.le_trans (flat_len _ _) (by omega)) | (have q := nk1 _ (by assumption); exact ⟨e_v_book_here, bk, n2.is, q.is⟩) | (have := cutL_len v_names_here_1 none (some 6); omega) | (rw [e_v_book_here]; exact ⟨bk, q1.is, q2.is⟩) | (rw [e_v_book_here]; exact ⟨bk, q2.is, q3.is⟩) | (rw [e_v_book_here]; exact ⟨bk, q1.is, q3.is⟩) | exact ob | exact ox | exact ⟨by decide, by decide, by decide⟩ | (rw [e_v_late]; exact ⟨ob, by decide, by decide⟩) | exact ⟨ox, by decide, by decide⟩ | exact ⟨ox, by decide⟩ | (rw [List.length_append]; omega) | decide | (simp; omega))) (c_var c 4 (.s (.s (.s (.s (.z)))))) (c_var c 3 (.s (.s (.s (.z))))) (by /- 19 -/ first | trivial | omega | exact bk | (rw [e_v_book_here]; exact ⟨bk, n2.is⟩) | exact of_sgs n2.1 _ (by assumption) | (have := ixT_in (of_sgs n2.1 _ (by assumption)); omega) | (have := n2.2; rw [sgs_len]; omega) | (have := n2.2; rw [List.map_id']; exact Nat.le_trans (flat_len _ _) (by omega)) | (have q := nk1 _ (by assumption); exact ⟨e_v_book_here, bk, n2.is, q.is⟩) | (have := cutL_len v_names_here_1 none (some 6); omega) | (rw [e_v_book_here]; exact ⟨bk, q1.is, q2.is⟩) | (rw [e_v_book_here]; exact ⟨bk, q2.is, q3.is⟩) | (rw [e_v_book_here]; exact ⟨bk, q1.is, q3.is⟩) | exact ob | exact ox | exact ⟨by decide, by decide, by decide⟩ | (rw [e_v_late]; exact ⟨ob, by decide, by decide⟩) | exact ⟨ox, by decide, by decide⟩ | exact ⟨ox, by decide⟩ | (rw [List.length_append]; omega) | decide | (simp; omega)))) (by /- 20 -/ first | trivial | omega | exact bk | (rw [e_v_book_here]; exact ⟨bk, n2.is⟩) | exact of_sgs n2.1 _ (by assumption) | (have := ixT_in (of_sgs n2.1 _ (by assumption)); omega) | (have := n2.2; rw [sgs_len]; omega) | (have := n2.2; rw [List.map_id']; exact Nat.le_trans (flat_len _ _) (by omega)) | (have q := nk1 _ (by assumption); exact ⟨e_v_book_here, bk, n2.is, q.is⟩) | (have := cutL_len v_names_here_1 none (some 6); omega) | (rw [e_v_book_here]; exact ⟨bk, q1.is, q2.is⟩) | (rw [e_v_book_here]; exact ⟨bk, q2.is, q3.is⟩) | (rw [e_v_book_here]; exact ⟨bk, q1.is, q3.is⟩) | exact ob | exact ox | exact ⟨by decide, by decide, by decide⟩ | (rw [e_v_late]; exact ⟨ob, by decide, by decide⟩) | exact ⟨ox, by decide, by decide⟩ | exact ⟨ox, by decide⟩ | (rw [List.length_append]; omega) | decide | (simp; omega)))) (de_of_dm (c_callM3 c h__law_near (de_ixL (c_var c 7 (.s (.s (.s (.s (.s (.s (.s (.z))))))))) de_int (by /- 21 -/ first | trivial | omega | exact bk | (rw [e_v_book_here]; exact ⟨bk, n2.is⟩) | exact of_sgs n2.1 _ (by assumption) | (have := ixT_in (of_sgs n2.1 _ (by assumption)); omega) | (have := n2.2; rw [sgs_len]; omega) | (have := n2.2; rw [List.map_id']; exact Nat.le_trans (flat_len _ _) (by omega)) | (have q := nk1 _ (by assumption); exact ⟨e_v_book_here, bk, n2.is, q.is⟩) | (have := cutL_len v_names_here_1 none (some 6); omega) | (rw [e_v_book_here]; exact ⟨bk, q1.is, q2.is⟩) | (rw [e_v_book_here]; exact ⟨bk, q2.is, q3.is⟩) | (rw [e_v_book_here]; exact ⟨bk, q1.is, q3.is⟩) | exact ob | exact ox | exact ⟨by decide, by decide, by decide⟩ | (rw [e_v_late]; exact ⟨ob, by decide, by decide⟩) | exact ⟨ox, by decide, by decide⟩ | exact ⟨ox, by decide⟩ | (rw [List.length_append]; omega) | decide | (simp; omega))) (c_var c 4 (.s (.s (.s (.s (.z)))))) (c_var c 3 (.s (.s (.s (.z))))) (by /- 22 -/ first | trivial | omega | exact bk | (rw [e_v_book_here]; exact ⟨bk, n2.is⟩) | exact of_sgs n2.1 _ (by assumption) | (have := ixT_in (of_sgs n2.1 _ (by assumption)); omega) | (have := n2.2; rw [sgs_len]; omega) | (have := n2.2; rw [List.map_id']; exact Nat.le_trans (flat_len _ _) (by omega)) | (have q := nk1 _ (by assumption); exact ⟨e_v_book_here, bk, n2.is, q.is⟩) | (have := cutL_len v_names_here_1 none (some 6); omega) | (rw [e_v_book_here]; exact ⟨bk, q1.is, q2.is⟩) | (rw [e_v_book_here]; exact ⟨bk, q2.is, q3.is⟩) | (rw [e_v_book_here]; exact ⟨bk, q1.is, q3.is⟩) | exact ob | exact ox | exact ⟨by decide, by decide, by decide⟩ | (rw [e_v_late]; exact ⟨ob, by decide, by decide⟩) | exact ⟨ox, by decide, by decide⟩ | exact ⟨ox, by decide⟩ | (rw [List.length_append]; omega) | decide | (simp; omega)))) (by /- 23 -/ first | trivial | omega | exact bk | (rw [e_v_book_here]; exact ⟨bk, n2.is⟩) | exact of_sgs n2.1 _ (by assumption) | (have := ixT_in (of_sgs n2.1 _ (by assumption)); omega) | (have := n2.2; rw [sgs_len]; omega) | (have := n2.2; rw [List.map_id']; exact Nat.le_trans (flat_len _ _) (by omega)) | (have q := nk1 _ (by assumption); exact ⟨e_v_book_here, bk, n2.is, q.is⟩) | (have := cutL_len v_names_here_1 none (some 6); omega) | (rw [e_v_book_here]; exact ⟨bk, q1.is, q2.is⟩) | (rw [e_v_book_here]; exact ⟨bk, q2.is, q3.is⟩) | (rw [e_v_book_here]; exact ⟨bk, q1.is, q3.is⟩) | exact ob | exact ox | exact ⟨by decide, by decide, by decide⟩ | (rw [e_v_late]; exact ⟨ob, by decide, by decide⟩) | exact ⟨ox, by decide, by decide⟩ | exact ⟨ox, by decide⟩ | (rw [List.length_append]; omega) | decide | (simp; omega)))) (fun _ => .s (.s (.s (.s (.s (.s (.s (.z)))))))) (fun v_names_here_1 e_v_names_here_1 =>
    (have nk1 : ∀ n ∈ v_names_here_1, NameOf v_signs_here n := by
      rw [e_v_names_here_1]
      intro n hn
      rcases List.mem_append.mp hn with hn | hn
      · rcases List.mem_append.mp hn with hn | hn
        · exact nk n hn
        · exact near_ok g0.1 (by omega) n hn
      · exact near_ok g1.1 (by omega) n hn
    have nl1 : v_names_here_1.length ≤ 20 := by rw [e_v_names_here_1, List.length_append, List.length_append]; omega
    (sd_forR c.po c.calm (S := Unit) (fun s2 => [.val (rScr K) v_script, .val rInt y1, .un, .val rInt v_cell, .val rTxt v_signs_here, .val (rList (rPair (rList rInt) rBool)) v_levels, .val (rBk CL CB CBk) v_book_here, .val (rList rTxt) v_names_here_1, .val (rList (rList rInt)) v_due, .un, .un, .un, .un, .un, .un, .un]) (fun _ _ => true) true () (di_list (de_of_dm (dm_sl (c_var c 7 (.s (.s (.s (.s (.s (.s (.s (.z))))))))) do_none (do_some de_int)))) (fun _ => (c_tname c 9)) (.k (.k (.k (.k (.k (.k (.k (.k (.k (.k (.k (.k (.k (.k (.k (.k .nil)))))))))))))))) (by /- 33 -/ first | trivial | omega | exact bk | (rw [e_v_book_here]; exact ⟨bk, n2.is⟩) | exact of_sgs n2.1 _ (by assumption) | (have := ixT_in (of_sgs n2.1 _ (by assumption)); omega) | (have := n2.2; rw [sgs_len]; omega) | (have := n2.2; rw [List.map_id']; exact Nat.le_trans (flat_len _ _) (by omega)) | (have q := nk1 _ (by assumption); exact ⟨e_v_book_here, bk, n2.is, q.is⟩) | (have := cutL_len v_names_here_1 none (some 6); omega) | (rw [e_v_book_here]; exact ⟨bk, q1.is, q2.is⟩) | (rw [e_v_book_here]; exact ⟨bk, q2.is, q3.is⟩) | (rw [e_v_book_here]; exact ⟨bk, q1.is, q3.is⟩) | exact ob | exact ox | exact ⟨by decide, by decide, by decide⟩ | (rw [e_v_late]; exact ⟨ob, by decide, by decide⟩) | exact ⟨ox, by decide, by decide⟩ | exact ⟨ox, by decide⟩ | (rw [List.length_append]; omega) | decide | (simp; omega)) (fun _ => fun _ => .s (.s (.s (.s (.s (.s (.s (.s (.s (.z)))))))))) (fun _ y2 post2 s2 hm2 hq2 hs2 =>
      (have n2 := nk1 _ (mem_cut hm2)
      (sd_ifF ((dc_neS (c_methF2 c (h_Book_kept) (c_var c 6 (.s (.s (.s (.s (.s (.s (.z)))))))) (c_var c 9 (.s (.s (.s (.s (.s (.s (.s (.s (.s (.z))))))))))) (by /- 24 -/ first | trivial | omega | exact bk | (rw [e_v_book_here]; exact ⟨bk, n2.is⟩) | exact of_sgs n2.1 _ (by assumption) | (have := ixT_in (of_sgs n2.1 _ (by assumption)); omega) | (have := n2.2; rw [sgs_len]; omega) | (have := n2.2; rw [List.map_id']; exact Nat.le_trans (flat_len _ _) (by omega)) | (have q := nk1 _ (by assumption); exact ⟨e_v_book_here, bk, n2.is, q.is⟩) | (have := cutL_len v_names_here_1 none (some 6); omega) | (rw [e_v_book_here]; exact ⟨bk, q1.is, q2.is⟩) | (rw [e_v_book_here]; exact ⟨bk, q2.is, q3.is⟩) | (rw [e_v_book_here]; exact ⟨bk, q1.is, q3.is⟩) | exact ob | exact ox | exact ⟨by decide, by decide, by decide⟩ | (rw [e_v_late]; exact ⟨ob, by decide, by decide⟩) | exact ⟨ox, by decide, by decide⟩ | exact ⟨ox, by decide⟩ | (rw [List.length_append]; omega) | decide | (simp; omega))) (c_join c (de_str (l := []) (by decide +kernel) (by decide)) (de_of_dm (dm_lc c (c_lcF c [("_law_sign", 15)] [4, 5, 15] [15] _ _ (di_str (c_var c 9 (.s (.s (.s (.s (.s (.s (.s (.s (.s (.z)))))))))))) (fun _ _ c5 => (c_tname c5 15)) (fun _ => .s (.s (.s (.s (.s (.s (.s (.s (.s (.s (.s (.s (.s (.s (.s (.z)))))))))))))))) (fun _ _ x5 c5 hx5 => (dts_one ((dc_gt (de_ixL (de_ixP0 (de_ixL (c_var c5 5 (.s (.s (.s (.s (.s (.z))))))) de_int (by /- 25 -/ first | trivial | omega | exact bk | (rw [e_v_book_here]; exact ⟨bk, n2.is⟩) | exact of_sgs n2.1 _ (by assumption) | (have := ixT_in (of_sgs n2.1 _ (by assumption)); omega) | (have := n2.2; rw [sgs_len]; omega) | (have := n2.2; rw [List.map_id']; exact Nat.le_trans (flat_len _ _) (by omega)) | (have q := nk1 _ (by assumption); exact ⟨e_v_book_here, bk, n2.is, q.is⟩) | (have := cutL_len v_names_here_1 none (some 6); omega) | (rw [e_v_book_here]; exact ⟨bk, q1.is, q2.is⟩) | (rw [e_v_book_here]; exact ⟨bk, q2.is, q3.is⟩) | (rw [e_v_book_here]; exact ⟨bk, q1.is, q3.is⟩) | exact ob | exact ox | exact ⟨by decide, by decide, by decide⟩ | (rw [e_v_late]; exact ⟨ob, by decide, by decide⟩) | exact ⟨ox, by decide, by decide⟩ | exact ⟨ox, by decide⟩ | (rw [List.length_append]; omega) | decide | (simp; omega)))) (c_indexS c5 (c_var c5 4 (.s (.s (.s (.s (.z)))))) (c_var c5 15 (.s (.s (.s (.s (.s (.s (.s (.s (.s (.s (.s (.s (.s (.s (.s (.z))))))))))))))))) (by /- 26 -/ first | trivial | omega | exact bk | (rw [e_v_book_here]; exact ⟨bk, n2.is⟩) | exact of_sgs n2.1 _ (by assumption) | (have := ixT_in (of_sgs n2.1 _ (by assumption)); omega) | (have := n2.2; rw [sgs_len]; omega) | (have := n2.2; rw [List.map_id']; exact Nat.le_trans (flat_len _ _) (by omega)) | (have q := nk1 _ (by assumption); exact ⟨e_v_book_here, bk, n2.is, q.is⟩) | (have := cutL_len v_names_here_1 none (some 6); omega) | (rw [e_v_book_here]; exact ⟨bk, q1.is, q2.is⟩) | (rw [e_v_book_here]; exact ⟨bk, q2.is, q3.is⟩) | (rw [e_v_book_here]; exact ⟨bk, q1.is, q3.is⟩) | exact ob | exact ox | exact ⟨by decide, by decide, by decide⟩ | (rw [e_v_late]; exact ⟨ob, by decide, by decide⟩) | exact ⟨ox, by decide, by decide⟩ | exact ⟨ox, by decide⟩ | (rw [List.length_append]; omega) | decide | (simp; omega))) (by /- 27 -/ first | trivial | omega | exact bk | (rw [e_v_book_here]; exact ⟨bk, n2.is⟩) | exact of_sgs n2.1 _ (by assumption) | (have := ixT_in (of_sgs n2.1 _ (by assumption)); omega) | (have := n2.2; rw [sgs_len]; omega) | (have := n2.2; rw [List.map_id']; exact Nat.le_trans (flat_len _ _) (by omega)) | (have q := nk1 _ (by assumption); exact ⟨e_v_book_here, bk, n2.is, q.is⟩) | (have := cutL_len v_names_here_1 none (some 6); omega) | (rw [e_v_book_here]; exact ⟨bk, q1.is, q2.is⟩) | (rw [e_v_book_here]; exact ⟨bk, q2.is, q3.is⟩) | (rw [e_v_book_here]; exact ⟨bk, q1.is, q3.is⟩) | exact ob | exact ox | exact ⟨by decide, by decide, by decide⟩ | (rw [e_v_late]; exact ⟨ob, by decide, by decide⟩) | exact ⟨ox, by decide, by decide⟩ | exact ⟨ox, by decide⟩ | (rw [List.length_append]; omega) | decide | (simp; omega))) de_int)).t)) (fun _ _ x5 c5 hx5 h2 => (c_var c5 15 (.s (.s (.s (.s (.s (.s (.s (.s (.s (.s (.s (.s (.s (.s (.s (.z)))))))))))))))))) (by /- 28 -/ first | trivial | omega | exact bk | (rw [e_v_book_here]; exact ⟨bk, n2.is⟩) | exact of_sgs n2.1 _ (by assumption) | (have := ixT_in (of_sgs n2.1 _ (by assumption)); omega) | (have := n2.2; rw [sgs_len]; omega) | (have := n2.2; rw [List.map_id']; exact Nat.le_trans (flat_len _ _) (by omega)) | (have q := nk1 _ (by assumption); exact ⟨e_v_book_here, bk, n2.is, q.is⟩) | (have := cutL_len v_names_here_1 none (some 6); omega) | (rw [e_v_book_here]; exact ⟨bk, q1.is, q2.is⟩) | (rw [e_v_book_here]; exact ⟨bk, q2.is, q3.is⟩) | (rw [e_v_book_here]; exact ⟨bk, q1.is, q3.is⟩) | exact ob | exact ox | exact ⟨by decide, by decide, by decide⟩ | (rw [e_v_late]; exact ⟨ob, by decide, by decide⟩) | exact ⟨ox, by decide, by decide⟩ | exact ⟨ox, by decide⟩ | (rw [List.length_append]; omega) | decide | (simp; omega)) (Uns.all (.cons (.s (.s (.s (.s (.s (.s (.s (.s (.s (.s (.s (.s (.s (.s (.s (.z)))))))))))))))) .nil))))) (by /- 29 -/ first | trivial | omega | exact bk | (rw [e_v_book_here]; exact ⟨bk, n2.is⟩) | exact of_sgs n2.1 _ (by assumption) | (have := ixT_in (of_sgs n2.1 _ (by assumption)); omega) | (have := n2.2; rw [sgs_len]; omega) | (have := n2.2; rw [List.map_id']; exact Nat.le_trans (flat_len _ _) (by omega)) | (have q := nk1 _ (by assumption); exact ⟨e_v_book_here, bk, n2.is, q.is⟩) | (have := cutL_len v_names_here_1 none (some 6); omega) | (rw [e_v_book_here]; exact ⟨bk, q1.is, q2.is⟩) | (rw [e_v_book_here]; exact ⟨bk, q2.is, q3.is⟩) | (rw [e_v_book_here]; exact ⟨bk, q1.is, q3.is⟩) | exact ob | exact ox | exact ⟨by decide, by decide, by decide⟩ | (rw [e_v_late]; exact ⟨ob, by decide, by decide⟩) | exact ⟨ox, by decide, by decide⟩ | exact ⟨ox, by decide⟩ | (rw [List.length_append]; omega) | decide | (simp; omega))))).t (by /- if 3 -/ rw [e_v_book_here, kept_told _ _ _ l1.1]; simp)
      (sd_ifF (dt_not (dt_val (c_all c (de_of_dm (dm_lc c (c_lc c [("_law_other", 10)] [4, 5, 6, 9, 10] [10] _ (di_list (c_var c 7 (.s (.s (.s (.s (.s (.s (.s (.z)))))))))) (fun _ _ c6 => (c_tname c6 10)) (fun _ => .s (.s (.s (.s (.s (.s (.s (.s (.s (.s (.z))))))))))) (fun _ _ x6 c6 hx6 => (c_callF5 c6 h__law_right (c_var c6 6 (.s (.s (.s (.s (.s (.s (.z)))))))) (c_var c6 4 (.s (.s (.s (.s (.z)))))) (c_var c6 5 (.s (.s (.s (.s (.s (.z))))))) (c_var c6 9 (.s (.s (.s (.s (.s (.s (.s (.s (.s (.z))))))))))) (c_var c6 10 (.s (.s (.s (.s (.s (.s (.s (.s (.s (.s (.z)))))))))))) (by /- 30 -/ first | trivial | omega | exact bk | (rw [e_v_book_here]; exact ⟨bk, n2.is⟩) | exact of_sgs n2.1 _ (by assumption) | (have := ixT_in (of_sgs n2.1 _ (by assumption)); omega) | (have := n2.2; rw [sgs_len]; omega) | (have := n2.2; rw [List.map_id']; exact Nat.le_trans (flat_len _ _) (by omega)) | (have q := nk1 _ (by assumption); exact ⟨e_v_book_here, bk, n2.is, q.is⟩) | (have := cutL_len v_names_here_1 none (some 6); omega) | (rw [e_v_book_here]; exact ⟨bk, q1.is, q2.is⟩) | (rw [e_v_book_here]; exact ⟨bk, q2.is, q3.is⟩) | (rw [e_v_book_here]; exact ⟨bk, q1.is, q3.is⟩) | exact ob | exact ox | exact ⟨by decide, by decide, by decide⟩ | (rw [e_v_late]; exact ⟨ob, by decide, by decide⟩) | exact ⟨ox, by decide, by decide⟩ | exact ⟨ox, by decide⟩ | (rw [List.length_append]; omega) | decide | (simp; omega)))) (by /- 31 -/ first | trivial | omega | exact bk | (rw [e_v_book_here]; exact ⟨bk, n2.is⟩) | exact of_sgs n2.1 _ (by assumption) | (have := ixT_in (of_sgs n2.1 _ (by assumption)); omega) | (have := n2.2; rw [sgs_len]; omega) | (have := n2.2; rw [List.map_id']; exact Nat.le_trans (flat_len _ _) (by omega)) | (have q := nk1 _ (by assumption); exact ⟨e_v_book_here, bk, n2.is, q.is⟩) | (have := cutL_len v_names_here_1 none (some 6); omega) | (rw [e_v_book_here]; exact ⟨bk, q1.is, q2.is⟩) | (rw [e_v_book_here]; exact ⟨bk, q2.is, q3.is⟩) | (rw [e_v_book_here]; exact ⟨bk, q1.is, q3.is⟩) | exact ob | exact ox | exact ⟨by decide, by decide, by decide⟩ | (rw [e_v_late]; exact ⟨ob, by decide, by decide⟩) | exact ⟨ox, by decide, by decide⟩ | exact ⟨ox, by decide⟩ | (rw [List.length_append]; omega) | decide | (simp; omega)) (Uns.all (.cons (.s (.s (.s (.s (.s (.s (.s (.s (.s (.s (.z))))))))))) .nil))))) b_all))) (by /- if 4 -/ simp)
      (sd_turn (Γs := fun s2 => [.val (rScr K) v_script, .val rInt y1, .un, .val rInt v_cell, .val rTxt v_signs_here, .val (rList (rPair (rList rInt) rBool)) v_levels, .val (rBk CL CB CBk) v_book_here, .val (rList rTxt) v_names_here_1, .val (rList (rList rInt)) v_due, .un, .un, .un, .un, .un, .un, .un]) (Φ := fun s2 => (fun _ _ => true) post2 s2 = true) () (.k (.k (.k (.k (.k (.k (.k (.k (.k (.u (.k (.k (.k (.k (.k (.k .nil)))))))))))))))) (by /- 32 -/ first | trivial | omega | exact bk | (rw [e_v_book_here]; exact ⟨bk, n2.is⟩) | exact of_sgs n2.1 _ (by assumption) | (have := ixT_in (of_sgs n2.1 _ (by assumption)); omega) | (have := n2.2; rw [sgs_len]; omega) | (have := n2.2; rw [List.map_id']; exact Nat.le_trans (flat_len _ _) (by omega)) | (have q := nk1 _ (by assumption); exact ⟨e_v_book_here, bk, n2.is, q.is⟩) | (have := cutL_len v_names_here_1 none (some 6); omega) | (rw [e_v_book_here]; exact ⟨bk, q1.is, q2.is⟩) | (rw [e_v_book_here]; exact ⟨bk, q2.is, q3.is⟩) | (rw [e_v_book_here]; exact ⟨bk, q1.is, q3.is⟩) | exact ob | exact ox | exact ⟨by decide, by decide, by decide⟩ | (rw [e_v_late]; exact ⟨ob, by decide, by decide⟩) | exact ⟨ox, by decide, by decide⟩ | exact ⟨ox, by decide⟩ | (rw [List.length_append]; omega) | decide | (simp; omega)))))))
    (fun s2 hs2 =>
    (sd_forR c.po c.calm (S := Unit) (fun s3 => [.val (rScr K) v_script, .val rInt y1, .un, .val rInt v_cell, .val rTxt v_signs_here, .val (rList (rPair (rList rInt) rBool)) v_levels, .val (rBk CL CB CBk) v_book_here, .val (rList rTxt) v_names_here_1, .val (rList (rList rInt)) v_due, .un, .un, .un, .un, .un, .un, .un]) (fun _ _ => true) true () (c_zip3 c (c_var c 7 (.s (.s (.s (.s (.s (.s (.s (.z))))))))) (de_of_dm (dm_sl (c_var c 7 (.s (.s (.s (.s (.s (.s (.s (.z))))))))) (do_some de_int) do_none)) (de_of_dm (dm_sl (c_var c 7 (.s (.s (.s (.s (.s (.s (.s (.z))))))))) (do_some de_int) do_none)) b_zip) (fun _ => (c_ttri c 9 10 11)) (.k (.k (.k (.k (.k (.k (.k (.k (.k (.k (.k (.k (.k (.k (.k (.k .nil)))))))))))))))) (by /- 38 -/ first | trivial | omega | exact bk | (rw [e_v_book_here]; exact ⟨bk, n2.is⟩) | exact of_sgs n2.1 _ (by assumption) | (have := ixT_in (of_sgs n2.1 _ (by assumption)); omega) | (have := n2.2; rw [sgs_len]; omega) | (have := n2.2; rw [List.map_id']; exact Nat.le_trans (flat_len _ _) (by omega)) | (have q := nk1 _ (by assumption); exact ⟨e_v_book_here, bk, n2.is, q.is⟩) | (have := cutL_len v_names_here_1 none (some 6); omega) | (rw [e_v_book_here]; exact ⟨bk, q1.is, q2.is⟩) | (rw [e_v_book_here]; exact ⟨bk, q2.is, q3.is⟩) | (rw [e_v_book_here]; exact ⟨bk, q1.is, q3.is⟩) | exact ob | exact ox | exact ⟨by decide, by decide, by decide⟩ | (rw [e_v_late]; exact ⟨ob, by decide, by decide⟩) | exact ⟨ox, by decide, by decide⟩ | exact ⟨ox, by decide⟩ | (rw [List.length_append]; omega) | decide | (simp; omega)) (fun _ => fun _ => ⟨_, _, .s (.s (.s (.s (.s (.s (.s (.s (.s (.z))))))))), .s (.s (.s (.s (.s (.s (.s (.s (.s (.s (.z)))))))))), .s (.s (.s (.s (.s (.s (.s (.s (.s (.s (.s (.z)))))))))))⟩) (fun _ y3 post3 s3 hm3 hq3 hs3 =>
      (have m3 := zip3_mem hm3
      have q1 := nk1 _ m3.1
      have q2 := nk1 _ (mem_cut m3.2.1)
      have q3 := nk1 _ (mem_cut m3.2.2)
      (sd_ifF (dw_pt (dw_and ((dc_le (c_methF3 c (h_Book_weigh) (c_var c 6 (.s (.s (.s (.s (.s (.s (.z)))))))) (c_var c 9 (.s (.s (.s (.s (.s (.s (.s (.s (.s (.z))))))))))) (c_var c 10 (.s (.s (.s (.s (.s (.s (.s (.s (.s (.s (.z)))))))))))) (by /- 34 -/ first | trivial | omega | exact bk | (rw [e_v_book_here]; exact ⟨bk, n2.is⟩) | exact of_sgs n2.1 _ (by assumption) | (have := ixT_in (of_sgs n2.1 _ (by assumption)); omega) | (have := n2.2; rw [sgs_len]; omega) | (have := n2.2; rw [List.map_id']; exact Nat.le_trans (flat_len _ _) (by omega)) | (have q := nk1 _ (by assumption); exact ⟨e_v_book_here, bk, n2.is, q.is⟩) | (have := cutL_len v_names_here_1 none (some 6); omega) | (rw [e_v_book_here]; exact ⟨bk, q1.is, q2.is⟩) | (rw [e_v_book_here]; exact ⟨bk, q2.is, q3.is⟩) | (rw [e_v_book_here]; exact ⟨bk, q1.is, q3.is⟩) | exact ob | exact ox | exact ⟨by decide, by decide, by decide⟩ | (rw [e_v_late]; exact ⟨ob, by decide, by decide⟩) | exact ⟨ox, by decide, by decide⟩ | exact ⟨ox, by decide⟩ | (rw [List.length_append]; omega) | decide | (simp; omega))) de_int)).t (fun h3 => (dw_and ((dc_le (c_methF3 c (h_Book_weigh) (c_var c 6 (.s (.s (.s (.s (.s (.s (.z)))))))) (c_var c 10 (.s (.s (.s (.s (.s (.s (.s (.s (.s (.s (.z)))))))))))) (c_var c 11 (.s (.s (.s (.s (.s (.s (.s (.s (.s (.s (.s (.z))))))))))))) (by /- 35 -/ first | trivial | omega | exact bk | (rw [e_v_book_here]; exact ⟨bk, n2.is⟩) | exact of_sgs n2.1 _ (by assumption) | (have := ixT_in (of_sgs n2.1 _ (by assumption)); omega) | (have := n2.2; rw [sgs_len]; omega) | (have := n2.2; rw [List.map_id']; exact Nat.le_trans (flat_len _ _) (by omega)) | (have q := nk1 _ (by assumption); exact ⟨e_v_book_here, bk, n2.is, q.is⟩) | (have := cutL_len v_names_here_1 none (some 6); omega) | (rw [e_v_book_here]; exact ⟨bk, q1.is, q2.is⟩) | (rw [e_v_book_here]; exact ⟨bk, q2.is, q3.is⟩) | (rw [e_v_book_here]; exact ⟨bk, q1.is, q3.is⟩) | exact ob | exact ox | exact ⟨by decide, by decide, by decide⟩ | (rw [e_v_late]; exact ⟨ob, by decide, by decide⟩) | exact ⟨ox, by decide, by decide⟩ | exact ⟨ox, by decide⟩ | (rw [List.length_append]; omega) | decide | (simp; omega))) de_int)).t (fun h4 => (dw_and1 ((dc_gt (c_methF3 c (h_Book_weigh) (c_var c 6 (.s (.s (.s (.s (.s (.s (.z)))))))) (c_var c 9 (.s (.s (.s (.s (.s (.s (.s (.s (.s (.z))))))))))) (c_var c 11 (.s (.s (.s (.s (.s (.s (.s (.s (.s (.s (.s (.z))))))))))))) (by /- 36 -/ first | trivial | omega | exact bk | (rw [e_v_book_here]; exact ⟨bk, n2.is⟩) | exact of_sgs n2.1 _ (by assumption) | (have := ixT_in (of_sgs n2.1 _ (by assumption)); omega) | (have := n2.2; rw [sgs_len]; omega) | (have := n2.2; rw [List.map_id']; exact Nat.le_trans (flat_len _ _) (by omega)) | (have q := nk1 _ (by assumption); exact ⟨e_v_book_here, bk, n2.is, q.is⟩) | (have := cutL_len v_names_here_1 none (some 6); omega) | (rw [e_v_book_here]; exact ⟨bk, q1.is, q2.is⟩) | (rw [e_v_book_here]; exact ⟨bk, q2.is, q3.is⟩) | (rw [e_v_book_here]; exact ⟨bk, q1.is, q3.is⟩) | exact ob | exact ox | exact ⟨by decide, by decide, by decide⟩ | (rw [e_v_late]; exact ⟨ob, by decide, by decide⟩) | exact ⟨ox, by decide, by decide⟩ | exact ⟨ox, by decide⟩ | (rw [List.length_append]; omega) | decide | (simp; omega))) de_int)).t)))))) (by /- if 5 -/ simp; intro a b; exact weighB_trans _ a b)
      (sd_turn (Γs := fun s3 => [.val (rScr K) v_script, .val rInt y1, .un, .val rInt v_cell, .val rTxt v_signs_here, .val (rList (rPair (rList rInt) rBool)) v_levels, .val (rBk CL CB CBk) v_book_here, .val (rList rTxt) v_names_here_1, .val (rList (rList rInt)) v_due, .un, .un, .un, .un, .un, .un, .un]) (Φ := fun s3 => (fun _ _ => true) post3 s3 = true) () (.k (.k (.k (.k (.k (.k (.k (.k (.k (.u (.u (.u (.k (.k (.k (.k .nil)))))))))))))))) (by /- 37 -/ first | trivial | omega | exact bk | (rw [e_v_book_here]; exact ⟨bk, n2.is⟩) | exact of_sgs n2.1 _ (by assumption) | (have := ixT_in (of_sgs n2.1 _ (by assumption)); omega) | (have := n2.2; rw [sgs_len]; omega) | (have := n2.2; rw [List.map_id']; exact Nat.le_trans (flat_len _ _) (by omega)) | (have q := nk1 _ (by assumption); exact ⟨e_v_book_here, bk, n2.is, q.is⟩) | (have := cutL_len v_names_here_1 none (some 6); omega) | (rw [e_v_book_here]; exact ⟨bk, q1.is, q2.is⟩) | (rw [e_v_book_here]; exact ⟨bk, q2.is, q3.is⟩) | (rw [e_v_book_here]; exact ⟨bk, q1.is, q3.is⟩) | exact ob | exact ox | exact ⟨by decide, by decide, by decide⟩ | (rw [e_v_late]; exact ⟨ob, by decide, by decide⟩) | exact ⟨ox, by decide, by decide⟩ | exact ⟨ox, by decide⟩ | (rw [List.length_append]; omega) | decide | (simp; omega))))))
    (fun s3 hs3 =>
    (sd_turn (Γs := fun s1 => [.val (rScr K) v_script, .un, .un, .un, .un, .un, .un, .un, .un, .un, .un, .un, .un, .un, .un, .un]) (Φ := fun s1 => (fun _ _ => true) post1 s1 = true) () (.k (.u (.k (.u (.u (.u (.u (.u (.u (.k (.k (.k (.k (.k (.k (.k .nil)))))))))))))))) (by /- 39 -/ first | trivial | omega | exact bk | (rw [e_v_book_here]; exact ⟨bk, n2.is⟩) | exact of_sgs n2.1 _ (by assumption) | (have := ixT_in (of_sgs n2.1 _ (by assumption)); omega) | (have := n2.2; rw [sgs_len]; omega) | (have := n2.2; rw [List.map_id']; exact Nat.le_trans (flat_len _ _) (by omega)) | (have q := nk1 _ (by assumption); exact ⟨e_v_book_here, bk, n2.is, q.is⟩) | (have := cutL_len v_names_here_1 none (some 6); omega) | (rw [e_v_book_here]; exact ⟨bk, q1.is, q2.is⟩) | (rw [e_v_book_here]; exact ⟨bk, q2.is, q3.is⟩) | (rw [e_v_book_here]; exact ⟨bk, q1.is, q3.is⟩) | exact ob | exact ox | exact ⟨by decide, by decide, by decide⟩ | (rw [e_v_late]; exact ⟨ob, by decide, by decide⟩) | exact ⟨ox, by decide, by decide⟩ | exact ⟨ox, by decide⟩ | (rw [List.length_append]; omega) | decide | (simp; omega)))))))))))))))))))))))))))))
  (fun s1 hs1 =>
  (c_asg c 2 (c_make2 c (_, _) h_Book (de_str (l := [97, 98, 45]) (by decide +kernel) (by decide)) (de_of_dm (dm_list (dl_cons (de_of_dn (c_makeN1 c (false, _) h_Level (de_of_dm (dm_list (dl_cons de_int (dl_cons de_int (dl_cons de_int dl_nil))))) (by /- 41 -/ first | trivial | omega | exact bk | (rw [e_v_book_here]; exact ⟨bk, n2.is⟩) | exact of_sgs n2.1 _ (by assumption) | (have := ixT_in (of_sgs n2.1 _ (by assumption)); omega) | (have := n2.2; rw [sgs_len]; omega) | (have := n2.2; rw [List.map_id']; exact Nat.le_trans (flat_len _ _) (by omega)) | (have q := nk1 _ (by assumption); exact ⟨e_v_book_here, bk, n2.is, q.is⟩) | (have := cutL_len v_names_here_1 none (some 6); omega) | (rw [e_v_book_here]; exact ⟨bk, q1.is, q2.is⟩) | (rw [e_v_book_here]; exact ⟨bk, q2.is, q3.is⟩) | (rw [e_v_book_here]; exact ⟨bk, q1.is, q3.is⟩) | exact ob | exact ox | exact ⟨by decide, by decide, by decide⟩ | (rw [e_v_late]; exact ⟨ob, by decide, by decide⟩) | exact ⟨ox, by decide, by decide⟩ | exact ⟨ox, by decide⟩ | (rw [List.length_append]; omega) | decide | (simp; omega)))) (dl_cons (de_of_dn (c_makeN1 c (true, _) h_Backward (de_of_dm (dm_list (dl_cons de_int (dl_cons de_int (dl_cons de_int dl_nil))))) (by /- 42 -/ first | trivial | omega | exact bk | (rw [e_v_book_here]; exact ⟨bk, n2.is⟩) | exact of_sgs n2.1 _ (by assumption) | (have := ixT_in (of_sgs n2.1 _ (by assumption)); omega) | (have := n2.2; rw [sgs_len]; omega) | (have := n2.2; rw [List.map_id']; exact Nat.le_trans (flat_len _ _) (by omega)) | (have q := nk1 _ (by assumption); exact ⟨e_v_book_here, bk, n2.is, q.is⟩) | (have := cutL_len v_names_here_1 none (some 6); omega) | (rw [e_v_book_here]; exact ⟨bk, q1.is, q2.is⟩) | (rw [e_v_book_here]; exact ⟨bk, q2.is, q3.is⟩) | (rw [e_v_book_here]; exact ⟨bk, q1.is, q3.is⟩) | exact ob | exact ox | exact ⟨by decide, by decide, by decide⟩ | (rw [e_v_late]; exact ⟨ob, by decide, by decide⟩) | exact ⟨ox, by decide, by decide⟩ | exact ⟨ox, by decide⟩ | (rw [List.length_append]; omega) | decide | (simp; omega)))) dl_nil)))) (by /- 43 -/ first | trivial | omega | exact bk | (rw [e_v_book_here]; exact ⟨bk, n2.is⟩) | exact of_sgs n2.1 _ (by assumption) | (have := ixT_in (of_sgs n2.1 _ (by assumption)); omega) | (have := n2.2; rw [sgs_len]; omega) | (have := n2.2; rw [List.map_id']; exact Nat.le_trans (flat_len _ _) (by omega)) | (have q := nk1 _ (by assumption); exact ⟨e_v_book_here, bk, n2.is, q.is⟩) | (have := cutL_len v_names_here_1 none (some 6); omega) | (rw [e_v_book_here]; exact ⟨bk, q1.is, q2.is⟩) | (rw [e_v_book_here]; exact ⟨bk, q2.is, q3.is⟩) | (rw [e_v_book_here]; exact ⟨bk, q1.is, q3.is⟩) | exact ob | exact ox | exact ⟨by decide, by decide, by decide⟩ | (rw [e_v_late]; exact ⟨ob, by decide, by decide⟩) | exact ⟨ox, by decide, by decide⟩ | exact ⟨ox, by decide⟩ | (rw [List.length_append]; omega) | decide | (simp; omega))) (fun _ => .s (.s (.z))) (fun v_late e_v_late =>
  (sd_ifF ((c_neD c (eqList eqInt) (de_of_dm (dm_list (dl_cons (c_methF3 c (h_Book_weigh) (c_var c 2 (.s (.s (.z)))) (de_str (l := [97, 98]) (by decide +kernel) (by decide)) (de_str (l := [98, 97]) (by decide +kernel) (by decide)) (by /- 44 -/ first | trivial | omega | exact bk | (rw [e_v_book_here]; exact ⟨bk, n2.is⟩) | exact of_sgs n2.1 _ (by assumption) | (have := ixT_in (of_sgs n2.1 _ (by assumption)); omega) | (have := n2.2; rw [sgs_len]; omega) | (have := n2.2; rw [List.map_id']; exact Nat.le_trans (flat_len _ _) (by omega)) | (have q := nk1 _ (by assumption); exact ⟨e_v_book_here, bk, n2.is, q.is⟩) | (have := cutL_len v_names_here_1 none (some 6); omega) | (rw [e_v_book_here]; exact ⟨bk, q1.is, q2.is⟩) | (rw [e_v_book_here]; exact ⟨bk, q2.is, q3.is⟩) | (rw [e_v_book_here]; exact ⟨bk, q1.is, q3.is⟩) | exact ob | exact ox | exact ⟨by decide, by decide, by decide⟩ | (rw [e_v_late]; exact ⟨ob, by decide, by decide⟩) | exact ⟨ox, by decide, by decide⟩ | exact ⟨ox, by decide⟩ | (rw [List.length_append]; omega) | decide | (simp; omega))) (dl_cons (c_methF3 c (h_Book_weigh) (c_var c 2 (.s (.s (.z)))) (de_str (l := [97]) (by decide +kernel) (by decide)) (de_str (l := [98]) (by decide +kernel) (by decide)) (by /- 45 -/ first | trivial | omega | exact bk | (rw [e_v_book_here]; exact ⟨bk, n2.is⟩) | exact of_sgs n2.1 _ (by assumption) | (have := ixT_in (of_sgs n2.1 _ (by assumption)); omega) | (have := n2.2; rw [sgs_len]; omega) | (have := n2.2; rw [List.map_id']; exact Nat.le_trans (flat_len _ _) (by omega)) | (have q := nk1 _ (by assumption); exact ⟨e_v_book_here, bk, n2.is, q.is⟩) | (have := cutL_len v_names_here_1 none (some 6); omega) | (rw [e_v_book_here]; exact ⟨bk, q1.is, q2.is⟩) | (rw [e_v_book_here]; exact ⟨bk, q2.is, q3.is⟩) | (rw [e_v_book_here]; exact ⟨bk, q1.is, q3.is⟩) | exact ob | exact ox | exact ⟨by decide, by decide, by decide⟩ | (rw [e_v_late]; exact ⟨ob, by decide, by decide⟩) | exact ⟨ox, by decide, by decide⟩ | exact ⟨ox, by decide⟩ | (rw [List.length_append]; omega) | decide | (simp; omega))) (dl_cons (c_methF3 c (h_Book_weigh) (c_var c 2 (.s (.s (.z)))) (de_str (l := [97, 45]) (by decide +kernel) (by decide)) (de_str (l := [98]) (by decide +kernel) (by decide)) (by /- 46 -/ first | trivial | omega | exact bk | (rw [e_v_book_here]; exact ⟨bk, n2.is⟩) | exact of_sgs n2.1 _ (by assumption) | (have := ixT_in (of_sgs n2.1 _ (by assumption)); omega) | (have := n2.2; rw [sgs_len]; omega) | (have := n2.2; rw [List.map_id']; exact Nat.le_trans (flat_len _ _) (by omega)) | (have q := nk1 _ (by assumption); exact ⟨e_v_book_here, bk, n2.is, q.is⟩) | (have := cutL_len v_names_here_1 none (some 6); omega) | (rw [e_v_book_here]; exact ⟨bk, q1.is, q2.is⟩) | (rw [e_v_book_here]; exact ⟨bk, q2.is, q3.is⟩) | (rw [e_v_book_here]; exact ⟨bk, q1.is, q3.is⟩) | exact ob | exact ox | exact ⟨by decide, by decide, by decide⟩ | (rw [e_v_late]; exact ⟨ob, by decide, by decide⟩) | exact ⟨ox, by decide, by decide⟩ | exact ⟨ox, by decide⟩ | (rw [List.length_append]; omega) | decide | (simp; omega))) (dl_cons (c_methF3 c (h_Book_weigh) (c_var c 2 (.s (.s (.z)))) (de_str (l := [97, 97, 45]) (by decide +kernel) (by decide)) (de_str (l := [97, 98]) (by decide +kernel) (by decide)) (by /- 47 -/ first | trivial | omega | exact bk | (rw [e_v_book_here]; exact ⟨bk, n2.is⟩) | exact of_sgs n2.1 _ (by assumption) | (have := ixT_in (of_sgs n2.1 _ (by assumption)); omega) | (have := n2.2; rw [sgs_len]; omega) | (have := n2.2; rw [List.map_id']; exact Nat.le_trans (flat_len _ _) (by omega)) | (have q := nk1 _ (by assumption); exact ⟨e_v_book_here, bk, n2.is, q.is⟩) | (have := cutL_len v_names_here_1 none (some 6); omega) | (rw [e_v_book_here]; exact ⟨bk, q1.is, q2.is⟩) | (rw [e_v_book_here]; exact ⟨bk, q2.is, q3.is⟩) | (rw [e_v_book_here]; exact ⟨bk, q1.is, q3.is⟩) | exact ob | exact ox | exact ⟨by decide, by decide, by decide⟩ | (rw [e_v_late]; exact ⟨ob, by decide, by decide⟩) | exact ⟨ox, by decide, by decide⟩ | exact ⟨ox, by decide⟩ | (rw [List.length_append]; omega) | decide | (simp; omega))) dl_nil)))))) (de_of_dm (dm_list (dl_cons de_int (dl_cons (de_neg de_int) (dl_cons de_int (dl_cons de_int dl_nil)))))))).t (by /- if 6 -/ rw [e_v_late]; decide +kernel)
  (sd_retC hD (de_and ((dc_eqI (c_methF3 c (h_Book_weigh) (c_make2 c (_, _) h_Book (de_str (l := [120, 121]) (by decide +kernel) (by decide)) (de_of_dm (dm_list (dl_cons (de_of_dn (c_makeN1 c (false, _) h_Level (de_of_dm (dm_list (dl_cons de_int (dl_cons de_int dl_nil)))) (by /- 48 -/ first | trivial | omega | exact bk | (rw [e_v_book_here]; exact ⟨bk, n2.is⟩) | exact of_sgs n2.1 _ (by assumption) | (have := ixT_in (of_sgs n2.1 _ (by assumption)); omega) | (have := n2.2; rw [sgs_len]; omega) | (have := n2.2; rw [List.map_id']; exact Nat.le_trans (flat_len _ _) (by omega)) | (have q := nk1 _ (by assumption); exact ⟨e_v_book_here, bk, n2.is, q.is⟩) | (have := cutL_len v_names_here_1 none (some 6); omega) | (rw [e_v_book_here]; exact ⟨bk, q1.is, q2.is⟩) | (rw [e_v_book_here]; exact ⟨bk, q2.is, q3.is⟩) | (rw [e_v_book_here]; exact ⟨bk, q1.is, q3.is⟩) | exact ob | exact ox | exact ⟨by decide, by decide, by decide⟩ | (rw [e_v_late]; exact ⟨ob, by decide, by decide⟩) | exact ⟨ox, by decide, by decide⟩ | exact ⟨ox, by decide⟩ | (rw [List.length_append]; omega) | decide | (simp; omega)))) dl_nil))) (by /- 49 -/ first | trivial | omega | exact bk | (rw [e_v_book_here]; exact ⟨bk, n2.is⟩) | exact of_sgs n2.1 _ (by assumption) | (have := ixT_in (of_sgs n2.1 _ (by assumption)); omega) | (have := n2.2; rw [sgs_len]; omega) | (have := n2.2; rw [List.map_id']; exact Nat.le_trans (flat_len _ _) (by omega)) | (have q := nk1 _ (by assumption); exact ⟨e_v_book_here, bk, n2.is, q.is⟩) | (have := cutL_len v_names_here_1 none (some 6); omega) | (rw [e_v_book_here]; exact ⟨bk, q1.is, q2.is⟩) | (rw [e_v_book_here]; exact ⟨bk, q2.is, q3.is⟩) | (rw [e_v_book_here]; exact ⟨bk, q1.is, q3.is⟩) | exact ob | exact ox | exact ⟨by decide, by decide, by decide⟩ | (rw [e_v_late]; exact ⟨ob, by decide, by decide⟩) | exact ⟨ox, by decide, by decide⟩ | exact ⟨ox, by decide⟩ | (rw [List.length_append]; omega) | decide | (simp; omega))) (de_str (l := [120, 120, 121]) (by decide +kernel) (by decide)) (de_str (l := [121, 120]) (by decide +kernel) (by decide)) (by /- 50 -/ first | trivial | omega | exact bk | (rw [e_v_book_here]; exact ⟨bk, n2.is⟩) | exact of_sgs n2.1 _ (by assumption) | (have := ixT_in (of_sgs n2.1 _ (by assumption)); omega) | (have := n2.2; rw [sgs_len]; omega) | (have := n2.2; rw [List.map_id']; exact Nat.le_trans (flat_len _ _) (by omega)) | (have q := nk1 _ (by assumption); exact ⟨e_v_book_here, bk, n2.is, q.is⟩) | (have := cutL_len v_names_here_1 none (some 6); omega) | (rw [e_v_book_here]; exact ⟨bk, q1.is, q2.is⟩) | (rw [e_v_book_here]; exact ⟨bk, q2.is, q3.is⟩) | (rw [e_v_book_here]; exact ⟨bk, q1.is, q3.is⟩) | exact ob | exact ox | exact ⟨by decide, by decide, by decide⟩ | (rw [e_v_late]; exact ⟨ob, by decide, by decide⟩) | exact ⟨ox, by decide, by decide⟩ | exact ⟨ox, by decide⟩ | (rw [List.length_append]; omega) | decide | (simp; omega))) de_int)).v (fun h5 => (de_one ((dc_eqS (c_methF2 c (h_Book_kept) (c_make2 c (_, _) h_Book (de_str (l := [120, 121]) (by decide +kernel) (by decide)) (de_of_dm (dm_list (dl_cons (de_of_dn (c_makeN1 c (false, _) h_Level (de_of_dm (dm_list (dl_cons de_int (dl_cons de_int dl_nil)))) (by /- 51 -/ first | trivial | omega | exact bk | (rw [e_v_book_here]; exact ⟨bk, n2.is⟩) | exact of_sgs n2.1 _ (by assumption) | (have := ixT_in (of_sgs n2.1 _ (by assumption)); omega) | (have := n2.2; rw [sgs_len]; omega) | (have := n2.2; rw [List.map_id']; exact Nat.le_trans (flat_len _ _) (by omega)) | (have q := nk1 _ (by assumption); exact ⟨e_v_book_here, bk, n2.is, q.is⟩) | (have := cutL_len v_names_here_1 none (some 6); omega) | (rw [e_v_book_here]; exact ⟨bk, q1.is, q2.is⟩) | (rw [e_v_book_here]; exact ⟨bk, q2.is, q3.is⟩) | (rw [e_v_book_here]; exact ⟨bk, q1.is, q3.is⟩) | exact ob | exact ox | exact ⟨by decide, by decide, by decide⟩ | (rw [e_v_late]; exact ⟨ob, by decide, by decide⟩) | exact ⟨ox, by decide, by decide⟩ | exact ⟨ox, by decide⟩ | (rw [List.length_append]; omega) | decide | (simp; omega)))) dl_nil))) (by /- 52 -/ first | trivial | omega | exact bk | (rw [e_v_book_here]; exact ⟨bk, n2.is⟩) | exact of_sgs n2.1 _ (by assumption) | (have := ixT_in (of_sgs n2.1 _ (by assumption)); omega) | (have := n2.2; rw [sgs_len]; omega) | (have := n2.2; rw [List.map_id']; exact Nat.le_trans (flat_len _ _) (by omega)) | (have q := nk1 _ (by assumption); exact ⟨e_v_book_here, bk, n2.is, q.is⟩) | (have := cutL_len v_names_here_1 none (some 6); omega) | (rw [e_v_book_here]; exact ⟨bk, q1.is, q2.is⟩) | (rw [e_v_book_here]; exact ⟨bk, q2.is, q3.is⟩) | (rw [e_v_book_here]; exact ⟨bk, q1.is, q3.is⟩) | exact ob | exact ox | exact ⟨by decide, by decide, by decide⟩ | (rw [e_v_late]; exact ⟨ob, by decide, by decide⟩) | exact ⟨ox, by decide, by decide⟩ | exact ⟨ox, by decide⟩ | (rw [List.length_append]; omega) | decide | (simp; omega))) (de_str (l := [120, 120, 121, 120]) (by decide +kernel) (by decide)) (by /- 53 -/ first | trivial | omega | exact bk | (rw [e_v_book_here]; exact ⟨bk, n2.is⟩) | exact of_sgs n2.1 _ (by assumption) | (have := ixT_in (of_sgs n2.1 _ (by assumption)); omega) | (have := n2.2; rw [sgs_len]; omega) | (have := n2.2; rw [List.map_id']; exact Nat.le_trans (flat_len _ _) (by omega)) | (have q := nk1 _ (by assumption); exact ⟨e_v_book_here, bk, n2.is, q.is⟩) | (have := cutL_len v_names_here_1 none (some 6); omega) | (rw [e_v_book_here]; exact ⟨bk, q1.is, q2.is⟩) | (rw [e_v_book_here]; exact ⟨bk, q2.is, q3.is⟩) | (rw [e_v_book_here]; exact ⟨bk, q1.is, q3.is⟩) | exact ob | exact ox | exact ⟨by decide, by decide, by decide⟩ | (rw [e_v_late]; exact ⟨ob, by decide, by decide⟩) | exact ⟨ox, by decide, by decide⟩ | exact ⟨ox, by decide⟩ | (rw [List.length_append]; omega) | decide | (simp; omega))) (de_str (l := [121]) (by decide +kernel) (by decide)))).v))) (by /- ret 1 -/ decide +kernel)))))))))
end
end Law
namespace Law
open PySem L2 DL PySem.Spec PyProof.Rows
section
variable {P : Program} {w : World} {K : PySem.W.Frag} {mg : Str → Option Value} {base : Heap}
end
theorem all_mk {l : PySem.W.OpenLaw} {w : World} {K : PySem.W.Frag} {h : Heap} {mg : Str → Option Value} {fa CB CBk CL : Addr} (X : K.In h) (G : h.Ns mainGlobals mg) (hfa : mg "law" = some (.ref fa))
    {f1 : Addr} {od1 an1 : Option Addr} {sl1 : Array (Option Value)} {oc1 kV1 dc1 pm1 cd1 ct1 : Value}
    {f2 : Addr} {od2 an2 : Option Addr} {sl2 : Array (Option Value)} {oc2 kV2 dc2 pm2 cd2 ct2 : Value}
    {f3 : Addr} {od3 an3 : Option Addr} {sl3 : Array (Option Value)} {oc3 kV3 dc3 pm3 cd3 ct3 : Value}
    {f4 : Addr} {od4 an4 : Option Addr} {sl4 : Array (Option Value)} {oc4 kV4 dc4 pm4 cd4 ct4 : Value}
    {f5 : Addr} {od5 an5 : Option Addr} {sl5 : Array (Option Value)} {oc5 kV5 dc5 pm5 cd5 ct5 : Value}
    {f6 : Addr} {od6 an6 : Option Addr} {sl6 : Array (Option Value)} {oc6 kV6 dc6 pm6 cd6 ct6 : Value}
    {f7 : Addr} {od7 an7 : Option Addr} {sl7 : Array (Option Value)} {oc7 kV7 dc7 pm7 cd7 ct7 : Value}
    {f8 : Addr} {od8 an8 : Option Addr} {sl8 : Array (Option Value)} {oc8 kV8 dc8 pm8 cd8 ct8 : Value}
    {f9 : Addr} {od9 an9 : Option Addr} {sl9 : Array (Option Value)} {oc9 kV9 dc9 pm9 cd9 ct9 : Value}
    {f10 : Addr} {od10 an10 : Option Addr} {sl10 : Array (Option Value)} {oc10 kV10 dc10 pm10 cd10 ct10 : Value}
    {f11 : Addr} {od11 an11 : Option Addr} {sl11 : Array (Option Value)} {oc11 kV11 dc11 pm11 cd11 ct11 : Value}
    {f12 : Addr} {od12 an12 : Option Addr} {sl12 : Array (Option Value)} {oc12 kV12 dc12 pm12 cd12 ct12 : Value}
    {f13 : Addr} {od13 an13 : Option Addr} {sl13 : Array (Option Value)} {oc13 kV13 dc13 pm13 cd13 ct13 : Value}
    {f14 : Addr} {od14 an14 : Option Addr} {sl14 : Array (Option Value)} {oc14 kV14 dc14 pm14 cd14 ct14 : Value}
    {f15 : Addr} {od15 an15 : Option Addr} {sl15 : Array (Option Value)} {oc15 kV15 dc15 pm15 cd15 ct15 : Value}
    {f16 : Addr} {od16 an16 : Option Addr} {sl16 : Array (Option Value)} {oc16 kV16 dc16 pm16 cd16 ct16 : Value}
    {f17 : Addr} {od17 an17 : Option Addr} {sl17 : Array (Option Value)} {oc17 kV17 dc17 pm17 cd17 ct17 : Value}
    {f18 : Addr} {od18 an18 : Option Addr} {sl18 : Array (Option Value)} {oc18 kV18 dc18 pm18 cd18 ct18 : Value}
    {f19 : Addr} {od19 an19 : Option Addr} {sl19 : Array (Option Value)} {oc19 kV19 dc19 pm19 cd19 ct19 : Value}
    {f20 : Addr} {od20 an20 : Option Addr} {sl20 : Array (Option Value)} {oc20 kV20 dc20 pm20 cd20 ct20 : Value}
    {f21 : Addr} {od21 an21 : Option Addr} {sl21 : Array (Option Value)} {oc21 kV21 dc21 pm21 cd21 ct21 : Value}
    {f22 : Addr} {od22 an22 : Option Addr} {sl22 : Array (Option Value)} {oc22 kV22 dc22 pm22 cd22 ct22 : Value}
    {f23 : Addr} {od23 an23 : Option Addr} {sl23 : Array (Option Value)} {oc23 kV23 dc23 pm23 cd23 ct23 : Value}
    {f24 : Addr} {od24 an24 : Option Addr} {sl24 : Array (Option Value)} {oc24 kV24 dc24 pm24 cd24 ct24 : Value}
    {f25 : Addr} {od25 an25 : Option Addr} {sl25 : Array (Option Value)} {oc25 kV25 dc25 pm25 cd25 ct25 : Value}
    {f26 : Addr} {od26 an26 : Option Addr} {sl26 : Array (Option Value)} {oc26 kV26 dc26 pm26 cd26 ct26 : Value}
    {f27 : Addr} {od27 an27 : Option Addr} {sl27 : Array (Option Value)} {oc27 kV27 dc27 pm27 cd27 ct27 : Value}
    {f28 : Addr} {od28 an28 : Option Addr} {sl28 : Array (Option Value)} {oc28 kV28 dc28 pm28 cd28 ct28 : Value}
    {f29 : Addr} {od29 an29 : Option Addr} {sl29 : Array (Option Value)} {oc29 kV29 dc29 pm29 cd29 ct29 : Value}
    {f30 : Addr} {od30 an30 : Option Addr} {sl30 : Array (Option Value)} {oc30 kV30 dc30 pm30 cd30 ct30 : Value}
    {f31 : Addr} {od31 an31 : Option Addr} {sl31 : Array (Option Value)} {oc31 kV31 dc31 pm31 cd31 ct31 : Value}
    {f32 : Addr} {od32 an32 : Option Addr} {sl32 : Array (Option Value)} {oc32 kV32 dc32 pm32 cd32 ct32 : Value}
    {tk_GREATEST : Tok}
    {tk_MOST_SIGNS : Tok}
    {tk_MOST_LEVELS : Tok}
    {tk_ALL_SIGNS : Tok}
    {tk_LONGEST : Tok}
    (aCL : PySem.W.nsIn K mainGlobals "Level" = some (some (.ref CL)))
    (pgCL : PySem.W.plainGet K CL Str.empty = true)
    (hdCL : PySem.W.hasDictIn K CL = true)
    (poCL : PySem.W.plainOver K CL = true)
    (saCL : PySem.W.findIn K (.ref CL) "__setattr__" = some (some (.builtin "object.__setattr__")))
    (haCL : PySem.W.findIn K (.ref CL) "__class__" = some (some (.builtin "object.__class__")))
    (hmCL : PySem.W.mroIn K CL (.type "object") = some true)
    (naCL_held : PySem.W.findIn K (.ref CL) "held" = some none)
    (aCB : PySem.W.nsIn K mainGlobals "Backward" = some (some (.ref CB)))
    (pgCB : PySem.W.plainGet K CB Str.empty = true)
    (hdCB : PySem.W.hasDictIn K CB = true)
    (poCB : PySem.W.plainOver K CB = true)
    (saCB : PySem.W.findIn K (.ref CB) "__setattr__" = some (some (.builtin "object.__setattr__")))
    (haCB : PySem.W.findIn K (.ref CB) "__class__" = some (some (.builtin "object.__class__")))
    (hmCB : PySem.W.mroIn K CB (.type "object") = some true)
    (naCB_held : PySem.W.findIn K (.ref CB) "held" = some none)
    (aCBk : PySem.W.nsIn K mainGlobals "Book" = some (some (.ref CBk)))
    (pgCBk : PySem.W.plainGet K CBk Str.empty = true)
    (hdCBk : PySem.W.hasDictIn K CBk = true)
    (poCBk : PySem.W.plainOver K CBk = true)
    (saCBk : PySem.W.findIn K (.ref CBk) "__setattr__" = some (some (.builtin "object.__setattr__")))
    (haCBk : PySem.W.findIn K (.ref CBk) "__class__" = some (some (.builtin "object.__class__")))
    (hmCBk : PySem.W.mroIn K CBk (.type "object") = some true)
    (naCBk_alphabet : PySem.W.findIn K (.ref CBk) "alphabet" = some none)
    (naCBk_ladder : PySem.W.findIn K (.ref CBk) "ladder" = some none)
    (hnO : PySem.W.specialIn K (.builtin "object.__class__") "__get__" = some (some (.builtin "getset_descriptor.__get__")))
    (htO : PySem.W.takesIn K (.builtin "object.__class__") = some true)
    (isCB : PySem.W.isClsIn K CB = true)
    (tyCB : PySem.W.typeIn K (.ref CB) = some (.type "type"))
    (isCBk : PySem.W.isClsIn K CBk = true)
    (tyCBk : PySem.W.typeIn K (.ref CBk) = some (.type "type"))
    (isCL : PySem.W.isClsIn K CL = true)
    (tyCL : PySem.W.typeIn K (.ref CL) = some (.type "type"))
    (subCL_CL : PySem.W.subIn K (.ref CL) (.ref CL) = some true)
    (subCL_CB : PySem.W.subIn K (.ref CL) (.ref CB) = some false)
    (subCB_CL : PySem.W.subIn K (.ref CB) (.ref CL) = some true)
    (subCB_CB : PySem.W.subIn K (.ref CB) (.ref CB) = some true)
    (subCBk_CBk : PySem.W.subIn K (.ref CBk) (.ref CBk) = some true)
    (a1 : PySem.W.nsIn K mainGlobals "within" = some (some (.ref f1)))
    (l1 : K.lookup f1 = some ⟨oc1, od1, .func (PySem.W.fnOf "within" "within" (defArgs s_within) (defBody s_within) (defScope s_within) .none kV1 dc1 pm1 an1 cd1 ct1), sl1⟩)
    (c1 : PySem.W.codeIn K cd1 "within" = true)
    (k1 : PySem.W.keepIn K (.ref f1) = true)
    (a2 : PySem.W.nsIn K mainGlobals "are_within" = some (some (.ref f2)))
    (l2 : K.lookup f2 = some ⟨oc2, od2, .func (PySem.W.fnOf "are_within" "are_within" (defArgs s_are_within) (defBody s_are_within) (defScope s_are_within) .none kV2 dc2 pm2 an2 cd2 ct2), sl2⟩)
    (c2 : PySem.W.codeIn K cd2 "are_within" = true)
    (k2 : PySem.W.keepIn K (.ref f2) = true)
    (a3 : PySem.W.nsIn K mainGlobals "is_name" = some (some (.ref f3)))
    (l3 : K.lookup f3 = some ⟨oc3, od3, .func (PySem.W.fnOf "is_name" "is_name" (defArgs s_is_name) (defBody s_is_name) (defScope s_is_name) .none kV3 dc3 pm3 an3 cd3 ct3), sl3⟩)
    (c3 : PySem.W.codeIn K cd3 "is_name" = true)
    (k3 : PySem.W.keepIn K (.ref f3) = true)
    (a4 : PySem.W.nsIn K mainGlobals "weighed" = some (some (.ref f4)))
    (l4 : K.lookup f4 = some ⟨oc4, od4, .func (PySem.W.fnOf "weighed" "weighed" (defArgs s_weighed) (defBody s_weighed) (defScope s_weighed) .none kV4 dc4 pm4 an4 cd4 ct4), sl4⟩)
    (c4 : PySem.W.codeIn K cd4 "weighed" = true)
    (k4 : PySem.W.keepIn K (.ref f4) = true)
    (a5 : PySem.W.nsIn K mainGlobals "_law_cell_at" = some (some (.ref f5)))
    (l5 : K.lookup f5 = some ⟨oc5, od5, .func (PySem.W.fnOf "_law_cell_at" "_law_cell_at" (defArgs s__law_cell_at) (defBody s__law_cell_at) (defScope s__law_cell_at) .none kV5 dc5 pm5 an5 cd5 ct5), sl5⟩)
    (c5 : PySem.W.codeIn K cd5 "_law_cell_at" = true)
    (k5 : PySem.W.keepIn K (.ref f5) = true)
    (a6 : PySem.W.nsIn K mainGlobals "_law_draw" = some (some (.ref f6)))
    (l6 : K.lookup f6 = some ⟨oc6, od6, .func (PySem.W.fnOf "_law_draw" "_law_draw" (defArgs s__law_draw) (defBody s__law_draw) (defScope s__law_draw) .none kV6 dc6 pm6 an6 cd6 ct6), sl6⟩)
    (c6 : PySem.W.codeIn K cd6 "_law_draw" = true)
    (k6 : PySem.W.keepIn K (.ref f6) = true)
    (a7 : PySem.W.nsIn K mainGlobals "_law_number" = some (some (.ref f7)))
    (l7 : K.lookup f7 = some ⟨oc7, od7, .func (PySem.W.fnOf "_law_number" "_law_number" (defArgs s__law_number) (defBody s__law_number) (defScope s__law_number) .none kV7 dc7 pm7 an7 cd7 ct7), sl7⟩)
    (c7 : PySem.W.codeIn K cd7 "_law_number" = true)
    (k7 : PySem.W.keepIn K (.ref f7) = true)
    (a8 : PySem.W.nsIn K mainGlobals "_law_signs" = some (some (.ref f8)))
    (l8 : K.lookup f8 = some ⟨oc8, od8, .func (PySem.W.fnOf "_law_signs" "_law_signs" (defArgs s__law_signs) (defBody s__law_signs) (defScope s__law_signs) .none kV8 dc8 pm8 an8 cd8 ct8), sl8⟩)
    (c8 : PySem.W.codeIn K cd8 "_law_signs" = true)
    (k8 : PySem.W.keepIn K (.ref f8) = true)
    (a9 : PySem.W.nsIn K mainGlobals "_law_alphabet" = some (some (.ref f9)))
    (l9 : K.lookup f9 = some ⟨oc9, od9, .func (PySem.W.fnOf "_law_alphabet" "_law_alphabet" (defArgs s__law_alphabet) (defBody s__law_alphabet) (defScope s__law_alphabet) .none kV9 dc9 pm9 an9 cd9 ct9), sl9⟩)
    (c9 : PySem.W.codeIn K cd9 "_law_alphabet" = true)
    (k9 : PySem.W.keepIn K (.ref f9) = true)
    (a10 : PySem.W.nsIn K mainGlobals "_law_ranks" = some (some (.ref f10)))
    (l10 : K.lookup f10 = some ⟨oc10, od10, .func (PySem.W.fnOf "_law_ranks" "_law_ranks" (defArgs s__law_ranks) (defBody s__law_ranks) (defScope s__law_ranks) .none kV10 dc10 pm10 an10 cd10 ct10), sl10⟩)
    (c10 : PySem.W.codeIn K cd10 "_law_ranks" = true)
    (k10 : PySem.W.keepIn K (.ref f10) = true)
    (a11 : PySem.W.nsIn K mainGlobals "_law_told" = some (some (.ref f11)))
    (l11 : K.lookup f11 = some ⟨oc11, od11, .func (PySem.W.fnOf "_law_told" "_law_told" (defArgs s__law_told) (defBody s__law_told) (defScope s__law_told) .none kV11 dc11 pm11 an11 cd11 ct11), sl11⟩)
    (c11 : PySem.W.codeIn K cd11 "_law_told" = true)
    (k11 : PySem.W.keepIn K (.ref f11) = true)
    (a12 : PySem.W.nsIn K mainGlobals "_law_name" = some (some (.ref f12)))
    (l12 : K.lookup f12 = some ⟨oc12, od12, .func (PySem.W.fnOf "_law_name" "_law_name" (defArgs s__law_name) (defBody s__law_name) (defScope s__law_name) .none kV12 dc12 pm12 an12 cd12 ct12), sl12⟩)
    (c12 : PySem.W.codeIn K cd12 "_law_name" = true)
    (k12 : PySem.W.keepIn K (.ref f12) = true)
    (a13 : PySem.W.nsIn K mainGlobals "_law_names" = some (some (.ref f13)))
    (l13 : K.lookup f13 = some ⟨oc13, od13, .func (PySem.W.fnOf "_law_names" "_law_names" (defArgs s__law_names) (defBody s__law_names) (defScope s__law_names) .none kV13 dc13 pm13 an13 cd13 ct13), sl13⟩)
    (c13 : PySem.W.codeIn K cd13 "_law_names" = true)
    (k13 : PySem.W.keepIn K (.ref f13) = true)
    (a14 : PySem.W.nsIn K mainGlobals "_law_book" = some (some (.ref f14)))
    (l14 : K.lookup f14 = some ⟨oc14, od14, .func (PySem.W.fnOf "_law_book" "_law_book" (defArgs s__law_book) (defBody s__law_book) (defScope s__law_book) .none kV14 dc14 pm14 an14 cd14 ct14), sl14⟩)
    (c14 : PySem.W.codeIn K cd14 "_law_book" = true)
    (k14 : PySem.W.keepIn K (.ref f14) = true)
    (a15 : PySem.W.nsIn K mainGlobals "_law_row" = some (some (.ref f15)))
    (l15 : K.lookup f15 = some ⟨oc15, od15, .func (PySem.W.fnOf "_law_row" "_law_row" (defArgs s__law_row) (defBody s__law_row) (defScope s__law_row) .none kV15 dc15 pm15 an15 cd15 ct15), sl15⟩)
    (c15 : PySem.W.codeIn K cd15 "_law_row" = true)
    (k15 : PySem.W.keepIn K (.ref f15) = true)
    (a16 : PySem.W.nsIn K mainGlobals "_law_weigh" = some (some (.ref f16)))
    (l16 : K.lookup f16 = some ⟨oc16, od16, .func (PySem.W.fnOf "_law_weigh" "_law_weigh" (defArgs s__law_weigh) (defBody s__law_weigh) (defScope s__law_weigh) .none kV16 dc16 pm16 an16 cd16 ct16), sl16⟩)
    (c16 : PySem.W.codeIn K cd16 "_law_weigh" = true)
    (k16 : PySem.W.keepIn K (.ref f16) = true)
    (a17 : PySem.W.nsIn K mainGlobals "_law_near" = some (some (.ref f17)))
    (l17 : K.lookup f17 = some ⟨oc17, od17, .func (PySem.W.fnOf "_law_near" "_law_near" (defArgs s__law_near) (defBody s__law_near) (defScope s__law_near) .none kV17 dc17 pm17 an17 cd17 ct17), sl17⟩)
    (c17 : PySem.W.codeIn K cd17 "_law_near" = true)
    (k17 : PySem.W.keepIn K (.ref f17) = true)
    (a18 : PySem.W.nsIn K mainGlobals "_law_right" = some (some (.ref f18)))
    (l18 : K.lookup f18 = some ⟨oc18, od18, .func (PySem.W.fnOf "_law_right" "_law_right" (defArgs s__law_right) (defBody s__law_right) (defScope s__law_right) .none kV18 dc18 pm18 an18 cd18 ct18), sl18⟩)
    (c18 : PySem.W.codeIn K cd18 "_law_right" = true)
    (k18 : PySem.W.keepIn K (.ref f18) = true)
    (a19 : PySem.W.nsIn K mainGlobals "law" = some (some (.ref f19)))
    (l19 : K.lookup f19 = some ⟨oc19, od19, .func (PySem.W.fnOf "law" "law" (defArgs s_law) (defBody s_law) (defScope s_law) .none kV19 dc19 pm19 an19 cd19 ct19), sl19⟩)
    (c19 : PySem.W.codeIn K cd19 "law" = true)
    (k19 : PySem.W.keepIn K (.ref f19) = true)
    (i20_CL : PySem.W.findIn K (.ref CL) "ranks" = some (some (.ref f20)))
    (g20 : PySem.W.isFn K (.ref f20) = true)
    (l20 : K.lookup f20 = some ⟨oc20, od20, .func (PySem.W.fnOf "ranks" "Level.ranks" (defArgs s_Level_ranks) (defBody s_Level_ranks) (defScope s_Level_ranks) .none kV20 dc20 pm20 an20 cd20 ct20), sl20⟩)
    (c20 : PySem.W.codeIn K cd20 "Level.ranks" = true)
    (k20 : PySem.W.keepIn K (.ref f20) = true)
    (i20_CB : PySem.W.findIn K (.ref CB) "ranks" = some (some (.ref f20)))
    (i21_CL : PySem.W.findIn K (.ref CL) "seen" = some (some (.ref f21)))
    (g21 : PySem.W.isFn K (.ref f21) = true)
    (l21 : K.lookup f21 = some ⟨oc21, od21, .func (PySem.W.fnOf "seen" "Level.seen" (defArgs s_Level_seen) (defBody s_Level_seen) (defScope s_Level_seen) .none kV21 dc21 pm21 an21 cd21 ct21), sl21⟩)
    (c21 : PySem.W.codeIn K cd21 "Level.seen" = true)
    (k21 : PySem.W.keepIn K (.ref f21) = true)
    (i22_CB : PySem.W.findIn K (.ref CB) "seen" = some (some (.ref f22)))
    (g22 : PySem.W.isFn K (.ref f22) = true)
    (l22 : K.lookup f22 = some ⟨oc22, od22, .func (PySem.W.fnOf "seen" "Backward.seen" (defArgs s_Backward_seen) (defBody s_Backward_seen) (defScope s_Backward_seen) .none kV22 dc22 pm22 an22 cd22 ct22), sl22⟩)
    (c22 : PySem.W.codeIn K cd22 "Backward.seen" = true)
    (k22 : PySem.W.keepIn K (.ref f22) = true)
    (i23_CL : PySem.W.findIn K (.ref CL) "weigh" = some (some (.ref f23)))
    (g23 : PySem.W.isFn K (.ref f23) = true)
    (l23 : K.lookup f23 = some ⟨oc23, od23, .func (PySem.W.fnOf "weigh" "Level.weigh" (defArgs s_Level_weigh) (defBody s_Level_weigh) (defScope s_Level_weigh) .none kV23 dc23 pm23 an23 cd23 ct23), sl23⟩)
    (c23 : PySem.W.codeIn K cd23 "Level.weigh" = true)
    (k23 : PySem.W.keepIn K (.ref f23) = true)
    (i23_CB : PySem.W.findIn K (.ref CB) "weigh" = some (some (.ref f23)))
    (i24_CBk : PySem.W.findIn K (.ref CBk) "signs" = some (some (.ref f24)))
    (g24 : PySem.W.isFn K (.ref f24) = true)
    (l24 : K.lookup f24 = some ⟨oc24, od24, .func (PySem.W.fnOf "signs" "Book.signs" (defArgs s_Book_signs) (defBody s_Book_signs) (defScope s_Book_signs) .none kV24 dc24 pm24 an24 cd24 ct24), sl24⟩)
    (c24 : PySem.W.codeIn K cd24 "Book.signs" = true)
    (k24 : PySem.W.keepIn K (.ref f24) = true)
    (i25_CBk : PySem.W.findIn K (.ref CBk) "levels" = some (some (.ref f25)))
    (g25 : PySem.W.isFn K (.ref f25) = true)
    (l25 : K.lookup f25 = some ⟨oc25, od25, .func (PySem.W.fnOf "levels" "Book.levels" (defArgs s_Book_levels) (defBody s_Book_levels) (defScope s_Book_levels) .none kV25 dc25 pm25 an25 cd25 ct25), sl25⟩)
    (c25 : PySem.W.codeIn K cd25 "Book.levels" = true)
    (k25 : PySem.W.keepIn K (.ref f25) = true)
    (i26_CBk : PySem.W.findIn K (.ref CBk) "check_name" = some (some (.ref f26)))
    (g26 : PySem.W.isFn K (.ref f26) = true)
    (l26 : K.lookup f26 = some ⟨oc26, od26, .func (PySem.W.fnOf "check_name" "Book.check_name" (defArgs s_Book_check_name) (defBody s_Book_check_name) (defScope s_Book_check_name) .none kV26 dc26 pm26 an26 cd26 ct26), sl26⟩)
    (c26 : PySem.W.codeIn K cd26 "Book.check_name" = true)
    (k26 : PySem.W.keepIn K (.ref f26) = true)
    (i27_CBk : PySem.W.findIn K (.ref CBk) "kept_of" = some (some (.ref f27)))
    (g27 : PySem.W.isFn K (.ref f27) = true)
    (l27 : K.lookup f27 = some ⟨oc27, od27, .func (PySem.W.fnOf "kept_of" "Book.kept_of" (defArgs s_Book_kept_of) (defBody s_Book_kept_of) (defScope s_Book_kept_of) .none kV27 dc27 pm27 an27 cd27 ct27), sl27⟩)
    (c27 : PySem.W.codeIn K cd27 "Book.kept_of" = true)
    (k27 : PySem.W.keepIn K (.ref f27) = true)
    (i28_CBk : PySem.W.findIn K (.ref CBk) "kept" = some (some (.ref f28)))
    (g28 : PySem.W.isFn K (.ref f28) = true)
    (l28 : K.lookup f28 = some ⟨oc28, od28, .func (PySem.W.fnOf "kept" "Book.kept" (defArgs s_Book_kept) (defBody s_Book_kept) (defScope s_Book_kept) .none kV28 dc28 pm28 an28 cd28 ct28), sl28⟩)
    (c28 : PySem.W.codeIn K cd28 "Book.kept" = true)
    (k28 : PySem.W.keepIn K (.ref f28) = true)
    (i29_CBk : PySem.W.findIn K (.ref CBk) "weigh_of" = some (some (.ref f29)))
    (g29 : PySem.W.isFn K (.ref f29) = true)
    (l29 : K.lookup f29 = some ⟨oc29, od29, .func (PySem.W.fnOf "weigh_of" "Book.weigh_of" (defArgs s_Book_weigh_of) (defBody s_Book_weigh_of) (defScope s_Book_weigh_of) .none kV29 dc29 pm29 an29 cd29 ct29), sl29⟩)
    (c29 : PySem.W.codeIn K cd29 "Book.weigh_of" = true)
    (k29 : PySem.W.keepIn K (.ref f29) = true)
    (i30_CBk : PySem.W.findIn K (.ref CBk) "weigh" = some (some (.ref f30)))
    (g30 : PySem.W.isFn K (.ref f30) = true)
    (l30 : K.lookup f30 = some ⟨oc30, od30, .func (PySem.W.fnOf "weigh" "Book.weigh" (defArgs s_Book_weigh) (defBody s_Book_weigh) (defScope s_Book_weigh) .none kV30 dc30 pm30 an30 cd30 ct30), sl30⟩)
    (c30 : PySem.W.codeIn K cd30 "Book.weigh" = true)
    (k30 : PySem.W.keepIn K (.ref f30) = true)
    (i31_CL : PySem.W.findIn K (.ref CL) "__init__" = some (some (.ref f31)))
    (g31 : PySem.W.isFn K (.ref f31) = true)
    (l31 : K.lookup f31 = some ⟨oc31, od31, .func (PySem.W.fnOf "__init__" "Level.__init__" (defArgs s_Level___init__) (defBody s_Level___init__) (defScope s_Level___init__) .none kV31 dc31 pm31 an31 cd31 ct31), sl31⟩)
    (c31 : PySem.W.codeIn K cd31 "Level.__init__" = true)
    (k31 : PySem.W.keepIn K (.ref f31) = true)
    (mkCL : PySem.W.makesIn K CL = true)
    (kcCL : PySem.W.keepIn K (.ref CL) = true)
    (i31_CB : PySem.W.findIn K (.ref CB) "__init__" = some (some (.ref f31)))
    (mkCB : PySem.W.makesIn K CB = true)
    (kcCB : PySem.W.keepIn K (.ref CB) = true)
    (i32_CBk : PySem.W.findIn K (.ref CBk) "__init__" = some (some (.ref f32)))
    (g32 : PySem.W.isFn K (.ref f32) = true)
    (l32 : K.lookup f32 = some ⟨oc32, od32, .func (PySem.W.fnOf "__init__" "Book.__init__" (defArgs s_Book___init__) (defBody s_Book___init__) (defScope s_Book___init__) .none kV32 dc32 pm32 an32 cd32 ct32), sl32⟩)
    (c32 : PySem.W.codeIn K cd32 "Book.__init__" = true)
    (k32 : PySem.W.keepIn K (.ref f32) = true)
    (mkCBk : PySem.W.makesIn K CBk = true)
    (kcCBk : PySem.W.keepIn K (.ref CBk) = true)
    (z_all : PySem.W.nsIn K mainGlobals "all" = some none)
    (z_bool : PySem.W.nsIn K mainGlobals "bool" = some none)
    (z_int : PySem.W.nsIn K mainGlobals "int" = some none)
    (z_isinstance : PySem.W.nsIn K mainGlobals "isinstance" = some none)
    (z_len : PySem.W.nsIn K mainGlobals "len" = some none)
    (z_list : PySem.W.nsIn K mainGlobals "list" = some none)
    (z_range : PySem.W.nsIn K mainGlobals "range" = some none)
    (z_set : PySem.W.nsIn K mainGlobals "set" = some none)
    (z_str : PySem.W.nsIn K mainGlobals "str" = some none)
    (z_zip : PySem.W.nsIn K mainGlobals "zip" = some none)
    (v_GREATEST : PySem.W.nsIn K mainGlobals "GREATEST" = some (some (.int 99 tk_GREATEST)))
    (v_MOST_SIGNS : PySem.W.nsIn K mainGlobals "MOST_SIGNS" = some (some (.int 8 tk_MOST_SIGNS)))
    (v_MOST_LEVELS : PySem.W.nsIn K mainGlobals "MOST_LEVELS" = some (some (.int 3 tk_MOST_LEVELS)))
    (v_ALL_SIGNS : PySem.W.nsIn K mainGlobals "ALL_SIGNS" = some (some (.str (tx allS) tk_ALL_SIGNS)))
    (v_LONGEST : PySem.W.nsIn K mainGlobals "LONGEST" = some (some (.int 20 tk_LONGEST))) :
    ∃ fd : FuncData, (∀ (s : Shared) (v : Value), BindsTo s fd ⟨[v], []⟩ [("_law_script", v)]) ∧ ∀ base : Heap, K.In base → base.Ns mainGlobals mg → FnOk l.prog w K mg base CX0 6 fa fd ["_law_script"] (spLaw K) := by
  have e := hfa.symm.trans (PySem.W.mg_of X G a19)
  cases e
  have m_Level : mg "Level" = some (.ref CL) := PySem.W.mg_of X G aCL
  have cl_CL : Cls K CL := ⟨pgCL, hdCL, poCL, saCL⟩
  have ci_CL : ClsI K CL := ⟨cl_CL, haCL, hnO, htO, hmCL⟩
  have m_Backward : mg "Backward" = some (.ref CB) := PySem.W.mg_of X G aCB
  have cl_CB : Cls K CB := ⟨pgCB, hdCB, poCB, saCB⟩
  have ci_CB : ClsI K CB := ⟨cl_CB, haCB, hnO, htO, hmCB⟩
  have m_Book : mg "Book" = some (.ref CBk) := PySem.W.mg_of X G aCBk
  have cl_CBk : Cls K CBk := ⟨pgCBk, hdCBk, poCBk, saCBk⟩
  have ci_CBk : ClsI K CBk := ⟨cl_CBk, haCBk, hnO, htO, hmCBk⟩
  have kitCL_CL : PySem.W.kitOne K (.ref CL) (.ref CL) = some true := kit_sub isCL tyCL subCL_CL subCL_CL
  have kitCL_CB : PySem.W.kitOne K (.ref CL) (.ref CB) = some false := kit_sub isCB tyCB subCL_CB subCL_CL
  have kitCB_CL : PySem.W.kitOne K (.ref CB) (.ref CL) = some true := kit_sub isCL tyCL subCB_CL subCB_CB
  have kitCB_CB : PySem.W.kitOne K (.ref CB) (.ref CB) = some true := kit_sub isCB tyCB subCB_CB subCB_CB
  have kitCBk_CBk : PySem.W.kitOne K (.ref CBk) (.ref CBk) = some true := kit_sub isCBk tyCBk subCBk_CBk subCBk_CBk
  have F1 := fun_mk (st := s_within) l1 c1 k1
  have B1 := F1.binds (ps := ["thing", "low", "high"]) fun _ _ _ _ _ _ us hl => match us, hl with | [_, _, _], _ => rfl
  have T_within : FT K mg "within" "within" s_within ["thing", "low", "high"] := ⟨_, _, F1, PySem.W.mg_of X G a1, B1⟩
  have F2 := fun_mk (st := s_are_within) l2 c2 k2
  have B2 := F2.binds (ps := ["thing", "low", "high"]) fun _ _ _ _ _ _ us hl => match us, hl with | [_, _, _], _ => rfl
  have T_are_within : FT K mg "are_within" "are_within" s_are_within ["thing", "low", "high"] := ⟨_, _, F2, PySem.W.mg_of X G a2, B2⟩
  have F3 := fun_mk (st := s_is_name) l3 c3 k3
  have B3 := F3.binds (ps := ["thing", "signs"]) fun _ _ _ _ _ _ us hl => match us, hl with | [_, _], _ => rfl
  have T_is_name : FT K mg "is_name" "is_name" s_is_name ["thing", "signs"] := ⟨_, _, F3, PySem.W.mg_of X G a3, B3⟩
  have F4 := fun_mk (st := s_weighed) l4 c4 k4
  have B4 := F4.binds (ps := ["one", "other"]) fun _ _ _ _ _ _ us hl => match us, hl with | [_, _], _ => rfl
  have T_weighed : FT K mg "weighed" "weighed" s_weighed ["one", "other"] := ⟨_, _, F4, PySem.W.mg_of X G a4, B4⟩
  have F5 := fun_mk (st := s__law_cell_at) l5 c5 k5
  have B5 := F5.binds (ps := ["_law_script", "_law_k"]) fun _ _ _ _ _ _ us hl => match us, hl with | [_, _], _ => rfl
  have T__law_cell_at : FT K mg "_law_cell_at" "_law_cell_at" s__law_cell_at ["_law_script", "_law_k"] := ⟨_, _, F5, PySem.W.mg_of X G a5, B5⟩
  have F6 := fun_mk (st := s__law_draw) l6 c6 k6
  have B6 := F6.binds (ps := ["_law_cell", "_law_k", "_law_most"]) fun _ _ _ _ _ _ us hl => match us, hl with | [_, _, _], _ => rfl
  have T__law_draw : FT K mg "_law_draw" "_law_draw" s__law_draw ["_law_cell", "_law_k", "_law_most"] := ⟨_, _, F6, PySem.W.mg_of X G a6, B6⟩
  have F7 := fun_mk (st := s__law_number) l7 c7 k7
  have B7 := F7.binds (ps := ["_law_cell", "_law_k", "_law_limit"]) fun _ _ _ _ _ _ us hl => match us, hl with | [_, _, _], _ => rfl
  have T__law_number : FT K mg "_law_number" "_law_number" s__law_number ["_law_cell", "_law_k", "_law_limit"] := ⟨_, _, F7, PySem.W.mg_of X G a7, B7⟩
  have F8 := fun_mk (st := s__law_signs) l8 c8 k8
  have B8 := F8.binds (ps := []) fun _ _ _ _ _ _ us hl => match us, hl with | [], _ => rfl
  have T__law_signs : FT K mg "_law_signs" "_law_signs" s__law_signs [] := ⟨_, _, F8, PySem.W.mg_of X G a8, B8⟩
  have F9 := fun_mk (st := s__law_alphabet) l9 c9 k9
  have B9 := F9.binds (ps := ["_law_cell", "_law_most"]) fun _ _ _ _ _ _ us hl => match us, hl with | [_, _], _ => rfl
  have T__law_alphabet : FT K mg "_law_alphabet" "_law_alphabet" s__law_alphabet ["_law_cell", "_law_most"] := ⟨_, _, F9, PySem.W.mg_of X G a9, B9⟩
  have F10 := fun_mk (st := s__law_ranks) l10 c10 k10
  have B10 := F10.binds (ps := ["_law_cell", "_law_k", "_law_many"]) fun _ _ _ _ _ _ us hl => match us, hl with | [_, _, _], _ => rfl
  have T__law_ranks : FT K mg "_law_ranks" "_law_ranks" s__law_ranks ["_law_cell", "_law_k", "_law_many"] := ⟨_, _, F10, PySem.W.mg_of X G a10, B10⟩
  have F11 := fun_mk (st := s__law_told) l11 c11 k11
  have B11 := F11.binds (ps := ["_law_cell", "_law_many"]) fun _ _ _ _ _ _ us hl => match us, hl with | [_, _], _ => rfl
  have T__law_told : FT K mg "_law_told" "_law_told" s__law_told ["_law_cell", "_law_many"] := ⟨_, _, F11, PySem.W.mg_of X G a11, B11⟩
  have F12 := fun_mk (st := s__law_name) l12 c12 k12
  have B12 := F12.binds (ps := ["_law_script", "_law_by", "_law_signs_here", "_law_most"]) fun _ _ _ _ _ _ us hl => match us, hl with | [_, _, _, _], _ => rfl
  have T__law_name : FT K mg "_law_name" "_law_name" s__law_name ["_law_script", "_law_by", "_law_signs_here", "_law_most"] := ⟨_, _, F12, PySem.W.mg_of X G a12, B12⟩
  have F13 := fun_mk (st := s__law_names) l13 c13 k13
  have B13 := F13.binds (ps := ["_law_script", "_law_by", "_law_signs_here", "_law_many", "_law_most"]) fun _ _ _ _ _ _ us hl => match us, hl with | [_, _, _, _, _], _ => rfl
  have T__law_names : FT K mg "_law_names" "_law_names" s__law_names ["_law_script", "_law_by", "_law_signs_here", "_law_many", "_law_most"] := ⟨_, _, F13, PySem.W.mg_of X G a13, B13⟩
  have F14 := fun_mk (st := s__law_book) l14 c14 k14
  have B14 := F14.binds (ps := ["_law_signs_here", "_law_levels"]) fun _ _ _ _ _ _ us hl => match us, hl with | [_, _], _ => rfl
  have T__law_book : FT K mg "_law_book" "_law_book" s__law_book ["_law_signs_here", "_law_levels"] := ⟨_, _, F14, PySem.W.mg_of X G a14, B14⟩
  have F15 := fun_mk (st := s__law_row) l15 c15 k15
  have B15 := F15.binds (ps := ["_law_signs_here", "_law_levels", "_law_at", "_law_name_here"]) fun _ _ _ _ _ _ us hl => match us, hl with | [_, _, _, _], _ => rfl
  have T__law_row : FT K mg "_law_row" "_law_row" s__law_row ["_law_signs_here", "_law_levels", "_law_at", "_law_name_here"] := ⟨_, _, F15, PySem.W.mg_of X G a15, B15⟩
  have F16 := fun_mk (st := s__law_weigh) l16 c16 k16
  have B16 := F16.binds (ps := ["_law_signs_here", "_law_levels", "_law_one", "_law_other"]) fun _ _ _ _ _ _ us hl => match us, hl with | [_, _, _, _], _ => rfl
  have T__law_weigh : FT K mg "_law_weigh" "_law_weigh" s__law_weigh ["_law_signs_here", "_law_levels", "_law_one", "_law_other"] := ⟨_, _, F16, PySem.W.mg_of X G a16, B16⟩
  have F17 := fun_mk (st := s__law_near) l17 c17 k17
  have B17 := F17.binds (ps := ["_law_name_here", "_law_signs_here", "_law_cell"]) fun _ _ _ _ _ _ us hl => match us, hl with | [_, _, _], _ => rfl
  have T__law_near : FT K mg "_law_near" "_law_near" s__law_near ["_law_name_here", "_law_signs_here", "_law_cell"] := ⟨_, _, F17, PySem.W.mg_of X G a17, B17⟩
  have F18 := fun_mk (st := s__law_right) l18 c18 k18
  have B18 := F18.binds (ps := ["_law_book_here", "_law_signs_here", "_law_levels", "_law_one", "_law_other"]) fun _ _ _ _ _ _ us hl => match us, hl with | [_, _, _, _, _], _ => rfl
  have T__law_right : FT K mg "_law_right" "_law_right" s__law_right ["_law_book_here", "_law_signs_here", "_law_levels", "_law_one", "_law_other"] := ⟨_, _, F18, PySem.W.mg_of X G a18, B18⟩
  have F19 := fun_mk (st := s_law) l19 c19 k19
  have B19 := F19.binds (ps := ["_law_script"]) fun _ _ _ _ _ _ us hl => match us, hl with | [_], _ => rfl
  have T_law : FT K mg "law" "law" s_law ["_law_script"] := ⟨_, _, F19, PySem.W.mg_of X G a19, B19⟩
  have F20 := fun_mk (st := s_Level_ranks) l20 c20 k20
  have B20 := F20.binds (ps := ["self"]) fun _ _ _ _ _ _ us hl => match us, hl with | [_], _ => rfl
  have T_CL_ranks : FTm K "ranks" "Level.ranks" CL s_Level_ranks ["self"] := ⟨_, _, F20, ⟨i20_CL, g20, k20⟩, B20, cl_CL⟩
  have T_CB_ranks : FTm K "ranks" "Level.ranks" CB s_Level_ranks ["self"] := ⟨_, _, F20, ⟨i20_CB, g20, k20⟩, B20, cl_CB⟩
  have F21 := fun_mk (st := s_Level_seen) l21 c21 k21
  have B21 := F21.binds (ps := ["self", "row"]) fun _ _ _ _ _ _ us hl => match us, hl with | [_, _], _ => rfl
  have T_CL_seen : FTm K "seen" "Level.seen" CL s_Level_seen ["self", "row"] := ⟨_, _, F21, ⟨i21_CL, g21, k21⟩, B21, cl_CL⟩
  have F22 := fun_mk (st := s_Backward_seen) l22 c22 k22
  have B22 := F22.binds (ps := ["self", "row"]) fun _ _ _ _ _ _ us hl => match us, hl with | [_, _], _ => rfl
  have T_CB_seen : FTm K "seen" "Backward.seen" CB s_Backward_seen ["self", "row"] := ⟨_, _, F22, ⟨i22_CB, g22, k22⟩, B22, cl_CB⟩
  have F23 := fun_mk (st := s_Level_weigh) l23 c23 k23
  have B23 := F23.binds (ps := ["self", "one", "other"]) fun _ _ _ _ _ _ us hl => match us, hl with | [_, _, _], _ => rfl
  have T_CL_weigh : FTm K "weigh" "Level.weigh" CL s_Level_weigh ["self", "one", "other"] := ⟨_, _, F23, ⟨i23_CL, g23, k23⟩, B23, cl_CL⟩
  have T_CB_weigh : FTm K "weigh" "Level.weigh" CB s_Level_weigh ["self", "one", "other"] := ⟨_, _, F23, ⟨i23_CB, g23, k23⟩, B23, cl_CB⟩
  have F24 := fun_mk (st := s_Book_signs) l24 c24 k24
  have B24 := F24.binds (ps := ["self"]) fun _ _ _ _ _ _ us hl => match us, hl with | [_], _ => rfl
  have T_CBk_signs : FTm K "signs" "Book.signs" CBk s_Book_signs ["self"] := ⟨_, _, F24, ⟨i24_CBk, g24, k24⟩, B24, cl_CBk⟩
  have F25 := fun_mk (st := s_Book_levels) l25 c25 k25
  have B25 := F25.binds (ps := ["self"]) fun _ _ _ _ _ _ us hl => match us, hl with | [_], _ => rfl
  have T_CBk_levels : FTm K "levels" "Book.levels" CBk s_Book_levels ["self"] := ⟨_, _, F25, ⟨i25_CBk, g25, k25⟩, B25, cl_CBk⟩
  have F26 := fun_mk (st := s_Book_check_name) l26 c26 k26
  have B26 := F26.binds (ps := ["self", "name"]) fun _ _ _ _ _ _ us hl => match us, hl with | [_, _], _ => rfl
  have T_CBk_check_name : FTm K "check_name" "Book.check_name" CBk s_Book_check_name ["self", "name"] := ⟨_, _, F26, ⟨i26_CBk, g26, k26⟩, B26, cl_CBk⟩
  have F27 := fun_mk (st := s_Book_kept_of) l27 c27 k27
  have B27 := F27.binds (ps := ["self", "name"]) fun _ _ _ _ _ _ us hl => match us, hl with | [_, _], _ => rfl
  have T_CBk_kept_of : FTm K "kept_of" "Book.kept_of" CBk s_Book_kept_of ["self", "name"] := ⟨_, _, F27, ⟨i27_CBk, g27, k27⟩, B27, cl_CBk⟩
  have F28 := fun_mk (st := s_Book_kept) l28 c28 k28
  have B28 := F28.binds (ps := ["self", "name"]) fun _ _ _ _ _ _ us hl => match us, hl with | [_, _], _ => rfl
  have T_CBk_kept : FTm K "kept" "Book.kept" CBk s_Book_kept ["self", "name"] := ⟨_, _, F28, ⟨i28_CBk, g28, k28⟩, B28, cl_CBk⟩
  have F29 := fun_mk (st := s_Book_weigh_of) l29 c29 k29
  have B29 := F29.binds (ps := ["self", "one", "other"]) fun _ _ _ _ _ _ us hl => match us, hl with | [_, _, _], _ => rfl
  have T_CBk_weigh_of : FTm K "weigh_of" "Book.weigh_of" CBk s_Book_weigh_of ["self", "one", "other"] := ⟨_, _, F29, ⟨i29_CBk, g29, k29⟩, B29, cl_CBk⟩
  have F30 := fun_mk (st := s_Book_weigh) l30 c30 k30
  have B30 := F30.binds (ps := ["self", "one", "other"]) fun _ _ _ _ _ _ us hl => match us, hl with | [_, _, _], _ => rfl
  have T_CBk_weigh : FTm K "weigh" "Book.weigh" CBk s_Book_weigh ["self", "one", "other"] := ⟨_, _, F30, ⟨i30_CBk, g30, k30⟩, B30, cl_CBk⟩
  have F31 := fun_mk (st := s_Level___init__) l31 c31 k31
  have B31 := F31.binds (ps := ["self", "ranks"]) fun _ _ _ _ _ _ us hl => match us, hl with | [_, _], _ => rfl
  have T_Level_init : FTk K mg "Level" "Level.__init__" CL s_Level___init__ ["self", "ranks"] := ⟨_, _, F31, m_Level, ⟨mkCL, i31_CL, g31, kcCL⟩, B31⟩
  have T_Backward_init : FTk K mg "Backward" "Level.__init__" CB s_Level___init__ ["self", "ranks"] := ⟨_, _, F31, m_Backward, ⟨mkCB, i31_CB, g31, kcCB⟩, B31⟩
  have F32 := fun_mk (st := s_Book___init__) l32 c32 k32
  have B32 := F32.binds (ps := ["self", "signs", "levels"]) fun _ _ _ _ _ _ us hl => match us, hl with | [_, _, _], _ => rfl
  have T_Book_init : FTk K mg "Book" "Book.__init__" CBk s_Book___init__ ["self", "signs", "levels"] := ⟨_, _, F32, m_Book, ⟨mkCBk, i32_CBk, g32, kcCBk⟩, B32⟩
  have b_all : mg "all" = none := PySem.W.mg_none_of X G z_all
  have b_bool : mg "bool" = none := PySem.W.mg_none_of X G z_bool
  have b_int : mg "int" = none := PySem.W.mg_none_of X G z_int
  have b_isinstance : mg "isinstance" = none := PySem.W.mg_none_of X G z_isinstance
  have b_len : mg "len" = none := PySem.W.mg_none_of X G z_len
  have b_list : mg "list" = none := PySem.W.mg_none_of X G z_list
  have b_range : mg "range" = none := PySem.W.mg_none_of X G z_range
  have b_set : mg "set" = none := PySem.W.mg_none_of X G z_set
  have b_str : mg "str" = none := PySem.W.mg_none_of X G z_str
  have b_zip : mg "zip" = none := PySem.W.mg_none_of X G z_zip
  have m_GREATEST : ∃ t, mg "GREATEST" = some (.int 99 t) := ⟨_, PySem.W.mg_of X G v_GREATEST⟩
  have m_MOST_SIGNS : ∃ t, mg "MOST_SIGNS" = some (.int 8 t) := ⟨_, PySem.W.mg_of X G v_MOST_SIGNS⟩
  have m_MOST_LEVELS : ∃ t, mg "MOST_LEVELS" = some (.int 3 t) := ⟨_, PySem.W.mg_of X G v_MOST_LEVELS⟩
  have m_ALL_SIGNS : ∃ t, mg "ALL_SIGNS" = some (.str (tx allS) t) := ⟨_, PySem.W.mg_of X G v_ALL_SIGNS⟩
  have m_LONGEST : ∃ t, mg "LONGEST" = some (.int 20 t) := ⟨_, PySem.W.mg_of X G v_LONGEST⟩
  refine ⟨PySem.W.fnOf "law" "law" (defArgs s_law) (defBody s_law) (defScope s_law) .none kV19 dc19 pm19 an19 cd19 ct19, fun s v => .of_eq rfl, fun base _ _ => ?_⟩
  have TL : TLev K mg CL CB := ⟨fun o => match o with | (false, _) => ci_CL | (true, _) => ci_CB, fun o => match o with | (false, _) => cl_CL | (true, _) => cl_CB, fun o => match o with | (false, _) => naCL_held | (true, _) => naCB_held,
      fun o => match o with | (false, _) => kitCL_CL | (true, _) => kitCB_CL, fun o => match o with | (false, _) => kitCL_CB | (true, _) => kitCB_CB⟩
  have TB : TBk K mg CBk := ⟨ci_CBk, cl_CBk, naCBk_alphabet, naCBk_ladder, kitCBk_CBk⟩
  have h_within : P_within l.prog w K mg base := ok_within b_bool b_int b_isinstance T_within
  have h_are_within : P_are_within l.prog w K mg base := ok_are_within h_within b_all b_isinstance b_list T_are_within
  have h_is_name : P_is_name l.prog w K mg base := ok_is_name b_all b_isinstance b_len b_str m_LONGEST T_is_name
  have h_weighed : P_weighed l.prog w K mg base := ok_weighed b_int T_weighed
  have h__law_cell_at : P__law_cell_at l.prog w K mg base := ok__law_cell_at b_len T__law_cell_at
  have h__law_draw : P__law_draw l.prog w K mg base := ok__law_draw  T__law_draw
  have h__law_number : P__law_number l.prog w K mg base := ok__law_number h__law_draw b_range T__law_number
  have h__law_signs : P__law_signs l.prog w K mg base := ok__law_signs  T__law_signs
  have h__law_alphabet : P__law_alphabet l.prog w K mg base := ok__law_alphabet h__law_number h__law_signs b_len b_range T__law_alphabet
  have h_Level : I_Level l.prog w K mg base CL CB := ok_Level_init h_are_within b_len b_list m_GREATEST m_MOST_SIGNS cl_CL naCL_held T_Level_init
  have h_Backward : I_Backward l.prog w K mg base CL CB := ok_Backward_init h_are_within b_len b_list m_GREATEST m_MOST_SIGNS cl_CB naCB_held T_Backward_init
  have h_Level_ranks : M_Level_ranks l.prog w K mg base CL CB := fun o => ok_Level_ranks o b_list TL (match o with | (false, _) => T_CL_ranks | (true, _) => T_CB_ranks)
  have h_Level_seen : M_Level_seen l.prog w K mg base CL CB := all_seen (ok_Level_seen  T_CL_seen) (ok_Backward_seen  T_CB_seen)
  have h_Level_weigh : M_Level_weigh l.prog w K mg base CL CB := fun o => ok_Level_weigh o h_Level_seen h_weighed (match o with | (false, _) => T_CL_weigh | (true, _) => T_CB_weigh)
  have h_Book : I_Book l.prog w K mg base CL CB CBk := ok_Book_init b_all b_isinstance b_len b_list b_set b_str m_MOST_SIGNS m_MOST_LEVELS m_ALL_SIGNS TL TB m_Level T_Book_init
  have h_Book_signs : M_Book_signs l.prog w K mg base CL CB CBk := ok_Book_signs TB T_CBk_signs
  have h_Book_levels : M_Book_levels l.prog w K mg base CL CB CBk := ok_Book_levels b_list TB T_CBk_levels
  have h_Book_check_name : M_Book_check_name l.prog w K mg base CL CB CBk := ok_Book_check_name h_is_name TB T_CBk_check_name
  have h_Book_kept_of : M_Book_kept_of l.prog w K mg base CL CB CBk := ok_Book_kept_of TL TB T_CBk_kept_of
  have h_Book_kept : M_Book_kept l.prog w K mg base CL CB CBk := ok_Book_kept h_Book_check_name h_Book_kept_of T_CBk_kept
  have h_Book_weigh_of : M_Book_weigh_of l.prog w K mg base CL CB CBk := ok_Book_weigh_of h_Book_kept_of h_Level_weigh TL TB T_CBk_weigh_of
  have h_Book_weigh : M_Book_weigh l.prog w K mg base CL CB CBk := ok_Book_weigh h_Book_check_name h_Book_weigh_of T_CBk_weigh
  have h__law_ranks : P__law_ranks l.prog w K mg base := ok__law_ranks h__law_number b_range T__law_ranks
  have h__law_told : P__law_told l.prog w K mg base := ok__law_told h__law_number h__law_ranks b_range T__law_told
  have h__law_name : P__law_name l.prog w K mg base := ok__law_name h__law_cell_at h__law_number b_len b_range T__law_name
  have h__law_names : P__law_names l.prog w K mg base := ok__law_names h__law_name b_range T__law_names
  have h__law_book : P__law_book l.prog w K mg base CL CB CBk := ok__law_book h_Backward h_Book h_Level T__law_book
  have h__law_row : P__law_row l.prog w K mg base := ok__law_row  T__law_row
  have h__law_weigh : P__law_weigh l.prog w K mg base := ok__law_weigh h__law_row b_len b_range b_zip T__law_weigh
  have h__law_near : P__law_near l.prog w K mg base := ok__law_near h__law_number b_len T__law_near
  have h__law_right : P__law_right l.prog w K mg base CL CB CBk := ok__law_right h_Book_weigh h__law_weigh b_bool b_int b_isinstance T__law_right
  have h_law : P_law l.prog w K mg base CL CB CBk := ok_law h_Backward h_Book h_Book_kept h_Book_levels h_Book_signs h_Book_weigh h_Level h_Level_ranks h__law_alphabet h__law_book h__law_cell_at h__law_names h__law_near h__law_right h__law_told b_all b_isinstance b_len b_range b_zip TL TB m_Backward T_law
  exact law_is hfa l19 h_law
theorem walk {l : PySem.W.OpenLaw} {q : Program} {loose : List Str} {XP : (Str → Option Value) → Heap → Prop} {YP : World → Heap → Prop} {d : DefRec} {K : Params → PySem.W.Frag} (hn : l.most = some 63) (hdf : d.params.defaults = [])
    (hY : ∀ (w : World) (h : Heap), YP w h → (K w.params).In h)
    (F : ∀ (w : World) (mg : Str → Option Value) (fa : Addr) (h : Heap), (K w.params).In h → h.Ns mainGlobals mg → mg d.name = some (.ref fa) →
      ∃ fd : FuncData, (∀ (s : Shared) (u : Value), BindsTo s fd ⟨[u], []⟩ [("_law_script", u)]) ∧ ∀ base : Heap, (K w.params).In base → base.Ns mainGlobals mg → FnOk l.prog w (K w.params) mg base CX0 6 fa fd ["_law_script"] (spLaw (K w.params))) :
    PySem.W.WalkO q loose XP YP l.row.toRowW d [] (fun f vs => PySem.call f vs) :=
  L2.walk_of (n := 63) (k := 6) (x := "_law_script") (CX := fun _ => CX0) (sp := fun w => spLaw (K w.params)) hn (by decide) hdf ⟨rfl, by decide, by decide⟩ hY F (fun _ _ a ns hl _ hS => ⟨a, ns, rfl, hS, hl, fun _ => rfl⟩) fun _ _ _ _ _ z => z
end Law
open PySem PySem.W PyProof.Rows
set_option maxRecDepth 100000 in
set_option maxHeartbeats 0 in
theorem PySem.Challenge.cw_filedcards_k02_whole_weighed_holds : PySem.Challenge.rw_filedcards_k02_whole_weighed.Holds := by
  w_on; o_law; k_head; (case hw => w_witness2)
  k_fill
  refine Law.walk (l := PySem.Challenge.rw_filedcards_k02_whole_weighed) rfl rfl (fun w h Y => PySem.W.kIn_of Y) ?F
  case F =>
    intro w mg fa h KX G hmg
    refine' Law.all_mk KX G hmg ?aCL ?pgCL ?hdCL ?poCL ?saCL ?haCL ?hmCL ?naCL_held ?aCB ?pgCB ?hdCB ?poCB ?saCB ?haCB ?hmCB ?naCB_held ?aCBk ?pgCBk ?hdCBk ?poCBk ?saCBk ?haCBk ?hmCBk ?naCBk_alphabet ?naCBk_ladder ?hnO ?htO ?isCB ?tyCB ?isCBk ?tyCBk ?isCL ?tyCL ?subCL_CL ?subCL_CB ?subCB_CL ?subCB_CB ?subCBk_CBk ?a1 ?l1 ?c1 ?k1 ?a2 ?l2 ?c2 ?k2 ?a3 ?l3 ?c3 ?k3 ?a4 ?l4 ?c4 ?k4 ?a5 ?l5 ?c5 ?k5 ?a6 ?l6 ?c6 ?k6 ?a7 ?l7 ?c7 ?k7 ?a8 ?l8 ?c8 ?k8 ?a9 ?l9 ?c9 ?k9 ?a10 ?l10 ?c10 ?k10 ?a11 ?l11 ?c11 ?k11 ?a12 ?l12 ?c12 ?k12 ?a13 ?l13 ?c13 ?k13 ?a14 ?l14 ?c14 ?k14 ?a15 ?l15 ?c15 ?k15 ?a16 ?l16 ?c16 ?k16 ?a17 ?l17 ?c17 ?k17 ?a18 ?l18 ?c18 ?k18 ?a19 ?l19 ?c19 ?k19 ?i20_CL ?g20 ?l20 ?c20 ?k20 ?i20_CB ?i21_CL ?g21 ?l21 ?c21 ?k21 ?i22_CB ?g22 ?l22 ?c22 ?k22 ?i23_CL ?g23 ?l23 ?c23 ?k23 ?i23_CB ?i24_CBk ?g24 ?l24 ?c24 ?k24 ?i25_CBk ?g25 ?l25 ?c25 ?k25 ?i26_CBk ?g26 ?l26 ?c26 ?k26 ?i27_CBk ?g27 ?l27 ?c27 ?k27 ?i28_CBk ?g28 ?l28 ?c28 ?k28 ?i29_CBk ?g29 ?l29 ?c29 ?k29 ?i30_CBk ?g30 ?l30 ?c30 ?k30 ?i31_CL ?g31 ?l31 ?c31 ?k31 ?mkCL ?kcCL ?i31_CB ?mkCB ?kcCB ?i32_CBk ?g32 ?l32 ?c32 ?k32 ?mkCBk ?kcCBk ?z_all ?z_bool ?z_int ?z_isinstance ?z_len ?z_list ?z_range ?z_set ?z_str ?z_zip ?v_GREATEST ?v_MOST_SIGNS ?v_MOST_LEVELS ?v_ALL_SIGNS ?v_LONGEST
    (case aCL => k_is)
    (case pgCL => k_is)
    (case hdCL => k_is)
    (case poCL => k_is)
    (case saCL => k_is)
    (case haCL => k_is)
    (case hmCL => k_is)
    (case naCL_held => k_is)
    (case aCB => k_is)
    (case pgCB => k_is)
    (case hdCB => k_is)
    (case poCB => k_is)
    (case saCB => k_is)
    (case haCB => k_is)
    (case hmCB => k_is)
    (case naCB_held => k_is)
    (case aCBk => k_is)
    (case pgCBk => k_is)
    (case hdCBk => k_is)
    (case poCBk => k_is)
    (case saCBk => k_is)
    (case haCBk => k_is)
    (case hmCBk => k_is)
    (case naCBk_alphabet => k_is)
    (case naCBk_ladder => k_is)
    (case hnO => k_is)
    (case htO => k_is)
    (case isCB => k_is)
    (case tyCB => k_is)
    (case isCBk => k_is)
    (case tyCBk => k_is)
    (case isCL => k_is)
    (case tyCL => k_is)
    (case subCL_CL => k_is)
    (case subCL_CB => k_is)
    (case subCB_CL => k_is)
    (case subCB_CB => k_is)
    (case subCBk_CBk => k_is)
    (case a1 => k_is)
    (case l1 => k_is)
    (case c1 => k_is)
    (case k1 => k_is)
    (case a2 => k_is)
    (case l2 => k_is)
    (case c2 => k_is)
    (case k2 => k_is)
    (case a3 => k_is)
    (case l3 => k_is)
    (case c3 => k_is)
    (case k3 => k_is)
    (case a4 => k_is)
    (case l4 => k_is)
    (case c4 => k_is)
    (case k4 => k_is)
    (case a5 => k_is)
    (case l5 => k_is)
    (case c5 => k_is)
    (case k5 => k_is)
    (case a6 => k_is)
    (case l6 => k_is)
    (case c6 => k_is)
    (case k6 => k_is)
    (case a7 => k_is)
    (case l7 => k_is)
    (case c7 => k_is)
    (case k7 => k_is)
    (case a8 => k_is)
    (case l8 => k_is)
    (case c8 => k_is)
    (case k8 => k_is)
    (case a9 => k_is)
    (case l9 => k_is)
    (case c9 => k_is)
    (case k9 => k_is)
    (case a10 => k_is)
    (case l10 => k_is)
    (case c10 => k_is)
    (case k10 => k_is)
    (case a11 => k_is)
    (case l11 => k_is)
    (case c11 => k_is)
    (case k11 => k_is)
    (case a12 => k_is)
    (case l12 => k_is)
    (case c12 => k_is)
    (case k12 => k_is)
    (case a13 => k_is)
    (case l13 => k_is)
    (case c13 => k_is)
    (case k13 => k_is)
    (case a14 => k_is)
    (case l14 => k_is)
    (case c14 => k_is)
    (case k14 => k_is)
    (case a15 => k_is)
    (case l15 => k_is)
    (case c15 => k_is)
    (case k15 => k_is)
    (case a16 => k_is)
    (case l16 => k_is)
    (case c16 => k_is)
    (case k16 => k_is)
    (case a17 => k_is)
    (case l17 => k_is)
    (case c17 => k_is)
    (case k17 => k_is)
    (case a18 => k_is)
    (case l18 => k_is)
    (case c18 => k_is)
    (case k18 => k_is)
    (case a19 => k_is)
    (case l19 => k_is)
    (case c19 => k_is)
    (case k19 => k_is)
    (case i20_CL => k_is)
    (case g20 => k_is)
    (case l20 => k_is)
    (case c20 => k_is)
    (case k20 => k_is)
    (case i20_CB => k_is)
    (case i21_CL => k_is)
    (case g21 => k_is)
    (case l21 => k_is)
    (case c21 => k_is)
    (case k21 => k_is)
    (case i22_CB => k_is)
    (case g22 => k_is)
    (case l22 => k_is)
    (case c22 => k_is)
    (case k22 => k_is)
    (case i23_CL => k_is)
    (case g23 => k_is)
    (case l23 => k_is)
    (case c23 => k_is)
    (case k23 => k_is)
    (case i23_CB => k_is)
    (case i24_CBk => k_is)
    (case g24 => k_is)
    (case l24 => k_is)
    (case c24 => k_is)
    (case k24 => k_is)
    (case i25_CBk => k_is)
    (case g25 => k_is)
    (case l25 => k_is)
    (case c25 => k_is)
    (case k25 => k_is)
    (case i26_CBk => k_is)
    (case g26 => k_is)
    (case l26 => k_is)
    (case c26 => k_is)
    (case k26 => k_is)
    (case i27_CBk => k_is)
    (case g27 => k_is)
    (case l27 => k_is)
    (case c27 => k_is)
    (case k27 => k_is)
    (case i28_CBk => k_is)
    (case g28 => k_is)
    (case l28 => k_is)
    (case c28 => k_is)
    (case k28 => k_is)
    (case i29_CBk => k_is)
    (case g29 => k_is)
    (case l29 => k_is)
    (case c29 => k_is)
    (case k29 => k_is)
    (case i30_CBk => k_is)
    (case g30 => k_is)
    (case l30 => k_is)
    (case c30 => k_is)
    (case k30 => k_is)
    (case i31_CL => k_is)
    (case g31 => k_is)
    (case l31 => k_is)
    (case c31 => k_is)
    (case k31 => k_is)
    (case mkCL => k_is)
    (case kcCL => k_is)
    (case i31_CB => k_is)
    (case mkCB => k_is)
    (case kcCB => k_is)
    (case i32_CBk => k_is)
    (case g32 => k_is)
    (case l32 => k_is)
    (case c32 => k_is)
    (case k32 => k_is)
    (case mkCBk => k_is)
    (case kcCBk => k_is)
    (case z_all => k_is)
    (case z_bool => k_is)
    (case z_int => k_is)
    (case z_isinstance => k_is)
    (case z_len => k_is)
    (case z_list => k_is)
    (case z_range => k_is)
    (case z_set => k_is)
    (case z_str => k_is)
    (case z_zip => k_is)
    (case v_GREATEST => k_is)
    (case v_MOST_SIGNS => k_is)
    (case v_MOST_LEVELS => k_is)
    (case v_ALL_SIGNS => k_is)
    (case v_LONGEST => k_is)

