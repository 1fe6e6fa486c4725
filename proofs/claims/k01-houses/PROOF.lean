import PyProof.Rows.All
import Wide.All
import OpenK.AllK
import Wide.FinOn
import HandS.ForMost
import HandS.ForExc
import HandS.Deep
import HandS.TupAny
import HandS.TupMul
import HandS.IsInst
import HandS.Zip
import HandS.Style
import HandS.Text
import HandS.Iter
import KE.GoesMore
import HandS.Small
import HandS.ExcOwn
import HandS.Set
import HandS.SetFor
import PyProof.Rows.SortShellAny
import PySem.Challenge.RW_shorthouse_k01_houses
set_option Elab.async false
section
set_option linter.all false
set_option maxRecDepth 100000
set_option maxHeartbeats 2000000
/-! VL: the value layer. D: data by value; Res: what an expression comes to; Rho: the slots of a frame. -/
namespace VL
open PySem PySem.Spec PyProof.Rows L2

abbrev St := L2.St
inductive Exn where
  | HouseError | NoHouse | NoUse | NoName | BadPlan | Caught | TooMany | TooDeep | NoText | NoBack
  deriving DecidableEq

/-- data by value -/
inductive D where
  | non | bl (b : Bool) | int (i : Int) | str (s : Str)
  | tup (xs : List D) | lst (xs : List D) | dct (kvs : List (D × D)) | exc (c : Exn) | obj (n : Nat)

inductive Res (α : Type) where
  | ok (a : α) | exc (c : Exn) | bad

def Res.bind {α β : Type} : Res α → (α → Res β) → Res β
  | .ok a, f => f a
  | .exc c, _ => .exc c
  | .bad, _ => .bad
instance : Monad Res where
  pure := .ok
  bind := Res.bind
section
variable {α β : Type}
@[simp] theorem ok_bind (a : α) (f : α → Res β) : (Res.ok a >>= f) = f a := rfl
@[simp] theorem exc_bind (c : Exn) (f : α → Res β) : (Res.exc c >>= f) = .exc c := rfl
@[simp] theorem bad_bind (f : α → Res β) : (Res.bad >>= f) = .bad := rfl
@[simp] theorem pure_ok (a : α) : (pure a : Res α) = .ok a := rfl
@[simp] theorem ok_map (a : α) (f : α → β) : (f <$> Res.ok a) = .ok (f a) := rfl
@[simp] theorem exc_map (c : Exn) (f : α → β) : (f <$> (Res.exc c : Res α)) = .exc c := rfl
@[simp] theorem bad_map (f : α → β) : (f <$> (Res.bad : Res α)) = .bad := rfl
end

/-- how a slot holds its value: a value for good; its own list, that no one else has; one that a caller has -/
inductive Md where
  | val | own | bor
  deriving DecidableEq

abbrev Rho := List (Option (Md × D))
abbrev Ow := Addr → Prop

mutual
/-- the layer's value v stands for the data d; nothing of it is at an address of O -/
inductive R (H : Hp) (O : Ow) : D → V → Prop
  | non : R H O .non .non
  | bl (b : Bool) : R H O (.bl b) (.bl b)
  | int (i : Int) : R H O (.int i) (.int i)
  | str (x : Str) : R H O (.str x) (.str x)
  | tup {a : Addr} {vs : List V} {ds : List D} : H a = some (.tup vs) → ¬ O a → vs.length ≤ sizeLine → Rs H O ds vs → R H O (.tup ds) (.ref a)
  | lst {a : Addr} {vs : List V} {ds : List D} : Rd H a (.lst vs) → ¬ O a → vs.length ≤ sizeLine → Rs H O ds vs → R H O (.lst ds) (.ref a)
inductive Rs (H : Hp) (O : Ow) : List D → List V → Prop
  | nil : Rs H O [] []
  | cons {d : D} {v : V} {ds : List D} {vs : List V} : R H O d v → Rs H O ds vs → Rs H O (d :: ds) (v :: vs)
end

/-- all that was tracked and not owned stands, and is not owned -/
def Kp (H : Hp) (O : Ow) (H' : Hp) (O' : Ow) : Prop := ∀ b o, H b = some o → ¬ O b → H' b = some o ∧ ¬ O' b

theorem Kp.refl {H : Hp} {O : Ow} : Kp H O H O := fun _ _ h n => ⟨h, n⟩
theorem Kp.trans {H H1 H2 : Hp} {O O1 O2 : Ow} (a : Kp H O H1 O1) (b : Kp H1 O1 H2 O2) : Kp H O H2 O2 := fun c o h n => b c o (a c o h n).1 (a c o h n).2
theorem same_refl {H : Hp} : Same H H := fun _ _ h => h
theorem same_trans {H H1 H2 : Hp} (a : Same H H1) (b : Same H1 H2) : Same H H2 := fun c o h => b c o (a c o h)
theorem same_kp {H H' : Hp} {O : Ow} (s : Same H H') : Kp H O H' O := fun b o h n => ⟨s b o h, n⟩
theorem same_none {H H' : Hp} (s : Same H H') {a : Addr} (h : H' a = none) : H a = none := by
  cases e : H a with
  | none => rfl
  | some o => rw [s a o e] at h; cases h
theorem same_upd {H : Hp} {p : Addr} {o : HO} (h : H p = none) : Same H (upd H p o) := fun b u q => by rw [upd_ne (ne_of_none q h)]; exact q
theorem Rd.kp {H H' : Hp} {O O' : Ow} {a : Addr} {u : HO} (h : Rd H a u) (n : ¬ O a) (k : Kp H O H' O') : Rd H' a u ∧ ¬ O' a := by
  rcases h with h | ⟨o, h⟩
  · exact ⟨.inl (k a _ h n).1, (k a _ h n).2⟩
  · exact ⟨.inr ⟨o, (k a _ h n).1⟩, (k a _ h n).2⟩
theorem Rd.same {H H' : Hp} {a : Addr} {u : HO} (h : Rd H a u) (s : Same H H') : Rd H' a u := by
  rcases h with h | ⟨o, h⟩
  · exact .inl (s _ _ h)
  · exact .inr ⟨o, s _ _ h⟩

mutual
theorem R.mono {H H' : Hp} {O O' : Ow} (k : Kp H O H' O') : ∀ {d : D} {v : V}, R H O d v → R H' O' d v
  | _, _, .non => .non
  | _, _, .bl b => .bl b
  | _, _, .int i => .int i
  | _, _, .str x => .str x
  | _, _, .tup h n z r => .tup (k _ _ h n).1 (k _ _ h n).2 z (Rs.mono k r)
  | _, _, .lst h n z r => .lst (Rd.kp h n k).1 (Rd.kp h n k).2 z (Rs.mono k r)
theorem Rs.mono {H H' : Hp} {O O' : Ow} (k : Kp H O H' O') : ∀ {ds : List D} {vs : List V}, Rs H O ds vs → Rs H' O' ds vs
  | _, _, .nil => .nil
  | _, _, .cons r t => .cons (R.mono k r) (Rs.mono k t)
end
theorem R.same {H H' : Hp} {O : Ow} {d : D} {v : V} (r : R H O d v) (s : Same H H') : R H' O d v := r.mono (same_kp s)
theorem Rs.same {H H' : Hp} {O : Ow} {ds : List D} {vs : List V} (r : Rs H O ds vs) (s : Same H H') : Rs H' O ds vs := r.mono (same_kp s)
/-- fewer are owned -/
theorem kp_sub {H : Hp} {O O' : Ow} (h : ∀ a, O' a → O a) : Kp H O H O' := fun b _ e n => ⟨e, fun z => n (h b z)⟩
theorem R.sub {H : Hp} {O O' : Ow} {d : D} {v : V} (r : R H O d v) (h : ∀ a, O' a → O a) : R H O' d v := r.mono (kp_sub h)
/-- one more is owned, where nothing stood -/
theorem kp_more {H : Hp} {O : Ow} {a : Addr} (h : H a = none) : Kp H O H (fun b => O b ∨ b = a) := fun b o e n => ⟨e, fun z => by
  rcases z with z | z
  · exact n z
  · subst z; rw [h] at e; cases e⟩
theorem Rs.length {H : Hp} {O : Ow} : ∀ {ds : List D} {vs : List V}, Rs H O ds vs → ds.length = vs.length
  | _, _, .nil => rfl
  | _, _, .cons _ t => congrArg (· + 1) (Rs.length t)
theorem Rs.append {H : Hp} {O : Ow} : ∀ {ds es : List D} {vs us : List V}, Rs H O ds vs → Rs H O es us → Rs H O (ds ++ es) (vs ++ us)
  | _, _, _, _, .nil, s => s
  | _, _, _, _, .cons r t, s => .cons r (Rs.append t s)
theorem Rs.get {H : Hp} {O : Ow} : ∀ {ds : List D} {vs : List V} {i : Nat} {d : D}, Rs H O ds vs → ds[i]? = some d → ∃ v, vs[i]? = some v ∧ R H O d v
  | _, _, _, _, .nil, e => by simp at e
  | _, _, 0, _, .cons r _, e => by simp at e; subst e; exact ⟨_, rfl, r⟩
  | _, _, i + 1, _, .cons _ t, e => by simp at e; simpa using Rs.get t e
theorem Rs.getV {H : Hp} {O : Ow} : ∀ {ds : List D} {vs : List V} {i : Nat} {v : V}, Rs H O ds vs → vs[i]? = some v → ∃ d, ds[i]? = some d ∧ R H O d v
  | _, _, _, _, .nil, e => by simp at e
  | _, _, 0, _, .cons r _, e => by simp at e; subst e; exact ⟨_, rfl, r⟩
  | _, _, i + 1, _, .cons _ t, e => by simp at e; simpa using Rs.getV t e
theorem Rs.take {H : Hp} {O : Ow} : ∀ {ds : List D} {vs : List V} (n : Nat), Rs H O ds vs → Rs H O (ds.take n) (vs.take n)
  | _, _, 0, _ => by simp; exact .nil
  | _, _, _ + 1, .nil => .nil
  | _, _, n + 1, .cons r t => .cons r (Rs.take n t)
theorem Rs.drop {H : Hp} {O : Ow} : ∀ {ds : List D} {vs : List V} (n : Nat), Rs H O ds vs → Rs H O (ds.drop n) (vs.drop n)
  | _, _, 0, r => r
  | _, _, _ + 1, .nil => .nil
  | _, _, n + 1, .cons _ t => by simpa using Rs.drop n t
theorem Rs.reverse {H : Hp} {O : Ow} : ∀ {ds : List D} {vs : List V}, Rs H O ds vs → Rs H O ds.reverse vs.reverse
  | _, _, .nil => .nil
  | _, _, .cons r t => by simpa using Rs.append (Rs.reverse t) (.cons r .nil)
theorem Rs.rep {H : Hp} {O : Ow} {ds : List D} {vs : List V} (r : Rs H O ds vs) : ∀ k : Nat, Rs H O (List.replicate k ds).flatten (List.replicate k vs).flatten
  | 0 => .nil
  | k + 1 => by
    rw [List.replicate_succ, List.replicate_succ, List.flatten_cons, List.flatten_cons]
    exact r.append (Rs.rep r k)
theorem Rs.set {H : Hp} {O : Ow} {d : D} {v : V} (r : R H O d v) : ∀ {ds : List D} {vs : List V} (n : Nat), Rs H O ds vs → Rs H O (ds.set n d) (vs.set n v)
  | _, _, _, .nil => .nil
  | _, _, 0, .cons _ t => .cons r t
  | _, _, n + 1, .cons q t => .cons q (Rs.set r n t)
theorem Rs.erase {H : Hp} {O : Ow} : ∀ {ds : List D} {vs : List V} (n : Nat), Rs H O ds vs → Rs H O (ds.eraseIdx n) (vs.eraseIdx n)
  | _, _, _, .nil => .nil
  | _, _, 0, .cons _ t => t
  | _, _, n + 1, .cons q t => .cons q (Rs.erase n t)

/-- readable at the top: a list may be owned -/
inductive RB (H : Hp) (O : Ow) : D → V → Prop
  | of {d : D} {v : V} : R H O d v → RB H O d v
  | lst {a : Addr} {vs : List V} {ds : List D} : Rd H a (.lst vs) → vs.length ≤ sizeLine → Rs H O ds vs → RB H O (.lst ds) (.ref a)
theorem RB.same {H H' : Hp} {O : Ow} {d : D} {v : V} (r : RB H O d v) (s : Same H H') : RB H' O d v := by
  cases r with
  | of r => exact .of (r.same s)
  | lst h z r => exact .lst (Rd.same h s) z (r.same s)
theorem RB.list {H : Hp} {O : Ow} {ds : List D} {v : V} (r : RB H O (.lst ds) v) : ∃ a vs, v = .ref a ∧ Rd H a (.lst vs) ∧ vs.length ≤ sizeLine ∧ Rs H O ds vs := by
  cases r with
  | of r => cases r with | lst h n z r => exact ⟨_, _, rfl, h, z, r⟩
  | lst h z r => exact ⟨_, _, rfl, h, z, r⟩
theorem RB.tuple {H : Hp} {O : Ow} {ds : List D} {v : V} (r : RB H O (.tup ds) v) : ∃ a vs, v = .ref a ∧ H a = some (.tup vs) ∧ ¬ O a ∧ vs.length ≤ sizeLine ∧ Rs H O ds vs := by
  cases r with
  | of r => cases r with | tup h n z r => exact ⟨_, _, rfl, h, n, z, r⟩
theorem RB.int {H : Hp} {O : Ow} {i : Int} {v : V} (r : RB H O (.int i) v) : v = .int i := by cases r with | of r => cases r; rfl
theorem RB.bl {H : Hp} {O : Ow} {b : Bool} {v : V} (r : RB H O (.bl b) v) : v = .bl b := by cases r with | of r => cases r; rfl
theorem RB.str {H : Hp} {O : Ow} {x : Str} {v : V} (r : RB H O (.str x) v) : v = .str x := by cases r with | of r => cases r; rfl
theorem RB.non {H : Hp} {O : Ow} {v : V} (r : RB H O .non v) : v = .non := by cases r with | of r => cases r; rfl

/-- what an owner holds at a -/
inductive Owned (H : Hp) (O : Ow) (a : Addr) : D → Prop
  | lst {vs : List V} {ds : List D} : H a = some (.lst vs) → vs.length ≤ sizeLine → Rs H (fun b => O b ∨ b = a) ds vs → Owned H O a (.lst ds)
theorem Owned.same {H H' : Hp} {O : Ow} {a : Addr} {d : D} (r : Owned H O a d) (s : Same H H') : Owned H' O a d := by
  cases r with
  | lst h z r => exact .lst (s _ _ h) z (r.same s)
theorem Owned.rb {H : Hp} {O : Ow} {a : Addr} {d : D} (r : Owned H O a d) : RB H O d (.ref a) := by
  cases r with
  | lst h z r => exact .lst (.inl h) z (r.mono (kp_sub fun _ z => .inl z))
theorem Owned.r {H : Hp} {O : Ow} {a : Addr} {d : D} (r : Owned H O a d) (n : ¬ O a) : R H O d (.ref a) := by
  cases r with
  | lst h z r => exact .lst (.inl h) n z (r.mono (kp_sub fun _ z => .inl z))
/-- fewer, or others, are owned besides -/
theorem Owned.sub {H : Hp} {O O' : Ow} {a : Addr} {d : D} (r : Owned H O a d) (h : ∀ b, O' b → O b ∨ b = a) : Owned H O' a d := by
  cases r with
  | lst e z r => exact .lst e z (r.mono (kp_sub fun b z => by rcases z with z | z; exact h b z; exact .inr z))
/-- something else is written that is owned -/
theorem Owned.kp {H H' : Hp} {O O' : Ow} {a : Addr} {d : D} (r : Owned H O a d) (ha : ∀ o, H a = some o → H' a = some o) (k : Kp H (fun b => O b ∨ b = a) H' (fun b => O' b ∨ b = a)) : Owned H' O' a d := by
  cases r with
  | lst e z r => exact .lst (ha _ e) z (r.mono k)
theorem Owned.there {H : Hp} {O : Ow} {a : Addr} {d : D} (r : Owned H O a d) : ∃ o, H a = some o := by
  cases r with
  | lst e z r => exact ⟨_, e⟩
/-- lent: a list that a caller has -/
inductive Lent (H : Hp) (O : Ow) : D → V → Prop
  | lst {a : Addr} {vs : List V} {ds : List D} : Rd H a (.lst vs) → vs.length ≤ sizeLine → Rs H O ds vs → Lent H O (.lst ds) (.ref a)
theorem Lent.rb {H : Hp} {O : Ow} {d : D} {v : V} (r : Lent H O d v) : RB H O d v := by
  cases r with
  | lst h z r => exact .lst h z r
theorem Lent.same {H H' : Hp} {O : Ow} {d : D} {v : V} (r : Lent H O d v) (s : Same H H') : Lent H' O d v := by
  cases r with
  | lst h z r => exact .lst (Rd.same h s) z (r.same s)
theorem Owned.lent {H : Hp} {O : Ow} {a : Addr} {d : D} (r : Owned H O a d) : Lent H O d (.ref a) := by
  cases r with
  | lst h z r => exact .lst (.inl h) z (r.mono (kp_sub fun _ z => .inl z))
/-- where nothing that stood at the entry was changed -/
theorem Lent.step {H0 H H' : Hp} {O O' : Ow} {d : D} {a : Addr} (r : Lent H O d (.ref a)) (t : ∃ o, H0 a = some o) (s : Same H0 H) (s' : Same H0 H') (k : Kp H O H' O') : Lent H' O' d (.ref a) := by
  cases r with
  | lst h z r =>
    obtain ⟨o, e⟩ := t
    refine .lst ?_ z (r.mono k)
    have e1 := s _ _ e
    have e2 := s' _ _ e
    rcases h with h | ⟨o', h⟩
    · rw [h] at e1; cases e1; exact .inl e2
    · rw [h] at e1; cases e1; exact .inr ⟨_, e2⟩

def RSlot (H : Hp) (O : Ow) : Md → D → V → Prop
  | .val, d, v => R H O d v
  | .own, d, v => ∃ a, v = .ref a ∧ O a ∧ Owned H O a d
  | .bor, d, v => Lent H O d v
theorem RSlot.same {H H' : Hp} {O : Ow} {m : Md} {d : D} {v : V} (r : RSlot H O m d v) (s : Same H H') : RSlot H' O m d v := by
  cases m with
  | val => exact R.same r s
  | own => obtain ⟨a, e, o, r⟩ := r; exact ⟨a, e, o, r.same s⟩
  | bor => exact Lent.same r s
theorem RSlot.rb {H : Hp} {O : Ow} {m : Md} {d : D} {v : V} (r : RSlot H O m d v) : RB H O d v := by
  cases m with
  | val => exact .of r
  | own => obtain ⟨a, rfl, o, r⟩ := r; exact r.rb
  | bor => exact Lent.rb r

/-- the slots σ stand for ρ -/
structure RE (H : Hp) (O : Ow) (σ : St) (ρ : Rho) : Prop where
  len : ρ.length = σ.length
  at_ : ∀ (i : Nat) (m : Md) (d : D), ρ[i]? = some (some (m, d)) → ∃ v, σ[i]? = some (some v) ∧ RSlot H O m d v
  apart : ∀ (i j : Nat) (d : D) (m' : Md) (d' : D) (a : Addr), i ≠ j → ρ[i]? = some (some (.own, d)) → ρ[j]? = some (some (m', d')) → m' ≠ .val → σ[i]? = some (some (.ref a)) → σ[j]? ≠ some (some (.ref a))
  trk : ∀ a, O a → ∃ o, H a = some o
theorem RE.same {H H' : Hp} {O : Ow} {σ : St} {ρ : Rho} (r : RE H O σ ρ) (s : Same H H') : RE H' O σ ρ :=
  ⟨r.len, fun i m d e => let ⟨v, h1, h2⟩ := r.at_ i m d e; ⟨v, h1, h2.same s⟩, r.apart, fun a h => let ⟨o, e⟩ := r.trk a h; ⟨o, s _ _ e⟩⟩
theorem RE.new {H : Hp} {O : Ow} {σ : St} {ρ : Rho} (r : RE H O σ ρ) {p : Addr} (h : H p = none) : ¬ O p := fun z => by
  obtain ⟨o, e⟩ := r.trk p z
  rw [h] at e; cases e

/-! ### what follows -/
/-- what an expression's end is to be: α its result by value -/
def PostG {α γ : Type} (Rel : Hp → Hp → α → γ → Prop) (W : Exn → Hp → Prop) (res : Res α) (H : Hp) (Q : γ → Hp → Prop) : Prop :=
  match res with
  | .ok r => ∀ v H', Same H H' → Rel H H' r v → Q v H'
  | .exc c => ∀ H', Same H H' → W c H'
  | .bad => False
def RV (O : Ow) (H H' : Hp) (r : Md × D) (v : V) : Prop :=
  match r.1 with
  | .val => R H' O r.2 v
  | .own => ∃ a, v = .ref a ∧ H a = none ∧ Owned H' O a r.2
  | .bor => False
def RBr (O : Ow) (_ H' : Hp) (d : D) (v : V) : Prop := RB H' O d v
def RAr (O : Ow) (_ H' : Hp) (r : Md × D) (v : V) : Prop := r.1 ≠ .own ∧ RSlot H' O r.1 r.2 v
theorem RV.pre {O : Ow} {H H1 H' : Hp} {r : Md × D} {v : V} (s : Same H H1) (h : RV O H1 H' r v) : RV O H H' r v := by
  obtain ⟨m, d⟩ := r
  cases m with
  | val => exact h
  | own => obtain ⟨a, e, n, o⟩ := h; exact ⟨a, e, same_none s n, o⟩
  | bor => exact h
theorem RV.rb {O : Ow} {H H' : Hp} {r : Md × D} {v : V} (h : RV O H H' r v) : RB H' O r.2 v := by
  obtain ⟨m, d⟩ := r
  cases m with
  | val => exact .of h
  | own => obtain ⟨a, e, n, o⟩ := h; subst e; exact o.rb
  | bor => exact h.elim
/-- settled: it is shared from now on -/
theorem RV.r {O : Ow} {H H' : Hp} {r : Md × D} {v : V} (t : ∀ a, O a → ∃ o, H a = some o) (h : RV O H H' r v) : R H' O r.2 v := by
  obtain ⟨m, d⟩ := r
  cases m with
  | val => exact h
  | own =>
    obtain ⟨a, e, n, o⟩ := h
    subst e
    exact o.r fun z => by
      obtain ⟨u, q⟩ := t a z
      rw [n] at q; cases q
  | bor => exact h.elim
section
variable {α β γ δ : Type} {Rel : Hp → Hp → α → γ → Prop} {Rel' : Hp → Hp → β → δ → Prop} {W : Exn → Hp → Prop} {H H1 : Hp} {Q Q2 : γ → Hp → Prop} {Q' : δ → Hp → Prop}
theorem PostG.same {res : Res α} (hR : ∀ {H H1 H' : Hp} {r : α} {v : γ}, Same H H1 → Rel H1 H' r v → Rel H H' r v) (s : Same H H1) (p : PostG Rel W res H Q) : PostG Rel W res H1 Q := by
  cases res with
  | ok r => exact fun v H' s' h => p v H' (same_trans s s') (hR s h)
  | exc c => exact fun H' s' => p H' (same_trans s s')
  | bad => exact p
/-- first x, then k -/
theorem PostG.bind {x : Res α} {k : α → Res β} (hR : ∀ {H H1 H' : Hp} {r : β} {v : δ}, Same H H1 → Rel' H1 H' r v → Rel' H H' r v) (p : PostG Rel' W (x >>= k) H Q')
    (h : ∀ r v H1, x = .ok r → Same H H1 → Rel H H1 r v → PostG Rel' W (k r) H1 Q' → Q v H1) : PostG Rel W x H Q := by
  cases x with
  | ok r => exact fun v H1 s hr => h r v H1 rfl s hr (PostG.same hR s p)
  | exc c => exact p
  | bad => exact p
theorem PostG.imp {res : Res α} (p : PostG Rel W res H Q) (h : ∀ r v H', res = .ok r → Same H H' → Rel H H' r v → Q v H' → Q2 v H') : PostG Rel W res H Q2 := by
  cases res with
  | ok r => exact fun v H' s hr => h r v H' rfl s hr (p v H' s hr)
  | exc c => exact p
  | bad => exact p
end
theorem RBr.pre {O : Ow} {H H1 H' : Hp} {d : D} {v : V} (_ : Same H H1) (h : RBr O H1 H' d v) : RBr O H H' d v := h
theorem RAr.pre {O : Ow} {H H1 H' : Hp} {d : Md × D} {v : V} (_ : Same H H1) (h : RAr O H1 H' d v) : RAr O H H' d v := h

/-! ### the judgements of expressions -/
abbrev WE2 := Exn → St → Hp → Prop
abbrev FV := Rho → Res (Md × D)
abbrev FB := Rho → Res D
abbrev FT := Rho → Res Bool
def tV (W : WE2) (f : FV) : TE := fun σ H Q => ∃ O ρ, RE H O σ ρ ∧ PostG (RV O) (fun c => W c σ) (f ρ) H Q
def tB (W : WE2) (f : FB) : TE := fun σ H Q => ∃ O ρ, RE H O σ ρ ∧ PostG (RBr O) (fun c => W c σ) (f ρ) H Q
/-- an argument of a call: a list of a slot is lent -/
def tArg (W : WE2) (f : FV) : TE := fun σ H Q => ∃ O ρ, RE H O σ ρ ∧ PostG (RAr O) (fun c => W c σ) (f ρ) H Q
def PostT (W : Exn → Hp → Prop) (res : Res Bool) (H : Hp) (Q : Bool → Hp → Prop) : Prop :=
  match res with
  | .ok b => ∀ H', Same H H' → Q b H'
  | .exc c => ∀ H', Same H H' → W c H'
  | .bad => False
def tT (W : WE2) (f : FT) : TT := fun σ H Q => ∃ O ρ, RE H O σ ρ ∧ PostT (fun c => W c σ) (f ρ) H Q
abbrev VE (X : Cx) (W : WE2) (e : Expr) (f : FV) : Prop := PE X e (tV W f)
abbrev VB (X : Cx) (W : WE2) (e : Expr) (f : FB) : Prop := PE X e (tB W f)
abbrev VA (X : Cx) (W : WE2) (e : Expr) (f : FV) : Prop := PE X e (tArg W f)
abbrev VT (X : Cx) (W : WE2) (e : Expr) (f : FT) : Prop := PT X e (tT W f)
theorem PE.weak {X : Cx} {e : Expr} {t t' : TE} (h : PE X e t) (w : ∀ σ H Q, t' σ H Q → t σ H Q) : PE X e t' := ⟨fun pins s σ H Q I q => h.run pins s σ H Q I (w σ H Q q)⟩
theorem PT.weak {X : Cx} {e : Expr} {t t' : TT} (h : PT X e t) (w : ∀ σ H Q, t' σ H Q → t σ H Q) : PT X e t' := ⟨fun pins s σ H Q I q => h.run pins s σ H Q I (w σ H Q q)⟩
end VL
end
section
set_option linter.all false
set_option maxRecDepth 100000
set_option maxHeartbeats 2000000
namespace VL
open PySem PySem.Spec PyProof.Rows L2

def RRr (O : Ow) (_ H' : Hp) (d : D) (v : V) : Prop := R H' O d v
theorem RRr.pre {O : Ow} {H H1 H' : Hp} {d : D} {v : V} (_ : Same H H1) (h : RRr O H1 H' d v) : RRr O H H' d v := h
def tR (W : WE2) (f : FB) : TE := fun σ H Q => ∃ O ρ, RE H O σ ρ ∧ PostG (RRr O) (fun c => W c σ) (f ρ) H Q
abbrev VR (X : Cx) (W : WE2) (e : Expr) (f : FB) : Prop := PE X e (tR W f)

section
variable {α β γ : Type} {Rel : Hp → Hp → α → γ → Prop} {Rel' : Hp → Hp → β → γ → Prop} {Rel2 : Hp → Hp → α → γ → Prop} {W : Exn → Hp → Prop} {H : Hp} {Q : γ → Hp → Prop}
theorem PostG.rel {x : Res α} (p : PostG Rel2 W x H Q) (h : ∀ r v H', Same H H' → Rel H H' r v → Rel2 H H' r v) : PostG Rel W x H Q := by
  cases x with
  | ok r => exact fun v H' s hr => p v H' s (h r v H' s hr)
  | exc c => exact p
  | bad => exact p
theorem PostG.conv {x : Res α} {g : α → β} (p : PostG Rel' W (x >>= fun r => .ok (g r)) H Q) (h : ∀ r v H', Same H H' → Rel H H' r v → Rel' H H' (g r) v) : PostG Rel W x H Q := by
  cases x with
  | ok r => exact fun v H' s hr => p v H' s (h r v H' s hr)
  | exc c => exact p
  | bad => exact p
end
/-- a value for good, as an expression's end -/
def vOf (f : FB) : FV := fun ρ => f ρ >>= fun d => .ok (.val, d)
/-- settled: shared from now on -/
def sE (f : FV) : FB := fun ρ => f ρ >>= fun r => .ok r.2
abbrev Trk (O : Ow) (H : Hp) : Prop := ∀ a, O a → ∃ o, H a = some o
theorem Trk.new {O : Ow} {H : Hp} (t : Trk O H) {p : Addr} (h : H p = none) : ¬ O p := fun z => by
  obtain ⟨o, e⟩ := t p z
  rw [h] at e; cases e
theorem Trk.same {O : Ow} {H H' : Hp} (t : Trk O H) (s : Same H H') : Trk O H' := fun a z => let ⟨o, e⟩ := t a z; ⟨o, s _ _ e⟩
section
variable {X : Cx} {W : WE2} {e : Expr}
theorem vb_r {f : FB} (h : VR X W e f) : VB X W e f := PE.weak h fun σ H Q ⟨O, ρ, r, p⟩ => ⟨O, ρ, r, p.rel fun d v H' _ hr => .of hr⟩
theorem ve_r {f : FB} (h : VR X W e f) : VE X W e (vOf f) := PE.weak h fun σ H Q ⟨O, ρ, r, p⟩ => ⟨O, ρ, r, PostG.conv (g := fun d => (Md.val, d)) p fun d v H' _ hr => hr⟩
theorem vr_e {f : FV} (h : VE X W e f) : VR X W e (sE f) := PE.weak h fun σ H Q ⟨O, ρ, r, p⟩ => ⟨O, ρ, r, PostG.conv (g := fun d : Md × D => d.2) p fun d v H' s hr => RV.r r.trk hr⟩
theorem vb_e {f : FV} (h : VE X W e f) : VB X W e (sE f) := vb_r (vr_e h)
theorem va_r {f : FB} (h : VR X W e f) : VA X W e (vOf f) := PE.weak h fun σ H Q ⟨O, ρ, r, p⟩ => ⟨O, ρ, r, PostG.conv (g := fun d => (Md.val, d)) p fun d v H' _ hr => ⟨fun z => (nomatch z), hr⟩⟩
theorem va_e {f : FV} (h : VE X W e f) : VA X W e (vOf (sE f)) := va_r (vr_e h)

/-! ### names and constants -/
def cst (d : D) : FB := fun _ => .ok d
theorem r_cst {d : D} {v : V} (h : PE X e (tC v)) (r : ∀ H O, R H O d v) : VR X W e (cst d) := PE.weak h fun σ H Q ⟨O, ρ, _, p⟩ => p v H same_refl (r H O)
theorem r_int {i : Int} (h : PE X e (tC (.int i))) : VR X W e (cst (.int i)) := r_cst h fun _ _ => .int i
theorem r_bl {i : Bool} (h : PE X e (tC (.bl i))) : VR X W e (cst (.bl i)) := r_cst h fun _ _ => .bl i
theorem r_str {i : Str} (h : PE X e (tC (.str i))) : VR X W e (cst (.str i)) := r_cst h fun _ _ => .str i
theorem r_non (h : PE X e (tC .non)) : VR X W e (cst .non) := r_cst h fun _ _ => .non
/-- a name, read for good -/
def vrV (i : Nat) : FB := fun ρ => match ρ[i]? with | some (some (.val, d)) => .ok d | _ => .bad
/-- a name, looked at -/
def vrB (i : Nat) : FB := fun ρ => match ρ[i]? with | some (some (_, d)) => .ok d | _ => .bad
/-- a name, lent -/
def vrA (i : Nat) : FV := fun ρ => match ρ[i]? with | some (some (.val, d)) => .ok (.val, d) | some (some (_, d)) => .ok (.bor, d) | _ => .bad
theorem r_var {i : Nat} (h : PE X e (tVar i)) : VR X W e (vrV i) := PE.weak h fun σ H Q ⟨O, ρ, r, p⟩ => by
  unfold vrV at p
  split at p
  · rename_i d e
    obtain ⟨v, e1, e2⟩ := r.at_ i _ _ e
    exact ⟨v, e1, p v H same_refl e2⟩
  · exact False.elim p
theorem b_var {i : Nat} (h : PE X e (tVar i)) : VB X W e (vrB i) := PE.weak h fun σ H Q ⟨O, ρ, r, p⟩ => by
  unfold vrB at p
  split at p
  · rename_i d e
    obtain ⟨v, e1, e2⟩ := r.at_ i _ _ e
    exact ⟨v, e1, p v H same_refl e2.rb⟩
  · exact False.elim p
theorem a_var {i : Nat} (h : PE X e (tVar i)) : VA X W e (vrA i) := PE.weak h fun σ H Q ⟨O, ρ, r, p⟩ => by
  unfold vrA at p
  split at p
  · rename_i d e
    obtain ⟨v, e1, e2⟩ := r.at_ i _ _ e
    exact ⟨v, e1, p v H same_refl ⟨fun z => (nomatch z), e2⟩⟩
  · rename_i m d hm e
    obtain ⟨v, e1, e2⟩ := r.at_ i _ _ e
    refine ⟨v, e1, p v H same_refl ⟨fun z => (nomatch z), ?_⟩⟩
    cases m with
    | val => exact absurd rfl hm
    | own => obtain ⟨a, rfl, o, r⟩ := e2; exact r.lent
    | bor => exact e2
  · exact False.elim p
end

/-! ### operations by values -/
def e1 {β : Type} (k : D → Res β) (f : FB) : Rho → Res β := fun ρ => f ρ >>= k
def e2 {β : Type} (k : D → D → Res β) (f g : FB) : Rho → Res β := fun ρ => f ρ >>= fun a => g ρ >>= fun b => k a b
def SemV (r : R2) (k : D → D → Res (Md × D)) : Prop := ∀ (O : Ow) (H : Hp) (a b : D) (x y : V) (Q : VK) (W : Exn → Hp → Prop), Trk O H → RB H O a x → RB H O b y → PostG (RV O) W (k a b) H Q → r x y H Q
def SemR (r : R2) (k : D → D → Res D) : Prop := ∀ (O : Ow) (H : Hp) (a b : D) (x y : V) (Q : VK) (W : Exn → Hp → Prop), Trk O H → RB H O a x → RB H O b y → PostG (RRr O) W (k a b) H Q → r x y H Q
theorem op_e2G {β : Type} {Rel : Ow → Hp → Hp → β → V → Prop} {W : WE2} {r : R2} {k : D → D → Res β} {fa fb : FB} {σ : St} {H : Hp} {Q : VK} {O : Ow} {ρ : Rho} (hR : ∀ {O : Ow} {H H1 H' : Hp} {r : β} {v : V}, Same H H1 → Rel O H1 H' r v → Rel O H H' r v)
    (sem : ∀ (O : Ow) (H : Hp) (a b : D) (x y : V) (Q : VK) (W : Exn → Hp → Prop), Trk O H → RB H O a x → RB H O b y → PostG (Rel O) W (k a b) H Q → r x y H Q)
    (re : RE H O σ ρ) (p : PostG (Rel O) (fun c => W c σ) (e2 k fa fb ρ) H Q) : tOp r (tB W fa) (tB W fb) σ H Q := by
  refine ⟨O, ρ, re, PostG.bind (Rel := RBr O) (Rel' := Rel O) (x := fa ρ) (k := fun a => fb ρ >>= fun b => k a b) hR p fun a x H1 _ s1 ra p1 => ?_⟩
  refine ⟨O, ρ, re.same s1, PostG.bind (Rel := RBr O) (Rel' := Rel O) (x := fb ρ) (k := fun b => k a b) hR p1 fun b y H2 _ s2 rb p2 => ?_⟩
  exact sem O H2 a b x y Q _ (re.same (same_trans s1 s2)).trk (RB.same ra s2) rb p2
section
variable {X : Cx} {W : WE2} {a b : Expr} {fa fb : FB} {pos : Pos}
theorem ve_op {op : Operator} {r : R2} {k : D → D → Res (Md × D)} (ho : OpR X (binaryOp op) r) (sem : SemV r k) (ha : VB X W a fa) (hb : VB X W b fb) : VE X W (.BinOp a op b pos) (e2 k fa fb) :=
  PE.weak (pe_op ho ha hb) fun σ H Q ⟨O, ρ, re, p⟩ => op_e2G (Rel := RV) RV.pre sem re p
theorem vr_op {op : Operator} {r : R2} {k : D → D → Res D} (ho : OpR X (binaryOp op) r) (sem : SemR r k) (ha : VB X W a fa) (hb : VB X W b fb) : VR X W (.BinOp a op b pos) (e2 k fa fb) :=
  PE.weak (pe_op ho ha hb) fun σ H Q ⟨O, ρ, re, p⟩ => op_e2G (Rel := RRr) RRr.pre sem re p
theorem vr_cmp {op : CmpOp} {r : R2} {k : D → D → Res D} (ho : OpR X (compareOp op) r) (sem : SemR r k) (ha : VB X W a fa) (hb : VB X W b fb) (hm : behindInMarks op b = false) : VR X W (.Compare a [op] [b] pos) (e2 k fa fb) :=
  PE.weak (pe_cmpR ho ha hb hm) fun σ H Q ⟨O, ρ, re, p⟩ => op_e2G (Rel := RRr) RRr.pre sem re p
end

/-! ### + - * // % ** -/
def dAdd : D → D → Res (Md × D)
  | .int i, .int j => .ok (.val, .int (i + j))
  | .str i, .str j => if i.length + j.length ≤ sizeLine then .ok (.val, .str (i ++ j)) else .bad
  | .tup xs, .tup ys => if xs.length + ys.length ≤ sizeLine then .ok (.val, .tup (xs ++ ys)) else .bad
  | .lst xs, .lst ys => if xs.length + ys.length ≤ sizeLine then .ok (.own, .lst (xs ++ ys)) else .bad
  | _, _ => .bad
def dSub : D → D → Res D
  | .int i, .int j => .ok (.int (i - j))
  | _, _ => .bad
def dMul : D → D → Res (Md × D)
  | .int i, .int j => if (-(2 ^ 64) < i ∧ i < 2 ^ 64) ∨ (-(2 ^ 64) < j ∧ j < 2 ^ 64) then .ok (.val, .int (i * j)) else .bad
  | .lst xs, .int k => if -(2 ^ 63) ≤ k ∧ k < 2 ^ 63 ∧ xs.length * k.toNat ≤ sizeLine then .ok (.own, .lst (List.replicate k.toNat xs).flatten) else .bad
  | .tup xs, .int k => if xs ≠ [] ∧ 2 ≤ k ∧ k ≤ 1000 ∧ xs.length ≤ 1000 then .ok (.val, .tup (List.replicate k.toNat xs).flatten) else .bad
  | _, _ => .bad
def dFdiv : D → D → Res D
  | .int i, .int j => if 0 < j ∧ j < 1073741824 then .ok (.int (i / j)) else .bad
  | _, _ => .bad
def dMod : D → D → Res D
  | .int i, .int j => if 0 < j then .ok (.int (i % j)) else .bad
  | _, _ => .bad
def dPow : D → D → Res D
  | .int i, .int j => if 0 ≤ j ∧ j ≤ 1000000 ∧ i.natAbs < 2 ^ 64 then .ok (.int (i ^ j.toNat)) else .bad
  | _, _ => .bad

/-- list + list of any lists that are read -/
def rCatR : R2 := fun x y H Q => ∃ l b xs zs, x = .ref l ∧ y = .ref b ∧ Rd H l (.lst xs) ∧ Rd H b (.lst zs) ∧ xs.length + zs.length ≤ sizeLine ∧ ∀ p, H p = none → Q (.ref p) (upd H p (.lst (xs ++ zs)))
theorem rd_lst {X : Cx} {pins : List (Addr × Obj)} {σ : St} {H : Hp} {s : Shared} {l : Addr} {xs : List V} (I : Inv X pins σ H s) (hH : Rd H l (.lst xs)) :
    xs.length ≤ sizeLine ∧ ∃ (its : List Value) (n : Nat), Vals xs its ∧ xs.length = its.length ∧ s.heap.get? l = some { cls := .type "list", data := .seq its.toArray n } := by
  obtain ⟨z, its, n, r, e⟩ := hH.ok I.hok
  exact ⟨z, its, n, r, r.length, e⟩
theorem op_catR {X : Cx} : OpR X (binaryOp .Add) rCatR := by
  intro pins s σ H x y v u Q I rx ry h
  obtain ⟨l, b, xs, zs, rfl, rfl, hH, hB, hz, q⟩ := h
  cases rx
  cases ry
  obtain ⟨z, its, n, r, hl, e⟩ := rd_lst I hH
  obtain ⟨z2, its2, n2, r2, hl2, e2⟩ := rd_lst I hB
  refine PySem.P.add_list e e2 ?_ (by rw [List.size_toArray, List.size_toArray]; omega)
  have ea : its.toArray ++ its2.toArray = (its ++ its2).toArray := by simp
  rw [ea]
  exact ⟨.ref _, _, I.lnew (t' := s.toks) (r.append r2) (by rw [List.length_append]; omega), rfl, q _ I.fresh⟩
/-- list * int, the list read -/
def rRepR : R2 := fun x y H Q => ∃ l k xs, x = .ref l ∧ y = .int k ∧ Rd H l (.lst xs) ∧ -(2 ^ 63) ≤ k ∧ k < 2 ^ 63 ∧ xs.length * k.toNat ≤ sizeLine ∧
  ∀ p, H p = none → Q (.ref p) (upd H p (.lst (List.replicate k.toNat xs).flatten))
def rAdd4 (K : PySem.W.Frag) : R2 := fun x y H Q => (((rI0 (fun i j => .int (i + j)) x y H Q) ∨ (∃ i j, x = .str i ∧ y = .str j ∧ i.length + j.length ≤ sizeLine ∧ Q (.str (i ++ j)) H)) ∨ rCatA K x y H Q) ∨ rCatR x y H Q
theorem op_add4 {X : Cx} : OpR X (binaryOp .Add) (rAdd4 X.K) := ((op_add.or op_add_str).or op_catA).or op_catR
/-- a new tuple -/
theorem r_newT {H : Hp} {O : Ow} {p : Addr} {vs : List V} {ds : List D} (t : Trk O H) (hp : H p = none) (z : vs.length ≤ sizeLine) (r : Rs H O ds vs) : R (upd H p (.tup vs)) O (.tup ds) (.ref p) :=
  .tup upd_same (t.new hp) z (r.same (same_upd hp))
/-- a new list, owned -/
theorem o_newL {H : Hp} {O : Ow} {p : Addr} {vs : List V} {ds : List D} (hp : H p = none) (z : vs.length ≤ sizeLine) (r : Rs H O ds vs) : Owned (upd H p (.lst vs)) O p (.lst ds) :=
  .lst upd_same z ((r.mono (kp_more hp)).same (same_upd hp))
theorem rv_newL {H : Hp} {O : Ow} {p : Addr} {vs : List V} {ds : List D} (hp : H p = none) (z : vs.length ≤ sizeLine) (r : Rs H O ds vs) : RV O H (upd H p (.lst vs)) (.own, .lst ds) (.ref p) := ⟨p, rfl, hp, o_newL hp z r⟩
theorem Rs.nil_iff {H : Hp} {O : Ow} {vs : List V} {ds : List D} (r : Rs H O ds vs) : vs = [] ↔ ds = [] := by
  cases r <;> simp
theorem sem_add {K : PySem.W.Frag} : SemV (rAdd4 K) dAdd := by
  intro O H a b x y Q W t ra rb p
  cases a <;> cases b <;> first | exact False.elim p | skip
  · cases ra.int; cases rb.int
    exact .inl (.inl (.inl ⟨_, _, rfl, rfl, p _ H same_refl (.int _)⟩))
  · cases ra.str; cases rb.str
    simp only [dAdd] at p
    split at p
    · exact .inl (.inl (.inr ⟨_, _, rfl, rfl, ‹_›, p _ H same_refl (.str _)⟩))
    · exact False.elim p
  · simp only [dAdd] at p
    split at p
    · rename_i hz
      obtain ⟨l, vs, rfl, e1, n1, z1, r1⟩ := ra.tuple
      obtain ⟨l2, vs2, rfl, e2, n2, z2, r2⟩ := rb.tuple
      rw [r1.length, r2.length] at hz
      refine .inl (.inr ⟨l, l2, vs, vs2, rfl, rfl, .inl (.inl e1), .inl (.inl e2), hz, fun h => ?_, fun _ h => ?_, fun _ _ q hq => ?_⟩)
      · have h' := r1.nil_iff.mp h
        subst h'
        exact p _ H same_refl (.tup e2 n2 z2 (by simpa using r2))
      · have h' := r2.nil_iff.mp h
        subst h'
        exact p _ H same_refl (.tup e1 n1 z1 (by simpa using r1))
      · exact p _ _ (same_upd hq) (r_newT t hq (by rw [List.length_append]; exact hz) (r1.append r2))
    · exact False.elim p
  · simp only [dAdd] at p
    split at p
    · rename_i hz
      obtain ⟨l, vs, rfl, e1, z1, r1⟩ := ra.list
      obtain ⟨l2, vs2, rfl, e2, z2, r2⟩ := rb.list
      rw [r1.length, r2.length] at hz
      exact .inr ⟨l, l2, vs, vs2, rfl, rfl, e1, e2, hz, fun q hq => p _ _ (same_upd hq) (rv_newL hq (by rw [List.length_append]; exact hz) (r1.append r2))⟩
    · exact False.elim p
theorem sem_sub : SemR (rI0 fun i j => .int (i - j)) dSub := by
  intro O H a b x y Q W t ra rb p
  cases a <;> cases b <;> first | exact False.elim p | skip
  cases ra.int; cases rb.int
  exact ⟨_, _, rfl, rfl, p _ H same_refl (.int _)⟩
theorem sem_fdiv : SemR (rI CDiv fun i j => .int (i / j)) dFdiv := by
  intro O H a b x y Q W t ra rb p
  cases a <;> cases b <;> first | exact False.elim p | skip
  cases ra.int; cases rb.int
  simp only [dFdiv] at p
  split at p
  · exact ⟨_, _, rfl, rfl, ‹_›, p _ H same_refl (.int _)⟩
  · exact False.elim p
theorem sem_mod : SemR (rI (fun _ j => 0 < j) fun i j => .int (i % j)) dMod := by
  intro O H a b x y Q W t ra rb p
  cases a <;> cases b <;> first | exact False.elim p | skip
  cases ra.int; cases rb.int
  simp only [dMod] at p
  split at p
  · exact ⟨_, _, rfl, rfl, ‹_›, p _ H same_refl (.int _)⟩
  · exact False.elim p
theorem sem_pow : SemR (rI CPow fun i j => .int (i ^ j.toNat)) dPow := by
  intro O H a b x y Q W t ra rb p
  cases a <;> cases b <;> first | exact False.elim p | skip
  cases ra.int; cases rb.int
  simp only [dPow] at p
  split at p
  · exact ⟨_, _, rfl, rfl, ‹_›, p _ H same_refl (.int _)⟩
  · exact False.elim p
end VL
end
section
set_option linter.all false
set_option maxRecDepth 100000
set_option maxHeartbeats 2000000
namespace VL
open PySem PySem.Spec PyProof.Rows L2
theorem op_repR {X : Cx} : OpR X (binaryOp .Mult) rRepR := by
  intro pins s σ H x y v u Q I rx ry h
  obtain ⟨l, k, xs, rfl, rfl, hH, h1, h2, hz, q⟩ := h
  cases rx
  obtain ⟨t, rfl⟩ := ry
  obtain ⟨z, its, n, r, hl, e⟩ := rd_lst I hH
  have hlen : its.toArray.size * k.toNat ≤ sizeLine := by rw [List.size_toArray, ← hl]; exact hz
  have hcap : ¬ its.toArray.size * k.toNat > (2 ^ 63 - 1) / 8 := by
    have : (sizeLine : Nat) ≤ (2 ^ 63 - 1) / 8 := by decide
    omega
  have hfit : ¬ (!Builtin.List.listFitsIndex k) = true := by
    rw [fitsIndex_both h1 h2]
    exact Bool.false_ne_true
  have hlong : ¬ Builtin.List.listTooLong (its.toArray.size * k.toNat) = true := by
    rw [notLongL hlen]
    exact Bool.false_ne_true
  have hnew : List.foldl (fun x1 x2 => x1 ++ x2) #[] (List.replicate (if its.toArray.isEmpty = true then 0 else k.toNat) its.toArray) = (List.replicate k.toNat its).flatten.toArray := by
    have f0 : ∀ m : Nat, List.foldl (fun x1 x2 => x1 ++ x2) #[] (List.replicate m its.toArray) = (List.replicate m its).flatten.toArray := fun m => by
      have := foldl_rep its m []
      rw [List.nil_append] at this
      exact this
    rw [f0]
    cases its with
    | nil => simp
    | cons a r' => rw [if_neg (by simp)]
  refine wpAny_binaryOp_repeat_ref (T := "list") (U := "int") (by decide) ⟨_, e, rfl⟩ (fun s' => typeIs_int s' k t) noFill_list_mul F.fills_int_mul F.slot_int_rmul repeat_list F.slot_int_index.lookup
    (call_meets F.slot_int_rmul (typeIs_int s k t) F.entry_int_rmul (F.args_int_rmul_2 _ _) (int___rmul___int_list k t l its.toArray n)
      ⟨e, rfl, ⟨_, e, rfl⟩, call_meets F.slot_list_mul ⟨_, e, rfl⟩ F.entry_list_mul (F.args_list_mul_2 _ _) (AutoListH.list___mul___list_int_3 l its.toArray n k t hfit hcap hlong) ⟨e, ?_⟩⟩)
  rw [hnew]
  exact ⟨.ref _, _, I.lnew (t' := s.toks) (r.rep k.toNat) (by rw [PyProof.Rows.lm_len_rep_flat, Nat.mul_comm]; exact hz), rfl, q _ I.fresh⟩
def rMul3 (K : PySem.W.Frag) : R2 := fun x y H Q => (rI CMul (fun i j => .int (i * j)) x y H Q ∨ rRepR x y H Q) ∨ rRepT K x y H Q
theorem op_mul3 {X : Cx} : OpR X (binaryOp .Mult) (rMul3 X.K) := (op_mul.or op_repR).or op_repT
theorem sem_mul {K : PySem.W.Frag} : SemV (rMul3 K) dMul := by
  intro O H a b x y Q W t ra rb p
  cases a <;> cases b <;> first | exact False.elim p | skip
  · cases ra.int; cases rb.int
    simp only [dMul] at p
    split at p
    · exact .inl (.inl ⟨_, _, rfl, rfl, ‹_›, p _ H same_refl (.int _)⟩)
    · exact False.elim p
  · cases rb.int
    simp only [dMul] at p
    split at p
    · rename_i hz
      obtain ⟨l, vs, rfl, e1, n1, z1, r1⟩ := ra.tuple
      obtain ⟨h1, h2, h3, h4⟩ := hz
      refine .inr ⟨l, _, vs, rfl, rfl, .inl (.inl e1), fun z => h1 (r1.nil_iff.mp z), h2, h3, by rw [← r1.length]; exact h4, fun q hq => ?_⟩
      exact p _ _ (same_upd hq) (r_newT t hq (by
        rw [PyProof.Rows.lm_len_rep_flat, sizeLine_eq, ← r1.length]
        have a1 := Nat.mul_le_mul (show Int.toNat _ ≤ 1000 from Int.toNat_le.mpr h3) h4
        omega) (r1.rep _))
    · exact False.elim p
  · cases rb.int
    simp only [dMul] at p
    split at p
    · rename_i hz
      obtain ⟨l, vs, rfl, e1, z1, r1⟩ := ra.list
      obtain ⟨h1, h2, h3⟩ := hz
      refine .inl (.inr ⟨l, _, vs, rfl, rfl, e1, h1, h2, by rw [← r1.length]; exact h3, fun q hq => ?_⟩)
      exact p _ _ (same_upd hq) (rv_newL hq (by rw [PyProof.Rows.lm_len_rep_flat, Nat.mul_comm, ← r1.length]; exact h3) (r1.rep _))
    · exact False.elim p

/-! ### == of data -/
mutual
def D.toP : D → PyData
  | .non => .none
  | .bl b => .bool b
  | .int i => .int i
  | .str s => .str s
  | .tup xs => .tuple (D.toPs xs)
  | .lst xs => .list (D.toPs xs)
  | .dct _ => .dict []
  | .exc _ => .dict []
  | .obj _ => .dict []
def D.toPs : List D → List PyData
  | [] => []
  | x :: xs => D.toP x :: D.toPs xs
end
def shp (d : D) : Bool := SeqAt.shaped d.toP
def deq (a b : D) : Bool := PyData.eqv a.toP b.toP
theorem shp_lay {d : D} (h : shp d = true) : d.toP.canLay0 = true := SeqAt.canLay_of_shaped h
mutual
theorem R.dp {K : PySem.W.Frag} {H : Hp} {O : Ow} : ∀ {d : D} {v : V}, R H O d v → d.toP.canLay0 = true → Dp K H v d.toP
  | _, _, .non, _ => .non
  | _, _, .bl b, _ => .bl b
  | _, _, .int b, _ => .int b
  | _, _, .str b, _ => .str b
  | _, _, .tup h _ _ r, l => .tup (.inl (.inl h)) (Rs.dp r (by simpa only [D.toP, PyData.canLay0] using l))
  | _, _, .lst h _ _ r, l => .lst (.inl h) (Rs.dp r (by simpa only [D.toP, PyData.canLay0] using l))
theorem Rs.dp {K : PySem.W.Frag} {H : Hp} {O : Ow} : ∀ {ds : List D} {vs : List V}, Rs H O ds vs → PyData.canLayAll0 (D.toPs ds) = true → DpAll K H vs (D.toPs ds)
  | _, _, .nil, _ => .nil
  | _, _, .cons r t, l => by
    simp only [D.toPs, PyData.canLayAll0, Bool.and_eq_true] at l
    exact .cons (R.dp r l.1) (Rs.dp t l.2)
end
theorem RB.dp {K : PySem.W.Frag} {H : Hp} {O : Ow} {d : D} {v : V} (r : RB H O d v) (l : d.toP.canLay0 = true) : Dp K H v d.toP := by
  cases r with
  | of r => exact r.dp l
  | lst h z r => exact .lst (.inl h) (r.dp (by simpa only [D.toP, PyData.canLay0] using l))
def dEq (a b : D) : Res D := if shp a = true ∧ shp b = true then .ok (.bl (deq a b)) else .bad
def dNe (a b : D) : Res D := if shp a = true ∧ shp b = true then .ok (.bl (!deq a b)) else .bad
theorem sem_eq {K : PySem.W.Frag} : SemR (rEqD K) dEq := by
  intro O H a b x y Q W t ra rb p
  unfold dEq at p
  split at p
  · rename_i h
    exact ⟨_, _, ra.dp (shp_lay h.1), rb.dp (shp_lay h.2), h.1, h.2, p _ H same_refl (.bl _)⟩
  · exact False.elim p
theorem sem_ne {K : PySem.W.Frag} : SemR (rNeD K) dNe := by
  intro O H a b x y Q W t ra rb p
  unfold dNe at p
  split at p
  · rename_i h
    exact ⟨_, _, ra.dp (shp_lay h.1), rb.dp (shp_lay h.2), h.1, h.2, p _ H same_refl (.bl _)⟩
  · exact False.elim p
/-! ### order of ints (texts: by code points) -/
def dCmp (k : Int → Int → Bool) : D → D → Res D
  | .int i, .int j => .ok (.bl (k i j))
  | _, _ => .bad
theorem sem_cmp {k : Int → Int → Bool} : SemR (rI0 fun i j => .bl (k i j)) (dCmp k) := by
  intro O H a b x y Q W t ra rb p
  cases a <;> cases b <;> first | exact False.elim p | skip
  cases ra.int; cases rb.int
  exact ⟨_, _, rfl, rfl, p _ H same_refl (.bl _)⟩
abbrev dLt := dCmp fun i j => decide (i < j)
abbrev dLe := dCmp fun i j => decide (i ≤ j)
abbrev dGt := dCmp fun i j => decide (j < i)
abbrev dGe := dCmp fun i j => decide (j ≤ i)
/-! ### is None, is True -/
def D.isNon : D → Bool
  | .non => true
  | _ => false
theorem RB.isNon {H : Hp} {O : Ow} {d : D} {v : V} (r : RB H O d v) : decide (v = .non) = d.isNon := by
  cases r with
  | of r => cases r <;> rfl
  | lst h z r => rfl
def dIsN : D → D → Res D
  | a, .non => .ok (.bl a.isNon)
  | .bl a, .bl b => .ok (.bl (decide (a = b)))
  | _, _ => .bad
def dNotN : D → D → Res D
  | a, .non => .ok (.bl (!a.isNon))
  | .bl a, .bl b => .ok (.bl (!decide (a = b)))
  | _, _ => .bad
def rIs2 : R2 := fun x y H Q => (y = .non ∧ Q (.bl (decide (x = .non))) H) ∨ rIsB x y H Q
def rIsNot2 : R2 := fun x y H Q => (y = .non ∧ Q (.bl (!decide (x = .non))) H) ∨ rNotB x y H Q
theorem op_is2 {X : Cx} : OpR X (compareOp .Is) rIs2 := op_isN.or op_isBl
theorem op_isnot2 {X : Cx} : OpR X (compareOp .IsNot) rIsNot2 := op_notN.or op_notBl
theorem sem_is : SemR rIs2 dIsN := by
  intro O H a b x y Q W t ra rb p
  cases b with
  | non =>
    cases rb.non
    have p' : PostG (RRr O) W (.ok (.bl a.isNon)) H Q := by cases a <;> exact p
    exact .inl ⟨rfl, by rw [ra.isNon]; exact p' _ H same_refl (.bl _)⟩
  | bl b =>
    cases a <;> first | exact False.elim p | skip
    cases ra.bl; cases rb.bl
    exact .inr ⟨_, _, rfl, rfl, p _ H same_refl (.bl _)⟩
  | _ => cases a <;> exact False.elim p
theorem sem_isnot : SemR rIsNot2 dNotN := by
  intro O H a b x y Q W t ra rb p
  cases b with
  | non =>
    cases rb.non
    have p' : PostG (RRr O) W (.ok (.bl (!a.isNon))) H Q := by cases a <;> exact p
    exact .inl ⟨rfl, by rw [ra.isNon]; exact p' _ H same_refl (.bl _)⟩
  | bl b =>
    cases a <;> first | exact False.elim p | skip
    cases ra.bl; cases rb.bl
    exact .inr ⟨_, _, rfl, rfl, p _ H same_refl (.bl _)⟩
  | _ => cases a <;> exact False.elim p
/-! ### in -/
def D.flat : D → Bool
  | .non => true
  | .bl _ => true
  | .int _ => true
  | .str _ => true
  | _ => false
def dIn' (a : D) : D → Option Bool
  | .lst ds => if shp a = true ∧ shp (.lst ds) = true then some (ds.any fun z => deq z a) else none
  | .tup ds => if a.flat = true ∧ ds.all D.flat = true then some (ds.any fun z => deq z a) else none
  | .str z => match a with
    | .str c => match c.cps.toList with
      | [k] => some (decide (k ∈ z.cps.toList))
      | _ => none
    | _ => none
  | _ => none
def dIn (a b : D) : Res D := match dIn' a b with | some k => .ok (.bl k) | none => .bad
def dNin (a b : D) : Res D := match dIn' a b with | some k => .ok (.bl (!k)) | none => .bad
def rIn3 (K : PySem.W.Frag) (neg : Bool) : R2 := fun x y H Q => (∃ (d : PyData) (ds : List PyData), Dp K H x d ∧ Dp K H y (.list ds) ∧ SeqAt.shaped d = true ∧ SeqAt.shaped (.list ds) = true ∧ Q (.bl (if neg then !(ds.any fun z => PyData.eqv z d) else ds.any fun z => PyData.eqv z d)) H) ∨
  rIn K neg x y H Q ∨ ∃ (c : Nat) (z : Str), x = .str ⟨#[c]⟩ ∧ y = .str z ∧ Q (.bl (if neg then !decide (c ∈ z.cps.toList) else decide (c ∈ z.cps.toList))) H
theorem op_in3 {X : Cx} (hu : X.A.units + 65 < cLine) : OpR X (compareOp .In) (rIn3 X.K false) := (op_inD hu).or (op_in_seq.or op_in_sign)
theorem op_nin3 {X : Cx} (hu : X.A.units + 65 < cLine) : OpR X (compareOp .NotIn) (rIn3 X.K true) := (op_notInD hu).or (op_notIn_seq.or op_notIn_sign)
theorem any_toPs (d : PyData) : ∀ ds : List D, (D.toPs ds).any (fun z => PyData.eqv z d) = ds.any fun z => PyData.eqv z.toP d
  | [] => rfl
  | x :: xs => by rw [D.toPs, List.any_cons, List.any_cons, any_toPs d xs]
theorem eqV_deq {H : Hp} {O : Ow} {a b : D} {x y : V} (ra : R H O a x) (rb : R H O b y) (fa : a.flat = true) (fb : b.flat = true) : eqV x y = deq a b ∧ flatV x = true ∧ flatV y = true := by
  cases ra <;> cases rb <;> first | (exact Bool.noConfusion fa) | (exact Bool.noConfusion fb) | exact ⟨by simp [eqV, deq, D.toP, PyData.eqv], rfl, rfl⟩
theorem any_flat {H : Hp} {O : Ow} {a : D} {x : V} (ra : R H O a x) (fa : a.flat = true) : ∀ {ds : List D} {vs : List V}, Rs H O ds vs → ds.all D.flat = true → vs.all flatV = true ∧ inV x vs = ds.any fun z => deq z a
  | _, _, .nil, _ => ⟨rfl, rfl⟩
  | _, _, .cons r t, h => by
    simp only [List.all_cons, Bool.and_eq_true] at h
    obtain ⟨h1, h2⟩ := any_flat ra fa t h.2
    obtain ⟨e1, e2, e3⟩ := eqV_deq r ra h.1 fa
    refine ⟨by simp [h1, e2], ?_⟩
    unfold inV at h2 ⊢
    rw [List.any_cons, List.any_cons, h2, e1]
theorem RB.flat {H : Hp} {O : Ow} {d : D} {v : V} (r : RB H O d v) (f : d.flat = true) : R H O d v := by
  cases r with
  | of r => exact r
  | lst _ _ _ => exact Bool.noConfusion f
theorem sem_in' {K : PySem.W.Frag} {neg : Bool} {O : Ow} {H : Hp} {a b : D} {x y : V} {Q : VK} {k : Bool} (ra : RB H O a x) (rb : RB H O b y) (e : dIn' a b = some k) (q : Q (.bl (if neg then !k else k)) H) : rIn3 K neg x y H Q := by
  unfold dIn' at e
  split at e
  · rename_i ds
    split at e
    · rename_i h
      cases e
      refine .inl ⟨a.toP, D.toPs ds, ra.dp (shp_lay h.1), rb.dp (shp_lay h.2), h.1, h.2, ?_⟩
      rw [any_toPs]; exact q
    · cases e
  · rename_i ds
    split at e
    · rename_i h
      cases e
      obtain ⟨l, vs, rfl, e1, n1, z1, r1⟩ := rb.tuple
      have ra' := ra.flat h.1
      obtain ⟨f1, f2⟩ := any_flat ra' h.1 r1 h.2
      refine .inr (.inl ⟨l, vs, rfl, .inr (.inl (.inl e1)), (eqV_deq ra' ra' h.1 h.1).2.1, f1, ?_⟩)
      rw [f2]; exact q
    · cases e
  · rename_i z
    split at e
    · rename_i c
      split at e
      · rename_i j hj
        cases e
        cases ra.str; cases rb.str
        refine .inr (.inr ⟨j, z, ?_, rfl, q⟩)
        obtain ⟨arr⟩ := c
        have : arr = #[j] := by
          cases arr with | mk l => simp at hj; rw [hj]
        rw [this]
      · cases e
    · cases e
  · cases e
theorem sem_in {K : PySem.W.Frag} : SemR (rIn3 K false) dIn := by
  intro O H a b x y Q W t ra rb p
  unfold dIn at p
  split at p
  · exact sem_in' ra rb ‹_› (p _ H same_refl (.bl _))
  · exact False.elim p
theorem sem_nin {K : PySem.W.Frag} : SemR (rIn3 K true) dNin := by
  intro O H a b x y Q W t ra rb p
  unfold dNin at p
  split at p
  · exact sem_in' ra rb ‹_› (p _ H same_refl (.bl _))
  · exact False.elim p
/-! ### a < b < c -/
def e3 (k k' : D → D → Res D) (f g h : FB) : FB := fun ρ => f ρ >>= fun a => g ρ >>= fun b => k a b >>= fun z => match z with
  | .bl true => h ρ >>= fun c => k' b c
  | .bl false => .ok (.bl false)
  | _ => .bad
section
variable {X : Cx} {W : WE2} {a b c : Expr} {fa fb fc : FB} {pos : Pos}
theorem vr_chain {op op' : CmpOp} {r r' : R2} {k k' : D → D → Res D} (ho : OpR X (compareOp op) r) (ho' : OpR X (compareOp op') r') (sem : SemR r k) (sem' : SemR r' k') (h : PE X (.Compare a [op, op'] [b, c] pos) (tChain r r' (tB W fa) (tB W fb) (tB W fc))) :
    VR X W (.Compare a [op, op'] [b, c] pos) (e3 k k' fa fb fc) := PE.weak h fun σ H Q ⟨O, ρ, re, p⟩ => by
  refine ⟨O, ρ, re, PostG.bind (Rel := RBr O) (Rel' := RRr O) (x := fa ρ) RRr.pre p fun a x H1 _ s1 ra p1 => ?_⟩
  refine ⟨O, ρ, re.same s1, PostG.bind (Rel := RBr O) (Rel' := RRr O) (x := fb ρ) RRr.pre p1 fun b y H2 _ s2 rb p2 => ?_⟩
  refine sem O H2 a b x y _ (fun c => W c σ) (re.same (same_trans s1 s2)).trk (RB.same ra s2) rb (PostG.bind (Rel := RRr O) (Rel' := RRr O) (x := k a b) RRr.pre p2 fun z u H3 _ s3 rz p3 => ?_)
  split at p3
  · cases rz
    refine ⟨true, rfl, ?_⟩
    rw [if_pos rfl]
    refine ⟨O, ρ, re.same (same_trans s1 (same_trans s2 s3)), PostG.bind (Rel := RBr O) (Rel' := RRr O) (x := fc ρ) RRr.pre p3 fun c w H4 _ s4 rc p4 => ?_⟩
    exact sem' O H4 b c y w Q _ (re.same (same_trans s1 (same_trans s2 (same_trans s3 s4)))).trk (RB.same rb (same_trans s3 s4)) rc p4
  · cases rz
    exact ⟨false, rfl, by rw [if_neg (by simp)]; exact p3 _ H3 same_refl (.bl _)⟩
  · exact False.elim p3
end
/-! ### tests -/
def asT (f : FB) : FT := fun ρ => f ρ >>= fun d => match d with | .bl b => .ok b | _ => .bad
theorem PostT.of {O : Ow} {W : Exn → Hp → Prop} {x : Res D} {H : Hp} {Q : Bool → Hp → Prop} (p : PostT W (x >>= fun d => match d with | .bl b => .ok b | _ => .bad) H Q) : PostG (RBr O) W x H (fun v H' => ∃ k, v = .bl k ∧ Q k H') := by
  cases x with
  | ok d =>
    intro v H' s r
    cases d <;> first | exact False.elim p | skip
    cases r.bl
    exact ⟨_, rfl, p H' s⟩
  | exc c => exact p
  | bad => exact p
def tAnd2 (f g : FT) : FT := fun ρ => f ρ >>= fun a => if a = true then g ρ else .ok false
def tOr2 (f g : FT) : FT := fun ρ => f ρ >>= fun a => if a = true then .ok true else g ρ
def tNot2 (f : FT) : FT := fun ρ => f ρ >>= fun a => .ok (!a)
theorem PostT.same {W : Exn → Hp → Prop} {res : Res Bool} {H H1 : Hp} {Q : Bool → Hp → Prop} (s : Same H H1) (p : PostT W res H Q) : PostT W res H1 Q := by
  cases res with
  | ok r => exact fun H' s' => p H' (same_trans s s')
  | exc c => exact fun H' s' => p H' (same_trans s s')
  | bad => exact p
theorem PostT.bind {W : Exn → Hp → Prop} {x : Res Bool} {k : Bool → Res Bool} {H : Hp} {Q Q' : Bool → Hp → Prop} (p : PostT W (x >>= k) H Q) (h : ∀ b H1, x = .ok b → Same H H1 → PostT W (k b) H1 Q → Q' b H1) : PostT W x H Q' := by
  cases x with
  | ok r => exact fun H1 s => h r H1 rfl s (PostT.same s p)
  | exc c => exact p
  | bad => exact p
section
variable {X : Cx} {W : WE2} {e : Expr}
theorem vt_b {f : FB} (h : VB X W e f) (he : ∀ whole, isTrue e X.env whole = (do let v ← whole; standAt e.pos; holding [v] (truthy v)) := by intro _; rfl) : VT X W e (asT f) :=
  PT.weak (pt_val h he) fun σ H Q ⟨O, ρ, re, p⟩ => ⟨O, ρ, re, PostT.of p⟩
theorem vt_cmp {op : CmpOp} {r : R2} {k : D → D → Res D} {a b : Expr} {fa fb : FB} {pos : Pos} (ho : OpR X (compareOp op) r) (sem : SemR r k) (ha : VB X W a fa) (hb : VB X W b fb) (hm : behindInMarks op b = false) : VT X W (.Compare a [op] [b] pos) (asT (e2 k fa fb)) :=
  PT.weak (pt_cmpR ho ha hb hm) fun σ H Q ⟨O, ρ, re, p⟩ => op_e2G (Rel := RRr) (Q := fun x H' => ∃ k, x = .bl k ∧ Q k H') RRr.pre sem re ((PostT.of (O := O) p).rel fun d v H' _ hr => .of hr)
theorem vt_chain {op op' : CmpOp} {r r' : R2} {k k' : D → D → Res D} {a b c : Expr} {fa fb fc : FB} {pos : Pos} (sem : SemR r k) (sem' : SemR r' k') (h : PT X (.Compare a [op, op'] [b, c] pos) (tTest (tChain r r' (tB W fa) (tB W fb) (tB W fc)))) :
    VT X W (.Compare a [op, op'] [b, c] pos) (asT (e3 k k' fa fb fc)) := PT.weak h fun σ H Q ⟨O, ρ, re, p⟩ => by
  have p' : PostG (RRr O) (fun c => W c σ) (e3 k k' fa fb fc ρ) H (fun x H' => ∃ k, x = .bl k ∧ Q k H') := (PostT.of (O := O) p).rel fun d v H' _ hr => .of hr
  refine ⟨O, ρ, re, PostG.bind (Rel := RBr O) (Rel' := RRr O) (x := fa ρ) RRr.pre p' fun a x H1 _ s1 ra p1 => ?_⟩
  refine ⟨O, ρ, re.same s1, PostG.bind (Rel := RBr O) (Rel' := RRr O) (x := fb ρ) RRr.pre p1 fun b y H2 _ s2 rb p2 => ?_⟩
  refine sem O H2 a b x y _ (fun c => W c σ) (re.same (same_trans s1 s2)).trk (RB.same ra s2) rb (PostG.bind (Rel := RRr O) (Rel' := RRr O) (x := k a b) RRr.pre p2 fun z u H3 _ s3 rz p3 => ?_)
  split at p3
  · cases rz
    refine ⟨true, rfl, ?_⟩
    rw [if_pos rfl]
    refine ⟨O, ρ, re.same (same_trans s1 (same_trans s2 s3)), PostG.bind (Rel := RBr O) (Rel' := RRr O) (x := fc ρ) RRr.pre p3 fun c w H4 _ s4 rc p4 => ?_⟩
    exact sem' O H4 b c y w _ _ (re.same (same_trans s1 (same_trans s2 (same_trans s3 s4)))).trk (RB.same rb (same_trans s3 s4)) rc p4
  · cases rz
    exact ⟨false, rfl, by rw [if_neg (by simp)]; exact p3 _ H3 same_refl (.bl _)⟩
  · exact False.elim p3
theorem vt_not {f : FT} {pos : Pos} (h : VT X W e f) : VT X W (.UnaryOp .Not e pos) (tNot2 f) := PT.weak (pt_not h) fun σ H Q ⟨O, ρ, re, p⟩ =>
  ⟨O, ρ, re, PostT.bind p fun b H1 _ s p1 => p1 H1 same_refl⟩
/-- and, or as tests, whatever the whole is -/
abbrev VW (X : Cx) (W : WE2) (e : Expr) (f : FT) : Prop := PW X e (tT W f)
theorem PW.weak {X : Cx} {e : Expr} {t t' : TT} (h : PW X e t) (w : ∀ σ H Q, t' σ H Q → t σ H Q) : PW X e t' := ⟨fun wh pins s σ H Q I q => h.run wh pins s σ H Q I (w σ H Q q)⟩
theorem vw_and1 {f : FT} {a : Expr} {pos : Pos} (h : VT X W a f) : VW X W (.BoolOp .And [a] pos) f := pw_and1 h
theorem vw_or1 {f : FT} {a : Expr} {pos : Pos} (h : VT X W a f) : VW X W (.BoolOp .Or [a] pos) f := pw_or1 h
theorem vw_and {f g : FT} {a b : Expr} {rest : List Expr} {pos : Pos} (h : VT X W a f) (h2 : VW X W (.BoolOp .And (b :: rest) pos) g) : VW X W (.BoolOp .And (a :: b :: rest) pos) (tAnd2 f g) := PW.weak (pw_and h h2) fun σ H Q ⟨O, ρ, re, p⟩ =>
  ⟨O, ρ, re, PostT.bind p fun b H1 _ s p1 => by
    cases b
    · rw [if_neg (by simp)] at p1 ⊢; exact p1 H1 same_refl
    · rw [if_pos rfl] at p1 ⊢; exact ⟨O, ρ, re.same s, p1⟩⟩
theorem vw_or {f g : FT} {a b : Expr} {rest : List Expr} {pos : Pos} (h : VT X W a f) (h2 : VW X W (.BoolOp .Or (b :: rest) pos) g) : VW X W (.BoolOp .Or (a :: b :: rest) pos) (tOr2 f g) := PW.weak (pw_or h h2) fun σ H Q ⟨O, ρ, re, p⟩ =>
  ⟨O, ρ, re, PostT.bind p fun b H1 _ s p1 => by
    cases b
    · rw [if_neg (by simp)] at p1 ⊢; exact ⟨O, ρ, re.same s, p1⟩
    · rw [if_pos rfl] at p1 ⊢; exact p1 H1 same_refl⟩
theorem vt_w {f : FT} (h : VW X W e f) : VT X W e f := h.pt
/-- and, or, not as values (bools) -/
def vAnd2 (f g : FB) : FB := fun ρ => f ρ >>= fun a => match a with | .bl true => g ρ | .bl false => .ok (.bl false) | _ => .bad
def vOr2 (f g : FB) : FB := fun ρ => f ρ >>= fun a => match a with | .bl true => .ok (.bl true) | .bl false => g ρ | _ => .bad
def vNot2 (f : FB) : FB := fun ρ => f ρ >>= fun a => match a with | .bl b => .ok (.bl (!b)) | _ => .bad
theorem vr_one {f : FB} {op} {a : Expr} {pos : Pos} (h : VR X W a f) : VR X W (.BoolOp op [a] pos) f := pe_one h
theorem vr_and {f g : FB} {a b : Expr} {rest : List Expr} {pos : Pos} (h : VR X W a f) (h2 : VR X W (.BoolOp .And (b :: rest) pos) g) : VR X W (.BoolOp .And (a :: b :: rest) pos) (vAnd2 f g) := PE.weak (pe_and h h2) fun σ H Q ⟨O, ρ, re, p⟩ => by
  refine ⟨O, ρ, re, PostG.bind (Rel := RRr O) (Rel' := RRr O) (x := f ρ) RRr.pre p fun a x H1 _ s1 ra p1 => ?_⟩
  split at p1
  · cases ra
    exact ⟨true, rfl, by rw [if_pos rfl]; exact ⟨O, ρ, re.same s1, p1⟩⟩
  · cases ra
    exact ⟨false, rfl, by rw [if_neg (by simp)]; exact p1 _ H1 same_refl (.bl _)⟩
  · exact False.elim p1
theorem vr_or {f g : FB} {a b : Expr} {rest : List Expr} {pos : Pos} (h : VR X W a f) (h2 : VR X W (.BoolOp .Or (b :: rest) pos) g) : VR X W (.BoolOp .Or (a :: b :: rest) pos) (vOr2 f g) := PE.weak (pe_or h h2) fun σ H Q ⟨O, ρ, re, p⟩ => by
  refine ⟨O, ρ, re, PostG.bind (Rel := RRr O) (Rel' := RRr O) (x := f ρ) RRr.pre p fun a x H1 _ s1 ra p1 => ?_⟩
  split at p1
  · cases ra
    exact ⟨true, rfl, by rw [if_pos rfl]; exact p1 _ H1 same_refl (.bl _)⟩
  · cases ra
    exact ⟨false, rfl, by rw [if_neg (by simp)]; exact ⟨O, ρ, re.same s1, p1⟩⟩
  · exact False.elim p1
theorem vr_not {f : FB} {pos : Pos} (h : VR X W e f) : VR X W (.UnaryOp .Not e pos) (vNot2 f) := PE.weak (pe_not h) fun σ H Q ⟨O, ρ, re, p⟩ => by
  refine ⟨O, ρ, re, PostG.bind (Rel := RRr O) (Rel' := RRr O) (x := f ρ) RRr.pre p fun a x H1 _ s1 ra p1 => ?_⟩
  split at p1
  · cases ra
    exact ⟨_, rfl, p1 _ H1 same_refl (.bl _)⟩
  · exact False.elim p1
/-- a if t else b -/
def eIf {β : Type} (t : FT) (f g : Rho → Res β) : Rho → Res β := fun ρ => t ρ >>= fun c => if c = true then f ρ else g ρ
theorem PostT.bindG {β : Type} {Rel : Hp → Hp → β → V → Prop} {W : Exn → Hp → Prop} {x : Res Bool} {k : Bool → Res β} {H : Hp} {Q : VK} {Q' : Bool → Hp → Prop} (hR : ∀ {H H1 H' : Hp} {r : β} {v : V}, Same H H1 → Rel H1 H' r v → Rel H H' r v)
    (p : PostG Rel W (x >>= k) H Q) (h : ∀ b H1, x = .ok b → Same H H1 → PostG Rel W (k b) H1 Q → Q' b H1) : PostT W x H Q' := by
  cases x with
  | ok r => exact fun H1 s => h r H1 rfl s (PostG.same hR s p)
  | exc c => exact p
  | bad => exact p
theorem ve_if {t : FT} {f g : FV} {c a b : Expr} {pos : Pos} (hc : VT X W c t) (ha : VE X W a f) (hb : VE X W b g) : VE X W (.IfExp c a b pos) (eIf t f g) := PE.weak (pe_ifExp hc ha hb) fun σ H Q ⟨O, ρ, re, p⟩ =>
  ⟨O, ρ, re, PostT.bindG (Rel := RV O) (x := t ρ) (k := fun c => if c = true then f ρ else g ρ) RV.pre p fun b H1 _ s p1 => by
    cases b
    · rw [if_neg (by simp)] at p1 ⊢; exact ⟨O, ρ, re.same s, p1⟩
    · rw [if_pos rfl] at p1 ⊢; exact ⟨O, ρ, re.same s, p1⟩⟩
theorem vr_if {t : FT} {f g : FB} {c a b : Expr} {pos : Pos} (hc : VT X W c t) (ha : VR X W a f) (hb : VR X W b g) : VR X W (.IfExp c a b pos) (eIf t f g) := PE.weak (pe_ifExp hc ha hb) fun σ H Q ⟨O, ρ, re, p⟩ =>
  ⟨O, ρ, re, PostT.bindG (Rel := RRr O) (x := t ρ) (k := fun c => if c = true then f ρ else g ρ) RRr.pre p fun b H1 _ s p1 => by
    cases b
    · rw [if_neg (by simp)] at p1 ⊢; exact ⟨O, ρ, re.same s, p1⟩
    · rw [if_pos rfl] at p1 ⊢; exact ⟨O, ρ, re.same s, p1⟩⟩
end
end VL
end
section
set_option linter.all false
set_option maxRecDepth 100000
set_option maxHeartbeats 2000000
namespace VL
open PySem PySem.Spec PyProof.Rows L2
/-! ### subscripts -/
def dIx : D → D → Res D
  | .lst ds, .int i => match atI ds i with | some d => .ok d | none => .bad
  | .tup ds, .int i => match atI ds i with | some d => .ok d | none => .bad
  | .str z, .int i => if z.length ≤ sizeLine then match atI z.cps.toList i with | some c => .ok (.str ⟨#[c]⟩) | none => .bad else .bad
  | _, _ => .bad
theorem Rs.atI {H : Hp} {O : Ow} {ds : List D} {vs : List V} {i : Int} {d : D} (r : Rs H O ds vs) (e : L2.atI ds i = some d) : ∃ v, L2.atI vs i = some v ∧ R H O d v := by
  unfold L2.atI at e ⊢
  rw [← r.length]
  cases h : ixN ds.length i with
  | none => rw [h] at e; cases e
  | some j =>
    rw [h] at e
    exact r.get e
theorem sem_ix {K : PySem.W.Frag} : SemR (rIx K) dIx := by
  intro O H a b x y Q W t ra rb p
  cases a <;> cases b <;> first | exact False.elim p | skip
  · cases ra.str; cases rb.int
    simp only [dIx] at p
    split at p
    · split at p
      · exact .inr (.inr ⟨_, _, _, rfl, rfl, ‹_›, ‹_›, p _ H same_refl (.str _)⟩)
      · exact False.elim p
    · exact False.elim p
  · cases rb.int
    simp only [dIx] at p
    split at p
    · rename_i e
      obtain ⟨l, vs, rfl, e1, n1, z1, r1⟩ := ra.tuple
      obtain ⟨v, hv, rv⟩ := r1.atI e
      exact .inr (.inl ⟨l, vs, _, v, rfl, rfl, .inl (.inl e1), hv, p _ H same_refl rv⟩)
    · exact False.elim p
  · cases rb.int
    simp only [dIx] at p
    split at p
    · rename_i e
      obtain ⟨l, vs, rfl, e1, z1, r1⟩ := ra.list
      obtain ⟨v, hv, rv⟩ := r1.atI e
      exact .inl ⟨l, vs, _, v, rfl, rfl, .inl e1, hv, p _ H same_refl rv⟩
    · exact False.elim p
section
variable {X : Cx} {W : WE2} {a b : Expr} {fa fb : FB} {pos : Pos}
theorem vr_ix (ha : VB X W a fa) (hb : VB X W b fb) (hs : PlainIx b := by intro _ _; rfl) : VR X W (.Subscript a b pos) (e2 dIx fa fb) :=
  PE.weak (pe_ix ix_seq ha hb hs) fun σ H Q ⟨O, ρ, re, p⟩ => op_e2G (Rel := RRr) RRr.pre sem_ix re p
end
/-! ### slices -/
abbrev FO := Rho → Res (Option Int)
def RelO' (_ _ : Hp) (r : Option Int) (o : Option Int) : Prop := o = r
theorem RelO'.pre {H H1 H' : Hp} {r o : Option Int} (_ : Same H H1) (h : RelO' H1 H' r o) : RelO' H H' r o := h
def tO (W : WE2) (f : FO) : TO := fun σ H Q => ∃ O ρ, RE H O σ ρ ∧ PostG RelO' (fun c => W c σ) (f ρ) H Q
abbrev VO (X : Cx) (W : WE2) (e : Option Expr) (f : FO) : Prop := PO X e (tO W f)
theorem PO.weak {X : Cx} {e : Option Expr} {t t' : TO} (h : PO X e t) (w : ∀ σ H Q, t' σ H Q → t σ H Q) : PO X e t' := ⟨fun pins s σ H Q I q => h.run pins s σ H Q I (w σ H Q q)⟩
def oNone : FO := fun _ => .ok none
def oSome (f : FB) : FO := fun ρ => f ρ >>= fun d => match d with | .int i => .ok (some i) | _ => .bad
theorem vo_none {X : Cx} {W : WE2} : VO X W none oNone := PO.weak po_none fun σ H Q ⟨O, ρ, re, p⟩ => p none H same_refl rfl
theorem vo_some {X : Cx} {W : WE2} {e : Expr} {f : FB} (h : VB X W e f) : VO X W (some e) (oSome f) := PO.weak (po_some h) fun σ H Q ⟨O, ρ, re, p⟩ =>
  ⟨O, ρ, re, PostG.bind (Rel := RBr O) (Rel' := RelO') (x := f ρ) RelO'.pre p fun d v H1 _ s1 r p1 => by
    cases d <;> first | exact False.elim p1 | skip
    cases r.int
    exact ⟨_, rfl, p1 _ H1 same_refl rfl⟩⟩
/-- the items of xs[lo:hi] -/
def cutG {α : Type} (xs : List α) (lo hi : Option Int) : List α := (xs.drop (HT.sIx xs.length 0 lo)).take (HT.sIx xs.length xs.length hi - HT.sIx xs.length 0 lo)
theorem cutG_V (xs : List V) (lo hi : Option Int) : cutV xs lo hi = cutG xs lo hi := rfl
theorem cutG_len {α : Type} (xs : List α) (lo hi : Option Int) : (cutG xs lo hi).length ≤ xs.length := by
  unfold cutG
  rw [List.length_take, List.length_drop]
  omega
theorem cutG_all {α : Type} {xs : List α} {lo hi : Option Int} (h : HT.sIx xs.length 0 lo = 0 ∧ HT.sIx xs.length xs.length hi = xs.length) : cutG xs lo hi = xs := by
  unfold cutG
  rw [h.1, h.2]
  simp
theorem Rs.cut {H : Hp} {O : Ow} {ds : List D} {vs : List V} (r : Rs H O ds vs) (lo hi : Option Int) : Rs H O (cutG ds lo hi) (cutG vs lo hi) := by
  unfold cutG
  rw [← r.length]
  exact (r.drop _).take _
def dSl (a : D) (lo hi : Option Int) : Res (Md × D) := match a with
  | .lst ds => .ok (.own, .lst (cutG ds lo hi))
  | .tup ds => .ok (.val, .tup (cutG ds lo hi))
  | .str z => if z.length ≤ sizeLine then .ok (.val, .str (cutS z lo hi)) else .bad
  | _ => .bad
def eSl (f : FB) (lo hi : FO) : FV := fun ρ => f ρ >>= fun a => lo ρ >>= fun l => hi ρ >>= fun h => dSl a l h
def rSl3 (K : PySem.W.Frag) : V → Option Int → Option Int → Hp → VK → Prop := fun x lo hi H Q => (rSlL K x lo hi H Q ∨ rSlA K x lo hi H Q) ∨ rSlS x lo hi H Q
theorem sl_3 {X : Cx} : SlR X (rSl3 X.K) := (sl_list.or sl_tupA).or sl_str
section
variable {X : Cx} {W : WE2} {a : Expr} {lo hi : Option Expr} {fa : FB} {fl fh : FO} {p2 pos : Pos}
theorem ve_sl (ha : VB X W a fa) (hl : VO X W lo fl) (hh : VO X W hi fh) : VE X W (.Subscript a (.Slice lo hi none p2) pos) (eSl fa fl fh) := PE.weak (pe_slice sl_3 ha hl hh) fun σ H Q ⟨O, ρ, re, p⟩ => by
  refine ⟨O, ρ, re, PostG.bind (Rel := RBr O) (Rel' := RV O) (x := fa ρ) RV.pre p fun a x H1 _ s1 ra p1 => ?_⟩
  refine ⟨O, ρ, re.same s1, PostG.bind (Rel := RelO') (Rel' := RV O) (x := fl ρ) RV.pre p1 fun l l' H2 _ s2 rl p2 => ?_⟩
  refine ⟨O, ρ, re.same (same_trans s1 s2), PostG.bind (Rel := RelO') (Rel' := RV O) (x := fh ρ) RV.pre p2 fun h h' H3 _ s3 rh p3 => ?_⟩
  cases rl; cases rh
  have t := (re.same (same_trans s1 (same_trans s2 s3))).trk
  have ra' := RB.same ra (same_trans s2 s3)
  cases a <;> first | exact False.elim p3 | skip
  · cases ra'.str
    simp only [dSl] at p3
    split at p3
    · exact .inr ⟨_, rfl, ‹_›, p3 _ H3 same_refl (.str _)⟩
    · exact False.elim p3
  · obtain ⟨q, vs, rfl, e1, n1, z1, r1⟩ := ra'.tuple
    refine .inl (.inr ⟨q, vs, rfl, .inl (.inl e1), fun hw => ?_, fun _ p' hp => ?_⟩)
    · have hw' := hw
      rw [← r1.length] at hw'
      exact p3 _ H3 same_refl (show R _ _ (.tup (cutG _ _ _)) _ by rw [cutG_all hw']; exact .tup e1 n1 z1 r1)
    · exact p3 _ _ (same_upd hp) (r_newT t hp (Nat.le_trans (cutG_len _ _ _) z1) (r1.cut _ _))
  · obtain ⟨q, vs, rfl, e1, z1, r1⟩ := ra'.list
    exact .inl (.inl ⟨q, vs, rfl, .inl e1, fun p' hp => p3 _ _ (same_upd hp) (rv_newL hp (Nat.le_trans (cutG_len _ _ _) z1) (r1.cut _ _))⟩)
end
/-! ### lists of expressions: displays, arguments -/
abbrev FL := Rho → Res (List D)
def RLr (O : Ow) (_ H' : Hp) (ds : List D) (vs : List V) : Prop := Rs H' O ds vs
theorem RLr.pre {O : Ow} {H H1 H' : Hp} {d : List D} {v : List V} (_ : Same H H1) (h : RLr O H1 H' d v) : RLr O H H' d v := h
def tL (W : WE2) (f : FL) : TA := fun σ H Q => ∃ O ρ, RE H O σ ρ ∧ PostG (RLr O) (fun c => W c σ) (f ρ) H Q
abbrev VL (X : Cx) (W : WE2) (es : List Expr) (f : FL) : Prop := PA X es (tL W f)
theorem PA.weak {X : Cx} {es : List Expr} {t t' : TA} (h : PA X es t) (w : ∀ σ H Q, t' σ H Q → t σ H Q) : PA X es t' := ⟨fun pos pins s σ H Q I q => h.run pos pins s σ H Q I (w σ H Q q)⟩
def lNil : FL := fun _ => .ok []
def lCons (f : FB) (g : FL) : FL := fun ρ => f ρ >>= fun a => g ρ >>= fun r => .ok (a :: r)
section
variable {X : Cx} {W : WE2} {e : Expr} {es : List Expr} {f : FB} {g : FL} {pos : Pos}
theorem vl_nil : VL X W [] lNil := PA.weak pa_nil fun σ H Q ⟨O, ρ, re, p⟩ => p [] H same_refl .nil
theorem vl_cons (h : VR X W e f) (h2 : VL X W es g) (hs : starEach (e :: es) X.env = (false, eval e X.env) :: starEach es X.env := by rfl) : VL X W (e :: es) (lCons f g) := PA.weak (pa_cons h h2 hs) fun σ H Q ⟨O, ρ, re, p⟩ => by
  refine ⟨O, ρ, re, PostG.bind (Rel := RRr O) (Rel' := RLr O) (x := f ρ) RLr.pre p fun a x H1 _ s1 ra p1 => ?_⟩
  refine ⟨O, ρ, re.same s1, PostG.bind (Rel := RLr O) (Rel' := RLr O) (x := g ρ) RLr.pre p1 fun r vs H2 _ s2 rr p2 => ?_⟩
  exact p2 _ H2 same_refl (.cons (R.same ra s2) rr)
def eTup (g : FL) : FB := fun ρ => g ρ >>= fun ds => if ds.length ≤ sizeLine then .ok (.tup ds) else .bad
def eLst (g : FL) : FV := fun ρ => g ρ >>= fun ds => if ds.length ≤ sizeLine then .ok (.own, .lst ds) else .bad
theorem vr_tup {x1} (h : VL X W es g) : VR X W (.Tuple es x1 pos) (eTup g) := PE.weak (pe_tup h) fun σ H Q ⟨O, ρ, re, p⟩ => by
  refine ⟨O, ρ, re, PostG.bind (Rel := RLr O) (Rel' := RRr O) (x := g ρ) RRr.pre p fun ds vs H1 _ s1 r p1 => ?_⟩
  split at p1
  · rename_i hz
    rw [r.length] at hz
    exact ⟨hz, fun q hq => p1 _ _ (same_upd hq) (r_newT (re.same s1).trk hq hz r)⟩
  · exact False.elim p1
theorem ve_lst (h : VL X W es g) : VE X W (.List es pos) (eLst g) := PE.weak (pe_lst h) fun σ H Q ⟨O, ρ, re, p⟩ => by
  refine ⟨O, ρ, re, PostG.bind (Rel := RLr O) (Rel' := RV O) (x := g ρ) RV.pre p fun ds vs H1 _ s1 r p1 => ?_⟩
  split at p1
  · rename_i hz
    rw [r.length] at hz
    exact ⟨hz, fun q hq => p1 _ _ (same_upd hq) (rv_newL hq hz r)⟩
  · exact False.elim p1
end
/-! ### built-ins of one argument -/
def Sem1V (r : List V → Hp → VK → Prop) (k : D → Res (Md × D)) : Prop := ∀ (O : Ow) (H : Hp) (a : D) (x : V) (Q : VK) (W : Exn → Hp → Prop), Trk O H → RB H O a x → PostG (RV O) W (k a) H Q → r [x] H Q
def Sem1R (r : List V → Hp → VK → Prop) (k : D → Res D) : Prop := ∀ (O : Ow) (H : Hp) (a : D) (x : V) (Q : VK) (W : Exn → Hp → Prop), Trk O H → RB H O a x → PostG (RRr O) W (k a) H Q → r [x] H Q
section
variable {X : Cx} {W : WE2} {e : Expr} {fa fb : FB} {r : List V → Hp → VK → Prop}
theorem ve_1 {k : D → Res (Md × D)} (sem : Sem1V r k) (h : PE X e (tCB r (tCons (tB W fa) tNil))) : VE X W e (e1 k fa) := PE.weak h fun σ H Q ⟨O, ρ, re, p⟩ =>
  ⟨O, ρ, re, PostG.bind (Rel := RBr O) (Rel' := RV O) (x := fa ρ) RV.pre p fun a x H1 _ s1 ra p1 => sem O H1 a x Q _ (re.same s1).trk ra p1⟩
theorem vr_1 {k : D → Res D} (sem : Sem1R r k) (h : PE X e (tCB r (tCons (tB W fa) tNil))) : VR X W e (e1 k fa) := PE.weak h fun σ H Q ⟨O, ρ, re, p⟩ =>
  ⟨O, ρ, re, PostG.bind (Rel := RBr O) (Rel' := RRr O) (x := fa ρ) RRr.pre p fun a x H1 _ s1 ra p1 => sem O H1 a x Q _ (re.same s1).trk ra p1⟩
def Sem2R (r : List V → Hp → VK → Prop) (k : D → D → Res D) : Prop := ∀ (O : Ow) (H : Hp) (a b : D) (x y : V) (Q : VK) (W : Exn → Hp → Prop), Trk O H → RB H O a x → RB H O b y → PostG (RRr O) W (k a b) H Q → r [x, y] H Q
theorem vr_2 {k : D → D → Res D} (sem : Sem2R r k) (h : PE X e (tCB r (tCons (tB W fa) (tCons (tB W fb) tNil)))) : VR X W e (e2 k fa fb) := PE.weak h fun σ H Q ⟨O, ρ, re, p⟩ => by
  refine ⟨O, ρ, re, PostG.bind (Rel := RBr O) (Rel' := RRr O) (x := fa ρ) RRr.pre p fun a x H1 _ s1 ra p1 => ?_⟩
  refine ⟨O, ρ, re.same s1, PostG.bind (Rel := RBr O) (Rel' := RRr O) (x := fb ρ) RRr.pre p1 fun b y H2 _ s2 rb p2 => ?_⟩
  exact sem O H2 a b x y Q _ (re.same (same_trans s1 s2)).trk (RB.same ra s2) rb p2
/-- isinstance(x, T): the second one a class -/
def Sem1C (r : List V → Hp → VK → Prop) (c : V) (k : D → Res D) : Prop := ∀ (O : Ow) (H : Hp) (a : D) (x : V) (Q : VK) (W : Exn → Hp → Prop), Trk O H → RB H O a x → PostG (RRr O) W (k a) H Q → r [x, c] H Q
theorem vr_1c {k : D → Res D} {c : V} (sem : Sem1C r c k) (h : PE X e (tCB r (tCons (tB W fa) (tCons (tC c) tNil)))) : VR X W e (e1 k fa) := PE.weak h fun σ H Q ⟨O, ρ, re, p⟩ =>
  ⟨O, ρ, re, PostG.bind (Rel := RBr O) (Rel' := RRr O) (x := fa ρ) RRr.pre p fun a x H1 _ s1 ra p1 => sem O H1 a x Q _ (re.same s1).trk ra p1⟩
end
/-! #### len -/
def dLen : D → Res D
  | .lst ds => .ok (.int ds.length)
  | .tup ds => .ok (.int ds.length)
  | .str z => if z.length ≤ sizeLine then .ok (.int z.length) else .bad
  | _ => .bad
theorem sem_len {K : PySem.W.Frag} : Sem1R (fun xs H Q => ∃ x n, xs = [x] ∧ LenV K x H n ∧ Q (.int n) H) dLen := by
  intro O H a x Q W t ra p
  cases a <;> first | exact False.elim p | skip
  · cases ra.str
    simp only [dLen] at p
    split at p
    · exact ⟨_, _, rfl, ⟨‹_›, rfl⟩, p _ H same_refl (.int _)⟩
    · exact False.elim p
  · obtain ⟨q, vs, rfl, e1, n1, z1, r1⟩ := ra.tuple
    exact ⟨_, vs.length, rfl, .inr ⟨_, .inl (.inl e1), rfl⟩, by rw [← r1.length]; exact p _ H same_refl (.int _)⟩
  · obtain ⟨q, vs, rfl, e1, z1, r1⟩ := ra.list
    exact ⟨_, vs.length, rfl, .inl ⟨_, .inl e1, rfl⟩, by rw [← r1.length]; exact p _ H same_refl (.int _)⟩
/-! #### list(x), tuple(x) -/
def dList : D → Res (Md × D)
  | .lst ds => .ok (.own, .lst ds)
  | .tup ds => .ok (.own, .lst ds)
  | _ => .bad
theorem sem_list {K : PySem.W.Frag} : Sem1V (fun xs H Q => ∃ p ys, xs = [.ref p] ∧ (SqL K H p ys ∨ SqT K H p ys) ∧ ∀ l, H l = none → Q (.ref l) (upd H l (.lst ys))) dList := by
  intro O H a x Q W t ra p
  cases a <;> first | exact False.elim p | skip
  · obtain ⟨q, vs, rfl, e1, n1, z1, r1⟩ := ra.tuple
    exact ⟨q, vs, rfl, .inr (.inl (.inl e1)), fun l hl => p _ _ (same_upd hl) (rv_newL hl z1 r1)⟩
  · obtain ⟨q, vs, rfl, e1, z1, r1⟩ := ra.list
    exact ⟨q, vs, rfl, .inl (.inl e1), fun l hl => p _ _ (same_upd hl) (rv_newL hl z1 r1)⟩
def dTup : D → Res D
  | .lst ds => .ok (.tup ds)
  | .tup ds => .ok (.tup ds)
  | _ => .bad
theorem sem_tup {K : PySem.W.Frag} : Sem1R (fun xs H Q => ∃ p ys, xs = [.ref p] ∧ ((SqL K H p ys ∧ ∀ l, H l = none → Q (.ref l) (upd H l (.tup ys))) ∨ (SqT K H p ys ∧ Q (.ref p) H))) dTup := by
  intro O H a x Q W t ra p
  cases a <;> first | exact False.elim p | skip
  · obtain ⟨q, vs, rfl, e1, n1, z1, r1⟩ := ra.tuple
    exact ⟨q, vs, rfl, .inr ⟨.inl (.inl e1), p _ H same_refl (.tup e1 n1 z1 r1)⟩⟩
  · obtain ⟨q, vs, rfl, e1, z1, r1⟩ := ra.list
    exact ⟨q, vs, rfl, .inl ⟨.inl e1, fun l hl => p _ _ (same_upd hl) (r_newT t hl z1 r1)⟩⟩
/-! #### all, any, sum, max, min -/
def bools : List D → Option (List Bool)
  | [] => some []
  | .bl b :: r => (bools r).map (b :: ·)
  | _ => none
def intsOf : List D → Option (List Int)
  | [] => some []
  | .int b :: r => (intsOf r).map (b :: ·)
  | _ => none
theorem bools_of {H : Hp} {O : Ow} : ∀ {ds : List D} {vs : List V} {bs : List Bool}, Rs H O ds vs → bools ds = some bs → vs = bs.map V.bl
  | _, _, _, .nil, e => by cases e; rfl
  | _, _, _, .cons (d := d) r t, e => by
    cases d <;> simp only [bools] at e <;> first | cases e | skip
    simp only [Option.map_eq_some_iff] at e
    obtain ⟨bs', e', rfl⟩ := e
    cases r
    rw [bools_of t e']; rfl
theorem ints_of' {H : Hp} {O : Ow} : ∀ {ds : List D} {vs : List V} {bs : List Int}, Rs H O ds vs → intsOf ds = some bs → vs = bs.map V.int
  | _, _, _, .nil, e => by cases e; rfl
  | _, _, _, .cons (d := d) r t, e => by
    cases d <;> simp only [intsOf] at e <;> first | cases e | skip
    simp only [Option.map_eq_some_iff] at e
    obtain ⟨bs', e', rfl⟩ := e
    cases r
    rw [ints_of' t e']; rfl
def dAll : D → Res D
  | .lst ds => match bools ds with | some bs => .ok (.bl (bs.all id)) | none => .bad
  | _ => .bad
def dAny : D → Res D
  | .lst ds => match bools ds with | some bs => .ok (.bl (bs.any id)) | none => .bad
  | _ => .bad
def dSum : D → Res D
  | .lst ds => match intsOf ds with | some bs => .ok (.int bs.sum) | none => .bad
  | _ => .bad
def dMax : D → Res D
  | .lst ds => match intsOf ds with | some (b :: bs) => .ok (.int (bs.foldl max b)) | _ => .bad
  | _ => .bad
def dMin : D → Res D
  | .lst ds => match intsOf ds with | some (b :: bs) => .ok (.int (bs.foldl min b)) | _ => .bad
  | _ => .bad
theorem sem_all {K : PySem.W.Frag} : Sem1R (rAll K) dAll := by
  intro O H a x Q W t ra p
  cases a <;> first | exact False.elim p | skip
  simp only [dAll] at p
  split at p
  · rename_i e
    obtain ⟨q, vs, rfl, e1, z1, r1⟩ := ra.list
    have := bools_of r1 e
    subst this
    exact ⟨q, _, rfl, .inl e1, p _ H same_refl (.bl _)⟩
  · exact False.elim p
theorem sem_any {K : PySem.W.Frag} : Sem1R (rAny K) dAny := by
  intro O H a x Q W t ra p
  cases a <;> first | exact False.elim p | skip
  simp only [dAny] at p
  split at p
  · rename_i e
    obtain ⟨q, vs, rfl, e1, z1, r1⟩ := ra.list
    have := bools_of r1 e
    subst this
    exact ⟨q, _, rfl, .inl e1, p _ H same_refl (.bl _)⟩
  · exact False.elim p
theorem sem_sum {K : PySem.W.Frag} : Sem1R (rSum K) dSum := by
  intro O H a x Q W t ra p
  cases a <;> first | exact False.elim p | skip
  simp only [dSum] at p
  split at p
  · rename_i e
    obtain ⟨q, vs, rfl, e1, z1, r1⟩ := ra.list
    have := ints_of' r1 e
    subst this
    exact ⟨q, _, rfl, .inl e1, p _ H same_refl (.int _)⟩
  · exact False.elim p
theorem foldl_max_mem : ∀ (bs : List Int) (b : Int), bs.foldl max b ∈ b :: bs ∧ ∀ y ∈ b :: bs, y ≤ bs.foldl max b
  | [], b => ⟨by simp, by simp⟩
  | c :: bs, b => by
    obtain ⟨h1, h2⟩ := foldl_max_mem bs (max b c)
    rw [List.foldl_cons]
    refine ⟨?_, fun y hy => ?_⟩
    · rcases List.mem_cons.mp h1 with e | e
      · rw [e]
        rcases Int.le_total b c with h | h
        · rw [Int.max_eq_right h]; simp
        · rw [Int.max_eq_left h]; simp
      · exact List.mem_cons_of_mem _ (List.mem_cons_of_mem _ e)
    · have hm := h2 (max b c) List.mem_cons_self
      rcases List.mem_cons.mp hy with e | e
      · subst e; omega
      · rcases List.mem_cons.mp e with e | e
        · subst e; omega
        · exact h2 y (List.mem_cons_of_mem _ e)
theorem foldl_min_mem : ∀ (bs : List Int) (b : Int), bs.foldl min b ∈ b :: bs ∧ ∀ y ∈ b :: bs, bs.foldl min b ≤ y
  | [], b => ⟨by simp, by simp⟩
  | c :: bs, b => by
    obtain ⟨h1, h2⟩ := foldl_min_mem bs (min b c)
    rw [List.foldl_cons]
    refine ⟨?_, fun y hy => ?_⟩
    · rcases List.mem_cons.mp h1 with e | e
      · rw [e]
        rcases Int.le_total b c with h | h
        · rw [Int.min_eq_left h]; simp
        · rw [Int.min_eq_right h]; simp
      · exact List.mem_cons_of_mem _ (List.mem_cons_of_mem _ e)
    · have hm := h2 (min b c) List.mem_cons_self
      rcases List.mem_cons.mp hy with e | e
      · subst e; omega
      · rcases List.mem_cons.mp e with e | e
        · subst e; omega
        · exact h2 y (List.mem_cons_of_mem _ e)
theorem sem_max {K : PySem.W.Frag} : Sem1R (rMax K) dMax := by
  intro O H a x Q W t ra p
  cases a <;> first | exact False.elim p | skip
  simp only [dMax] at p
  split at p
  · rename_i b bs e
    obtain ⟨q, vs, rfl, e1, z1, r1⟩ := ra.list
    have := ints_of' r1 e
    subst this
    refine ⟨q, b :: bs, rfl, .inl e1, by simp, fun m hm hle => ?_⟩
    obtain ⟨h1, h2⟩ := foldl_max_mem bs b
    have : m = bs.foldl max b := Int.le_antisymm (h2 m hm) (hle _ h1)
    subst this
    exact p _ H same_refl (.int _)
  · exact False.elim p
theorem sem_min {K : PySem.W.Frag} : Sem1R (rMin K) dMin := by
  intro O H a x Q W t ra p
  cases a <;> first | exact False.elim p | skip
  simp only [dMin] at p
  split at p
  · rename_i b bs e
    obtain ⟨q, vs, rfl, e1, z1, r1⟩ := ra.list
    have := ints_of' r1 e
    subst this
    refine ⟨q, b :: bs, rfl, .inl e1, by simp, fun m hm hle => ?_⟩
    obtain ⟨h1, h2⟩ := foldl_min_mem bs b
    have : m = bs.foldl min b := Int.le_antisymm (hle _ h1) (h2 m hm)
    subst this
    exact p _ H same_refl (.int _)
  · exact False.elim p
/-! #### max(a, b), min(a, b), int(x) -/
def dMax2 : D → D → Res D
  | .int i, .int j => .ok (.int (if j > i then j else i))
  | _, _ => .bad
def dMin2 : D → D → Res D
  | .int i, .int j => .ok (.int (if j < i then j else i))
  | _, _ => .bad
theorem sem_max2 : Sem2R (fun xs H Q => ∃ i j, xs = [.int i, .int j] ∧ Q (.int (if j > i then j else i)) H) dMax2 := by
  intro O H a b x y Q W t ra rb p
  cases a <;> cases b <;> first | exact False.elim p | skip
  cases ra.int; cases rb.int
  exact ⟨_, _, rfl, p _ H same_refl (.int _)⟩
theorem sem_min2 : Sem2R (fun xs H Q => ∃ i j, xs = [.int i, .int j] ∧ Q (.int (if j < i then j else i)) H) dMin2 := by
  intro O H a b x y Q W t ra rb p
  cases a <;> cases b <;> first | exact False.elim p | skip
  cases ra.int; cases rb.int
  exact ⟨_, _, rfl, p _ H same_refl (.int _)⟩
def dInt : D → Res D
  | .int i => .ok (.int i)
  | .bl b => .ok (.int (if b then 1 else 0))
  | _ => .bad
theorem sem_int : Sem1R (fun xs H Q => (∃ i, xs = [.int i] ∧ Q (.int i) H) ∨ ∃ k, xs = [.bl k] ∧ Q (.int (if k then 1 else 0)) H) dInt := by
  intro O H a x Q W t ra p
  cases a <;> first | exact False.elim p | skip
  · cases ra.bl; exact .inr ⟨_, rfl, p _ H same_refl (.int _)⟩
  · cases ra.int; exact .inl ⟨_, rfl, p _ H same_refl (.int _)⟩
/-! #### - x -/
def dNeg : D → Res D
  | .int i => .ok (.int (-i))
  | _ => .bad
theorem vr_neg {X : Cx} {W : WE2} {a : Expr} {fa : FB} {pos : Pos} (ha : VB X W a fa) : VR X W (.UnaryOp .USub a pos) (e1 dNeg fa) := PE.weak (pe_un un_neg ha) fun σ H Q ⟨O, ρ, re, p⟩ =>
  ⟨O, ρ, re, PostG.bind (Rel := RBr O) (Rel' := RRr O) (x := fa ρ) RRr.pre p fun a x H1 _ s1 ra p1 => by
    cases a <;> first | exact False.elim p1 | skip
    cases ra.int
    exact ⟨_, rfl, p1 _ H1 same_refl (.int _)⟩⟩
/-! #### isinstance(x, str), (x, tuple), (x, list) -/
def D.tyN : D → Option String
  | .non => some "NoneType"
  | .bl _ => some "bool"
  | .int _ => some "int"
  | .str _ => some "str"
  | .tup _ => some "tuple"
  | .lst _ => some "list"
  | _ => none
theorem RB.tyX {K : PySem.W.Frag} {H : Hp} {O : Ow} {d : D} {v : V} {T : String} (r : RB H O d v) (e : d.tyN = some T) : TyX K H v (.type T) := by
  cases d <;> simp only [D.tyN] at e <;> cases e
  · cases r.non; exact .base .non
  · cases r.bl; exact .base (.bl _)
  · cases r.int; exact .base (.int _)
  · cases r.str; exact .base (.str _)
  · obtain ⟨q, vs, rfl, e1, n1, z1, r1⟩ := r.tuple
    exact .base (.tup e1)
  · obtain ⟨q, vs, rfl, e1, z1, r1⟩ := r.list
    rcases e1 with e1 | ⟨o, e1⟩
    · exact .base (.lst e1)
    · exact .base (.frz e1)
def dIsStr : D → Res D
  | .str _ => .ok (.bl true)
  | d => match d.tyN with | some _ => .ok (.bl false) | none => .bad
def dIsTup : D → Res D
  | .tup _ => .ok (.bl true)
  | d => match d.tyN with | some _ => .ok (.bl false) | none => .bad
theorem kitB_str : ∀ T, T = "NoneType" ∨ T = "bool" ∨ T = "int" ∨ T = "tuple" ∨ T = "list" → kitB T "str" = some false := by
  intro T h
  rcases h with rfl | rfl | rfl | rfl | rfl <;> decide +kernel
theorem kitB_tup : ∀ T, T = "NoneType" ∨ T = "bool" ∨ T = "int" ∨ T = "str" ∨ T = "list" → kitB T "tuple" = some false := by
  intro T h
  rcases h with rfl | rfl | rfl | rfl | rfl <;> decide +kernel
theorem kitB_str' : kitB "str" "str" = some true := by decide +kernel
theorem kitB_tup' : kitB "tuple" "tuple" = some true := by decide +kernel
theorem sem_isStr {K : PySem.W.Frag} : Sem1C (rIsi K) (.ty "str") dIsStr := by
  intro O H a x Q W t ra p
  cases a with
  | str z => exact ⟨x, _, _, _, true, rfl, .ty _, ra.tyX rfl, kit_ty kitB_str', p _ H same_refl (.bl _)⟩
  | dct _ => exact False.elim p
  | exc _ => exact False.elim p
  | obj _ => exact False.elim p
  | _ => exact ⟨x, _, _, _, false, rfl, .ty _, ra.tyX rfl, kit_ty (kitB_str _ (by simp)), p _ H same_refl (.bl _)⟩
theorem sem_isTup {K : PySem.W.Frag} : Sem1C (rIsi K) (.ty "tuple") dIsTup := by
  intro O H a x Q W t ra p
  cases a with
  | tup z => exact ⟨x, _, _, _, true, rfl, .ty _, ra.tyX rfl, kit_ty kitB_tup', p _ H same_refl (.bl _)⟩
  | dct _ => exact False.elim p
  | exc _ => exact False.elim p
  | obj _ => exact False.elim p
  | _ => exact ⟨x, _, _, _, false, rfl, .ty _, ra.tyX rfl, kit_ty (kitB_tup _ (by simp)), p _ H same_refl (.bl _)⟩
end VL
end
section
set_option linter.all false
set_option maxRecDepth 100000
set_option maxHeartbeats 2000000
namespace VL
open PySem PySem.Spec PyProof.Rows L2
/-! ### what is walked -/
def Walk1 (J : It) (C : Hp → Ow → Prop) (ds : List D) : Prop := ∀ (H : Hp) (O : Ow), Trk O H → C H O → ∀ i : Nat,
  (∀ d, ds[i]? = some d → J.go i H ∧ ∀ x H3, J.yld i H x H3 → Same H H3 ∧ R H3 O d x) ∧ (i = ds.length → J.stop i H)
/-- an iterator has come: it walks ds. st: over what heap the source stays (a loop's: that of the entry; a comprehension's: the very one) -/
def RI (st : Option Hp) (O : Ow) (_ H' : Hp) (ds : List D) (J : It) : Prop := ∃ C, Walk1 J C ds ∧ ds.length ≤ sizeLine ∧ ∀ H'' O'', Same (st.getD H') H'' → Kp H' O H'' O'' → C H'' O''
theorem RI.pre {st : Option Hp} {O : Ow} {H H1 H' : Hp} {d : List D} {v : It} (_ : Same H H1) (h : RI st O H1 H' d v) : RI st O H H' d v := h
abbrev Pst := Hp → Ow → St → Rho → Prop
def tI (P : Pst) (st : Option Hp) (W : WE2) (f : FL) : TI := fun σ H R' => ∃ O ρ, P H O σ ρ ∧ PostG (RI st O) (fun c => W c σ) (f ρ) H R'
/-- a source: readable now and as long as it is walked -/
def SB (st : Option Hp) (O : Ow) (_ H' : Hp) (d : D) (v : V) : Prop := RB H' O d v ∧ ∀ H'' O'', Same (st.getD H') H'' → Kp H' O H'' O'' → RB H'' O'' d v
theorem SB.pre {st : Option Hp} {O : Ow} {H H1 H' : Hp} {d : D} {v : V} (_ : Same H H1) (h : SB st O H1 H' d v) : SB st O H H' d v := h
def tS (P : Pst) (st : Option Hp) (W : WE2) (f : FB) : TE := fun σ H Q => ∃ O ρ, P H O σ ρ ∧ PostG (SB st O) (fun c => W c σ) (f ρ) H Q
theorem sb_r {st : Option Hp} {O : Ow} {H H' : Hp} {d : D} {v : V} (r : R H' O d v) : SB st O H H' d v := ⟨.of r, fun _ _ _ k => .of (r.mono k)⟩
theorem sb_b {O : Ow} {H H' : Hp} {d : D} {v : V} (r : RB H' O d v) : SB none O H H' d v := ⟨r, fun H'' O'' s k => by
  cases r with
  | of r => exact .of (r.mono k)
  | lst h z r => exact .lst (Rd.same h s) z (r.mono k)⟩
section
variable {X : Cx} {W : WE2} {e : Expr} {st : Option Hp} {P : Pst}
theorem src_r {f : FB} (hP : ∀ H O σ ρ, P H O σ ρ → RE H O σ ρ) (h : VR X W e f) : PE X e (tS P st W f) := PE.weak h fun σ H Q ⟨O, ρ, re, p⟩ => ⟨O, ρ, hP _ _ _ _ re, p.rel fun d v H' _ hr => sb_r hr⟩
theorem src_b {f : FB} (h : VB X W e f) : PE X e (tS RE none W f) := PE.weak h fun σ H Q ⟨O, ρ, re, p⟩ => ⟨O, ρ, re, p.rel fun d v H' _ hr => sb_b hr⟩
end
def dItems : D → Res (List D)
  | .lst ds => .ok ds
  | .tup ds => .ok ds
  | .str z => if z.length ≤ sizeLine then .ok (z.cps.toList.map fun c => .str ⟨#[c]⟩) else .bad
  | _ => .bad
def iSeq (f : FB) : FL := fun ρ => f ρ >>= dItems
/-- list, tuple, text -/
def iAny (K : PySem.W.Frag) (te : TE) : TI := fun σ H R' => te σ H fun x H1 => (∃ a xs, x = .ref a ∧ SqL K H1 a xs ∧ R' (Itl K a) H1) ∨ (∃ a xs, x = .ref a ∧ SqT K H1 a xs ∧ R' (Itt K a) H1) ∨ ∃ z, x = .str z ∧ R' (Its z) H1
theorem pi_any {X : Cx} {tg e : Expr} {te : TE} (he : PE X e te) : PI X tg e (iAny X.K te) := by
  refine ⟨fun pins s σ H R' I h => ?_⟩
  refine thn (he.run pins s σ H _ I h) fun v s1 ⟨x, H1, I1, r1, q1⟩ => ?_
  rcases q1 with ⟨a, xs, e, hq, q⟩ | ⟨a, xs, e, hq, q⟩ | ⟨z, e, q⟩
  · subst e
    cases r1
    obtain ⟨its, rv, p, hz⟩ := I1.list hq
    refine wpAny_pyIter_list p.isList ?_
    refine ⟨s1.heap.objs.size, [s1.heap.objs.size], _, _, H1, rfl, I1.kept (t' := s1.toks) fun b o e => Heap.get?_push_of_some _ e, turn_list a _, ⟨_, Heap.get?_push_size _ rfl, rfl, rfl⟩, fun b hb => ?_, q⟩
    have e : b = s1.heap.objs.size := by simpa using hb
    subst e
    exact I1.fpOk (Nat.le_refl _) (I1.hok.fresh (Nat.le_refl _))
  · subst e
    cases r1
    obtain ⟨its, rv, p, hz⟩ := I1.tuple hq
    refine wpAny_pyIter_tuple (show s1.heap.IsTuple a its.toArray from p) ?_
    refine ⟨s1.heap.objs.size, [s1.heap.objs.size], _, _, H1, rfl, I1.kept (t' := s1.toks) fun b o e => Heap.get?_push_of_some _ e, turn_tuple a _, ⟨_, Heap.get?_push_size _ rfl, rfl, rfl⟩, fun b hb => ?_, q⟩
    have e : b = s1.heap.objs.size := by simpa using hb
    subst e
    exact I1.fpOk (Nat.le_refl _) (I1.hok.fresh (Nat.le_refl _))
  · subst e
    obtain ⟨t, rfl⟩ := r1
    cases ha : z.cps.all (· < 128)
    · exact wpAny_pyIter_wide ha (pi_one (tk := s1.toks) I1 _ (turn_str _ z t "str_iterator" (.inr rfl)) ⟨_, Heap.get?_push_size _ rfl, rfl, rfl⟩ q)
    · exact wpAny_pyIter_ascii ha (pi_one (tk := s1.toks) I1 _ (turn_str _ z t "str_ascii_iterator" (.inl rfl)) ⟨_, Heap.get?_push_size _ rfl, rfl, rfl⟩ q)
theorem rd_inj {K : PySem.W.Frag} {H : Hp} {a : Addr} {xs ys : List V} (h : Rd H a (.lst xs)) (h2 : Rd H a (.lst ys)) : xs = ys := by
  rcases h with h | ⟨o, h⟩ <;> rcases h2 with h2 | ⟨o2, h2⟩ <;> rw [h] at h2 <;> cases h2 <;> rfl
theorem walk_lst {K : PySem.W.Frag} {a : Addr} {ds : List D} : Walk1 (Itl K a) (fun H O => ∃ vs, Rd H a (.lst vs) ∧ Rs H O ds vs) ds := by
  intro H O t ⟨vs, h, r⟩ i
  refine ⟨fun d e => ?_, fun hi => ⟨vs, .inl h, by rw [← r.length, hi]; exact Nat.le_refl _⟩⟩
  obtain ⟨v, hv, rv⟩ := r.get e
  refine ⟨⟨vs, v, .inl h, hv⟩, fun x H3 ⟨e1, e2⟩ => ?_⟩
  have e3 := e2 vs (.inl h)
  rw [hv] at e3
  cases e3
  subst e1
  exact ⟨same_refl, rv⟩
theorem walk_tup1 {K : PySem.W.Frag} {a : Addr} {ds : List D} : Walk1 (Itt K a) (fun H O => ∃ vs, H a = some (.tup vs) ∧ Rs H O ds vs) ds := by
  intro H O t ⟨vs, h, r⟩ i
  refine ⟨fun d e => ?_, fun hi => ⟨vs, .inl (.inl h), by rw [← r.length, hi]; exact Nat.le_refl _⟩⟩
  obtain ⟨v, hv, rv⟩ := r.get e
  refine ⟨⟨vs, v, .inl (.inl h), hv⟩, fun x H3 ⟨e1, e2⟩ => ?_⟩
  have e3 := e2 vs (.inl (.inl h))
  rw [hv] at e3
  cases e3
  subst e1
  exact ⟨same_refl, rv⟩
theorem walk_str1 {z : Str} : Walk1 (Its z) (fun _ _ => True) (z.cps.toList.map fun c => .str ⟨#[c]⟩) := by
  intro H O t _ i
  refine ⟨fun d e => ?_, fun hi => ?_⟩
  · rw [List.getElem?_map, Option.map_eq_some_iff] at e
    obtain ⟨c, hc, rfl⟩ := e
    rw [Array.getElem?_toList] at hc
    refine ⟨(Array.getElem?_eq_some_iff.mp hc).1, fun x H3 ⟨e1, c', hc', e2⟩ => ?_⟩
    rw [hc] at hc'
    cases hc'
    subst e1 e2
    exact ⟨same_refl, .str _⟩
  · rw [List.length_map, Array.length_toList] at hi
    exact Nat.le_of_eq hi.symm
section
variable {X : Cx} {W : WE2} {tg e : Expr} {st : Option Hp} {P : Pst}
theorem vi_seq {f : FB} (h : PE X e (tS P st W f)) : PI X tg e (tI P st W (iSeq f)) := ⟨fun pins s σ H R' I hw => by
  refine (pi_any h).run pins s σ H R' I ?_
  obtain ⟨O, ρ, re, p⟩ := hw
  refine ⟨O, ρ, re, PostG.bind (Rel := SB st O) (Rel' := RI st O) (x := f ρ) RI.pre p fun d v H1 _ s1 r p1 => ?_⟩
  obtain ⟨r, rs⟩ := r
  cases d <;> first | exact False.elim p1 | skip
  · cases r.str
    simp only [dItems] at p1
    split at p1
    · rename_i hz
      exact .inr (.inr ⟨_, rfl, p1 _ H1 same_refl ⟨_, walk_str1, by rw [List.length_map, Array.length_toList]; exact hz, fun _ _ _ _ => trivial⟩⟩)
    · exact False.elim p1
  · obtain ⟨a, vs, rfl, e1, n1, z1, r1⟩ := r.tuple
    refine .inr (.inl ⟨a, vs, rfl, .inl (.inl e1), p1 _ H1 same_refl ⟨_, walk_tup1, by rw [r1.length]; exact z1, fun H'' O'' s k => ⟨vs, (k _ _ e1 n1).1, r1.mono k⟩⟩⟩)
  · obtain ⟨a, vs, rfl, e1, z1, r1⟩ := r.list
    refine .inl ⟨a, vs, rfl, .inl e1, p1 _ H1 same_refl ⟨_, walk_lst, by rw [r1.length]; exact z1, fun H'' O'' s k => ?_⟩⟩
    obtain ⟨a', vs', e2, e3, z3, r3⟩ := (rs H'' O'' s k).list
    cases e2
    exact ⟨vs', e3, r3⟩⟩
/-! range -/
def rangeD (lo : Int) (n : Nat) : List D := (List.range n).map fun i => D.int (lo + (i : Nat))
theorem walk_rng {lo : Int} {n : Nat} : Walk1 (Itr lo n) (fun _ _ => True) (rangeD lo n) := by
  intro H O t _ i
  refine ⟨fun d e => ?_, fun hi => ?_⟩
  · unfold rangeD at e
    rw [List.getElem?_map, Option.map_eq_some_iff] at e
    obtain ⟨c, hc, rfl⟩ := e
    obtain ⟨h1, h2⟩ := List.getElem?_eq_some_iff.mp hc
    rw [List.getElem_range] at h2
    subst h2
    rw [List.length_range] at h1
    refine ⟨h1, fun x H3 ⟨e1, e2⟩ => ?_⟩
    subst e1 e2
    exact ⟨same_refl, .int _⟩
  · unfold rangeD at hi
    rw [List.length_map, List.length_range] at hi
    exact Nat.le_of_eq hi.symm
def dRange : D → Res (List D)
  | .int j => if -(2 ^ 62) ≤ j ∧ j ≤ (sizeLine : Int) then .ok (rangeD 0 j.toNat) else .bad
  | _ => .bad
def iRange (f : FB) : FL := fun ρ => f ρ >>= dRange
theorem vi_range {f : FB} (hP : ∀ H O σ ρ, P H O σ ρ → RE H O σ ρ) (h : PI X tg e (iRng1 (tCons (tB W f) tNil))) : PI X tg e (tI P st W (iRange f)) := ⟨fun pins s σ H R' I hw => by
  refine h.run pins s σ H R' I ?_
  obtain ⟨O, ρ, re, p⟩ := hw
  refine ⟨O, ρ, hP _ _ _ _ re, PostG.bind (Rel := RBr O) (Rel' := RI st O) (x := f ρ) RI.pre p fun d v H1 _ s1 r p1 => ?_⟩
  cases d <;> first | exact False.elim p1 | skip
  cases r.int
  simp only [dRange] at p1
  split at p1
  · rename_i hz
    have z : (sizeLine : Int) < 2 ^ 62 := by decide
    refine ⟨_, rfl, hz.1, by omega, p1 _ H1 same_refl ⟨_, walk_rng, ?_, fun _ _ _ _ => trivial⟩⟩
    unfold rangeD
    rw [List.length_map, List.length_range]
    omega
  · exact False.elim p1⟩
end
/-! enumerate of a list or a tuple -/
def SqA (K : PySem.W.Frag) (H : Hp) (a : Addr) (xs : List V) : Prop := SqL K H a xs ∨ SqT K H a xs
def IteT (K : PySem.W.Frag) (a : Addr) : It :=
  ⟨fun i H => ∃ (xs : List V) (x : V), SqT K H a xs ∧ xs[i]? = some x, fun i H v H' => ∃ T x, v = .ref T ∧ H T = none ∧ H' = upd H T (.tup [.int (i : Nat), x]) ∧ ∀ xs, SqT K H a xs → xs[i]? = some x, fun i H => ∃ xs : List V, SqT K H a xs ∧ i = xs.length⟩
theorem turn_enumT {P : Program} {w : World} {K : PySem.W.Frag} {elts : List Expr} {kk : Nat} {tpos : Pos} (a e it : Addr) :
    Turn P w K (.Tuple elts kk tpos) (IteT K a) [e, it] e (fun i h => (∃ old, IsEnum h e it ((i : Nat) : Int) old) ∧ h.IsTupleIter it a i ∧ e ≠ it ∧ e ≠ a ∧ a ≠ it) where
  mem := by simp
  obj := fun i h st b hb => by
    obtain ⟨⟨old, he⟩, ⟨o, ho, hc, hd⟩, _⟩ := st
    have e' : b = e ∨ b = it := by simpa using hb
    rcases e' with z | z
    · rw [z]; exact ⟨_, he, fun v q => nomatch q⟩
    · rw [z]; exact ⟨o, ho, fun v q => by rw [hd] at q; cases q⟩
  keep := fun i h h' st k => let ⟨⟨old, he⟩, hi, hne⟩ := st; ⟨⟨old, k e (by simp) _ he⟩, hi.at fun o q => k it (by simp) o q, hne⟩
  item := by
    intro X hP hw hK hc i pins s σ H E I hf st hg
    subst hP hw hK
    obtain ⟨⟨old, he⟩, hit, hne, hea, hai⟩ := st
    obtain ⟨xs, x, hq, hx⟩ := hg
    obtain ⟨its, rv, p, hz⟩ := I.tuple hq
    obtain ⟨u, hu, ru⟩ := rv.get hx
    have hel : e < s.heap.objs.size := Heap.lt_size he
    have hil : it < s.heap.objs.size := by obtain ⟨_, q, _⟩ := hit; exact Heap.lt_size q
    have hlt : i < its.toArray.size := by rw [List.size_toArray]; exact (List.getElem?_eq_some_iff.mp hu).1
    refine wpAny_pyNext_enum_itemD (Draws.tuple (A := X.A.in1) (I.ok.hd hc) it a hai its.toArray) he ⟨hit, (show s.heap.IsTuple a its.toArray from p)⟩ hlt hne (by simp [hne, hea]) fun y h' tk hy ho hit' hT hsz hk => ?_
    have hyu : y = u := by
      have : its.toArray[i]? = some u := by simpa using hu
      rw [this] at hy
      exact (Option.some.inj hy).symm
    subst hyu
    refine ⟨_, rfl, wpAny_letOwnedTupleGo_enum (s := { s with heap := h', toks := tk + 1 }) ho fun h'' he' sb => ?_⟩
    have hT2 : h''.get? s.heap.objs.size = some { cls := .type "tuple", data := .seq #[.int i tk, y] } := (sb.2 _ (Nat.ne_of_gt hel)).trans hT
    have new : ObjOk X.prog X.w (upd H s.heap.objs.size (.tup [.int (i : Nat), x])) h'' s.heap.objs.size (.tup [.int (i : Nat), x]) :=
      ⟨by show 2 ≤ sizeLine; decide, [.int i tk, y], .cons ⟨_, rfl⟩ (.cons ru .nil), ⟨_, hT2, rfl, _, rfl⟩⟩
    have I1 : Inv X pins σ (upd H s.heap.objs.size (.tup [.int (i : Nat), x])) { s with heap := h'', toks := tk + 1 } :=
      I.turnedNew (ch := [e, it]) (fun b ob hb q => (sb.2 b (fun z => hb (by simp [z]))).trans (hk b ob (fun z => hb (by simp [z])) (fun z => hb (by simp [z])) q)) hf (Nat.le_refl _) new
    refine ⟨.ref s.heap.objs.size, _, I1, rfl, ⟨_, x, rfl, I.hok.fresh (Nat.le_refl _), rfl, fun ys hy => by rw [I.tuple_inj hy hq]; exact hx⟩, ⟨⟨y, ?_⟩, hit'.1.at fun o q => (sb.2 it (Ne.symm hne)).trans q, hne, hea, hai⟩, fun b hb => ?_⟩
    · have e1 : ((i + 1 : Nat) : Int) = (i : Int) + 1 := by omega
      rw [e1]; exact he'
    · have hb' : b < s.heap.objs.size := by
        have e' : b = e ∨ b = it := by simpa using hb
        rcases e' with z | z
        · rw [z]; exact hel
        · rw [z]; exact hil
      rw [upd_ne (Nat.ne_of_lt hb')]
      exact (hf b hb).1
  done := by
    intro X hP hw hK hc i pins s σ H E I hf st hg
    subst hP hw hK
    obtain ⟨⟨old, he⟩, hit, hne, hea, hai⟩ := st
    obtain ⟨xs, hq, hx⟩ := hg
    obtain ⟨its, rv, p, hz⟩ := I.tuple hq
    obtain ⟨f0, f1, f2, f3, f4, f5⟩ := hf it (by simp)
    have hl := rv.length
    subst hx
    refine wpAny_pyNext_enum_endD (Draws.tuple (A := X.A.in1) (I.ok.hd hc) it a hai its.toArray) he ⟨by rw [List.size_toArray, ← hl]; exact hit, (show s.heap.IsTuple a its.toArray from p)⟩ fun h' eb => ⟨rfl, I.turned (t' := s.toks) (fun b o hb q => eb b o hb q) f0 f1 f3 f4 f5⟩
  self := fun A i s Q E st h => let ⟨⟨_, he⟩, _⟩ := st; wpAny_pyIter_enum he h

open PySem.AutoSeq1 (wpAny_loadPart') in
theorem meets_enumerate_newT {v : Value} {o : Obj} {H : Heap → Prop} (B : Begins v o H) :
    Meets (Builtin.«enumerate.__new__» ⟨[.type "enumerate", v], []⟩) (fun _ R s => H s.heap ∧
      R (.ok (.ret (.ref (s.heap.push o).objs.size))) { s with heap := (s.heap.push o).push { cls := .type "enumerate", data := .fields #[.none, .bool false, .ref s.heap.objs.size, rawInt 0, .none, .none] } }) :=
  .of_wp fun prog w A R s h => by
    obtain ⟨hp, g, d, tk, os⟩ := s; obtain ⟨h1, h⟩ := h
    have hsub := sub_enumerate
    have q1 : ∀ {A' : Around} {E : Value → Shared → Prop} {Q : Value → Shared → Prop}, Q (.ref hp.objs.size) ⟨hp.push o, g, d, tk, os⟩ → wpAny (model prog w) A' (pyIter v) Q E ⟨hp, g, d, tk, os⟩ :=
      fun q => B.iter prog w _ _ ⟨hp, g, d, tk, os⟩ _ h1 q
    wp_walk using q1
    refine wpAny_stack_any fun st => wpAny_pure ?_
    split
    · rename_i c _ _ _ _ _
      cases (c == Value.type "enumerate")
      · wp_walk using q1
        exact ⟨_, rfl, h⟩
      · wp_walk using q1
        exact ⟨_, rfl, h⟩
    · wp_walk using q1
      exact ⟨_, rfl, h⟩
theorem call_enumerate_begins {prog : Program} {w : World} {A : Around} {E : Value → Shared → Prop} {s : Shared} {v : Value} {o : Obj} {H : Heap → Prop} {Q : Value → Shared → Prop} (B : Begins v o H) (h1 : H s.heap)
    (h : ∀ h', IsEnum h' (s.heap.objs.size + 1) s.heap.objs.size 0 .none → h'.get? s.heap.objs.size = some o → h'.objs.size = s.heap.objs.size + 2 →
      (∀ b o, s.heap.get? b = some o → h'.get? b = some o) → Q (.ref (s.heap.objs.size + 1)) { s with heap := h' }) :
    wpAny (model prog w) A (call (.type "enumerate") [v]) Q E s := by
  refine callType_new F.called_enumerate (by decide) (F.typeCall_enumerate_1 _) (F.newCall_enumerate_1 _) (fun obj => F.args_object_init_2 obj _) F.entry_enumerate_new
    (meets_enumerate_newT B) ⟨h1, ?_⟩
  have hz : (s.heap.push o).objs.size = s.heap.objs.size + 1 := Heap.size_push ..
  show _ ∧ _
  rw [hz]
  have he : IsEnum ((s.heap.push o).push { cls := .type "enumerate", data := .fields #[.none, .bool false, .ref s.heap.objs.size, rawInt 0, .none, .none] }) (s.heap.objs.size + 1) s.heap.objs.size 0 .none := by
    have := Heap.get?_push_size (s.heap.push o) (o := { cls := .type "enumerate", data := .fields #[.none, .bool false, .ref s.heap.objs.size, rawInt 0, .none, .none] }) rfl
    rw [hz] at this; exact this
  refine ⟨⟨_, he, rfl⟩, h _ he (Heap.get?_push_of_some _ (Heap.get?_push_size _ B.free)) (by rw [Heap.size_push, hz]) fun b o x => Heap.get?_push_of_some _ (Heap.get?_push_of_some _ x)⟩
/-- enumerate of a list or a tuple -/
def iEnum2 (K : PySem.W.Frag) (ta : TA) : TI := fun σ H R' => ta σ H fun vs H1 => ∃ a xs, vs = [.ref a] ∧ ((SqL K H1 a xs ∧ R' (Ite K a) H1) ∨ (SqT K H1 a xs ∧ R' (IteT K a) H1))
theorem pi_enum2 {X : Cx} {e : Expr} {ta : TA} {p pos tpos : Pos} {elts : List Expr} {kk : Nat} (hg : Gl X "enumerate") (hm : X.mg "enumerate" = none) (ha : PA X [e] ta) (hs : starEach [e] X.env = [(false, eval e X.env)] := by rfl) :
    PI X (.Tuple elts kk tpos) (.Call (.Name "enumerate" p) [e] [] pos) (iEnum2 X.K ta) := by
  refine ⟨fun pins s σ H R' I h => ?_⟩
  refine Call_ (ld_blt I hg hm boot_enumerate (PyProof.Rows.callWith_type1 (thn (ha.run pos pins s σ H _ I h) fun us s1 ⟨vs, H1, I1, r1, q1⟩ => ?_) hs rfl))
  obtain ⟨a, xs, ex, q⟩ := q1
  subst ex
  cases r1 with
  | cons r rr =>
    cases rr
    cases r
    rcases q with ⟨hq, q⟩ | ⟨hq, q⟩
    · obtain ⟨its, rv, p', hz⟩ := I1.list hq
      refine call_enumerate_list p'.isList fun h' he hit hsz hk => wpAny_pyIter_enum he ?_
      have I2 : Inv X pins σ H1 { s1 with heap := h' } := I1.kept (t' := s1.toks) hk
      refine ⟨s1.heap.objs.size + 1, [s1.heap.objs.size + 1, s1.heap.objs.size], _, _, H1, rfl, I2, turn_enum a (s1.heap.objs.size + 1) s1.heap.objs.size, ⟨⟨.none, he⟩, hit, Nat.succ_ne_self _⟩, fun b hb => ?_, q⟩
      have e' : b = s1.heap.objs.size + 1 ∨ b = s1.heap.objs.size := by simpa using hb
      have hle : s1.heap.objs.size ≤ b := by
        rcases e' with z | z
        · rw [z]; exact Nat.le_add_right _ _
        · rw [z]; exact Nat.le_refl _
      exact I1.fpOk hle (I1.hok.fresh hle)
    · obtain ⟨its, rv, p', hz⟩ := I1.tuple hq
      have la : a < s1.heap.objs.size := p'.lt
      refine call_enumerate_begins (begins_tuple a its.toArray) (show s1.heap.IsTuple a its.toArray from p') fun h' he hit hsz hk => wpAny_pyIter_enum he ?_
      have I2 : Inv X pins σ H1 { s1 with heap := h' } := I1.kept (t' := s1.toks) hk
      refine ⟨s1.heap.objs.size + 1, [s1.heap.objs.size + 1, s1.heap.objs.size], _, _, H1, rfl, I2, turn_enumT a (s1.heap.objs.size + 1) s1.heap.objs.size, ⟨⟨.none, he⟩, ⟨_, hit, rfl, rfl⟩, Nat.succ_ne_self _, Nat.ne_of_gt (Nat.lt_succ_of_lt la), Nat.ne_of_lt la⟩, fun b hb => ?_, q⟩
      have e' : b = s1.heap.objs.size + 1 ∨ b = s1.heap.objs.size := by simpa using hb
      have hle : s1.heap.objs.size ≤ b := by
        rcases e' with z | z
        · rw [z]; exact Nat.le_add_right _ _
        · rw [z]; exact Nat.le_refl _
      exact I1.fpOk hle (I1.hok.fresh hle)
def enumD : Nat → List D → List D
  | _, [] => []
  | i, d :: ds => .tup [.int i, d] :: enumD (i + 1) ds
theorem enumD_get : ∀ (ds : List D) (k i : Nat), (enumD k ds)[i]? = (ds[i]?).map fun d => D.tup [.int ((k + i : Nat) : Int), d]
  | [], _, _ => by simp [enumD]
  | d :: ds, k, 0 => by simp [enumD]
  | d :: ds, k, i + 1 => by
    rw [enumD, List.getElem?_cons_succ, enumD_get ds (k + 1) i, List.getElem?_cons_succ]
    have : k + 1 + i = k + (i + 1) := by omega
    rw [this]
theorem enumD_len : ∀ (ds : List D) (k : Nat), (enumD k ds).length = ds.length
  | [], _ => rfl
  | d :: ds, k => by rw [enumD, List.length_cons, List.length_cons, enumD_len ds]
theorem two_le : 2 ≤ sizeLine := by decide
theorem walk_enumL {K : PySem.W.Frag} {a : Addr} {ds : List D} : Walk1 (Ite K a) (fun H O => ∃ vs, Rd H a (.lst vs) ∧ Rs H O ds vs) (enumD 0 ds) := by
  intro H O t ⟨vs, h, r⟩ i
  refine ⟨fun d e => ?_, fun hi => ⟨vs, .inl h, by rw [enumD_len] at hi; rw [← r.length, hi]; exact Nat.le_refl _⟩⟩
  rw [enumD_get, Option.map_eq_some_iff] at e
  obtain ⟨d', e', rfl⟩ := e
  obtain ⟨v, hv, rv⟩ := r.get e'
  refine ⟨⟨vs, v, .inl h, hv⟩, fun x H3 ⟨T, y, ev, hT, e1, e2⟩ => ?_⟩
  have e3 := e2 vs (.inl h)
  rw [hv] at e3
  cases e3
  subst e1 ev
  refine ⟨same_upd hT, r_newT t hT two_le (.cons ?_ (.cons rv .nil))⟩
  rw [Nat.zero_add]
  exact .int _
theorem walk_enumT {K : PySem.W.Frag} {a : Addr} {ds : List D} : Walk1 (IteT K a) (fun H O => ∃ vs, H a = some (.tup vs) ∧ Rs H O ds vs) (enumD 0 ds) := by
  intro H O t ⟨vs, h, r⟩ i
  refine ⟨fun d e => ?_, fun hi => ⟨vs, .inl (.inl h), by rw [enumD_len] at hi; rw [← r.length, hi]⟩⟩
  rw [enumD_get, Option.map_eq_some_iff] at e
  obtain ⟨d', e', rfl⟩ := e
  obtain ⟨v, hv, rv⟩ := r.get e'
  refine ⟨⟨vs, v, .inl (.inl h), hv⟩, fun x H3 ⟨T, y, ev, hT, e1, e2⟩ => ?_⟩
  have e3 := e2 vs (.inl (.inl h))
  rw [hv] at e3
  cases e3
  subst e1 ev
  refine ⟨same_upd hT, r_newT t hT two_le (.cons ?_ (.cons rv .nil))⟩
  rw [Nat.zero_add]
  exact .int _
def dSeq : D → Res (List D)
  | .lst ds => .ok ds
  | .tup ds => .ok ds
  | _ => .bad
def iEnum (f : FB) : FL := fun ρ => f ρ >>= dSeq >>= fun ds => .ok (enumD 0 ds)
section
variable {X : Cx} {W : WE2} {tg e : Expr} {st : Option Hp} {P : Pst}
theorem vi_enum {f : FB} (h : PI X tg e (iEnum2 X.K (tCons (tS P st W f) tNil))) : PI X tg e (tI P st W (iEnum f)) := ⟨fun pins s σ H R' I hw => by
  refine h.run pins s σ H R' I ?_
  obtain ⟨O, ρ, re, p⟩ := hw
  refine ⟨O, ρ, re, PostG.bind (Rel := SB st O) (Rel' := RI st O) (Q' := R') (x := f ρ) (k := fun d => dSeq d >>= fun ds => .ok (enumD 0 ds)) RI.pre ?_ fun d v H1 _ s1 r p1 => ?_⟩
  · unfold iEnum at p
    cases hf : f ρ with
    | ok d => rw [hf] at p; exact p
    | exc c => rw [hf] at p; exact p
    | bad => rw [hf] at p; exact p
  obtain ⟨r, rs⟩ := r
  cases d <;> first | exact False.elim p1 | skip
  · obtain ⟨a, vs, rfl, e1, n1, z1, r1⟩ := r.tuple
    refine ⟨a, vs, rfl, .inr ⟨.inl (.inl e1), p1 _ H1 same_refl ⟨_, walk_enumT, by rw [enumD_len, r1.length]; exact z1, fun H'' O'' s k => ⟨vs, (k _ _ e1 n1).1, r1.mono k⟩⟩⟩⟩
  · obtain ⟨a, vs, rfl, e1, z1, r1⟩ := r.list
    refine ⟨a, vs, rfl, .inl ⟨.inl e1, p1 _ H1 same_refl ⟨_, walk_enumL, by rw [enumD_len, r1.length]; exact z1, fun H'' O'' s k => ?_⟩⟩⟩
    obtain ⟨a', vs', e2, e3, z3, r3⟩ := (rs H'' O'' s k).list
    cases e2
    exact ⟨vs', e3, r3⟩⟩
end
end VL
end
section
set_option linter.all false
set_option maxRecDepth 100000
set_option maxHeartbeats 2000000
namespace VL
open PySem PySem.Spec PyProof.Rows L2
/-! ### targets -/
abbrev FG := D → Rho → Option Rho
abbrev FGs := List D → Rho → Option Rho
/-- only the slots of L differ; what is owned or lent was so -/
structure Sub (L : List Nat) (σ : St) (ρ : Rho) (σ' : St) (ρ' : Rho) : Prop where
  len : σ'.length = σ.length
  out : ∀ j, j ∉ L → σ'[j]? = σ[j]?
  own : ∀ (i : Nat) (m : Md) (d : D), m ≠ .val → ρ'[i]? = some (some (m, d)) → ρ[i]? = some (some (m, d)) ∧ σ'[i]? = σ[i]?
theorem Sub.refl {L : List Nat} {σ : St} {ρ : Rho} : Sub L σ ρ σ ρ := ⟨rfl, fun _ _ => rfl, fun _ _ _ _ h => ⟨h, rfl⟩⟩
theorem Sub.trans {L M : List Nat} {σ σ1 σ2 : St} {ρ ρ1 ρ2 : Rho} (a : Sub L σ ρ σ1 ρ1) (b : Sub M σ1 ρ1 σ2 ρ2) : Sub (L ++ M) σ ρ σ2 ρ2 :=
  ⟨b.len.trans a.len, fun j h => by
    rw [List.mem_append, not_or] at h
    exact (b.out j h.2).trans (a.out j h.1), fun i m d hm h => by
    obtain ⟨h1, e1⟩ := b.own i m d hm h
    obtain ⟨h2, e2⟩ := a.own i m d hm h1
    exact ⟨h2, e1.trans e2⟩⟩
def tG (L : List Nat) (f : FG) : TG := fun v σ H Q => ∃ O ρ d ρ', RE H O σ ρ ∧ R H O d v ∧ f d ρ = some ρ' ∧ ∀ σ', RE H O σ' ρ' → Sub L σ ρ σ' ρ' → Q σ' H
def tGs (L : List Nat) (f : FGs) : TGs := fun vs σ H Q => ∃ O ρ ds ρ', RE H O σ ρ ∧ Rs H O ds vs ∧ f ds ρ = some ρ' ∧ ∀ σ', RE H O σ' ρ' → Sub L σ ρ σ' ρ' → Q σ' H
abbrev VG (X : Cx) (L : List Nat) (e : Expr) (f : FG) : Prop := PG X e (tG L f)
abbrev VGs (X : Cx) (L : List Nat) (es : List Expr) (f : FGs) : Prop := PGs X es (tGs L f)
theorem PG.weak {X : Cx} {e : Expr} {t t' : TG} (h : PG X e t) (w : ∀ v σ H Q, t' v σ H Q → t v σ H Q) : PG X e t' := ⟨fun pins s σ H v u Q I r q => h.run pins s σ H v u Q I r (w v σ H Q q)⟩
theorem PGs.weak {X : Cx} {e : List Expr} {t t' : TGs} (h : PGs X e t) (w : ∀ v σ H Q, t' v σ H Q → t v σ H Q) : PGs X e t' := ⟨fun pins s σ H v u Q I r q => h.run pins s σ H v u Q I r (w v σ H Q q)⟩
def gN (i : Nat) : FG := fun d ρ => some (ρ.set i (some (.val, d)))
theorem get_set {α : Type} {l : List α} {i j : Nat} {x y : α} (h : (l.set i x)[j]? = some y) : (j = i ∧ y = x) ∨ (j ≠ i ∧ l[j]? = some y) := by
  by_cases e : j = i
  · subst e
    rw [List.getElem?_set] at h
    simp at h
    exact .inl ⟨rfl, h.2.symm⟩
  · rw [List.getElem?_set_ne (fun z => e z.symm)] at h
    exact .inr ⟨e, h⟩
theorem set_get {α : Type} {l : List α} {i : Nat} {x y : α} {m : List α} (hl : l.length = m.length) (h : (m.set i y)[i]? = some y) : (l.set i x)[i]? = some x := by
  have : i < (m.set i y).length := (List.getElem?_eq_some_iff.mp h).1
  rw [List.length_set] at this
  rw [List.getElem?_set_self (by omega)]
theorem len_of_get {α : Type} {l : List α} {i : Nat} {x : α} (h : l[i]? = some x) : i < l.length := (List.getElem?_eq_some_iff.mp h).1
theorem RE.setVal {H : Hp} {O : Ow} {σ : St} {ρ : Rho} (r : RE H O σ ρ) {i : Nat} {d : D} {v : V} (h : R H O d v) : RE H O (σ.set i (some v)) (ρ.set i (some (.val, d))) where
  len := by rw [List.length_set, List.length_set, r.len]
  at_ := fun j m d' e => by
    have hl := len_of_get e
    rw [List.length_set] at hl
    rcases get_set e with ⟨rfl, e'⟩ | ⟨hj, e⟩
    · cases e'
      exact ⟨v, List.getElem?_set_self (by rw [← r.len]; exact hl), h⟩
    · obtain ⟨u, h1, h2⟩ := r.at_ j m d' e
      exact ⟨u, by rw [List.getElem?_set_ne (fun z => hj z.symm)]; exact h1, h2⟩
  apart := fun j k d' m' d'' a hjk e1 e2 hm e3 => by
    rcases get_set e1 with ⟨rfl, e'⟩ | ⟨hj, e1⟩
    · cases e'
    · rcases get_set e2 with ⟨rfl, e'⟩ | ⟨hk, e2⟩
      · cases e'; exact absurd rfl hm
      · rw [List.getElem?_set_ne (fun z => hj z.symm)] at e3
        rw [List.getElem?_set_ne (fun z => hk z.symm)]
        exact r.apart j k d' m' d'' a hjk e1 e2 hm e3
  trk := r.trk
theorem sub_set {L : List Nat} {σ : St} {ρ : Rho} {i : Nat} {d : D} {v : V} (hi : i ∈ L) : Sub L σ ρ (σ.set i (some v)) (ρ.set i (some (.val, d))) where
  len := by rw [List.length_set]
  out := fun j h => List.getElem?_set_ne (fun z => h (by rw [← z]; exact hi))
  own := fun j m d' hm e => by
    rcases get_set e with ⟨rfl, e'⟩ | ⟨hj, e⟩
    · cases e'; exact absurd rfl hm
    · exact ⟨e, List.getElem?_set_ne (fun z => hj z.symm)⟩
section
variable {X : Cx} {pos : Pos}
theorem vg_name {i : Nat} {x : Str} (h : PG X (.Name x pos) (gName i)) : VG X [i] (.Name x pos) (gN i) := PG.weak h fun v σ H Q ⟨O, ρ, d, ρ', re, r, e, q⟩ => by
  cases e
  exact q _ (re.setVal r) (sub_set (by simp))
def gNil' : FGs := fun ds ρ => match ds with | [] => some ρ | _ => none
def gCons' (f : FG) (g : FGs) : FGs := fun ds ρ => match ds with | [] => none | d :: ds => match f d ρ with | some ρ' => g ds ρ' | none => none
theorem vgs_nil : VGs X [] [] gNil' := PGs.weak pgs_nil fun vs σ H Q ⟨O, ρ, ds, ρ', re, r, e, q⟩ => by
  cases ds with
  | nil => cases e; cases r; exact ⟨rfl, q _ re .refl⟩
  | cons d ds => cases e
theorem vgs_cons {e : Expr} {es : List Expr} {L M : List Nat} {f : FG} {g : FGs} (h1 : VG X L e f) (h2 : VGs X M es g) (hs : (assignEach (e :: es) X.env).map (·.2) = assign e X.env :: (assignEach es X.env).map (·.2) := by rfl) : VGs X (L ++ M) (e :: es) (gCons' f g) :=
  PGs.weak (pgs_cons h1 h2 hs) fun vs σ H Q ⟨O, ρ, ds, ρ', re, r, e, q⟩ => by
    cases ds with
    | nil => cases e
    | cons d ds =>
      simp only [gCons'] at e
      cases r with
      | cons r1 rr =>
        split at e
        · rename_i ρ1 e1
          exact ⟨_, _, rfl, O, ρ, d, ρ1, re, r1, e1, fun σ1 re1 s1 => ⟨O, ρ1, ds, ρ', re1, rr, e, fun σ2 re2 s2 => q σ2 re2 (s1.trans s2)⟩⟩
        · cases e
def gT (n : Nat) (g : FGs) : FG := fun d ρ => match d with | .tup ds => if ds.length = n then g ds ρ else none | _ => none
theorem vg_tup {es : List Expr} {k : Nat} {L : List Nat} {g : FGs} {n : Nat} (h : VGs X L es g) (hc : X.calm = true := by rfl) (hn : (assignEach es X.env).length = n := by rfl) (hst : (assignEach es X.env).findIdx? (·.1) = none := by rfl) : VG X L (.Tuple es k pos) (gT n g) :=
  PG.weak (pg_tup hc h hn hst) fun v σ H Q ⟨O, ρ, d, ρ', re, r, e, q⟩ => by
    cases d <;> first | (cases e; done) | skip
    simp only [gT] at e
    split at e
    · rename_i hl
      cases r with
      | tup h1 n1 z1 r1 => exact ⟨_, _, rfl, .inl (.inl h1), by rw [← r1.length, hl], O, ρ, _, ρ', re, r1, e, q⟩
    · cases e
end
/-! ### comprehensions -/
def wipeR (ρ : Rho) : List Nat → Rho
  | [] => ρ
  | v :: vs => (wipeR ρ vs).set v none
theorem RE.clear {H : Hp} {O : Ow} {σ : St} {ρ : Rho} (r : RE H O σ ρ) (i : Nat) : RE H O (σ.set i none) (ρ.set i none) where
  len := by rw [List.length_set, List.length_set, r.len]
  at_ := fun j m d' e => by
    rcases get_set e with ⟨rfl, e'⟩ | ⟨hj, e⟩
    · cases e'
    · obtain ⟨u, h1, h2⟩ := r.at_ j m d' e
      exact ⟨u, by rw [List.getElem?_set_ne (fun z => hj z.symm)]; exact h1, h2⟩
  apart := fun j k d' m' d'' a hjk e1 e2 hm e3 => by
    rcases get_set e1 with ⟨rfl, e'⟩ | ⟨hj, e1⟩
    · cases e'
    · rcases get_set e2 with ⟨rfl, e'⟩ | ⟨hk, e2⟩
      · cases e'
      · rw [List.getElem?_set_ne (fun z => hj z.symm)] at e3
        rw [List.getElem?_set_ne (fun z => hk z.symm)]
        exact r.apart j k d' m' d'' a hjk e1 e2 hm e3
  trk := r.trk
theorem RE.wipe {H : Hp} {O : Ow} {σ : St} {ρ : Rho} (r : RE H O σ ρ) : ∀ vs : List Nat, RE H O (L2.wipe σ vs) (wipeR ρ vs)
  | [] => r
  | v :: vs => (RE.wipe r vs).clear v
theorem wipe_wipe {σ σ2 : St} : ∀ {vs : List Nat}, σ2.length = σ.length → (∀ j, j ∉ vs → σ2[j]? = (L2.wipe σ vs)[j]?) → L2.wipe σ2 vs = L2.wipe σ vs := fun {vs} hl h => by
  apply List.ext_getElem?
  intro j
  by_cases hj : j ∈ vs
  · have key : ∀ (τ : St) (us : List Nat), j ∈ us → j < τ.length → (L2.wipe τ us)[j]? = some none := by
      intro τ us
      induction us with
      | nil => intro h; cases h
      | cons u us ih =>
        intro hm hlt
        rw [L2.wipe]
        by_cases e : u = j
        · subst e
          rw [List.getElem?_set_self (by rw [wipe_length]; exact hlt)]
        · rw [List.getElem?_set_ne e]
          rcases List.mem_cons.mp hm with z | z
          · exact absurd z.symm e
          · exact ih z hlt
    by_cases hlt : j < σ.length
    · rw [key σ2 vs hj (by omega), key σ vs hj hlt]
    · rw [List.getElem?_eq_none (by rw [wipe_length]; omega), List.getElem?_eq_none (by rw [wipe_length]; omega)]
  · rw [wipe_out hj, h j hj]
/-- one more is owned: a new list -/
theorem RE.more {H : Hp} {O : Ow} {σ : St} {ρ : Rho} {a : Addr} {o : HO} (r : RE H O σ ρ) (h : H a = none) : RE (upd H a o) (fun b => O b ∨ b = a) σ ρ where
  len := r.len
  at_ := fun i m d e => by
    obtain ⟨v, h1, h2⟩ := r.at_ i m d e
    refine ⟨v, h1, ?_⟩
    have s := same_upd (o := o) h
    have k : Kp H O (upd H a o) (fun b => O b ∨ b = a) := (kp_more h).trans (same_kp s)
    cases m with
    | val => exact R.mono k h2
    | own =>
      obtain ⟨b, e1, ob, r1⟩ := h2
      have hb : b ≠ a := fun z => by
        obtain ⟨o', q⟩ := r.trk b ob
        rw [z, h] at q; cases q
      refine ⟨b, e1, .inl ob, r1.kp (fun o' q => s _ _ q) ?_⟩
      intro c o' hc nc
      have nc1 : ¬ O c := fun z => nc (.inl z)
      have nc2 : c ≠ b := fun z => nc (.inr z)
      obtain ⟨h3, h4⟩ := k c o' hc nc1
      exact ⟨h3, fun z => by
        rcases z with z | z
        · exact h4 z
        · exact nc2 z⟩
    | bor =>
      cases h2 with
      | lst h3 z r1 => exact .lst (Rd.same h3 s) z (r1.mono k)
  apart := r.apart
  trk := fun b hb => by
    rcases hb with hb | hb
    · obtain ⟨o', q⟩ := r.trk b hb
      exact ⟨o', same_upd h _ _ q⟩
    · subst hb
      exact ⟨o, upd_same⟩
theorem kp_upd {H : Hp} {O : Ow} {a : Addr} {o : HO} (h : O a) : Kp H O (upd H a o) O := fun b u q n => ⟨by
  rw [upd_ne (fun z => n (by rw [z]; exact h))]; exact q, n⟩
/-- what no slot has is written -/
theorem RE.write {H : Hp} {O : Ow} {σ : St} {ρ : Rho} {a : Addr} {o : HO} (r : RE H O σ ρ) (h : O a) (hs : ∀ (i : Nat) (m : Md) (d : D), m ≠ .val → ρ[i]? = some (some (m, d)) → σ[i]? ≠ some (some (.ref a))) : RE (upd H a o) O σ ρ where
  len := r.len
  at_ := fun i m d e => by
    obtain ⟨v, h1, h2⟩ := r.at_ i m d e
    refine ⟨v, h1, ?_⟩
    have k : Kp H O (upd H a o) O := kp_upd h
    cases m with
    | val => exact R.mono k h2
    | own =>
      obtain ⟨b, e1, ob, r1⟩ := h2
      subst e1
      have hb : b ≠ a := fun z => hs i .own d (fun q => nomatch q) e (by rw [h1, z])
      refine ⟨b, rfl, ob, r1.kp (fun o' q => by rw [upd_ne hb]; exact q) fun c o' hc nc => ?_⟩
      have nc1 : ¬ O c := fun z => nc (.inl z)
      exact ⟨(k c o' hc nc1).1, nc⟩
    | bor =>
      cases h2 with
      | @lst b vs ds h3 z r1 =>
        have hb : b ≠ a := fun z => hs i .bor _ (fun q => nomatch q) e (by rw [h1, z])
        refine .lst ?_ z (r1.mono k)
        rcases h3 with h3 | ⟨o', h3⟩
        · exact .inl (by rw [upd_ne hb]; exact h3)
        · exact .inr ⟨o', by rw [upd_ne hb]; exact h3⟩
  apart := r.apart
  trk := fun b hb => by
    by_cases e : b = a
    · subst e; exact ⟨o, upd_same⟩
    · obtain ⟨o', q⟩ := r.trk b hb
      exact ⟨o', by rw [upd_ne e]; exact q⟩
/-- no exception comes out of a comprehension's block -/
def noX {α : Type} : Res α → Res α
  | .ok a => .ok a
  | _ => .bad
def compGo (tg : FG) (t : FT) (e : FB) (ρ : Rho) : List D → Res (List D)
  | [] => .ok []
  | d :: ds => match tg d ρ with
    | none => .bad
    | some ρ1 => t ρ1 >>= fun b => if b = true then e ρ1 >>= fun y => compGo tg t e ρ ds >>= fun ys => .ok (y :: ys) else compGo tg t e ρ ds
def eComp (it : FL) (tg : FG) (t : FT) (e : FB) (vs : List Nat) : FV := fun ρ => it ρ >>= fun ds => noX (compGo tg t e (wipeR ρ vs) ds) >>= fun ys => .ok (.own, .lst ys)
abbrev W0 : WE2 := fun _ _ _ => False
def tYes2 : FT := fun _ => .ok true
/-- a clause's tests -/
abbrev VTs (X : Cx) (ifs : List Expr) (t : FT) : Prop := PTs X ifs (tT W0 t)
theorem PTs.weak {X : Cx} {e : List Expr} {t t' : TT} (h : PTs X e t) (w : ∀ σ H Q, t' σ H Q → t σ H Q) : PTs X e t' := ⟨fun pins s σ H Q I q => h.run pins s σ H Q I (w σ H Q q)⟩
theorem vts_nil {X : Cx} : VTs X [] tYes2 := PTs.weak pts_nil fun σ H Q ⟨O, ρ, re, p⟩ => p H same_refl
theorem vts_one {X : Cx} {c : Expr} {t : FT} (h : VT X W0 c t) : VTs X [c] t := pts_one h
theorem compGo_len {tg : FG} {t : FT} {e : FB} {ρ : Rho} : ∀ {ds ys : List D}, compGo tg t e ρ ds = .ok ys → ys.length ≤ ds.length
  | [], ys, h => by cases h; exact Nat.le_refl _
  | d :: ds, ys, h => by
    unfold compGo at h
    cases e1 : tg d ρ with
    | none => rw [e1] at h; cases h
    | some ρ1 =>
      rw [e1] at h
      simp only at h
      cases e2 : t ρ1 with
      | ok b =>
        rw [e2] at h
        cases b
        · exact Nat.le_trans (compGo_len (ys := ys) (ds := ds) (by simpa using h)) (Nat.le_succ _)
        · cases e3 : e ρ1 with
          | ok y =>
            cases e4 : compGo tg t e ρ ds with
            | ok ys' =>
              simp [e3, e4] at h
              subst h
              exact Nat.succ_le_succ (compGo_len e4)
            | exc c => simp [e3, e4] at h
            | bad => simp [e3, e4] at h
          | exc c => simp [e3] at h
          | bad => simp [e3] at h
      | exc c => rw [e2] at h; cases h
      | bad => rw [e2] at h; cases h
theorem lc_read {W : WE2} {vs L : List Nat} {fi : FL} {g : FG} {t : FT} {fe : FB} {σ : St} {H : Hp} {Q : VK} (hL : ∀ i ∈ L, i ∈ vs) (q : tV W (eComp fi g t fe vs) σ H Q) : tLc (tI RE none W fi) (tG L g) (tT W0 t) (tR W0 fe) vs σ H Q := by
  obtain ⟨O, ρ, re, p⟩ := q
  refine ⟨O, ρ, re, PostG.bind (Rel := RI none O) (Rel' := RV O) (x := fi ρ) RV.pre p fun ds J H1 _ s1 ri p1 => ?_⟩
  intro Dl hD
  obtain ⟨C, w1, hz, hC⟩ := ri
  -- the block's whole answer
  cases e0 : compGo g t fe (wipeR ρ vs) ds with
  | exc c => rw [e0] at p1; exact False.elim p1
  | bad => rw [e0] at p1; exact False.elim p1
  | ok ys =>
  rw [e0] at p1
  have re1 := re.same s1
  let O' : Ow := fun b => O b ∨ b = Dl
  let Inv2 : Nat → Hp → Prop := fun i H' => i ≤ ds.length ∧ Same H1 H' ∧ ∃ acc done rest, H' Dl = some (.lst acc) ∧ Rs H' O' done acc ∧ compGo g t fe (wipeR ρ vs) (ds.drop i) = .ok rest ∧ done ++ rest = ys ∧ done.length ≤ i
  refine ⟨fun i m H' => m = ds.length - i ∧ Inv2 i H', ⟨_, rfl, Nat.zero_le _, same_upd hD, [], [], ys, upd_same, .nil, e0, rfl, Nat.le_refl _⟩, ?_⟩
  rintro i m H' ⟨rfl, hi, sH, acc, done, rest, hacc, rdone, erest, hys, hdl⟩
  have reW : RE H' O' (L2.wipe σ vs) (wipeR ρ vs) := by
    have r2 : RE (upd H1 Dl (.lst [])) O' σ ρ := re1.more hD
    have r3 : RE H' O' σ ρ := ⟨r2.len, fun j m d e => by
      obtain ⟨v, h1, h2⟩ := r2.at_ j m d e
      refine ⟨v, h1, ?_⟩
      obtain ⟨v', h1', h2'⟩ := re1.at_ j m d e
      rw [h1] at h1'
      cases h1'
      have k : Kp H1 O H' O' := (kp_more hD).trans (same_kp sH)
      cases m with
      | val => exact R.mono k h2'
      | own =>
        obtain ⟨b, e1, ob, r1⟩ := h2'
        refine ⟨b, e1, .inl ob, r1.kp (fun o' q => sH _ _ q) fun c o' hc nc => ?_⟩
        obtain ⟨h3, h4⟩ := k c o' hc (fun z => nc (.inl z))
        exact ⟨h3, fun z => by
          rcases z with z | z
          · exact h4 z
          · exact nc (.inr z)⟩
      | bor =>
        cases h2' with
        | lst h3 z r1 => exact .lst (Rd.same h3 sH) z (r1.mono k), r2.apart, fun b hb => by
      rcases hb with hb | hb
      · obtain ⟨o, q⟩ := re1.trk b hb
        exact ⟨o, sH _ _ q⟩
      · subst hb; exact ⟨_, hacc⟩⟩
    exact r3.wipe vs
  have hCH : C H' O' := hC H' O' sH ((kp_more hD).trans (same_kp sH))
  obtain ⟨go, stop⟩ := w1 H' O' reW.trk hCH i
  rcases Nat.lt_or_ge i ds.length with hlt | hge
  · obtain ⟨d, hd⟩ : ∃ d, ds[i]? = some d := ⟨_, List.getElem?_eq_getElem hlt⟩
    obtain ⟨g1, g2⟩ := go d hd
    have hdrop : ds.drop i = d :: ds.drop (i + 1) := by
      rw [List.drop_eq_getElem_cons hlt]
      rw [List.getElem?_eq_getElem hlt] at hd
      cases hd; rfl
    rw [hdrop] at erest
    refine .inr ⟨g1, fun H'' => ∃ m', m' < ds.length - i ∧ m' = ds.length - (i + 1) ∧ Inv2 (i + 1) H'', fun H'' ⟨m', h1, h2, h3⟩ => ⟨m', h1, h2, h3⟩, fun x H3 hy => ?_⟩
    obtain ⟨s3, r3⟩ := g2 x H3 hy
    unfold compGo at erest
    cases eg : g d (wipeR ρ vs) with
    | none => rw [eg] at erest; cases erest
    | some ρ1 =>
    rw [eg] at erest
    simp only at erest
    refine ⟨O', wipeR ρ vs, d, ρ1, reW.same s3, r3, eg, fun σ2 re2 sub => ⟨?_, ?_⟩⟩
    · exact wipe_wipe (by rw [sub.len, wipe_length]) fun j hj => sub.out j fun z => hj (hL j z)
    · refine ⟨O', ρ1, re2, ?_⟩
      cases et : t ρ1 with
      | exc c => rw [et] at erest; cases erest
      | bad => rw [et] at erest; cases erest
      | ok b =>
      rw [et] at erest
      simp only [ok_bind] at erest
      intro H4 s4
      have hacc4 : H4 Dl = some (.lst acc) := s4 _ _ (s3 _ _ hacc)
      cases b with
      | false =>
        rw [if_neg (by simp)] at erest ⊢
        exact ⟨_, by omega, rfl, by omega, same_trans sH (same_trans s3 s4), acc, done, rest, hacc4, (rdone.same s3).same s4, erest, hys, by omega⟩
      | true =>
        rw [if_pos rfl] at erest ⊢
        cases ee : fe ρ1 with
        | exc c => rw [ee] at erest; cases erest
        | bad => rw [ee] at erest; cases erest
        | ok y =>
        rw [ee] at erest
        simp only [ok_bind] at erest
        cases er : compGo g t fe (wipeR ρ vs) (ds.drop (i + 1)) with
        | exc c => rw [er] at erest; cases erest
        | bad => rw [er] at erest; cases erest
        | ok rest' =>
        rw [er] at erest
        cases erest
        refine ⟨O', ρ1, re2.same s4, ?_⟩
        rw [ee]
        intro v H5 s5 r5
        have hacc5 : H5 Dl = some (.lst acc) := s5 _ _ hacc4
        have k5 : Kp H5 O' (upd H5 Dl (.lst (acc ++ [v]))) O' := kp_upd (.inr rfl)
        have hlen : acc.length = done.length := (rdone.length).symm
        refine ⟨acc, hacc5, by omega, _, by omega, rfl, by omega, ?_, acc ++ [v], done ++ [y], rest', upd_same, ?_, er, by rw [List.append_assoc]; exact hys, by rw [List.length_append]; simp; omega⟩
        · intro b o hb
          have hbD : b ≠ Dl := fun z => by rw [z, hD] at hb; cases hb
          rw [upd_ne hbD]
          exact s5 _ _ (s4 _ _ (s3 _ _ (sH _ _ hb)))
        · exact Rs.append ((((rdone.same s3).same s4).same s5).mono k5) (.cons (R.mono k5 r5) .nil)
  · have hie : i = ds.length := by omega
    subst hie
    refine .inl ⟨stop rfl, ?_⟩
    rw [List.drop_length] at erest
    cases erest
    rw [List.append_nil] at hys
    subst hys
    refine p1 _ H' sH ⟨Dl, rfl, hD, .lst hacc ?_ rdone⟩
    rw [← rdone.length]
    exact Nat.le_trans hdl hz
theorem ve_lc {X : Cx} {W : WE2} {elt tg iter : Expr} {ifs : List Expr} {scope : Scope} {pos : Pos} {vs L : List Nat} {fi : FL} {g : FG} {t : FT} {fe : FB}
    (h : PE X (.ListComp elt [⟨tg, iter, ifs, 0⟩] scope pos) (tLc (tI RE none W fi) (tG L g) (tT W0 t) (tR W0 fe) vs)) (hL : ∀ i ∈ L, i ∈ vs) :
    VE X W (.ListComp elt [⟨tg, iter, ifs, 0⟩] scope pos) (eComp fi g t fe vs) := PE.weak h fun σ H Q q => lc_read hL q
end VL
end
section
set_option linter.all false
set_option maxRecDepth 100000
set_option maxHeartbeats 2000000
namespace VL
open PySem PySem.Spec PyProof.Rows L2
/-! ### statements -/
inductive Flo where
  | nx (ρ : Rho) | rt (r : Md × D) | bk (ρ : Rho) | ct (ρ : Rho) | exc (c : Exn) (ρ : Rho) | bad
abbrev FS := Rho → Flo
/-- the state of a def's body: H0, O0 those of its entry -/
structure SI (H0 : Hp) (O0 : Ow) (H : Hp) (O : Ow) (σ : St) (ρ : Rho) : Prop where
  re : RE H O σ ρ
  same : Same H0 H
  old : ∀ a, O0 a → O a
  new : ∀ (i : Nat) (d : D) (a : Addr), ρ[i]? = some (some (.own, d)) → σ[i]? = some (some (.ref a)) → H0 a = none
  bor : ∀ (i : Nat) (d : D) (a : Addr), ρ[i]? = some (some (.bor, d)) → σ[i]? = some (some (.ref a)) → ∃ o, H0 a = some o
theorem SI.heap {H0 : Hp} {O0 : Ow} {H H' : Hp} {O : Ow} {σ : St} {ρ : Rho} (r : SI H0 O0 H O σ ρ) (s : Same H H') : SI H0 O0 H' O σ ρ := ⟨r.re.same s, same_trans r.same s, r.old, r.new, r.bor⟩
def PostS (H0 : Hp) (O0 : Ow) (W : WE2) (D : Ends) (H : Hp) (O : Ow) (res : Flo) : Prop :=
  match res with
  | .nx ρ' => ∀ σ' H' O', SI H0 O0 H' O' σ' ρ' → Kp H O H' O' → D.nx σ' H'
  | .rt r => ∀ v H', Same H0 H' → RV O0 H0 H' r v → D.rt v H'
  | .bk ρ' => ∀ σ' H' O', SI H0 O0 H' O' σ' ρ' → Kp H O H' O' → D.bk σ' H'
  | .ct ρ' => ∀ σ' H' O', SI H0 O0 H' O' σ' ρ' → Kp H O H' O' → D.ct σ' H'
  | .exc c ρ' => ∀ σ' H' O', SI H0 O0 H' O' σ' ρ' → Kp H O H' O' → W c σ' H'
  | .bad => False
def tSt (H0 : Hp) (O0 : Ow) (W : WE2) (g : FS) : TS := fun D σ H => ∃ O ρ, SI H0 O0 H O σ ρ ∧ PostS H0 O0 W D H O (g ρ)
abbrev VS (X : Cx) (O0 : Ow) (W : WE2) (st : Stmt) (g : FS) : Prop := PS X st (tSt X.H_0 O0 W g)
abbrev VSs (X : Cx) (O0 : Ow) (W : WE2) (sts : List Stmt) (g : FS) : Prop := PSs X sts (tSt X.H_0 O0 W g)
theorem PS.weak {X : Cx} {st : Stmt} {t t' : TS} (h : PS X st t) (w : ∀ D σ H, t' D σ H → t D σ H) : PS X st t' := ⟨fun pins s σ H D I q => h.run pins s σ H D I (w D σ H q)⟩
theorem PSs.weak {X : Cx} {st : List Stmt} {t t' : TS} (h : PSs X st t) (w : ∀ D σ H, t' D σ H → t D σ H) : PSs X st t' := ⟨fun pins s σ H D I q => h.run pins s σ H D I (w D σ H q)⟩
theorem PostS.kp {H0 : Hp} {O0 : Ow} {W : WE2} {D : Ends} {H H1 : Hp} {O O1 : Ow} {res : Flo} (k : Kp H O H1 O1) (p : PostS H0 O0 W D H O res) : PostS H0 O0 W D H1 O1 res := by
  cases res with
  | nx ρ => exact fun σ' H' O' s k' => p σ' H' O' s (k.trans k')
  | rt r => exact p
  | bk ρ => exact fun σ' H' O' s k' => p σ' H' O' s (k.trans k')
  | ct ρ => exact fun σ' H' O' s k' => p σ' H' O' s (k.trans k')
  | exc c ρ => exact fun σ' H' O' s k' => p σ' H' O' s (k.trans k')
  | bad => exact p
/-- an expression's end within a statement -/
def Flo.of {α : Type} (ρ : Rho) (x : Res α) (k : α → Flo) : Flo := match x with
  | .ok a => k a
  | .exc c => .exc c ρ
  | .bad => .bad
theorem PostS.of {α γ : Type} {Rel : Hp → Hp → α → γ → Prop} {H0 : Hp} {O0 : Ow} {W : WE2} {D : Ends} {H : Hp} {O : Ow} {σ : St} {ρ : Rho} {x : Res α} {k : α → Flo} {Q : γ → Hp → Prop} (si : SI H0 O0 H O σ ρ) (p : PostS H0 O0 W D H O (Flo.of ρ x k))
    (h : ∀ r v H1, x = .ok r → Same H H1 → Rel H H1 r v → PostS H0 O0 W D H O (k r) → Q v H1) : PostG Rel (fun c => W c σ) x H Q := by
  cases x with
  | ok r => exact fun v H1 s hr => h r v H1 rfl s hr p
  | exc c => exact fun H1 s => p σ H1 O (si.heap s) (same_kp s)
  | bad => exact p
theorem PostS.ofT {H0 : Hp} {O0 : Ow} {W : WE2} {D : Ends} {H : Hp} {O : Ow} {σ : St} {ρ : Rho} {x : Res Bool} {k : Bool → Flo} {Q : Bool → Hp → Prop} (si : SI H0 O0 H O σ ρ) (p : PostS H0 O0 W D H O (Flo.of ρ x k))
    (h : ∀ r H1, x = .ok r → Same H H1 → PostS H0 O0 W D H1 O (k r) → Q r H1) : PostT (fun c => W c σ) x H Q := by
  cases x with
  | ok r => exact fun H1 s => h r H1 rfl s (PostS.kp (same_kp s) p)
  | exc c => exact fun H1 s => p σ H1 O (si.heap s) (same_kp s)
  | bad => exact p
/-! #### blocks -/
def sNil : FS := fun ρ => .nx ρ
def sSeq (f g : FS) : FS := fun ρ => match f ρ with
  | .nx ρ' => g ρ'
  | .rt r => .rt r
  | .bk ρ' => .bk ρ'
  | .ct ρ' => .ct ρ'
  | .exc c ρ' => .exc c ρ'
  | .bad => .bad
section
variable {X : Cx} {O0 : Ow} {W : WE2} {st : Stmt} {rest : List Stmt} {f g : FS} {pos : Pos}
theorem vss_nil : VSs X O0 W [] sNil := PSs.weak pss_nil fun D σ H ⟨O, ρ, si, p⟩ => p σ H O si Kp.refl
theorem vss_cons (h1 : VS X O0 W st f) (h2 : VSs X O0 W rest g) : VSs X O0 W (st :: rest) (sSeq f g) := PSs.weak (pss_cons h1 h2) fun D σ H ⟨O, ρ, si, p⟩ => by
  refine ⟨O, ρ, si, ?_⟩
  unfold sSeq at p
  cases e : f ρ with
  | nx ρ' =>
    rw [e] at p
    exact fun σ' H' O' s k => ⟨O', ρ', s, PostS.kp k p⟩
  | rt r => rw [e] at p; exact p
  | bk ρ => rw [e] at p; exact p
  | ct ρ => rw [e] at p; exact p
  | exc c ρ => rw [e] at p; exact p
  | bad => rw [e] at p; exact p
theorem vss_one (h1 : VS X O0 W st f) : VSs X O0 W [st] f := pss_one h1
def sBk : FS := fun ρ => .bk ρ
def sCt : FS := fun ρ => .ct ρ
theorem vs_pass : VS X O0 W (.Pass pos) sNil := PS.weak ps_pass fun D σ H ⟨O, ρ, si, p⟩ => p σ H O si Kp.refl
theorem vs_break : VS X O0 W (.Break pos) sBk := PS.weak ps_break fun D σ H ⟨O, ρ, si, p⟩ => p σ H O si Kp.refl
theorem vs_continue : VS X O0 W (.Continue pos) sCt := PS.weak ps_continue fun D σ H ⟨O, ρ, si, p⟩ => p σ H O si Kp.refl
/-! #### return -/
def sRet (f : FV) : FS := fun ρ => .of ρ (f ρ) fun r => .rt r
theorem vs_ret {e : Expr} {fe : FV} (h : VE X W e fe) : VS X O0 W (.Return (some e) pos) (sRet fe) := PS.weak (ps_ret h) fun D σ H ⟨O, ρ, si, p⟩ => by
  refine ⟨O, ρ, si.re, PostS.of (Rel := RV O) si p fun r v H1 _ s rv p1 => p1 v H1 (same_trans si.same s) ?_⟩
  obtain ⟨m, d⟩ := r
  cases m with
  | val => exact R.sub rv si.old
  | own =>
    obtain ⟨a, e, n, o⟩ := rv
    exact ⟨a, e, same_none (same_trans si.same same_refl) n, o.sub fun b hb => .inl (si.old b hb)⟩
  | bor => exact False.elim rv
def sRetN : FS := fun _ => .rt (.val, .non)
theorem vs_retN : VS X O0 W (.Return none pos) sRetN := PS.weak ps_retN fun D σ H ⟨O, ρ, si, p⟩ => p .non H si.same .non
/-- return x: what the slot has is handed on -/
def sRetV (i : Nat) : FS := fun ρ => match ρ[i]? with
  | some (some (.val, d)) => .rt (.val, d)
  | some (some (.own, d)) => .rt (.own, d)
  | _ => .bad
theorem vs_retV {i : Nat} {e : Expr} (h : PE X e (tVar i)) : VS X O0 W (.Return (some e) pos) (sRetV i) := PS.weak (ps_ret h) fun D σ H ⟨O, ρ, si, p⟩ => by
  unfold sRetV at p
  split at p
  · rename_i d e
    obtain ⟨v, e1, e2⟩ := si.re.at_ i _ _ e
    exact ⟨v, e1, p v H si.same (R.sub e2 si.old)⟩
  · rename_i d e
    obtain ⟨v, e1, a, ea, oa, ow⟩ := si.re.at_ i _ _ e
    subst ea
    exact ⟨_, e1, p _ H si.same ⟨a, rfl, si.new i d a e e1, ow.sub fun b hb => .inl (si.old b hb)⟩⟩
  · exact False.elim p
/-! #### x = e -/
/-- a name that is never changed in place -/
def sSet (i : Nat) (f : FB) : FS := fun ρ => .of ρ (f ρ) fun d => .nx (ρ.set i (some (.val, d)))
theorem SI.setVal {H0 : Hp} {H : Hp} {O : Ow} {σ : St} {ρ : Rho} (si : SI H0 O0 H O σ ρ) {i : Nat} {d : D} {v : V} (h : R H O d v) : SI H0 O0 H O (σ.set i (some v)) (ρ.set i (some (.val, d))) :=
  ⟨si.re.setVal h, si.same, si.old, fun j d' a e1 e2 => by
    rcases get_set e1 with ⟨_, e'⟩ | ⟨hj, e'⟩
    · cases e'
    · rw [List.getElem?_set_ne (fun z => hj z.symm)] at e2
      exact si.new j d' a e' e2, fun j d' a e1 e2 => by
    rcases get_set e1 with ⟨_, e'⟩ | ⟨hj, e'⟩
    · cases e'
    · rw [List.getElem?_set_ne (fun z => hj z.symm)] at e2
      exact si.bor j d' a e' e2⟩
theorem vs_set {i : Nat} {fe : FB} (h : PS X st (tAsg (tR W fe) (gName i))) : VS X O0 W st (sSet i fe) := PS.weak h fun D σ H ⟨O, ρ, si, p⟩ =>
  ⟨O, ρ, si.re, PostS.of (Rel := RRr O) si p fun r v H1 _ s rv p1 => p1 _ H1 O ((si.heap s).setVal rv) (same_kp s)⟩
/-- a name that is changed in place -/
def sSetO (i : Nat) (f : FV) : FS := fun ρ => .of ρ (f ρ) fun r => .nx (ρ.set i (some r))
theorem RE.moreS {H H1 : Hp} {O : Ow} {σ : St} {ρ : Rho} {a : Addr} (r : RE H O σ ρ) (h : H a = none) (s : Same H H1) (ht : ∃ o, H1 a = some o) : RE H1 (fun b => O b ∨ b = a) σ ρ where
  len := r.len
  at_ := fun i m d e => by
    obtain ⟨v, h1, h2⟩ := r.at_ i m d e
    refine ⟨v, h1, ?_⟩
    have k : Kp H O H1 (fun b => O b ∨ b = a) := (kp_more h).trans (same_kp s)
    cases m with
    | val => exact R.mono k h2
    | own =>
      obtain ⟨b, e1, ob, r1⟩ := h2
      refine ⟨b, e1, .inl ob, r1.kp (fun o' q => s _ _ q) fun c o' hc nc => ?_⟩
      obtain ⟨h3, h4⟩ := k c o' hc (fun z => nc (.inl z))
      exact ⟨h3, fun z => by
        rcases z with z | z
        · exact h4 z
        · exact nc (.inr z)⟩
    | bor =>
      cases h2 with
      | lst h3 z r1 => exact .lst (Rd.same h3 s) z (r1.mono k)
  apart := r.apart
  trk := fun b hb => by
    rcases hb with hb | hb
    · obtain ⟨o', q⟩ := r.trk b hb
      exact ⟨o', s _ _ q⟩
    · subst hb; exact ht
/-- what the slots hold stood before a did -/
theorem RE.noref {H : Hp} {O : Ow} {σ : St} {ρ : Rho} {a : Addr} (r : RE H O σ ρ) (h : H a = none) : ∀ (i : Nat) (m : Md) (d : D), m ≠ .val → ρ[i]? = some (some (m, d)) → σ[i]? ≠ some (some (.ref a)) := fun i m d hm e z => by
  obtain ⟨v, h1, h2⟩ := r.at_ i m d e
  rw [h1] at z
  cases z
  cases m with
  | val => exact hm rfl
  | own =>
    obtain ⟨b, e1, ob, r1⟩ := h2
    cases e1
    obtain ⟨o, q⟩ := r1.there
    rw [h] at q; cases q
  | bor =>
    cases h2 with
    | lst h3 z r1 =>
      rcases h3 with h3 | ⟨o, h3⟩ <;> rw [h] at h3 <;> cases h3
theorem RE.setOwn {H : Hp} {O : Ow} {σ : St} {ρ : Rho} {a : Addr} {i : Nat} {d : D} (r : RE H O σ ρ) (ho : O a) (ow : Owned H O a d) (nr : ∀ (j : Nat) (m : Md) (d : D), j ≠ i → m ≠ .val → ρ[j]? = some (some (m, d)) → σ[j]? ≠ some (some (.ref a))) :
    RE H O (σ.set i (some (.ref a))) (ρ.set i (some (.own, d))) where
  len := by rw [List.length_set, List.length_set, r.len]
  at_ := fun j m d' e => by
    have hl := len_of_get e
    rw [List.length_set] at hl
    rcases get_set e with ⟨rfl, e'⟩ | ⟨hj, e'⟩
    · cases e'
      exact ⟨_, List.getElem?_set_self (by rw [← r.len]; exact hl), a, rfl, ho, ow⟩
    · obtain ⟨u, h1, h2⟩ := r.at_ j m d' e'
      exact ⟨u, by rw [List.getElem?_set_ne (fun z => hj z.symm)]; exact h1, h2⟩
  apart := fun j k d' m' d'' b hjk e1 e2 hm e3 e4 => by
    rcases get_set e1 with ⟨hj, e'⟩ | ⟨hj, e1'⟩
    · subst hj
      rw [List.getElem?_set_ne hjk] at e2 e4
      have hl := len_of_get e3
      rw [List.getElem?_set_self (by rw [List.length_set] at hl; exact hl)] at e3
      cases e3
      exact nr k m' d'' (fun z => hjk z.symm) hm e2 e4
    · rw [List.getElem?_set_ne (fun z => hj z.symm)] at e3
      rcases get_set e2 with ⟨hk, e'⟩ | ⟨hk, e2'⟩
      · subst hk
        have hl := len_of_get e4
        rw [List.getElem?_set_self (by rw [List.length_set] at hl; exact hl)] at e4
        cases e4
        exact nr j .own d' hj (fun z => nomatch z) e1' e3
      · rw [List.getElem?_set_ne (fun z => hk z.symm)] at e4
        exact r.apart j k d' m' d'' b hjk e1' e2' hm e3 e4
  trk := r.trk
theorem SI.setOwn {H0 H H1 : Hp} {O : Ow} {σ : St} {ρ : Rho} (si : SI H0 O0 H O σ ρ) {i : Nat} {d : D} {a : Addr} (h : H a = none) (s : Same H H1) (ow : Owned H1 O a d) :
    SI H0 O0 H1 (fun b => O b ∨ b = a) (σ.set i (some (.ref a))) (ρ.set i (some (.own, d))) where
  re := (si.re.moreS h s ow.there).setOwn (.inr rfl) (ow.sub fun b hb => hb) fun j m d hj hm e => si.re.noref h j m d hm e
  same := same_trans si.same s
  old := fun a h => .inl (si.old a h)
  new := fun j d' b e1 e2 => by
    rcases get_set e1 with ⟨hj, e'⟩ | ⟨hj, e'⟩
    · subst hj
      have hl := len_of_get e2
      rw [List.getElem?_set_self (by rw [List.length_set] at hl; exact hl)] at e2
      cases e2
      exact same_none si.same h
    · rw [List.getElem?_set_ne (fun z => hj z.symm)] at e2
      exact si.new j d' b e' e2
  bor := fun j d' b e1 e2 => by
    rcases get_set e1 with ⟨_, e'⟩ | ⟨hj, e'⟩
    · cases e'
    · rw [List.getElem?_set_ne (fun z => hj z.symm)] at e2
      exact si.bor j d' b e' e2
theorem vs_setO {i : Nat} {fe : FV} (h : PS X st (tAsg (tV W fe) (gName i))) : VS X O0 W st (sSetO i fe) := PS.weak h fun D σ H ⟨O, ρ, si, p⟩ =>
  ⟨O, ρ, si.re, PostS.of (Rel := RV O) si p fun r v H1 _ s rv p1 => by
    obtain ⟨m, d⟩ := r
    cases m with
    | val => exact p1 _ H1 O ((si.heap s).setVal rv) (same_kp s)
    | own =>
      obtain ⟨a, e, n, o⟩ := rv
      subst e
      exact p1 _ H1 _ (si.setOwn n s o) ((kp_more n).trans (same_kp s))
    | bor => exact False.elim rv⟩

/-! #### targets of any form -/
def sAsg (f : FB) (g : FG) : FS := fun ρ => .of ρ (f ρ) fun d => match g d ρ with | some ρ' => .nx ρ' | none => .bad
theorem SI.sub {H0 H : Hp} {O : Ow} {L : List Nat} {σ σ' : St} {ρ ρ' : Rho} (si : SI H0 O0 H O σ ρ) (re : RE H O σ' ρ') (s : Sub L σ ρ σ' ρ') : SI H0 O0 H O σ' ρ' :=
  ⟨re, si.same, si.old, fun i d a e1 e2 => by
    obtain ⟨h1, h2⟩ := s.own i .own d (fun z => nomatch z) e1
    exact si.new i d a h1 (by rw [← h2]; exact e2), fun i d a e1 e2 => by
    obtain ⟨h1, h2⟩ := s.own i .bor d (fun z => nomatch z) e1
    exact si.bor i d a h1 (by rw [← h2]; exact e2)⟩
theorem vs_asg {fe : FB} {L : List Nat} {g : FG} (h : PS X st (tAsg (tR W fe) (tG L g))) : VS X O0 W st (sAsg fe g) := PS.weak h fun D σ H ⟨O, ρ, si, p⟩ =>
  ⟨O, ρ, si.re, PostS.of (Rel := RRr O) si p fun d v H1 _ s rv p1 => by
    cases e : g d ρ with
    | none => rw [e] at p1; exact False.elim p1
    | some ρ' =>
      rw [e] at p1
      exact ⟨O, ρ, d, ρ', si.re.same s, rv, e, fun σ' re' sub => p1 σ' H1 O ((si.heap s).sub re' sub) (same_kp s)⟩⟩
/-- a, b = e1, e2 with two local names -/
def sPar (i j : Nat) (f : FL) : FS := fun ρ => .of ρ (f ρ) fun ds => match ds with
  | [a, b] => .nx ((ρ.set i (some (.val, a))).set j (some (.val, b)))
  | _ => .bad
theorem vs_par {i j : Nat} {f : FL} (h : PS X st (tPar i j (tL W f))) : VS X O0 W st (sPar i j f) := PS.weak h fun D σ H ⟨O, ρ, si, p⟩ =>
  ⟨O, ρ, si.re, PostS.of (Rel := RLr O) si p fun ds vs H1 _ s r p1 => by
    cases r with
    | nil => exact False.elim p1
    | cons r1 r =>
      cases r with
      | nil => exact False.elim p1
      | cons r2 r =>
        cases r with
        | cons _ _ => exact False.elim p1
        | nil => exact ⟨_, _, rfl, p1 _ H1 O (((si.heap s).setVal r1).setVal r2) (same_kp s)⟩⟩
/-! #### expressions as statements -/
def sExpr (f : FB) : FS := fun ρ => .of ρ (f ρ) fun _ => .nx ρ
theorem vs_expr {e : Expr} {fe : FB} (h : PS X st (tDrop (tR W fe))) : VS X O0 W st (sExpr fe) := PS.weak h fun D σ H ⟨O, ρ, si, p⟩ =>
  ⟨O, ρ, si.re, PostS.of (Rel := RRr O) si p fun r v H1 _ s rv p1 => p1 _ H1 O (si.heap s) (same_kp s)⟩
/-! #### if -/
def sIf (t : FT) (f g : FS) : FS := fun ρ => .of ρ (t ρ) fun b => if b = true then f ρ else g ρ
theorem vs_if {c : Expr} {a b : List Stmt} {t : FT} (hc : VT X W c t) (ha : VSs X O0 W a f) (hb : VSs X O0 W b g) : VS X O0 W (.If c a b pos) (sIf t f g) := PS.weak (ps_if hc ha hb) fun D σ H ⟨O, ρ, si, p⟩ =>
  ⟨O, ρ, si.re, PostS.ofT si p fun b H1 _ s p1 => by
    cases b
    · rw [if_neg (by simp)] at p1 ⊢
      exact ⟨O, ρ, si.heap s, p1⟩
    · rw [if_pos rfl] at p1 ⊢
      exact ⟨O, ρ, si.heap s, p1⟩⟩
/-! #### x.append(e), x.extend(e) of a list of one's own -/
/-- a list of one's own is written -/
theorem SI.write {H0 H : Hp} {O : Ow} {σ : St} {ρ : Rho} (si : SI H0 O0 H O σ ρ) {i : Nat} {ds ds' : List D} {a : Addr} {vs' : List V} (e : ρ[i]? = some (some (.own, .lst ds))) (eσ : σ[i]? = some (some (.ref a))) (ho : O a) (ow : Owned H O a (.lst ds))
    (hz : vs'.length ≤ sizeLine) (r' : Rs H (fun b => O b ∨ b = a) ds' vs') : SI H0 O0 (upd H a (.lst vs')) O σ (ρ.set i (some (.own, .lst ds'))) ∧ Kp H O (upd H a (.lst vs')) O := by
  have k : Kp H O (upd H a (.lst vs')) O := kp_upd ho
  have hn : H0 a = none := si.new i _ a e eσ
  refine ⟨⟨?_, ?_, si.old, ?_, ?_⟩, k⟩
  · have hl : i < ρ.length := len_of_get e
    have ow' : Owned (upd H a (.lst vs')) O a (.lst ds') := .lst upd_same hz (r'.mono (kp_upd (O := fun b => O b ∨ b = a) (.inr rfl)))
    refine ⟨by rw [List.length_set, si.re.len], fun j m d' ej => ?_, fun j l d' m' d'' b hjl e1 e2 hm e3 => ?_, fun b hb => ?_⟩
    · rcases get_set ej with ⟨hj, e'⟩ | ⟨hj, e'⟩
      · subst hj
        cases e'
        exact ⟨_, eσ, a, rfl, ho, ow'⟩
      · obtain ⟨v, h1, h2⟩ := si.re.at_ j m d' e'
        refine ⟨v, h1, ?_⟩
        cases m with
        | val => exact R.mono k h2
        | own =>
          obtain ⟨b, e1, ob, r1⟩ := h2
          subst e1
          have hb : b ≠ a := fun z => si.re.apart i j _ .own d' a (fun q => hj q.symm) e e' (fun q => nomatch q) eσ (by rw [h1, z])
          refine ⟨b, rfl, ob, r1.kp (fun o' q => by rw [upd_ne hb]; exact q) fun c o' hc nc => ⟨(k c o' hc (fun z => nc (.inl z))).1, nc⟩⟩
        | bor =>
          cases h2 with
          | @lst b vs ds h3 z r1 =>
            have hb : b ≠ a := fun z => si.re.apart i j _ .bor _ a (fun q => hj q.symm) e e' (fun q => nomatch q) eσ (by rw [h1, z])
            refine .lst ?_ z (r1.mono k)
            rcases h3 with h3 | ⟨o', h3⟩
            · exact .inl (by rw [upd_ne hb]; exact h3)
            · exact .inr ⟨o', by rw [upd_ne hb]; exact h3⟩
    · have f1 : ∃ d3, ρ[j]? = some (some (.own, d3)) := by
        rcases get_set e1 with ⟨hj, e'⟩ | ⟨hj, e'⟩
        · subst hj; exact ⟨_, e⟩
        · exact ⟨_, e'⟩
      have f2 : ∃ m3 d3, m3 ≠ .val ∧ ρ[l]? = some (some (m3, d3)) := by
        rcases get_set e2 with ⟨hj, e'⟩ | ⟨hj, e'⟩
        · subst hj; exact ⟨.own, _, (fun q => nomatch q), e⟩
        · exact ⟨_, _, hm, e'⟩
      obtain ⟨d3, f1⟩ := f1
      obtain ⟨m3, d4, hm3, f2⟩ := f2
      exact si.re.apart j l d3 m3 d4 b hjl f1 f2 hm3 e3
    · by_cases q : b = a
      · subst q; exact ⟨_, upd_same⟩
      · obtain ⟨o', w⟩ := si.re.trk b hb
        exact ⟨o', by rw [upd_ne q]; exact w⟩
  · intro b o hb
    have hba : b ≠ a := fun z => by rw [z, hn] at hb; cases hb
    rw [upd_ne hba]
    exact si.same b o hb
  · intro j d' b e1 e2
    rcases get_set e1 with ⟨hj, e'⟩ | ⟨hj, e'⟩
    · subst hj
      rw [eσ] at e2
      cases e2
      exact hn
    · exact si.new j d' b e' e2
  · intro j d' b e1 e2
    rcases get_set e1 with ⟨hj, e'⟩ | ⟨hj, e'⟩
    · cases e'
    · exact si.bor j d' b e' e2
def sApp (i : Nat) (f : FB) : FS := fun ρ => match ρ[i]? with
  | some (some (.own, .lst ds)) => .of ρ (f ρ) fun d => if ds.length < sizeLine then .nx (ρ.set i (some (.own, .lst (ds ++ [d])))) else .bad
  | _ => .bad
/-- the own list of a slot -/
theorem SI.ownAt {H0 H : Hp} {O : Ow} {σ : St} {ρ : Rho} (si : SI H0 O0 H O σ ρ) {i : Nat} {ds : List D} (e : ρ[i]? = some (some (.own, .lst ds))) : ∃ a vs, σ[i]? = some (some (.ref a)) ∧ O a ∧ H a = some (.lst vs) ∧ vs.length ≤ sizeLine ∧ Rs H (fun b => O b ∨ b = a) ds vs ∧ Owned H O a (.lst ds) := by
  obtain ⟨v, e1, a, ea, oa, ow⟩ := si.re.at_ i _ _ e
  subst ea
  cases ow with
  | lst h z r => exact ⟨a, _, e1, oa, h, z, r, .lst h z r⟩
theorem vs_app {i : Nat} {fe : FB} (h : PS X st (tDrop (tBM X.K "list" rAppend (tVar i) (tCons (tR W fe) tNil)))) : VS X O0 W st (sApp i fe) := PS.weak h fun D σ H ⟨O, ρ, si, p⟩ => by
  unfold sApp at p
  split at p
  · rename_i ds e
    obtain ⟨a, vs, e1, oa, ha, z, r, ow⟩ := si.ownAt e
    refine ⟨_, e1, .inl ⟨rfl, vs, .inl (.inl ha)⟩, O, ρ, si.re, PostS.of (Rel := RRr O) si p fun d v H1 _ s rv p1 => ?_⟩
    split at p1
    · rename_i hz
      have ha1 := s _ _ ha
      have hl := r.length
      refine ⟨a, vs, v, rfl, rfl, ha1, by omega, ?_⟩
      have hOO : ∀ b, (O b ∨ b = a) → O b := fun b hb => by rcases hb with hb | hb; exact hb; exact hb ▸ oa
      obtain ⟨s1, k⟩ := (si.heap s).write e e1 oa (ow.same s) (vs' := vs ++ [v]) (ds' := ds ++ [d]) (by rw [List.length_append]; simp; omega) ((r.same s).append (.cons (R.sub rv hOO) .nil))
      exact p1 _ _ O s1 ((same_kp s).trans k)
    · exact False.elim p1
  · exact False.elim p
/-- extend by any list that is read -/
def rExtR : V → List V → Hp → VK → Prop := fun x vs H Q => ∃ l b xs zs, x = .ref l ∧ vs = [.ref b] ∧ H l = some (.lst xs) ∧ Rd H b (.lst zs) ∧ xs.length + zs.length ≤ sizeLine ∧ Q .non (upd H l (.lst (xs ++ zs)))
theorem mt_extR : MtM X "list.extend" rExtR := by
  intro pins s σ H x vs v us Q I rx rv h
  obtain ⟨l, b, xs, zs, rfl, rfl, hH, hB, hz, q⟩ := h
  cases rx
  obtain ⟨u, rfl, ru⟩ := rv.one
  cases ru
  obtain ⟨z, its, n, r, hl, e⟩ := I.lstM hH
  obtain ⟨z2, its2, n2, r2, hl2, e2⟩ := rd_lst I hB
  have hsz : its.toArray.size + its2.toArray.size ≤ sizeLine := by rw [List.size_toArray, List.size_toArray]; omega
  have hlong : ¬ (!its.toArray.isEmpty && Builtin.List.listTooLong (its.toArray.size + its2.toArray.size)) = true := by
    rw [notLongL hsz, Bool.and_false]
    exact Bool.false_ne_true
  refine call_meets F.slot_list_extend ⟨_, e, rfl⟩ F.entry_list_extend (F.args_list_extend_2 _ _)
    (AutoSeq1.list_extend_list_list_0 l its.toArray n b its2.toArray n2 hlong (by rw [List.size_toArray]; omega) (by omega)) ⟨e, e2, ?_⟩
  refine ⟨.non, _, I.lset (its' := its ++ its2) hH e (by simp) (r.append r2) ?_, rfl, q⟩
  rw [List.length_append]
  omega
def sExt (i : Nat) (f : FB) : FS := fun ρ => match ρ[i]? with
  | some (some (.own, .lst ds)) => .of ρ (f ρ) fun d => match d with
    | .lst es => if ds.length + es.length ≤ sizeLine then .nx (ρ.set i (some (.own, .lst (ds ++ es)))) else .bad
    | _ => .bad
  | _ => .bad
theorem vs_ext {i : Nat} {fe : FB} (h : PS X st (tDrop (tBM X.K "list" rExtR (tVar i) (tCons (tR W fe) tNil)))) : VS X O0 W st (sExt i fe) := PS.weak h fun D σ H ⟨O, ρ, si, p⟩ => by
  unfold sExt at p
  split at p
  · rename_i ds e
    obtain ⟨a, vs, e1, oa, ha, z, r, ow⟩ := si.ownAt e
    refine ⟨_, e1, .inl ⟨rfl, vs, .inl (.inl ha)⟩, O, ρ, si.re, PostS.of (Rel := RRr O) si p fun d v H1 _ s rv p1 => ?_⟩
    cases d with
    | lst es =>
      simp only at p1
      split at p1
      · rename_i hz
        have ha1 := s _ _ ha
        have hl := r.length
        obtain ⟨b, zs, rfl, h3, z3, r3⟩ := (RB.of rv).list
        have hl3 := r3.length
        refine ⟨a, b, vs, zs, rfl, rfl, ha1, h3, by omega, ?_⟩
        have hOO : ∀ b, (O b ∨ b = a) → O b := fun b hb => by rcases hb with hb | hb; exact hb; exact hb ▸ oa
        obtain ⟨s1, k⟩ := (si.heap s).write e e1 oa (ow.same s) (vs' := vs ++ zs) (ds' := ds ++ es) (by rw [List.length_append]; omega) ((r.same s).append (r3.mono (kp_sub hOO)))
        exact p1 _ _ O s1 ((same_kp s).trans k)
      · exact False.elim p1
    | _ => exact False.elim p1
  · exact False.elim p
end
end VL
end
section
set_option linter.all false
set_option maxRecDepth 100000
set_option maxHeartbeats 2000000
namespace VL
open PySem PySem.Spec PyProof.Rows L2
/-! #### while -/
def whileGo (t : FT) (body : FS) : Nat → Rho → Flo
  | 0, _ => .bad
  | n + 1, ρ => .of ρ (t ρ) fun b => if b = true then match body ρ with
      | .nx ρ' => whileGo t body n ρ'
      | .ct ρ' => whileGo t body n ρ'
      | .bk ρ' => .nx ρ'
      | .rt r => .rt r
      | .exc c ρ' => .exc c ρ'
      | .bad => .bad
    else .nx ρ
def sWhile (n : Nat) (t : FT) (body : FS) : FS := whileGo t body n
section
variable {X : Cx} {O0 : Ow} {W : WE2} {st : Stmt} {f g : FS} {pos : Pos}
theorem vs_while {c : Expr} {body : List Stmt} {t : FT} {n : Nat} (hp : PassesOwn (model X.prog X.w) X.A X.env X.xe) (hc : VT X W c t) (hb : VSs X O0 W body f) : VS X O0 W (.While c body [] pos) (sWhile n t f) := PS.weak (ps_while hp hc hb) fun D σ H ⟨O, ρ, si, p⟩ => by
  refine ⟨fun m σ' H' => ∃ O' ρ', SI X.H_0 O0 H' O' σ' ρ' ∧ Kp H O H' O' ∧ PostS X.H_0 O0 W D H O (whileGo t f m ρ'), ⟨n, O, ρ, si, Kp.refl, p⟩, ?_⟩
  rintro m σ' H' ⟨O', ρ', si', k, p'⟩
  cases m with
  | zero => exact False.elim p'
  | succ m =>
    unfold whileGo at p'
    refine ⟨O', ρ', si'.re, PostS.ofT si' (PostS.kp k p') fun b H1 _ s p1 => ?_⟩
    cases b with
    | false => exact p1 _ _ O' (si'.heap s) Kp.refl
    | true =>
      rw [if_pos rfl] at p1 ⊢
      have k1 : Kp H O H1 O' := k.trans (same_kp s)
      refine ⟨fun σ2 H2 => ∃ O2 ρ2, SI X.H_0 O0 H2 O2 σ2 ρ2 ∧ Kp H O H2 O2 ∧ PostS X.H_0 O0 W D H O (whileGo t f m ρ2), fun σ2 H2 h => ⟨m, Nat.lt_succ_self m, h⟩, O', ρ', si'.heap s, ?_⟩
      have pc : PostS X.H_0 O0 W D H O (match f ρ' with
        | .nx ρ' => whileGo t f m ρ'
        | .ct ρ' => whileGo t f m ρ'
        | .bk ρ' => .nx ρ'
        | .rt r => .rt r
        | .exc c ρ' => .exc c ρ'
        | .bad => .bad) := by
        cases et : t ρ' with
        | ok b => 
          have hb : b = true := by
            rename_i hx
            rw [et] at hx
            cases hx
            rfl
          subst hb
          rw [et] at p'
          exact p'
        | exc c => rename_i hx; rw [et] at hx; cases hx
        | bad => rename_i hx; rw [et] at hx; cases hx
      cases ef : f ρ' with
      | nx ρ2 => rw [ef] at pc; exact fun σ2 H2 O2 s2 k2 => ⟨O2, ρ2, s2, k1.trans k2, pc⟩
      | ct ρ2 => rw [ef] at pc; exact fun σ2 H2 O2 s2 k2 => ⟨O2, ρ2, s2, k1.trans k2, pc⟩
      | bk ρ2 => rw [ef] at pc; exact fun σ2 H2 O2 s2 k2 => pc σ2 H2 O2 s2 (k1.trans k2)
      | rt r => rw [ef] at pc; exact pc
      | exc c ρ2 => rw [ef] at pc; exact fun σ2 H2 O2 s2 k2 => pc σ2 H2 O2 s2 (k1.trans k2)
      | bad => rw [ef] at pc; exact pc
/-! #### for -/
def forGo (tg : FG) (body : FS) : List D → Rho → Flo
  | [], ρ => .nx ρ
  | d :: ds, ρ => match tg d ρ with
    | none => .bad
    | some ρ1 => match body ρ1 with
      | .nx ρ' => forGo tg body ds ρ'
      | .ct ρ' => forGo tg body ds ρ'
      | .bk ρ' => .nx ρ'
      | .rt r => .rt r
      | .exc c ρ' => .exc c ρ'
      | .bad => .bad
def sFor (it : FL) (tg : FG) (body : FS) : FS := fun ρ => .of ρ (it ρ) fun ds => forGo tg body ds ρ
/-- a name's list, that the loop leaves as it is -/
def vrL (i : Nat) : FB := fun ρ => match ρ[i]? with
  | some (some (.val, d)) => .ok d
  | some (some (.bor, d)) => .ok d
  | _ => .bad
theorem src_slot {H0 : Hp} {i : Nat} {e : Expr} (h : PE X e (tVar i)) : PE X e (tS (SI H0 O0) (some H0) W (vrL i)) := PE.weak h fun σ H Q ⟨O, ρ, si, p⟩ => by
  unfold vrL at p
  split at p
  · rename_i d e
    obtain ⟨v, e1, e2⟩ := si.re.at_ i _ _ e
    exact ⟨v, e1, p v H same_refl (sb_r e2)⟩
  · rename_i d e
    obtain ⟨v, e1, e2⟩ := si.re.at_ i _ _ e
    refine ⟨v, e1, p v H same_refl ⟨Lent.rb e2, fun H'' O'' s k => ?_⟩⟩
    have e3 : Lent H O d v := e2
    cases e3 with
    | @lst a vs ds h3 z r => exact Lent.rb (Lent.step (.lst h3 z r) (si.bor i _ a e e1) si.same s k)
  · exact False.elim p
theorem vs_for {tg iter : Expr} {body : List Stmt} {L : List Nat} {fi : FL} {gf : FG} (h : PS X (.For tg iter body [] pos) (tFor (tI (SI X.H_0 O0) (some X.H_0) W fi) (tG L gf) (tSt X.H_0 O0 W f))) : VS X O0 W (.For tg iter body [] pos) (sFor fi gf f) := PS.weak h fun D σ H ⟨O, ρ, si, p⟩ => by
  refine ⟨O, ρ, si, PostS.of (Rel := RI (some X.H_0) O) si p fun ds J H1 _ s ri p1 => ?_⟩
  obtain ⟨C, w1, hz, hC⟩ := ri
  have p1 := PostS.kp (same_kp s) p1
  refine ⟨fun i m σ' H' => m = ds.length - i ∧ i ≤ ds.length ∧ ∃ O' ρ', SI X.H_0 O0 H' O' σ' ρ' ∧ Kp H1 O H' O' ∧ PostS X.H_0 O0 W D H1 O (forGo gf f (ds.drop i) ρ'), ⟨_, rfl, Nat.zero_le _, O, ρ, si.heap s, Kp.refl, p1⟩, ?_⟩
  rintro i m σ' H' ⟨rfl, hi, O', ρ', si', k, p'⟩
  obtain ⟨go, stop⟩ := w1 H' O' si'.re.trk (hC H' O' si'.same k) i
  rcases Nat.lt_or_ge i ds.length with hlt | hge
  · obtain ⟨d, hd⟩ : ∃ d, ds[i]? = some d := ⟨_, List.getElem?_eq_getElem hlt⟩
    obtain ⟨g1, g2⟩ := go d hd
    have hdrop : ds.drop i = d :: ds.drop (i + 1) := by
      rw [List.drop_eq_getElem_cons hlt]
      rw [List.getElem?_eq_getElem hlt] at hd
      cases hd; rfl
    rw [hdrop] at p'
    unfold forGo at p'
    refine .inr ⟨g1, fun σ2 H2 => ∃ O2 ρ2, SI X.H_0 O0 H2 O2 σ2 ρ2 ∧ Kp H1 O H2 O2 ∧ PostS X.H_0 O0 W D H1 O (forGo gf f (ds.drop (i + 1)) ρ2), fun σ2 H2 h => ⟨_, by omega, rfl, by omega, h⟩, fun x H3 hy => ?_⟩
    obtain ⟨s3, r3⟩ := g2 x H3 hy
    cases eg : gf d ρ' with
    | none => rw [eg] at p'; exact False.elim p'
    | some ρ1 =>
    rw [eg] at p'
    simp only at p'
    have k3 : Kp H1 O H3 O' := k.trans (same_kp s3)
    refine ⟨O', ρ', d, ρ1, si'.re.same s3, r3, eg, fun σ2 re2 sub => ⟨O', ρ1, (si'.heap s3).sub re2 sub, ?_⟩⟩
    cases ef : f ρ1 with
    | nx ρ2 => rw [ef] at p'; exact fun σ3 H4 O4 s4 k4 => ⟨O4, ρ2, s4, k3.trans k4, p'⟩
    | ct ρ2 => rw [ef] at p'; exact fun σ3 H4 O4 s4 k4 => ⟨O4, ρ2, s4, k3.trans k4, p'⟩
    | bk ρ2 => rw [ef] at p'; exact fun σ3 H4 O4 s4 k4 => p' σ3 H4 O4 s4 (k3.trans k4)
    | rt r => rw [ef] at p'; exact p'
    | exc c ρ2 => rw [ef] at p'; exact fun σ3 H4 O4 s4 k4 => p' σ3 H4 O4 s4 (k3.trans k4)
    | bad => rw [ef] at p'; exact p'
  · have hie : i = ds.length := by omega
    subst hie
    rw [List.drop_length] at p'
    exact .inl ⟨stop rfl, p' σ' H' O' si' k⟩
/-! #### raise X('..') -/
def sRaise (c : Exn) : FS := fun ρ => .exc c ρ
theorem vs_raise {c : Exn} {h0 : Hp → XK → Prop} (h : PS X st (fun _ σ H => W c σ H)) : VS X O0 W st (sRaise c) := PS.weak h fun D σ H ⟨O, ρ, si, p⟩ => p σ H O si Kp.refl
end
/-! ### defs -/
abbrev Fn := List (Md × D) → Res (Md × D)
/-- how exceptions' classes stand: their class objects -/
abbrev Cl := Exn → Value
inductive RArgs (H : Hp) (O : Ow) : List (Md × D) → List V → Prop
  | nil : RArgs H O [] []
  | cons {m : Md} {d : D} {v : V} {ds : List (Md × D)} {vs : List V} : m ≠ .own → RSlot H O m d v → RArgs H O ds vs → RArgs H O ((m, d) :: ds) (v :: vs)
theorem RArgs.length {H : Hp} {O : Ow} : ∀ {ds : List (Md × D)} {vs : List V}, RArgs H O ds vs → ds.length = vs.length
  | _, _, .nil => rfl
  | _, _, .cons _ _ t => congrArg (· + 1) t.length
theorem RArgs.same {H H' : Hp} {O : Ow} (s : Same H H') : ∀ {ds : List (Md × D)} {vs : List V}, RArgs H O ds vs → RArgs H' O ds vs
  | _, _, .nil => .nil
  | _, _, .cons h r t => .cons h (r.same s) (t.same s)
/-- the promise of a def that computes F -/
def spF (cl : Cl) (n : Nat) (F : Fn) : Sp := fun vs H Q E => ∃ O ds, ds.length = n ∧ Trk O H ∧ RArgs H O ds vs ∧ PostG (RV O) (fun c H' => E (cl c) none H') (F ds) H Q
theorem spF_len {cl : Cl} {n : Nat} {F : Fn} : ∀ vs H Q E, spF cl n F vs H Q E → vs.length = n := fun vs H Q E ⟨O, ds, hn, _, r, _⟩ => by rw [← r.length, hn]
/-- the slots at a def's entry -/
def rho0 (k : Nat) (ds : List (Md × D)) : Rho := ds.map some ++ List.replicate (k - ds.length) none
def runB (k : Nat) (body : FS) : Fn := fun ds => match body (rho0 k ds) with
  | .nx _ => .ok (.val, .non)
  | .rt r => .ok r
  | .exc c _ => .exc c
  | _ => .bad
theorem get_map_rep {α β : Type} {f : α → β} {ds : List α} {k i : Nat} {b : β} (y : β) (hb : b ≠ y) (h : (ds.map f ++ List.replicate k y)[i]? = some b) : ∃ d, ds[i]? = some d ∧ b = f d := by
  rcases Nat.lt_or_ge i (ds.map f).length with hl | hl
  · rw [List.getElem?_append_left hl, List.getElem?_map, Option.map_eq_some_iff] at h
    obtain ⟨d, h1, h2⟩ := h
    exact ⟨d, h1, h2.symm⟩
  · rw [List.getElem?_append_right hl] at h
    have := List.getElem?_eq_some_iff.mp h
    obtain ⟨h1, h2⟩ := this
    rw [List.getElem_replicate] at h2
    exact absurd h2.symm hb
theorem RArgs.get {H : Hp} {O : Ow} : ∀ {ds : List (Md × D)} {vs : List V} {i : Nat} {m : Md} {d : D}, RArgs H O ds vs → ds[i]? = some (m, d) → ∃ v, vs[i]? = some v ∧ m ≠ .own ∧ RSlot H O m d v
  | _, _, _, _, _, .nil, e => by simp at e
  | _, _, 0, _, _, .cons h r _, e => by simp at e; obtain ⟨e1, e2⟩ := e; subst e1 e2; exact ⟨_, rfl, h, r⟩
  | _, _, i + 1, _, _, .cons _ _ t, e => by simp at e; simpa using RArgs.get t e
theorem si_start {H : Hp} {O : Ow} {N : List Str} {ds : List (Md × D)} {vs : List V} (t : Trk O H) (r : RArgs H O ds vs) (hn : ds.length ≤ N.length) : SI H O H O (L2.start N vs) (rho0 N.length ds) := by
  have hl := r.length
  have at_ : ∀ (i : Nat) (m : Md) (d : D), (rho0 N.length ds)[i]? = some (some (m, d)) → ∃ v, (start N vs)[i]? = some (some v) ∧ m ≠ .own ∧ RSlot H O m d v := by
    intro i m d e
    unfold rho0 at e
    obtain ⟨d', h1, h2⟩ := get_map_rep none (by simp) e
    cases h2
    obtain ⟨v, h3, h4, h5⟩ := r.get h1
    refine ⟨v, ?_, h4, h5⟩
    unfold L2.start
    have hi : i < (vs.map some).length := by rw [List.length_map]; exact len_of_get h3
    rw [List.getElem?_append_left hi, List.getElem?_map, h3]
    rfl
  refine ⟨⟨?_, fun i m d e => let ⟨v, h1, _, h2⟩ := at_ i m d e; ⟨v, h1, h2⟩, fun i j d m' d' a _ e1 => ?_, t⟩, same_refl, fun _ h => h, fun i d a e1 => ?_, fun i d a e1 e2 => ?_⟩
  · unfold rho0 L2.start
    simp only [List.length_append, List.length_map, List.length_replicate]
    omega
  · obtain ⟨_, _, h, _⟩ := at_ _ _ _ e1
    exact absurd rfl h
  · obtain ⟨_, _, h, _⟩ := at_ _ _ _ e1
    exact absurd rfl h
  · obtain ⟨v, h1, _, h2⟩ := at_ _ _ _ e1
    rw [h1] at e2
    cases e2
    have h3 : Lent H O d (.ref a) := h2
    cases h3 with
    | lst h3 z r =>
      rcases h3 with h3 | ⟨o, h3⟩
      · exact ⟨_, h3⟩
      · exact ⟨_, h3⟩
/-- THE RULE of a def: its body, simulated by b, at level k + 1 -/
theorem fn_ok {P : Program} {w : World} {K : PySem.W.Frag} {mg : Str → Option Value} {base : Heap} {cl : Cl} {x qual : Str} {st : Stmt} {f : Addr} {fd : FuncData} {N ps : List Str} {k : Nat} {body : FS} (F : Fun K x qual st f fd) (S : FnScope N ps (defScope st)) (hl : ps.length ≤ N.length)
    (hbody : ∀ (cdv : Value) (A : Around) (outer : List Env) (s : Shared) (H : Hp) (O0 : Ow) (E : XK), Room k (A.deeper (envOfC qual (defScope st) s.heap.objs.size f cdv)) →
      VSs (cxOf (L2.CX P w) P w K mg base N qual (defScope st) f cdv A outer s H E) O0 (fun c _ H' => E (cl c) none H') (defBody st) body) :
    FnOk P w K mg base (L2.CX P w) (k + 1) f fd ps (spF cl ps.length (runB N.length body)) := by
  refine F.okX S (fun vs H Q E h => spF_len vs H Q E h) (fun cdv A outer s H vs Q E hr h => ?_)
  obtain ⟨O, ds, hn, t, r, p⟩ := h
  refine ⟨_, hbody cdv A outer s H O E hr, O, rho0 N.length ds, si_start t r (by rw [hn]; exact hl), ?_⟩
  unfold runB at p
  cases e : body (rho0 N.length ds) with
  | nx ρ => rw [e] at p; exact fun σ' H' O' si k' => p .non H' si.same .non
  | rt r => rw [e] at p; exact fun v H' s' rv => p v H' s' rv
  | bk ρ => rw [e] at p; exact False.elim p
  | ct ρ => rw [e] at p; exact False.elim p
  | exc c ρ => rw [e] at p; exact fun σ' H' O' si k' => p H' si.same
  | bad => rw [e] at p; exact p
/-- a def that is not claimed: at fuel nought -/
theorem fn_bad {P : Program} {w : World} {K : PySem.W.Frag} {mg : Str → Option Value} {base : Heap} {cl : Cl} {f : Addr} {fd : FuncData} {ps : List Str} : FnOk P w K mg base (L2.CX P w) 0 f fd ps (spF cl ps.length (fun _ => .bad)) := by
  have no : ∀ vs H Q E, ¬ spF cl ps.length (fun _ => .bad) vs H Q E := fun vs H Q E ⟨O, ds, _, _, _, p⟩ => p
  exact ⟨fun vs H Q E h => absurd h (no vs H Q E), fun A outer s H args us vs Q E _ _ _ _ h => absurd h (no vs H Q E)⟩
/-! #### calls -/
abbrev FA := Rho → Res (List (Md × D))
def RAs (O : Ow) (_ H' : Hp) (ds : List (Md × D)) (vs : List V) : Prop := RArgs H' O ds vs
theorem RAs.pre {O : Ow} {H H1 H' : Hp} {d : List (Md × D)} {v : List V} (_ : Same H H1) (h : RAs O H1 H' d v) : RAs O H H' d v := h
def tAs (W : WE2) (f : FA) : TA := fun σ H Q => ∃ O ρ, RE H O σ ρ ∧ PostG (RAs O) (fun c => W c σ) (f ρ) H Q
abbrev VAs (X : Cx) (W : WE2) (es : List Expr) (f : FA) : Prop := PA X es (tAs W f)
def aNil : FA := fun _ => .ok []
def aCons (f : FV) (g : FA) : FA := fun ρ => f ρ >>= fun a => g ρ >>= fun r => .ok (a :: r)
section
variable {X : Cx} {W : WE2} {e : Expr} {es : List Expr} {f : FV} {g : FA} {pos : Pos} {cl : Cl}
theorem vas_nil : VAs X W [] aNil := PA.weak pa_nil fun σ H Q ⟨O, ρ, re, p⟩ => p [] H same_refl .nil
theorem vas_cons (h : VA X W e f) (h2 : VAs X W es g) (hs : starEach (e :: es) X.env = (false, eval e X.env) :: starEach es X.env := by rfl) : VAs X W (e :: es) (aCons f g) := PA.weak (pa_cons h h2 hs) fun σ H Q ⟨O, ρ, re, p⟩ => by
  refine ⟨O, ρ, re, PostG.bind (Rel := RAr O) (Rel' := RAs O) (x := f ρ) RAs.pre p fun a x H1 _ s1 ra p1 => ?_⟩
  refine ⟨O, ρ, re.same s1, PostG.bind (Rel := RAs O) (Rel' := RAs O) (x := g ρ) RAs.pre p1 fun r vs H2 _ s2 rr p2 => ?_⟩
  obtain ⟨m, d⟩ := a
  exact p2 _ H2 same_refl (.cons ra.1 (RSlot.same ra.2 s2) rr)
def eCall (n : Nat) (F : Fn) (g : FA) : FV := fun ρ => g ρ >>= fun ds => if ds.length = n then F ds else .bad
/-- a call of a def that may raise: what it raises is raised here -/
theorem ve_call {n : Nat} {F : Fn} {E : St → XK} (h : PE X e (tCallS (spF cl n F) E (tAs W g))) (hE : ∀ c σ H, W c σ H → E σ (cl c) none H) : VE X W e (eCall n F g) := PE.weak h fun σ H Q ⟨O, ρ, re, p⟩ =>
  ⟨O, ρ, re, PostG.bind (Rel := RAs O) (Rel' := RV O) (x := g ρ) RV.pre p fun ds vs H1 _ s1 r p1 => by
    split at p1
    · rename_i hn
      refine ⟨O, ds, hn, (re.same s1).trk, r, ?_⟩
      cases eF : F ds with
      | ok r => rw [eF] at p1; exact p1
      | exc c => rw [eF] at p1; exact fun H' s' => hE _ _ _ (p1 H' s')
      | bad => rw [eF] at p1; exact p1
    · exact False.elim p1⟩
/-- a call from a block that nothing leaves: of a def that raises nothing there -/
theorem ve_call0 {n : Nat} {F : Fn} (h : PE X e (tCall (spF cl n F) [] E0 (tAs W0 g))) : VE X W0 e (eCall n F g) := PE.weak h fun σ H Q ⟨O, ρ, re, p⟩ =>
  ⟨O, ρ, re, PostG.bind (Rel := RAs O) (Rel' := RV O) (x := g ρ) RV.pre p fun ds vs H1 _ s1 r p1 => by
    split at p1
    · rename_i hn
      refine ⟨O, ds, hn, (re.same s1).trk, by rw [List.append_nil]; exact r, ?_⟩
      cases eF : F ds with
      | ok r => rw [eF] at p1; exact p1
      | exc c => rw [eF] at p1; exact fun H' s' => p1 H' s'
      | bad => rw [eF] at p1; exact p1
    · exact False.elim p1⟩
end
end VL
end
section
set_option linter.all false
set_option maxRecDepth 100000
set_option maxHeartbeats 4000000
namespace VL
open PySem PySem.Spec PyProof.Rows L2
/-! ### sets of texts: how one is made of a list, how it is told rising -/
def txtOf (e : Int × Value) : Str := match e.2 with
  | .str x _ => x
  | _ => Str.empty
def IsTxt (w : World) (e : Int × Value) : Prop := ∃ x t, e.2 = Value.str x t ∧ e.1 = hashStr w x
/-- at a stands a set that holds just the texts xs, each once; its table can be walked -/
def TxtSet (w : World) (h : Heap) (a : Addr) (xs : List Str) : Prop :=
  ∃ o es ep t, h.get? a = some o ∧ o.ExactSet ∧ o.data = .set es ep t ∧ (∀ e ∈ es.toList, IsTxt w e) ∧ (es.toList.map txtOf).Perm xs ∧ xs.Nodup ∧ es.size < scanBound ∧ t.fits es.size = true ∧
    Ris t.place.toList ∧ (w.params.followText "set-order" = true ∨ t.led = true)
section
variable {P : Program} {w : World} {A : Around} {E : Value → Shared → Prop} {s : Shared} {a : Addr} {xs : List Str}
theorem TxtSet.stay {h h' : Heap} (T : TxtSet w h a xs) (k : ∀ o, h.get? a = some o → h'.get? a = some o) : TxtSet w h' a xs := by
  obtain ⟨o, es, ep, t, ho, r⟩ := T
  exact ⟨o, es, ep, t, k o ho, r⟩
theorem txt_elems {l : List (Int × Value)} (g : ∀ e ∈ l, IsTxt w e) : ElemsOf (PySem.strKind P w) l := fun e he => by
  obtain ⟨x, t, h1, h2⟩ := g e he
  refine ⟨⟨x, ?_, h2⟩, ?_⟩ <;> rw [h1]
  · exact strKind_is P w x t
  · rfl
theorem txt_is {e : Int × Value} (g : IsTxt w e) (x : Str) : (PySem.strKind P w).is x e.2 = true ↔ txtOf e = x := by
  obtain ⟨y, t, h1, _⟩ := g
  unfold txtOf
  rw [h1]
  constructor
  · intro h
    obtain ⟨u, hu⟩ := Value.isStrOf_shape (x := x) (v := Value.str y t) h
    injection hu with q _
  · intro h
    subst h
    exact strKind_is P w _ t
/-- behind the store: the table may be laid anew -/
theorem txt_tail {g : Bool → Sem Unit} (hg : ∀ (b : Bool) (s₁ : Shared) (Q' : Unit → Shared → Prop), Q' () s₁ → wpAny (model P w) A (g b) Q' E s₁) {o : Obj} {es : Array (Int × Value)} {ep : Nat} {t : SetTable}
    (ho : s.heap.get? a = some o) (hex : o.ExactSet) (hd : o.data = .set es ep t) {es1 : Array (Int × Value)} {t2 : SetTable} (g1 : ∀ e ∈ es1.toList, IsTxt w e) (pm : (es1.toList.map txtOf).Perm xs) (nd : xs.Nodup) (hb : es1.size < scanBound)
    (hf : t2.fits es1.size = true) (hr : Ris t2.place.toList) (hl : w.params.followText "set-order" = true ∨ t2.led = true) {wasDummy : Bool} {R : Option Bool → Shared → Prop} (hR : ∀ h', Heap.SameBut a s.heap h' → TxtSet w h' a xs → R (some true) { s with heap := h' }) :
    wpAny (model P w) A (storeSet a es1 t2 >>= fun _ => if (!wasDummy && t2.tooFull) = true then (g (relayAll t2 es1 (SetTable.grown es1.size)).2.2 >>= fun _ =>
      storeSet a (relayAll t2 es1 (SetTable.grown es1.size)).1 (relayAll t2 es1 (SetTable.grown es1.size)).2.1 >>= fun _ => pure (some true)) else pure (some true)) R E s := by
  refine wpAny_bind (wpAny_storeSet_of ho hd ?_ (fits_of_scanBound hb))
  have ho1 := store_at (es' := es1) (t' := t2) ho hd
  have sb := Heap.SameBut.update s.heap a (Obj.putSet es1 t2)
  by_cases full : (!wasDummy && t2.tooFull) = true
  · rw [if_pos full]
    rcases hz : relayAll t2 es1 (SetTable.grown es1.size) with ⟨es2, t3, gave⟩
    have p2 := relayAll_perm t2 es1 (SetTable.grown es1.size)
    have f2 := relayAll_fits t2 es1 (SetTable.grown es1.size)
    have r2 := relayAll_ris t2 es1 (SetTable.grown es1.size)
    have l2 := relayAll_led t2 es1 (SetTable.grown es1.size)
    rw [hz] at p2 f2 r2 l2
    dsimp only at p2 f2 r2 l2 ⊢
    have hsz : es2.size = es1.size := by
      have q := p2.length_eq
      simpa using q
    refine wpAny_bind (hg _ _ _ (wpAny_bind (wpAny_storeSet_of ho1 rfl ?_ (fits_of_scanBound (by rw [hsz]; exact hb)))))
    refine wpAny_pure (hR _ (sb.trans (Heap.SameBut.update _ a _)) ⟨_, es2, _, t3, store_at ho1 rfl, hex, rfl, fun e he => g1 e (p2.mem_iff.mp he), (p2.map txtOf).trans pm, nd, by rw [hsz]; exact hb, f2, r2, ?_⟩)
    rw [l2]; exact hl
  · rw [if_neg full]
    exact wpAny_pure (hR _ sb ⟨_, es1, _, t2, ho1, hex, rfl, g1, pm, nd, hb, hf, hr, hl⟩)

/-- one text more -/
def more1 (xs : List Str) (x : Str) : List Str := if x ∈ xs then xs else xs ++ [x]
theorem txt_add {x : Str} {tk : Tok} {Q : Bool → Shared → Prop} (T : TxtSet w s.heap a xs) (room : xs.length + 1 < scanBound) (hQ : ∀ b h', Heap.SameBut a s.heap h' → TxtSet w h' a (more1 xs x) → Q b { s with heap := h' }) :
    wpAny (model P w) A (setAddHashed a (.str x tk) ((PySem.strKind P w).hash x)) Q E s := by
  obtain ⟨o, es, ep, t, ho, hex, hd, g, pm, nd, hb, hf, hr, hl⟩ := T
  have hel : ElemsOf (PySem.strKind P w) es.toList := txt_elems g
  have hmem : ∀ y, y ∈ xs ↔ ∃ e ∈ es.toList, (PySem.strKind P w).is y e.2 = true := fun y => by
    rw [← pm.mem_iff, List.mem_map]
    exact ⟨fun ⟨e, he, q⟩ => ⟨e, he, (txt_is (g e he) y).mpr q⟩, fun ⟨e, he, q⟩ => ⟨e, he, (txt_is (g e he) y).mp q⟩⟩
  unfold setAddHashed setAddHashedIn
  refine wpAny_holding (wpAny_bind (wpAny_setState_of ho hd hf ?_))
  dsimp only
  rw [byScan_of (show (Value.str x tk).scannable = true from rfl) hb hel]
  simp only [↓reduceIte]
  unfold setAddByScan
  refine wpAny_bind (wpAny_bind (wpAny_rule (wpAny_bind (wpAny_setScan_of (strKind_is P w x tk) ho hd hf hel ?_))))
  cases hfi : List.findIdx? (fun e => (PySem.strKind P w).is x e.2) es.toList with
  | some j =>
    dsimp only
    obtain ⟨hj, pj, _⟩ := List.findIdx?_eq_some_iff_getElem.mp hfi
    have hx : x ∈ xs := (hmem x).mpr ⟨_, List.getElem_mem hj, pj⟩
    refine wpAny_pure (wpAny_pure (hQ _ _ (Heap.SameBut.refl a s.heap) ?_))
    rw [more1, if_pos hx]
    exact ⟨o, es, ep, t, ho, hex, hd, g, pm, nd, hb, hf, hr, hl⟩
  | none =>
    dsimp only
    have hx : x ∉ xs := fun z => by
      obtain ⟨e, he, q⟩ := (hmem x).mp z
      have c := List.findIdx?_eq_none_iff.mp hfi e he
      rw [q] at c
      cases c
    have hm1 : more1 xs x = xs ++ [x] := by rw [more1, if_neg hx]
    rcases hz : layNew t es ((PySem.strKind P w).hash x) (.str x tk) with ⟨es1, t1, wasDummy, gave⟩
    have p1 := layNew_perm t es ((PySem.strKind P w).hash x) (.str x tk)
    have f1 := layNew_fits t es ((PySem.strKind P w).hash x) (.str x tk)
    have r1 := layNew_ris t es ((PySem.strKind P w).hash x) (.str x tk) hr
    have l1 := layNew_led t es ((PySem.strKind P w).hash x) (.str x tk)
    rw [hz] at p1 f1 r1 l1
    dsimp only at p1 f1 r1 l1 ⊢
    rw [Array.toList_push] at p1
    have g1 : ∀ e ∈ es1.toList, IsTxt w e := fun e he => by
      rcases List.mem_append.mp (p1.mem_iff.mp he) with z | z
      · exact g e z
      · rw [List.mem_singleton.mp z]; exact ⟨x, tk, rfl, rfl⟩
    have pm1 : (es1.toList.map txtOf).Perm (more1 xs x) := by
      rw [hm1]
      refine (p1.map txtOf).trans ?_
      rw [List.map_append]
      exact pm.append_right _
    have nd1 : (more1 xs x).Nodup := by
      rw [hm1, List.nodup_append]
      refine ⟨nd, by simp, fun y hy z hz' => ?_⟩
      rw [List.mem_singleton.mp hz']
      exact fun q => hx (q ▸ hy)
    have hsz : es1.size = xs.length + 1 := by
      have q := pm1.length_eq
      rw [hm1] at q
      simpa using q
    have hb1 : es1.size < scanBound := by rw [hsz]; exact room
    have hled : w.params.followText "set-order" = true ∨ t1.led = true := by rw [l1]; exact hl
    have hgo : ∀ (b : Bool) (s₁ : Shared) (Q' : Unit → Shared → Prop), Q' () s₁ → wpAny (model P w) A (match b with | true => rule "set.scan.the-table-gave-way" | false => pure ()) Q' E s₁ := fun b s₁ Q' q => by
      cases b
      · exact wpAny_pure q
      · exact wpAny_rule q
    refine wpAny_bind (hgo _ _ _ ?_)
    by_cases hp : t1.plain = true
    · rw [if_pos hp]
      refine wpAny_bind ?_
      rw [hashByValue_scannable 8 (show (Value.str x tk).scannable = true from rfl)]
      refine wpAny_pure ?_
      rw [show plainKind (Value.str x tk) = false from rfl]
      simp only [Bool.false_eq_true, if_false]
      exact txt_tail hgo ho hex hd g1 pm1 nd1 hb1 (SetTable.fits_plain_off f1) r1 hled fun h' sb T => wpAny_pure (hQ _ h' sb T)
    · rw [if_neg hp]
      refine wpAny_bind (wpAny_pure ?_)
      simp only [if_true]
      exact txt_tail hgo ho hex hd g1 pm1 nd1 hb1 f1 r1 hled fun h' sb T => wpAny_pure (hQ _ h' sb T)
/-- the texts of a list, each once, by their first places -/
def once1 (ys : List Str) : List Str := ys.foldl more1 []
theorem more1_len (xs : List Str) (x : Str) : (more1 xs x).length ≤ xs.length + 1 := by
  unfold more1
  split
  · omega
  · simp
theorem once_len : ∀ (ys acc : List Str), (ys.foldl more1 acc).length ≤ acc.length + ys.length
  | [], acc => by simp
  | y :: ys, acc => by
    rw [List.foldl_cons, List.length_cons]
    have h1 := once_len ys (more1 acc y)
    have h2 := more1_len acc y
    omega
theorem txt_update {I : Addr} {fp wr : List Addr} {G : Array GenState → Array GenState → Prop} {n : Nat} {Pv : Nat → Value → Prop} {St : Nat → Shared → Prop} {R : Result → Shared → Prop}
    (W : WalksS P w A.in1 I fp wr G n Pv St) (S : Addr) (hSf : S ∉ fp) (ys : List Str) (hn : n = ys.length) (hb : ys.length + 1 < scanBound) (hval : ∀ i v, Pv i v → ∃ x t, ys[i]? = some x ∧ v = .str x t) :
    ∀ (k i : Nat) (s : Shared), n - i = k → i ≤ n → St i s → TxtSet w s.heap S (once1 (ys.take i)) →
      (∀ s', Moved (S :: wr) G s s' → TxtSet w s'.heap S (once1 ys) → R (.ok (.ret .none)) s') → codeAny (model P w) A (.builtin "set.update.loop" ⟨[.ref S, .ref I], []⟩) R s := by
  have hSw : S ∉ wr := fun h => hSf (W.sub _ h)
  have up : ∀ b ∈ wr, b ∈ S :: wr := fun b hb => List.mem_cons_of_mem _ hb
  intro k
  induction k with
  | zero =>
    intro i s hk hi hst T hR
    obtain rfl : i = n := by omega
    refine codeAny_builtin F.entry_set_update_loop ?_
    rw [Around.under_plainId F.plain_set_update_loop _]
    show wpAny _ A.in1 (pyNext (.ref I) >>= _) _ _ s
    refine wpAny_bind (W.done s _ _ hst fun s' hm => ?_)
    rw [List.take_of_length_le (by omega)] at T
    exact wpAny_pure (hR s' (hm.mono up) (T.stay fun o e => hm.heap S o hSw e))
  | succ k ih =>
    intro i s hk hi hst T hR
    have hlt : i < n := by omega
    refine codeAny_builtin F.entry_set_update_loop ?_
    rw [Around.under_plainId F.plain_set_update_loop _]
    show wpAny _ A.in1 (pyNext (.ref I) >>= _) _ _ s
    refine wpAny_bind (W.item i s _ _ hlt hst fun v s' hP hst' hm => ?_)
    obtain ⟨x, t, hx, rfl⟩ := hval i v hP
    have T1 := T.stay (h' := s'.heap) fun o e => hm.heap S o hSw e
    show wpAny _ A.in1 (holding [Value.str x t] (setAdd S (.str x t)) >>= _) _ _ s'
    refine wpAny_bind (wpAny_holding ?_)
    unfold setAdd
    refine wpAny_holding (wpAny_bind ((PySem.strKind P w).pyHash (k := x) (strKind_is P w x t) ?_))
    have hl : (once1 (ys.take i)).length ≤ i := by
      have q := once_len (ys.take i) []
      rw [List.length_take] at q
      unfold once1
      simp only [List.length_nil] at q
      omega
    refine txt_add T1 (by omega) fun b h' sb T2 => ?_
    have T3 : TxtSet w h' S (once1 (ys.take (i + 1))) := by
      rw [List.take_add_one, hx]
      unfold once1 at T2 ⊢
      rw [List.foldl_append]
      exact T2
    refine wpAny_pure ⟨plainId_quiet F.plain_set_update_loop _, ih (i + 1) _ (by omega) hlt (W.frame _ s' _ _ hst' (Nat.le_succ _) fun b hb o e => ?_) T3 fun s'' hm' T4 => ?_⟩
    · exact (sb.2 b fun z => hSf (z ▸ hb)).trans e
    · refine hR s'' (Moved.trans W.gtrans ((hm.mono up).then_heap (Nat.le_succ _) fun b o hb e => ?_) hm') T4
      exact (sb.2 b fun z => hb (by rw [z]; exact List.mem_cons_self)).trans e
theorem txt_fresh {h : Heap} (ho : h.get? a = some { cls := .type "set", dict := none, data := .set #[] 0 (.fresh 0 0 (!w.params.followText "set-order")) }) : TxtSet w h a [] :=
  ⟨_, #[], 0, _, ho, ⟨rfl, rfl, rfl⟩, rfl, fun e he => by simp at he, .nil, .nil, by decide, rfl, .nil, by
    cases h : w.params.followText "set-order"
    · exact .inr rfl
    · exact .inl rfl⟩
end
end VL
end
section
set_option linter.all false
set_option maxRecDepth 100000
set_option maxHeartbeats 6400000
namespace VL
open PySem PySem.Spec PyProof.Rows L2
/-! ### set(list of texts), set(tuple of texts): what HandS.SetFor and Rows.SetFrom say of numbers, said of texts -/
section
variable {P : Program} {w : World} {A : Around} {E : Value → Shared → Prop} {s : Shared}
abbrev setObj0 (w : World) : Obj := { cls := .type "set", dict := none, data := .set #[] 0 (.fresh 0 0 (!w.params.followText "set-order")) }

theorem strs_at : ∀ {vs : List Value} {ys : List Str}, StrsAre vs ys → ∀ (i : Nat) (v : Value), vs[i]? = some v → ∃ x t, ys[i]? = some x ∧ v = .str x t
  | _, _, .nil, i, v, h => by simp at h
  | _, _, .cons x t r, 0, v, h => by
    injection h with h
    exact ⟨x, t, rfl, h.symm⟩
  | _, _, .cons x t r, i + 1, v, h => strs_at r i v h

theorem call_set_tupleT {l : Addr} {items : Array Value} (ys : List Str) {Q : Value → Shared → Prop} (hh : A.handled = none) (hl : s.heap.IsTuple l items) (hit : StrsAre items.toList ys) (hb : ys.length + 1 < scanBound)
    (h : ∀ (h' : Heap) (tk : Nat), TxtSet w h' s.heap.objs.size (once1 ys) → (∀ b o, s.heap.get? b = some o → h'.get? b = some o) → Q (.ref s.heap.objs.size) { s with heap := h', toks := tk }) :
    wpAny (model P w) A (call (.type "set") [.ref l]) Q E s := by
  have hisz : items.size = ys.length := by
    have q := StrsAre.length hit
    rw [Array.length_toList] at q
    exact q
  obtain ⟨c, tl, hmro⟩ := F.called_set.mro
  have hmade := F.called_set.made
  have hsub := F.called_set.sub
  refine wpAny_call (codeAny_of_tree ?_)
  show wpAny _ _ (callAny (.type "set") _) _ _ _
  refine wpAny_pure ⟨Code.quiet_builtin _ (by decide +kernel), codeAny_builtin F.entry_type_call ?_⟩
  rw [Around.under_plain (weight_type_call_type "set" [.ref l] []) rfl]
  have h1 := F.called_set.notType
  have h2 := F.called_set.canCreate
  have hct := F.typeCall_set_1 (.ref l)
  repeat (any_goals (first | assumption | wp_step))
  refine codeAny_mono (code_set_led1 (.ref l) (E := E) (Q₁ := fun obj s₁ => obj = .ref s.heap.objs.size ∧ s₁ = { s with heap := s.heap.push (setObj0 w) }) ⟨rfl, rfl⟩) fun r s₁ hr => ?_
  cases r with
  | error e => exact hr
  | ok fl =>
    cases fl with
    | ret obj =>
      obtain ⟨rfl, rfl⟩ := hr
      have hS : (s.heap.push (setObj0 w)).get? s.heap.objs.size = some (setObj0 w) := Heap.get?_push_size _ rfl
      have hT : Shared.TypeIs { s with heap := s.heap.push (setObj0 w) } (.ref s.heap.objs.size) "set" := ⟨_, hS, rfl⟩
      have hli := F.called_set.init.lookup
      have hbi := F.called_set.init.bind (.ref s.heap.objs.size)
      repeat (any_goals (first | assumption | wp_step))
      refine codeAny_mono (codeAny_call_builtin (R := wants (fun r s₂ => r = .none ∧ ∃ h' tk, s₂ = { s with heap := h', toks := tk } ∧ TxtSet w h' s.heap.objs.size (once1 ys) ∧
          (∀ b o, s.heap.get? b = some o → h'.get? b = some o)) E) F.called_set.init.plain F.entry_set_init (check_set_init_1 hT ?_)) fun r₂ s₂ hr₂ => ?_
      · obtain ⟨ol, hol, hcl, nl, hdl⟩ := hl
        obtain ⟨ocls, odict, odata, oslots⟩ := ol
        simp only at hcl hdl
        subst hcl; subst hdl
        have hol' : (s.heap.push (setObj0 w)).get? l = some { cls := .type "tuple", dict := odict, data := .seq items nl, slots := oslots } := Heap.get?_push_of_some _ hol
        have hsls := F.sub_tuple_set
        have hslf := F.sub_tuple_frozenset
        have hne : (Value.type "tuple" == Value.type "dict") = false := by decide
        have hl1 : (s.heap.push (setObj0 w)).IsTuple l items := ⟨_, hol', rfl, nl, rfl⟩
        unfold Builtin.«set.__init__» noKeywords Builtin.Frozenset.updateFrom
        generalize hPI : pyIter = PI
        wp_walk
        subst hPI
        refine wpAny_pyIter_tuple hl1 ?_
        refine wpAny_bind (wpAny_runValue ?_)
        have hlS : l < s.heap.objs.size := Heap.lt_size hol
        have hh3 : A.in1.in1.in1.handled = none := by simp [hh]
        have hneI : l ≠ (s.heap.push (setObj0 w)).objs.size := by
          rw [Heap.size_push]; exact Nat.ne_of_lt (Nat.lt_succ_of_lt hlS)
        have hSf : s.heap.objs.size ∉ [(s.heap.push (setObj0 w)).objs.size, l] := by
          rw [Heap.size_push]; simp only [List.mem_cons, List.mem_singleton, List.not_mem_nil, or_false, not_or]
          exact ⟨Nat.ne_of_lt (Nat.lt_succ_self _), Nat.ne_of_gt hlS⟩
        have hval : ∀ (i : Nat) (v : Value), items[i]? = some v → ∃ x t, ys[i]? = some x ∧ v = .str x t := fun i v hv => strs_at hit i v (by rw [Array.getElem?_toList]; exact hv)
        refine txt_update ((Walks.tuple hh3 _ l hneI items).toS) s.heap.objs.size
          hSf ys hisz hb hval (items.size - 0) 0 _ (by omega) (Nat.zero_le _)
          ⟨⟨_, Heap.get?_push_size _ rfl, rfl, rfl⟩, (hl1.push _)⟩ ?hS0 ?hR
        case hS0 =>
          have hget : ((s.heap.push (setObj0 w)).push { cls := .type "tuple_iterator", data := .fields #[.ref l, .int 0 0] }).get? s.heap.objs.size
              = some (setObj0 w) := Heap.get?_push_of_some _ hS
          exact txt_fresh hget
        case hR =>
          intro s' hm hS'
          obtain ⟨h', g2, d', tk', os'⟩ := s'
          have eg : g2 = s.gens := hm.gens
          have ed : d' = s.drawn := hm.drawn
          have eo : os' = s.os := hm.os
          subst eg; subst ed; subst eo
          show wpAny _ _ _ _ _ _
          refine wpAny_pure ?_
          show wpAny _ _ (ret Value.none) _ _ _
          refine wpAny_pure ⟨rfl, h', tk', rfl, hS', fun b o e => ?_⟩
          have hb0 : b < s.heap.objs.size := Heap.lt_size e
          have hb1 : b ≠ s.heap.objs.size := Nat.ne_of_lt hb0
          have hb2 : b ≠ (s.heap.push (setObj0 w)).objs.size := by
            rw [Heap.size_push]; exact Nat.ne_of_lt (Nat.lt_succ_of_lt hb0)
          exact hm.heap b o (by simp only [List.mem_cons, List.mem_singleton, List.not_mem_nil, or_false, not_or]; exact ⟨hb1, hb2⟩) (Heap.get?_push_of_some _ (Heap.get?_push_of_some _ e))
      · cases r₂ with
        | error e => exact hr₂
        | ok fl₂ =>
          cases fl₂ with
          | ret r =>
            obtain ⟨rfl, h', tk, rfl, hS', hk'⟩ := hr₂
            repeat (any_goals (first | assumption | wp_step))
            exact h _ _ hS' hk'
          | _ => exact hr₂.elim
    | _ => exact hr.elim

theorem call_set_listT {l : Addr} {items : Array Value} (ys : List Str) {Q : Value → Shared → Prop} (hh : A.handled = none) (hl : s.heap.IsList l items) (hit : StrsAre items.toList ys) (hb : ys.length + 1 < scanBound)
    (h : ∀ (h' : Heap) (tk : Nat), TxtSet w h' s.heap.objs.size (once1 ys) → (∀ b o, s.heap.get? b = some o → h'.get? b = some o) → Q (.ref s.heap.objs.size) { s with heap := h', toks := tk }) :
    wpAny (model P w) A (call (.type "set") [.ref l]) Q E s := by
  have hisz : items.size = ys.length := by
    have q := StrsAre.length hit
    rw [Array.length_toList] at q
    exact q
  obtain ⟨c, tl, hmro⟩ := F.called_set.mro
  have hmade := F.called_set.made
  have hsub := F.called_set.sub
  refine wpAny_call (codeAny_of_tree ?_)
  show wpAny _ _ (callAny (.type "set") _) _ _ _
  refine wpAny_pure ⟨Code.quiet_builtin _ (by decide +kernel), codeAny_builtin F.entry_type_call ?_⟩
  rw [Around.under_plain (weight_type_call_type "set" [.ref l] []) rfl]
  have h1 := F.called_set.notType
  have h2 := F.called_set.canCreate
  have hct := F.typeCall_set_1 (.ref l)
  repeat (any_goals (first | assumption | wp_step))
  refine codeAny_mono (code_set_led1 (.ref l) (E := E) (Q₁ := fun obj s₁ => obj = .ref s.heap.objs.size ∧ s₁ = { s with heap := s.heap.push (setObj0 w) }) ⟨rfl, rfl⟩) fun r s₁ hr => ?_
  cases r with
  | error e => exact hr
  | ok fl =>
    cases fl with
    | ret obj =>
      obtain ⟨rfl, rfl⟩ := hr
      have hS : (s.heap.push (setObj0 w)).get? s.heap.objs.size = some (setObj0 w) := Heap.get?_push_size _ rfl
      have hT : Shared.TypeIs { s with heap := s.heap.push (setObj0 w) } (.ref s.heap.objs.size) "set" := ⟨_, hS, rfl⟩
      have hli := F.called_set.init.lookup
      have hbi := F.called_set.init.bind (.ref s.heap.objs.size)
      repeat (any_goals (first | assumption | wp_step))
      refine codeAny_mono (codeAny_call_builtin (R := wants (fun r s₂ => r = .none ∧ ∃ h' tk, s₂ = { s with heap := h', toks := tk } ∧ TxtSet w h' s.heap.objs.size (once1 ys) ∧
          (∀ b o, s.heap.get? b = some o → h'.get? b = some o)) E) F.called_set.init.plain F.entry_set_init (check_set_init_1 hT ?_)) fun r₂ s₂ hr₂ => ?_
      · obtain ⟨ol, hol, hcl, nl, hdl⟩ := hl
        obtain ⟨ocls, odict, odata, oslots⟩ := ol
        simp only at hcl hdl
        subst hcl; subst hdl
        have hol' : (s.heap.push (setObj0 w)).get? l = some { cls := .type "list", dict := odict, data := .seq items nl, slots := oslots } := Heap.get?_push_of_some _ hol
        have hsls := F.sub_list_set
        have hslf := F.sub_list_frozenset
        have hne : (Value.type "list" == Value.type "dict") = false := by decide
        have hl1 : (s.heap.push (setObj0 w)).IsList l items := ⟨_, hol', rfl, nl, rfl⟩
        unfold Builtin.«set.__init__» noKeywords Builtin.Frozenset.updateFrom
        generalize hPI : pyIter = PI
        wp_walk
        subst hPI
        refine wpAny_pyIter_list hl1 ?_
        refine wpAny_bind (wpAny_runValue ?_)
        have hlS : l < s.heap.objs.size := Heap.lt_size hol
        have hh3 : A.in1.in1.in1.handled = none := by simp [hh]
        have hneI : l ≠ (s.heap.push (setObj0 w)).objs.size := by
          rw [Heap.size_push]; exact Nat.ne_of_lt (Nat.lt_succ_of_lt hlS)
        have hSf : s.heap.objs.size ∉ [(s.heap.push (setObj0 w)).objs.size, l] := by
          rw [Heap.size_push]; simp only [List.mem_cons, List.mem_singleton, List.not_mem_nil, or_false, not_or]
          exact ⟨Nat.ne_of_lt (Nat.lt_succ_self _), Nat.ne_of_gt hlS⟩
        have hval : ∀ (i : Nat) (v : Value), items[i]? = some v → ∃ x t, ys[i]? = some x ∧ v = .str x t := fun i v hv => strs_at hit i v (by rw [Array.getElem?_toList]; exact hv)
        refine txt_update ((Walks.list hh3 _ l hneI items).toS) s.heap.objs.size
          hSf ys hisz hb hval (items.size - 0) 0 _ (by omega) (Nat.zero_le _)
          ⟨⟨_, Heap.get?_push_size _ rfl, rfl, rfl⟩, (hl1.push _)⟩ ?hS0 ?hR
        case hS0 =>
          have hget : ((s.heap.push (setObj0 w)).push { cls := .type "list_iterator", data := .fields #[.ref l, .int 0 0] }).get? s.heap.objs.size
              = some (setObj0 w) := Heap.get?_push_of_some _ hS
          exact txt_fresh hget
        case hR =>
          intro s' hm hS'
          obtain ⟨h', g2, d', tk', os'⟩ := s'
          have eg : g2 = s.gens := hm.gens
          have ed : d' = s.drawn := hm.drawn
          have eo : os' = s.os := hm.os
          subst eg; subst ed; subst eo
          show wpAny _ _ _ _ _ _
          refine wpAny_pure ?_
          show wpAny _ _ (ret Value.none) _ _ _
          refine wpAny_pure ⟨rfl, h', tk', rfl, hS', fun b o e => ?_⟩
          have hb0 : b < s.heap.objs.size := Heap.lt_size e
          have hb1 : b ≠ s.heap.objs.size := Nat.ne_of_lt hb0
          have hb2 : b ≠ (s.heap.push (setObj0 w)).objs.size := by
            rw [Heap.size_push]; exact Nat.ne_of_lt (Nat.lt_succ_of_lt hb0)
          exact hm.heap b o (by simp only [List.mem_cons, List.mem_singleton, List.not_mem_nil, or_false, not_or]; exact ⟨hb1, hb2⟩) (Heap.get?_push_of_some _ (Heap.get?_push_of_some _ e))
      · cases r₂ with
        | error e => exact hr₂
        | ok fl₂ =>
          cases fl₂ with
          | ret r =>
            obtain ⟨rfl, h', tk, rfl, hS', hk'⟩ := hr₂
            repeat (any_goals (first | assumption | wp_step))
            exact h _ _ hS' hk'
          | _ => exact hr₂.elim
    | _ => exact hr.elim
end
end VL
end
section
set_option linter.all false
set_option maxRecDepth 100000
set_option maxHeartbeats 800000
namespace VL
open PySem PySem.Spec PyProof.Rows L2
/-! ### the order of texts; sorted texts -/
def tlt (a b : Str) : Bool := ltCps a.cps.toList b.cps.toList
def tLe (a b : Str) : Prop := tlt b a = false
theorem tlt_iff {a b : Str} : tlt a b = true ↔ a.cps.toList < b.cps.toList := by rw [tlt, ltCps_eq, decide_eq_true_eq]
theorem tLe_iff {a b : Str} : tLe a b ↔ a.cps.toList ≤ b.cps.toList := by
  rw [tLe, ← List.not_lt, ← tlt_iff, Bool.not_eq_true]
theorem str_ext {a b : Str} (h : a.cps.toList = b.cps.toList) : a = b := by
  obtain ⟨x⟩ := a
  obtain ⟨y⟩ := b
  obtain ⟨x⟩ := x
  obtain ⟨y⟩ := y
  cases h
  rfl
theorem tLe_antisymm {a b : Str} (h : tLe a b) (k : tLe b a) : a = b := str_ext (List.le_antisymm (tLe_iff.mp h) (tLe_iff.mp k))
theorem tLe_trans {a b c : Str} (h : tLe a b) (k : tLe b c) : tLe a c := tLe_iff.mpr (List.le_trans (tLe_iff.mp h) (tLe_iff.mp k))
theorem tLe_of_lt {a b : Str} (h : tlt a b = true) : tLe a b := by
  rcases List.le_total a.cps.toList b.cps.toList with z | z
  · exact tLe_iff.mpr z
  · exact absurd (tlt_iff.mp h) (List.not_lt.mpr z)
theorem tlt_of_le {a b : Str} (h : tLe a b) (n : a ≠ b) : tlt a b = true := by
  cases q : tlt a b with
  | true => rfl
  | false => exact absurd (tLe_antisymm h q) n
theorem tLe_refl (a : Str) : tLe a a := by
  cases q : tlt a a with
  | false => exact q
  | true => exact tLe_of_lt q
def insS (x : Str) : List Str → List Str
  | [] => [x]
  | y :: r => if tlt y x then y :: insS x r else x :: y :: r
def sortT (ys : List Str) : List Str := ys.foldr insS []
theorem insS_perm (x : Str) : ∀ l : List Str, (insS x l).Perm (x :: l)
  | [] => .refl _
  | y :: r => by
    unfold insS
    split
    · exact ((insS_perm x r).cons y).trans (.swap x y r)
    · exact .refl _
theorem sortT_perm : ∀ l : List Str, (sortT l).Perm l
  | [] => .refl _
  | x :: l => (insS_perm x _).trans ((sortT_perm l).cons x)
theorem insS_sorted (x : Str) : ∀ l : List Str, l.Pairwise tLe → (insS x l).Pairwise tLe
  | [], _ => List.pairwise_singleton ..
  | y :: r, h => by
    obtain ⟨h1, h2⟩ := List.pairwise_cons.mp h
    unfold insS
    split
    · rename_i hlt
      refine List.pairwise_cons.mpr ⟨fun z hz => ?_, insS_sorted x r h2⟩
      rcases List.mem_cons.mp ((insS_perm x r).mem_iff.mp hz) with q | q
      · subst q; exact tLe_of_lt hlt
      · exact h1 z q
    · rename_i hlt
      have hxy : tLe x y := by rw [Bool.not_eq_true] at hlt; exact hlt
      refine List.pairwise_cons.mpr ⟨fun z hz => ?_, h⟩
      rcases List.mem_cons.mp hz with q | q
      · subst q; exact hxy
      · exact tLe_trans hxy (h1 z q)
theorem sortT_sorted : ∀ l : List Str, (sortT l).Pairwise tLe
  | [] => .nil
  | x :: l => insS_sorted x _ (sortT_sorted l)
theorem sort_unique {l m : List Str} (p : l.Perm m) (h : l.Pairwise tLe) (k : m.Pairwise tLe) : l = m := List.Perm.eq_of_pairwise (fun _ _ _ _ h k => tLe_antisymm h k) h k p
theorem risingS_pw : ∀ (p : Str) (l : List Str), risingS p l = true → (p :: l).Pairwise tLe
  | p, [], _ => List.pairwise_singleton ..
  | p, x :: r, h => by
    have h' : (!ltCps x.cps.toList p.cps.toList && risingS x r) = true := h
    rw [Bool.and_eq_true] at h'
    have k := risingS_pw x r h'.2
    have hp : tLe p x := by
      have := h'.1
      rw [Bool.not_eq_true'] at this
      exact this
    refine List.pairwise_cons.mpr ⟨fun z hz => ?_, k⟩
    rcases List.mem_cons.mp hz with q | q
    · subst q; exact hp
    · exact tLe_trans hp ((List.pairwise_cons.mp k).1 z q)
theorem sortedS_pw : ∀ l : List Str, sortedS l = true → l.Pairwise tLe
  | [], _ => .nil
  | x :: r, h => risingS_pw x r h
/-- the texts, each once, rising -/
def usort (ys : List Str) : List Str := sortT (once1 ys)

/-! ### sorted(set(texts)), len(set(texts)) -/
section
variable {P : Program} {w : World} {A : Around} {E : Value → Shared → Prop} {s : Shared} {a : Addr} {xs : List Str}
theorem txt_strs : ∀ {l : List (Int × Value)}, (∀ e ∈ l, IsTxt w e) → StrsAre (l.map (·.2)) (l.map txtOf)
  | [], _ => .nil
  | e :: l, h => by
    obtain ⟨x, t, h1, _⟩ := h e List.mem_cons_self
    rw [List.map_cons, List.map_cons]
    unfold txtOf
    rw [h1]
    exact .cons x t (txt_strs fun u hu => h u (List.mem_cons_of_mem _ hu))
theorem strs_perm {vs us : List Value} (p : us.Perm vs) {ys : List Str} (h : StrsAre vs ys) : StrsAre us (us.map strOf) ∧ (us.map strOf).Perm ys := by
  refine ⟨strsAre_map us fun v hv => h.all v (p.mem_iff.mp hv), ?_⟩
  have q := p.map strOf
  rwa [h.strs] at q
theorem call_sorted_txt {Q : Value → Shared → Prop} (T : TxtSet w s.heap a xs) (hh : A.handled = none)
    (hQ : ∀ s' p (out : Array Value) (c : Nat), (∀ b o, s.heap.get? b = some o → s'.heap.get? b = some o) → s'.gens = s.gens → s'.os = s.os → s.heap.objs.size ≤ p →
      s'.heap.get? p = some (seqObj "list" out c) → StrsAre out.toList (sortT xs) → Q (.ref p) s') :
    wpAny (model P w) A (call (.builtin "sorted") [.ref a]) Q E s := by
  obtain ⟨o, es, ep, t, ho, hex, hd, g, pm0, nd, hb, hf, hr, hl⟩ := T
  have hn : es.size = xs.length := by
    have q := pm0.length_eq
    simpa using q
  refine Calls.call_function_entry kind_sorted plain_sorted entry_sorted (args_sorted1 _) ?_
  unfold Builtin.«sorted»
  refine wpAny_bind (m := checkCount "sorted" 1 1 _) (wpAny_pure ?_)
  refine wpAny_bind (collect_set (A := A.in1) hh ⟨o, ho, hex.1, hd⟩ hf hb hr hl fun s1 vs k1 hz g1 o1 pm => ?_)
  have hvl : vs.length = es.size := by rw [pm.length_eq, List.length_map, Array.length_toList]
  have hz2 : vs.length ≤ sizeLine := by rw [hvl]; exact fits_of_scanBound hb
  obtain ⟨hS, hp1⟩ := strs_perm pm (txt_strs g)
  refine wpAny_bind (wpAny_newList ?_ (by rw [hvl, sizeLine_eq]; unfold scanBound at hb; omega))
  have hoL : (s1.heap.push (seqObj "list" vs.toArray 0)).get? s1.heap.objs.size = some (seqObj "list" vs.toArray 0) := Heap.get?_push_size _ rfl
  refine wpAny_bind (wpAny_holding (wpAny_call_entry slot_list_sort ⟨_, hoL, rfl⟩ entry_list_sort (list_sort_treeKAny strKind_oneLt hoL hS.keysOf (fun v₁ v₂ rest e => keyKind_strs (by rw [← e]; exact hS)) hz2 fun st' hp hs => ⟨_, rfl, ?_⟩) (args_list_sort _)))
  obtain ⟨ss', h1, h2, h3⟩ := sorted_out_str hS hp hs
  obtain ⟨c, hc⟩ := sortedHeap_at (vs := vs) (out := (arrOf st').map (·.2)) hoL
  have e : ss' = sortT xs := sort_unique (h2.trans (hp1.trans (pm0.trans (sortT_perm xs).symm))) (sortedS_pw _ h3) (sortT_sorted _)
  rw [e] at h1
  refine wpAny_pure ⟨_, rfl, hQ _ s1.heap.objs.size ((arrOf st').map (·.2)) c (fun b u e => ?_) g1 o1 hz hc h1⟩
  have q := k1 b u e
  have hlt := Heap.lt_size q
  show (sortedHeap (s1.heap.push (seqObj "list" vs.toArray 0)) s1.heap.objs.size vs ((arrOf st').map (·.2))).get? b = some u
  rw [sortedHeap_old (Nat.ne_of_lt hlt) (by rw [size_push']; exact Nat.lt_succ_of_lt hlt)]
  exact Heap.get?_push_of_some _ q
theorem call_len_txt {Q : Value → Shared → Prop} (T : TxtSet w s.heap a xs) (h : Q (.int xs.length (s.toks + 1)) { s with toks := s.toks + 1 + 1 }) :
    wpAny (model P w) A (call (.builtin "len") [.ref a]) Q E s := by
  obtain ⟨o, es, ep, t, ho, hex, hd, g, pm0, nd, hb, hf, hr, hl⟩ := T
  have hn : es.size = xs.length := by
    have q := pm0.length_eq
    simpa using q
  rw [← hn] at h
  refine call_len_set ho hex hd hf ?_ h
  unfold scanBound at hb
  omega
end
section
variable {X : Cx} {a : Expr} {ta : TE} {p p2 q pos : Pos}
def tSetT (K : PySem.W.Frag) (ta : TE) (k : List Str → Hp → VK → Prop) : TE := fun σ H Q => ta σ H fun x H1 => ∃ l, ∃ ys : List Str, x = .ref l ∧ (SqL K H1 l (ys.map V.str) ∨ SqT K H1 l (ys.map V.str)) ∧ ys.length ≤ 1000 ∧ k ys H1 Q
theorem pe_sortSet (hc : X.calm = true) (hg : Gl X "sorted") (hm : X.mg "sorted" = none) (hg2 : Gl X "set") (hm2 : X.mg "set" = none) (ha : PE X a ta)
    (na : starEach [a] X.env = (false, eval a X.env) :: starEach [] X.env := by rfl) : PE X (.Call (.Name "sorted" p) [.Call (.Name "set" p2) [a] [] q] [] pos) (tSetT X.K ta fun ys H1 Q => ∀ p, H1 p = none → Q (.ref p) (upd H1 p (.lst ((usort ys).map V.str)))) := by
  refine ⟨fun pins s σ H Q I h => ?_⟩
  refine Call_ (ld_blt I hg hm boot_sorted ?_)
  refine PyProof.Rows.callWith_builtin1 (PyProof.Rows.args_cons ?_ rfl) rfl rfl
  refine Call_ (ld_blt I hg2 hm2 PyProof.Rows.boot_set ?_)
  refine PyProof.Rows.callWith_type1 (PyProof.Rows.args_cons (thn (ha.run pins s σ H _ I h) fun v s1 ⟨x, H1, I1, r1, q1⟩ => PyProof.Rows.args_nil ?_) na) na rfl
  obtain ⟨l, ys, rfl, hq, h1, q1⟩ := q1
  cases r1
  have hsl : ((usort ys).map V.str).length ≤ sizeLine := by
    have e1 := (sortT_perm (once1 ys)).length_eq
    have e2 := once_len ys []
    rw [List.length_map, sizeLine_eq]
    unfold usort
    rw [e1]
    unfold once1
    simp only [List.length_nil] at e2
    omega
  have fin : ∀ (h' : Heap) (tk : Nat), TxtSet X.w h' s1.heap.objs.size (once1 ys) → (∀ b o, s1.heap.get? b = some o → h'.get? b = some o) →
      wpAny (model X.prog X.w) X.A (spliced (backTo pos (starEach [] X.env))) (fun vs s₂ => wpAny (model X.prog X.w) X.A (call (.builtin "sorted") (Value.ref s1.heap.objs.size :: vs)) (EP X pins σ Q) X.xe s₂) X.xe { s1 with heap := h', toks := tk } := fun h' tk T hk => by
    refine PyProof.Rows.args_nil ?_
    refine call_sorted_txt (s := { s1 with heap := h', toks := tk }) T (I1.ok.hd hc) fun s2 b out c k2 g2 o2 hz hb hS => ?_
    have kall : ∀ b u, s1.heap.get? b = some u → s2.heap.get? b = some u := fun b u e => k2 b u (hk b u e)
    have hlt : s1.heap.objs.size ≤ b := by
      obtain ⟨o, es, ep, t, ho, _⟩ := T
      exact Nat.le_trans (Nat.le_of_lt (Heap.lt_size ho)) hz
    have hfr := I1.hok.fresh hlt
    have I2 : Inv X pins σ (upd H1 b (.lst ((usort ys).map V.str))) s2 :=
      I1.call' (ch := []) o2 (Un.laid kall hlt hfr) (I1.hok.laid kall hlt ⟨hsl, out.toList, c, vals_of_strs hS, hb⟩) (by rw [g2]; exact I1.bare) (fun _ z => nomatch z)
    exact ⟨.ref b, _, I2, rfl, q1 b hfr⟩
  rcases hq with hq | hq
  · obtain ⟨its, r, pl, hz⟩ := I1.list hq
    exact call_set_listT ys (I1.ok.hd hc) pl.isList (by simpa using r.strs) (by unfold scanBound; omega) fun h' tk T hk => fin h' tk T hk
  · obtain ⟨its, r, pl, hz⟩ := I1.tuple hq
    exact call_set_tupleT ys (I1.ok.hd hc) pl (by simpa using r.strs) (by unfold scanBound; omega) fun h' tk T hk => fin h' tk T hk
theorem pe_lenSetT (hc : X.calm = true) (hg : Gl X "len") (hm : X.mg "len" = none) (hg2 : Gl X "set") (hm2 : X.mg "set" = none) (ha : PE X a ta)
    (na : starEach [a] X.env = (false, eval a X.env) :: starEach [] X.env := by rfl) : PE X (.Call (.Name "len" p) [.Call (.Name "set" p2) [a] [] q] [] pos) (tSetT X.K ta fun ys H1 Q => Q (.int (once1 ys).length) H1) := by
  refine ⟨fun pins s σ H Q I h => ?_⟩
  refine Call_ (ld_blt I hg hm boot_len ?_)
  refine PyProof.Rows.callWith_builtin1 (PyProof.Rows.args_cons ?_ rfl) rfl rfl
  refine Call_ (ld_blt I hg2 hm2 PyProof.Rows.boot_set ?_)
  refine PyProof.Rows.callWith_type1 (PyProof.Rows.args_cons (thn (ha.run pins s σ H _ I h) fun v s1 ⟨x, H1, I1, r1, q1⟩ => PyProof.Rows.args_nil ?_) na) na rfl
  obtain ⟨l, ys, rfl, hq, h1, q1⟩ := q1
  cases r1
  have fin : ∀ (h' : Heap) (tk : Nat), TxtSet X.w h' s1.heap.objs.size (once1 ys) → (∀ b o, s1.heap.get? b = some o → h'.get? b = some o) →
      wpAny (model X.prog X.w) X.A (spliced (backTo pos (starEach [] X.env))) (fun vs s₂ => wpAny (model X.prog X.w) X.A (call (.builtin "len") (Value.ref s1.heap.objs.size :: vs)) (EP X pins σ Q) X.xe s₂) X.xe { s1 with heap := h', toks := tk } := fun h' tk T hk => by
    refine PyProof.Rows.args_nil ?_
    have I2 : Inv X pins σ H1 { s1 with heap := h', toks := tk } := I1.kept hk
    refine call_len_txt (s := { s1 with heap := h', toks := tk }) T ⟨.int (once1 ys).length, H1, I2.tok _, ⟨_, rfl⟩, q1⟩
  rcases hq with hq | hq
  · obtain ⟨its, r, pl, hz⟩ := I1.list hq
    exact call_set_listT ys (I1.ok.hd hc) pl.isList (by simpa using r.strs) (by unfold scanBound; omega) fun h' tk T hk => fin h' tk T hk
  · obtain ⟨its, r, pl, hz⟩ := I1.tuple hq
    exact call_set_tupleT ys (I1.ok.hd hc) pl (by simpa using r.strs) (by unfold scanBound; omega) fun h' tk T hk => fin h' tk T hk
end
/-! #### on data -/
def txts : List D → Option (List Str)
  | [] => some []
  | .str b :: r => (txts r).map (b :: ·)
  | _ => none
theorem txts_of {H : Hp} {O : Ow} : ∀ {ds : List D} {vs : List V} {bs : List Str}, Rs H O ds vs → txts ds = some bs → vs = bs.map V.str
  | _, _, _, .nil, e => by cases e; rfl
  | _, _, _, .cons (d := d) r t, e => by
    cases d <;> simp only [txts] at e <;> first | cases e | skip
    simp only [Option.map_eq_some_iff] at e
    obtain ⟨bs', e', rfl⟩ := e
    cases r
    rw [txts_of t e']; rfl
theorem txts_len : ∀ {ds : List D} {bs : List Str}, txts ds = some bs → bs.length = ds.length
  | [], _, e => by cases e; rfl
  | d :: ds, _, e => by
    cases d <;> simp only [txts] at e <;> first | cases e | skip
    simp only [Option.map_eq_some_iff] at e
    obtain ⟨bs', e', rfl⟩ := e
    rw [List.length_cons, List.length_cons, txts_len e']
theorem rs_strs {H : Hp} {O : Ow} : ∀ ys : List Str, Rs H O (ys.map D.str) (ys.map V.str)
  | [] => .nil
  | y :: ys => .cons (.str y) (rs_strs ys)
def setTx (d : D) : Option (List Str) := match d with
  | .lst ds => txts ds
  | .tup ds => txts ds
  | _ => none
def dSortSet (d : D) : Res (Md × D) := match setTx d with
  | some ys => if ys.length ≤ 1000 then .ok (.own, .lst ((usort ys).map D.str)) else .bad
  | none => .bad
def dLenSetT (d : D) : Res D := match setTx d with
  | some ys => if ys.length ≤ 1000 then .ok (.int (once1 ys).length) else .bad
  | none => .bad
theorem setTx_of {K : PySem.W.Frag} {H : Hp} {O : Ow} {d : D} {v : V} {ys : List Str} (r : RB H O d v) (e : setTx d = some ys) : ∃ l, v = .ref l ∧ (SqL K H l (ys.map V.str) ∨ SqT K H l (ys.map V.str)) := by
  cases d <;> simp only [setTx] at e <;> first | cases e | skip
  · obtain ⟨q, vs, rfl, e1, n1, z1, r1⟩ := r.tuple
    rw [txts_of r1 e] at e1
    exact ⟨q, rfl, .inr (.inl (.inl e1))⟩
  · obtain ⟨q, vs, rfl, e1, z1, r1⟩ := r.list
    rw [txts_of r1 e] at e1
    exact ⟨q, rfl, .inl (.inl e1)⟩
section
variable {X : Cx} {W : WE2} {a : Expr} {fa : FB} {p p2 q pos : Pos}
theorem ve_sortSet (hc : X.calm = true) (hg : Gl X "sorted") (hm : X.mg "sorted" = none) (hg2 : Gl X "set") (hm2 : X.mg "set" = none) (ha : VB X W a fa)
    (na : starEach [a] X.env = (false, eval a X.env) :: starEach [] X.env := by rfl) : VE X W (.Call (.Name "sorted" p) [.Call (.Name "set" p2) [a] [] q] [] pos) (e1 dSortSet fa) :=
  PE.weak (pe_sortSet hc hg hm hg2 hm2 ha na) fun σ H Q ⟨O, ρ, re, p⟩ => ⟨O, ρ, re, PostG.bind (Rel := RBr O) (Rel' := RV O) (x := fa ρ) RV.pre p fun a x H1 _ s1 ra p1 => by
    simp only [dSortSet] at p1
    split at p1
    · rename_i ys e
      split at p1
      · rename_i hz
        obtain ⟨l, rfl, hs⟩ := setTx_of (K := X.K) ra e
        refine ⟨l, ys, rfl, hs, hz, fun q hq => p1 _ _ (same_upd hq) (rv_newL hq ?_ (rs_strs _))⟩
        have e1 := (sortT_perm (once1 ys)).length_eq
        have e2 := once_len ys []
        rw [List.length_map, sizeLine_eq]
        unfold usort
        rw [e1]
        unfold once1
        simp only [List.length_nil] at e2
        omega
      · exact False.elim p1
    · exact False.elim p1⟩
theorem vr_lenSet (hc : X.calm = true) (hg : Gl X "len") (hm : X.mg "len" = none) (hg2 : Gl X "set") (hm2 : X.mg "set" = none) (ha : VB X W a fa)
    (na : starEach [a] X.env = (false, eval a X.env) :: starEach [] X.env := by rfl) : VR X W (.Call (.Name "len" p) [.Call (.Name "set" p2) [a] [] q] [] pos) (e1 dLenSetT fa) :=
  PE.weak (pe_lenSetT hc hg hm hg2 hm2 ha na) fun σ H Q ⟨O, ρ, re, p⟩ => ⟨O, ρ, re, PostG.bind (Rel := RBr O) (Rel' := RRr O) (x := fa ρ) RRr.pre p fun a x H1 _ s1 ra p1 => by
    simp only [dLenSetT] at p1
    split at p1
    · rename_i ys e
      split at p1
      · rename_i hz
        obtain ⟨l, rfl, hs⟩ := setTx_of (K := X.K) ra e
        exact ⟨l, ys, rfl, hs, hz, p1 _ H1 same_refl (.int _)⟩
      · exact False.elim p1
    · exact False.elim p1⟩
end
end VL
end
section
set_option linter.all false
set_option maxRecDepth 100000
set_option maxHeartbeats 2000000
namespace VL
open PySem PySem.Spec PyProof.Rows L2
section
variable {X : Cx} {O0 : Ow} {W : WE2} {st : Stmt} {i : Nat}
/-- name = [..] on one line: stored within the comprehension -/
theorem asg_lc {vs L : List Nat} {fi : FL} {g : FG} {t : FT} {fe : FB} (h : PS X st (tAsg (tLc (tI RE none W fi) (tG L g) (tT W0 t) (tR W0 fe) vs) (gName i))) (hL : ∀ i ∈ L, i ∈ vs) : PS X st (tAsg (tV W (eComp fi g t fe vs)) (gName i)) :=
  PS.weak h fun D σ H q => lc_read hL q
theorem rd_e {f : FV} {σ : St} {H : Hp} {Q : VK} (q : tR W (sE f) σ H Q) : tV W f σ H Q := by
  obtain ⟨O, ρ, r, p⟩ := q
  exact ⟨O, ρ, r, PostG.conv (g := fun d : Md × D => d.2) p fun d v H' s hr => RV.r r.trk hr⟩
theorem asg_e {f : FV} (h : PS X st (tAsg (tV W f) (gName i))) : PS X st (tAsg (tR W (sE f)) (gName i)) := PS.weak h fun D σ H q => rd_e q
end
theorem fn_badk {P : Program} {w : World} {K : PySem.W.Frag} {mg : Str → Option Value} {base : Heap} {cl : Cl} {f : Addr} {fd : FuncData} {ps : List Str} {k : Nat} : FnOk P w K mg base (L2.CX P w) k f fd ps (spF cl ps.length (fun _ => .bad)) := by
  have no : ∀ vs H Q E, ¬ spF cl ps.length (fun _ => .bad) vs H Q E := fun vs H Q E ⟨O, ds, _, _, _, p⟩ => p
  exact ⟨fun vs H Q E h => absurd h (no vs H Q E), fun A outer s H args us vs Q E _ _ _ _ h => absurd h (no vs H Q E)⟩
theorem hu64 {A : Around} {k : Nat} (hr : Room k A) : A.units + 64 < cLine := hr.units
theorem hu65 {A : Around} {k : Nat} (hr : Room k A) : A.units + 65 < cLine := by have := hr.un; omega
theorem re_id : ∀ (H : Hp) (O : Ow) (σ : St) (ρ : Rho), RE H O σ ρ → RE H O σ ρ := fun _ _ _ _ h => h
theorem si_re {H0 : Hp} {O0 : Ow} : ∀ (H : Hp) (O : Ow) (σ : St) (ρ : Rho), SI H0 O0 H O σ ρ → RE H O σ ρ := fun _ _ _ _ h => h.re
end VL
namespace VL
open PySem PySem.Spec PyProof.Rows L2
/-- no list stands in the written part -/
def noLst (K : PySem.W.Frag) : Bool := K.all fun p => !(p.2.cls == Value.type "list")
theorem lookup_mem {α : Type} {β : Type} [BEq α] [LawfulBEq α] : ∀ {l : List (α × β)} {a : α} {b : β}, l.lookup a = some b → (a, b) ∈ l
  | [], _, _, h => by cases h
  | (x, y) :: l, a, b, h => by
    rw [List.lookup_cons] at h
    split at h
    · rename_i e
      cases h
      rw [eq_of_beq e]
      exact List.mem_cons_self
    · exact List.mem_cons_of_mem _ (lookup_mem h)
theorem noLst_rd {K : PySem.W.Frag} {H : Hp} {a : Addr} {xs : List V} (n : noLst K = true) (h : SqL K H a xs) : Rd H a (.lst xs) := by
  rcases h with h | ⟨o, its, m, hk, hc, _⟩
  · exact h
  · have q := List.all_eq_true.mp n _ (lookup_mem hk)
    rw [hc] at q
    exact absurd q (by decide)
def spLaw (K : PySem.W.Frag) : Sp := fun vs H Q _ => ∃ (a : Addr) (ns : List Int), vs = [.ref a] ∧ SqL K H a (ns.map V.int) ∧ ns.length ≤ 63 ∧ ∀ H', Q (.bl true) H'
theorem rs_ints {H : Hp} {O : Ow} : ∀ ns : List Int, Rs H O (ns.map D.int) (ns.map V.int)
  | [] => .nil
  | n :: ns => .cons (.int n) (rs_ints ns)
theorem law_end {P : Program} {w : World} {K : PySem.W.Frag} {mg : Str → Option Value} {base : Heap} {cl : Cl} {k : Nat} {f : Addr} {fd : FuncData} {x : Str} {F : Fn} (nl : noLst K = true) (h : FnOk P w K mg base (L2.CX P w) k f fd [x] (spF cl 1 F))
    (t : ∀ ns : List Int, ns.length ≤ 63 → F [(.val, .lst (ns.map .int))] = .ok (.val, .bl true)) : FnOk P w K mg base (L2.CX P w) k f fd [x] (spLaw K) := h.imp fun vs H Q E ⟨a, ns, e, hS, hl, q⟩ => by
  subst e
  refine ⟨fun _ => False, [(.val, .lst (ns.map .int))], rfl, fun _ z => z.elim, .cons (fun z => nomatch z) ?_ .nil, ?_⟩
  · exact .lst (noLst_rd nl hS) (fun z => z) (by rw [List.length_map, sizeLine_eq]; omega) (rs_ints ns)
  · rw [t ns hl]
    intro v H' s r
    cases r
    exact q H'
theorem cx_none {P : Program} {w : World} {H : Hp} {s : Shared} {e : Value} {s' : Shared} (h : L2.CX P w [] H s (fun _ _ _ => False) e s') : False := by
  obtain ⟨_, _, _, _, _, _, _, _, _, _, _, _, z⟩ := h
  exact z
end VL
end
section
set_option linter.all false
set_option maxRecDepth 100000
namespace VF
open PySem PySem.Spec PyProof.Rows L2 VL
/-! the defs' combinators, printed by gen.py -/
def b_is_name_c1 : FB :=
    e2 dIn (vrB 1) (cst (.str "abcdefghijklmnopqrstuvwxyz"))
def b_is_name : FS :=
    sRet (vOf (vAnd2 (e1 dIsStr (vrB 0)) (vAnd2 (e3 dLe dLe (cst (.int 1)) (e1 dLen (vrB 0)) (cst (.int 6))) (e1 dAll (sE (eComp (iSeq (vrB 0)) (gN 1) tYes2 b_is_name_c1 [1]))))))
def f_is_name : Fn := runB 2 b_is_name
def b_is_part (F_is_house_of : Fn) : FS :=
    sRet (vOf (vOr2 (sE (eCall 1 f_is_name (aCons (vrA 0) aNil))) (sE (eCall 2 F_is_house_of (aCons (vrA 0) (aCons (vrA 1) aNil))))))
def b_is_house_of_c1 (F_is_part : Fn) : FB :=
    sE (eCall 1 f_is_name (aCons (vrA 4) aNil))
def b_is_house_of_c2 (F_is_part : Fn) : FB :=
    sE (eCall 2 F_is_part (aCons (vrA 5) (aCons (vOf (e2 dSub (vrB 1) (cst (.int 1)))) aNil)))
def b_is_house_of (F_is_part : Fn) : FS :=
    sSeq (sIf (tOr2 (asT (e2 dEq (vrB 1) (cst (.int 0)))) (tOr2 (tNot2 (asT (e1 dIsTup (vrB 0)))) (asT (e2 dNe (e1 dLen (vrB 0)) (cst (.int 2)))))) (sRet (vOf (cst (.bl false)))) sNil)
    (sSeq (sAsg (vrV 0) (gT 2 (gCons' (gN 2) (gCons' (gN 3) gNil'))))
    (sSeq (sIf (tOr2 (tNot2 (asT (e1 dIsTup (vrB 2)))) (tOr2 (asT (e2 dGt (e1 dLen (vrB 2)) (cst (.int 4)))) (tNot2 (asT (e1 dAll (sE (eComp (iSeq (vrB 2)) (gN 4) tYes2 (b_is_house_of_c1 F_is_part) [4]))))))) (sRet (vOf (cst (.bl false)))) sNil)
    (sSeq (sIf (asT (e2 dNe (sE (e1 dList (vrB 2))) (sE (e1 dSortSet (vrB 2))))) (sRet (vOf (cst (.bl false)))) sNil)
    (sSeq (sIf (tOr2 (tNot2 (asT (e1 dIsTup (vrB 3)))) (asT (e2 dGt (e1 dLen (vrB 3)) (cst (.int 6))))) (sRet (vOf (cst (.bl false)))) sNil)
    (sRet (vOf (e1 dAll (sE (eComp (iSeq (vrB 3)) (gN 5) tYes2 (b_is_house_of_c2 F_is_part) [5])))))))))
mutual
def f_is_part : Nat → Fn
  | 0 => fun _ => .bad
  | n + 1 => runB 2 (b_is_part (f_is_house_of n))
def f_is_house_of : Nat → Fn
  | 0 => fun _ => .bad
  | n + 1 => runB 6 (b_is_house_of (f_is_part n))
end
def b_is_house : FS :=
    sRet (eCall 2 (f_is_house_of 24) (aCons (vrA 0) (aCons (vOf (cst (.int 8))) aNil)))
def f_is_house : Fn := runB 1 b_is_house
def b_law_cell : FS :=
    sSeq (sIf (asT (e2 dLt (vrB 1) (e1 dLen (vrB 0)))) (sRet (vOf (e2 dIx (vrB 0) (vrB 1)))) sNil)
    (sSeq (sIf (asT (e2 dEq (vrB 0) (sE (eLst lNil)))) (sRet (vOf (cst (.int 0)))) sNil)
    (sRet (e2 dAdd (sE (e2 dMul (e2 dIx (vrB 0) (e2 dMod (vrB 1) (e1 dLen (vrB 0)))) (cst (.int 31)))) (vrB 1))))
def f_law_cell : Fn := runB 2 b_law_cell
def b_law_pick : FS :=
    sSeq (sSet 3 (e2 dMod (sE (e2 dMul (sE (e2 dAdd (sE (eCall 2 f_law_cell (aCons (vrA 0) (aCons (vrA 1) aNil)))) (sE (e2 dMul (cst (.int 6151)) (sE (e2 dAdd (vrB 1) (cst (.int 1)))))))) (cst (.int 40692)))) (cst (.int 2147483399))))
    (sRet (vOf (e2 dMod (e2 dMod (sE (e2 dAdd (sE (e2 dMul (vrB 3) (vrB 3))) (e2 dFdiv (vrB 3) (cst (.int 31))))) (cst (.int 2147483629))) (vrB 2))))
def f_law_pick : Fn := runB 4 b_law_pick
def b_law_house_c1 (F_law_house : Fn) : FB :=
    e2 dIx (vrB 3) (sE (eCall 3 f_law_pick (aCons (vrA 0) (aCons (vOf (sE (e2 dAdd (sE (e2 dAdd (vrB 1) (cst (.int 1)))) (vrB 6)))) (aCons (vOf (cst (.int 6))) aNil)))))
def b_law_house_l1 (F_law_house : Fn) : FS :=
    sIf (tAnd2 (asT (e2 dGt (vrB 2) (cst (.int 1)))) (asT (e2 dLt (sE (eCall 3 f_law_pick (aCons (vrA 0) (aCons (vOf (sE (e2 dAdd (sE (e2 dAdd (vrB 1) (cst (.int 6)))) (vrB 6)))) (aCons (vOf (cst (.int 5))) aNil))))) (cst (.int 2))))) (sApp 5 (sE (eCall 3 F_law_house (aCons (vrA 0) (aCons (vOf (sE (e2 dAdd (sE (e2 dAdd (sE (e2 dAdd (vrB 1) (cst (.int 20)))) (sE (e2 dMul (cst (.int 70)) (vrB 6))))) (sE (e2 dMul (cst (.int 11)) (vrB 2)))))) (aCons (vOf (e2 dSub (vrB 2) (cst (.int 1)))) aNil)))))) (sApp 5 (e2 dIx (vrB 3) (sE (eCall 3 f_law_pick (aCons (vrA 0) (aCons (vOf (sE (e2 dAdd (sE (e2 dAdd (vrB 1) (cst (.int 10)))) (vrB 6)))) (aCons (vOf (cst (.int 7))) aNil)))))))
def b_law_house (F_law_house : Fn) : FS :=
    sSeq (sSet 3 (sE (eLst (lCons (cst (.str "a")) (lCons (cst (.str "b")) (lCons (cst (.str "c")) (lCons (cst (.str "ab")) (lCons (cst (.str "zz")) (lCons (cst (.str "q")) (lCons (cst (.str "longer")) lNil))))))))))
    (sSeq (sSet 4 (sE (eComp (iRange (sE (eCall 3 f_law_pick (aCons (vrA 0) (aCons (vrA 1) (aCons (vOf (cst (.int 4))) aNil)))))) (gN 6) tYes2 (b_law_house_c1 F_law_house) [6])))
    (sSeq (sSetO 5 (eLst lNil))
    (sSeq (sFor (iRange (sE (eCall 3 f_law_pick (aCons (vrA 0) (aCons (vOf (sE (e2 dAdd (vrB 1) (cst (.int 5))))) (aCons (vOf (cst (.int 4))) aNil)))))) (gN 6) (b_law_house_l1 F_law_house))
    (sRet (vOf (eTup (lCons (e1 dTup (sE (e1 dSortSet (vrB 4)))) (lCons (e1 dTup (vrB 5)) lNil))))))))
def f_law_house : Nat → Fn
  | 0 => fun _ => .bad
  | n + 1 => runB 7 (b_law_house (f_law_house n))
def b_law_bad_house : FS :=
    sSeq (sAsg (vrV 0) (gT 2 (gCons' (gN 2) (gCons' (gN 3) gNil'))))
    (sSeq (sSetO 4 (eLst (lCons (sE (e1 dList (vrB 0))) (lCons (eTup (lCons (vrV 2) lNil)) (lCons (eTup (lCons (vrV 2) (lCons (vrV 3) (lCons (eTup lNil) lNil)))) (lCons (eTup (lCons (sE (e1 dList (vrB 2))) (lCons (vrV 3) lNil))) (lCons (eTup (lCons (vrV 2) (lCons (sE (e1 dList (vrB 3))) lNil))) (lCons (eTup (lCons (cst .non) (lCons (vrV 3) lNil))) (lCons (cst .non) lNil)))))))))
    (sSeq (sExt 4 (sE (eLst (lCons (eTup (lCons (vrV 2) (lCons (cst .non) lNil))) (lCons (eTup (lCons (sE (e2 dAdd (vrB 2) (eTup (lCons (cst (.str "A")) lNil)))) (lCons (vrV 3) lNil))) (lCons (eTup (lCons (sE (e2 dAdd (eTup (lCons (cst (.str "")) lNil)) (vrB 2))) (lCons (vrV 3) lNil))) (lCons (eTup (lCons (sE (e2 dAdd (vrB 2) (eTup (lCons (cst (.str "abcdefg")) lNil)))) (lCons (vrV 3) lNil))) (lCons (cst (.int 0)) (lCons (eTup lNil) lNil)))))))))
    (sSeq (sExt 4 (sE (eLst (lCons (eTup (lCons (eTup (lCons (cst (.str "a")) (lCons (cst (.str "a")) lNil))) (lCons (vrV 3) lNil))) (lCons (eTup (lCons (eTup (lCons (cst (.str "b")) (lCons (cst (.str "a")) lNil))) (lCons (vrV 3) lNil))) (lCons (eTup (lCons (sE (e2 dAdd (vrB 2) (eTup (lCons (cst .non) lNil)))) (lCons (vrV 3) lNil))) (lCons (eTup (lCons (sE (e2 dAdd (vrB 2) (eTup (lCons (cst (.int 1)) lNil)))) (lCons (vrV 3) lNil))) (lCons (cst (.bl true)) lNil))))))))
    (sSeq (sExt 4 (sE (eLst (lCons (eTup (lCons (vrV 2) (lCons (sE (e2 dAdd (vrB 3) (eTup (lCons (cst (.str "A")) lNil)))) lNil))) (lCons (eTup (lCons (vrV 2) (lCons (sE (e2 dAdd (vrB 3) (eTup (lCons (cst (.str "")) lNil)))) lNil))) (lCons (eTup (lCons (vrV 2) (lCons (sE (e2 dAdd (eTup (lCons (cst .non) lNil)) (vrB 3))) lNil))) (lCons (eTup (lCons (vrV 2) (lCons (sE (e2 dAdd (vrB 3) (eTup (lCons (cst (.int 0)) lNil)))) lNil))) lNil)))))))
    (sSeq (sExt 4 (sE (eLst (lCons (eTup (lCons (vrV 2) (lCons (sE (e2 dAdd (vrB 3) (eTup (lCons (eTup lNil) lNil)))) lNil))) (lCons (eTup (lCons (vrV 2) (lCons (sE (e2 dAdd (vrB 3) (eTup (lCons (cst (.str "abcdefg")) lNil)))) lNil))) (lCons (eTup (lCons (vrV 2) (lCons (sE (e2 dAdd (vrB 3) (eTup (lCons (eTup (lCons (cst (.str "a")) lNil)) lNil)))) lNil))) (lCons (cst (.str "a1")) (lCons (sE (eLst (lCons (vrV 2) lNil))) lNil))))))))
    (sRet (vOf (e2 dIx (vrB 4) (e2 dMod (vrB 1) (cst (.int 27)))))))))))
def f_law_bad_house : Fn := runB 5 b_law_bad_house
def b_law_with_c1 (F_law_with : Fn) : FB :=
    vrV 5
def b_law_with (F_law_with : Fn) : FS :=
    sSeq (sSet 4 (sE (eComp (iEnum (e2 dIx (vrB 0) (cst (.int 1)))) (gT 2 (gCons' (gN 5) (gCons' (gN 6) gNil'))) (tNot2 (asT (e1 dIsStr (vrB 6)))) (b_law_with_c1 F_law_with) [5, 6])))
    (sSeq (sIf (tOr2 (asT (e2 dEq (vrB 4) (sE (eLst lNil)))) (asT (e2 dEq (sE (eCall 3 f_law_pick (aCons (vrA 1) (aCons (vrA 2) (aCons (vOf (cst (.int 2))) aNil))))) (cst (.int 0))))) (sRet (eCall 2 f_law_bad_house (aCons (vrA 0) (aCons (vrA 3) aNil)))) sNil)
    (sSeq (sSet 5 (e2 dIx (vrB 4) (sE (eCall 3 f_law_pick (aCons (vrA 1) (aCons (vOf (sE (e2 dAdd (vrB 2) (cst (.int 1))))) (aCons (vOf (e1 dLen (vrB 4))) aNil)))))))
    (sRet (vOf (eTup (lCons (e2 dIx (vrB 0) (cst (.int 0))) (lCons (sE (e2 dAdd (sE (e2 dAdd (sE (eSl (e2 dIx (vrB 0) (cst (.int 1))) oNone (oSome (vrB 5)))) (eTup (lCons (sE (eCall 4 F_law_with (aCons (vOf (e2 dIx (e2 dIx (vrB 0) (cst (.int 1))) (vrB 5))) (aCons (vrA 1) (aCons (vOf (sE (e2 dAdd (vrB 2) (cst (.int 2))))) (aCons (vrA 3) aNil)))))) lNil)))) (sE (eSl (e2 dIx (vrB 0) (cst (.int 1))) (oSome (sE (e2 dAdd (vrB 5) (cst (.int 1))))) oNone)))) lNil)))))))
def f_law_with : Nat → Fn
  | 0 => fun _ => .bad
  | n + 1 => runB 7 (b_law_with (f_law_with n))
def b_law_once_l1 : FS :=
    sSet 3 (eTup (lCons (eTup lNil) (lCons (eTup (lCons (cst (.str "a")) (lCons (vrV 3) lNil))) lNil)))
def b_law_once : FS :=
    sSeq (sSet 1 (sE (eCall 3 (f_law_house 24) (aCons (vrA 0) (aCons (vOf (cst (.int 0))) (aCons (vOf (cst (.int 3))) aNil))))))
    (sSeq (sIf (asT (e2 dNotN (sE (eCall 1 f_is_house (aCons (vrA 1) aNil))) (cst (.bl true)))) (sRet (vOf (cst (.bl false)))) sNil)
    (sSeq (sIf (asT (e2 dNotN (sE (eCall 1 f_is_house (aCons (vOf (sE (eCall 4 (f_law_with 24) (aCons (vrA 1) (aCons (vrA 0) (aCons (vOf (cst (.int 600))) (aCons (vOf (sE (eCall 3 f_law_pick (aCons (vrA 0) (aCons (vOf (cst (.int 610))) (aCons (vOf (e2 dPow (cst (.int 10)) (cst (.int 6)))) aNil)))))) aNil))))))) aNil))) (cst (.bl false)))) (sRet (vOf (cst (.bl false)))) sNil)
    (sSeq (sSet 2 (sE (e2 dAdd (cst (.int 3)) (sE (eCall 3 f_law_pick (aCons (vrA 0) (aCons (vOf (cst (.int 611))) (aCons (vOf (cst (.int 3))) aNil))))))))
    (sSeq (sIf (asT (e2 dNe (sE (eCall 1 f_is_house (aCons (vOf (eTup (lCons (sE (eSl (eTup (lCons (cst (.str "a")) (lCons (cst (.str "b")) (lCons (cst (.str "c")) (lCons (cst (.str "d")) (lCons (cst (.str "e")) lNil)))))) oNone (oSome (vrB 2)))) (lCons (eTup lNil) lNil)))) aNil))) (e2 dLt (vrB 2) (cst (.int 5))))) (sRet (vOf (cst (.bl false)))) sNil)
    (sSeq (sIf (asT (e2 dNe (sE (eCall 1 f_is_house (aCons (vOf (eTup (lCons (eTup lNil) (lCons (sE (e2 dMul (eTup (lCons (cst (.str "a")) lNil)) (sE (e2 dAdd (vrB 2) (cst (.int 2)))))) lNil)))) aNil))) (e2 dLt (vrB 2) (cst (.int 5))))) (sRet (vOf (cst (.bl false)))) sNil)
    (sSeq (sSet 3 (eTup (lCons (eTup lNil) (lCons (eTup lNil) lNil))))
    (sSeq (sFor (iRange (sE (e2 dAdd (vrB 2) (cst (.int 3))))) (gN 4) b_law_once_l1)
    (sRet (vOf (e2 dEq (sE (eCall 1 f_is_house (aCons (vrA 3) aNil))) (e2 dLt (vrB 2) (cst (.int 5)))))))))))))
def f_law_once : Fn := runB 5 b_law_once
def b_law_c1 : FB :=
    sE (e2 dAdd (vrB 2) (sE (e2 dMul (cst (.int 7919)) (vrB 1))))
def b_law_l1 : FS :=
    sSeq (sIf (tNot2 (asT (sE (eCall 1 f_law_once (aCons (vOf (sE (eComp (iSeq (vrB 0)) (gN 2) tYes2 b_law_c1 [2]))) aNil))))) (sRet (vOf (cst (.bl false)))) sNil)
    (sIf (asT (e2 dEq (vrB 0) (sE (eLst lNil)))) sBk sNil)
def b_law : FS :=
    sSeq (sFor (iRange (cst (.int 10))) (gN 1) b_law_l1)
    (sRet (vOf (cst (.bl true))))
def f_law : Fn := runB 3 b_law
end VF
end
section
set_option linter.all false
set_option maxRecDepth 100000
namespace VL
open PySem PySem.Spec PyProof.Rows L2
/-! ### the combinators, evaluated by simp -/
def onB {α : Type} (d : D) (x y : Res α) : Res α := match d with | .bl true => x | .bl false => y | _ => .bad
@[simp] theorem onB_bl {α : Type} {b : Bool} {x y : Res α} : onB (.bl b) x y = if b = true then x else y := by cases b <;> rfl
section
variable {ρ : Rho} {f g h : FB} {d a b : D} {i n : Nat}
@[simp] theorem ev_cst : cst d ρ = .ok d := rfl
@[simp] theorem ev_vrV : vrV i ρ = match ρ[i]? with | some (some (.val, d)) => .ok d | _ => .bad := rfl
@[simp] theorem ev_vrB : vrB i ρ = match ρ[i]? with | some (some (_, d)) => .ok d | _ => .bad := rfl
@[simp] theorem ev_vrA : vrA i ρ = match ρ[i]? with | some (some (.val, d)) => .ok (.val, d) | some (some (_, d)) => .ok (.bor, d) | _ => .bad := rfl
@[simp] theorem ev_vrL : vrL i ρ = match ρ[i]? with | some (some (.val, d)) => .ok d | some (some (.bor, d)) => .ok d | _ => .bad := rfl
@[simp] theorem ev_e1 {β : Type} {k : D → Res β} : e1 k f ρ = (f ρ >>= k) := rfl
@[simp] theorem ev_e2 {β : Type} {k : D → D → Res β} : e2 k f g ρ = (f ρ >>= fun a => g ρ >>= fun b => k a b) := rfl
@[simp] theorem ev_e3 {k k' : D → D → Res D} : e3 k k' f g h ρ = (f ρ >>= fun a => g ρ >>= fun b => k a b >>= fun z => onB z (h ρ >>= fun c => k' b c) (.ok (.bl false))) := rfl
@[simp] theorem ev_vOf : vOf f ρ = (f ρ >>= fun d => .ok (.val, d)) := rfl
@[simp] theorem ev_sE {f : FV} : sE f ρ = (f ρ >>= fun r => .ok r.2) := rfl
@[simp] theorem ev_asT : asT f ρ = (f ρ >>= fun d => match d with | .bl b => .ok b | _ => .bad) := rfl
@[simp] theorem ev_tAnd2 {f g : FT} : tAnd2 f g ρ = (f ρ >>= fun a => if a = true then g ρ else .ok false) := rfl
@[simp] theorem ev_tOr2 {f g : FT} : tOr2 f g ρ = (f ρ >>= fun a => if a = true then .ok true else g ρ) := rfl
@[simp] theorem ev_tNot2 {f : FT} : tNot2 f ρ = (f ρ >>= fun a => .ok (!a)) := rfl
@[simp] theorem ev_vAnd2 : vAnd2 f g ρ = (f ρ >>= fun a => onB a (g ρ) (.ok (.bl false))) := rfl
@[simp] theorem ev_vOr2 : vOr2 f g ρ = (f ρ >>= fun a => onB a (.ok (.bl true)) (g ρ)) := rfl
@[simp] theorem ev_vNot2 : vNot2 f ρ = (f ρ >>= fun a => match a with | .bl b => .ok (.bl (!b)) | _ => .bad) := rfl
@[simp] theorem ev_eIf {β : Type} {t : FT} {f g : Rho → Res β} : eIf t f g ρ = (t ρ >>= fun c => if c = true then f ρ else g ρ) := rfl
@[simp] theorem ev_lNil : lNil ρ = .ok [] := rfl
@[simp] theorem ev_lCons {g : FL} : lCons f g ρ = (f ρ >>= fun a => g ρ >>= fun r => .ok (a :: r)) := rfl
@[simp] theorem ev_eTup {g : FL} : eTup g ρ = (g ρ >>= fun ds => if ds.length ≤ sizeLine then .ok (.tup ds) else .bad) := rfl
@[simp] theorem ev_eLst {g : FL} : eLst g ρ = (g ρ >>= fun ds => if ds.length ≤ sizeLine then .ok (.own, .lst ds) else .bad) := rfl
@[simp] theorem ev_aNil : aNil ρ = .ok [] := rfl
@[simp] theorem ev_aCons {f : FV} {g : FA} : aCons f g ρ = (f ρ >>= fun a => g ρ >>= fun r => .ok (a :: r)) := rfl
@[simp] theorem ev_eCall {F : Fn} {g : FA} : eCall n F g ρ = (g ρ >>= fun ds => if ds.length = n then F ds else .bad) := rfl
@[simp] theorem ev_oNone : oNone ρ = .ok none := rfl
@[simp] theorem ev_oSome : oSome f ρ = (f ρ >>= fun d => match d with | .int i => .ok (some i) | _ => .bad) := rfl
@[simp] theorem ev_iSeq : VL.iSeq f ρ = (f ρ >>= dItems) := rfl
@[simp] theorem ev_iRange : VL.iRange f ρ = (f ρ >>= dRange) := rfl
@[simp] theorem ev_iEnum : VL.iEnum f ρ = (f ρ >>= dSeq >>= fun ds => .ok (enumD 0 ds)) := rfl
@[simp] theorem ev_eComp {it : FL} {tg : FG} {t : FT} {e : FB} {vs : List Nat} : eComp it tg t e vs ρ = (it ρ >>= fun ds => noX (compGo tg t e (wipeR ρ vs) ds) >>= fun ys => .ok (.own, .lst ys)) := rfl
@[simp] theorem ev_eSl {lo hi : FO} : eSl f lo hi ρ = (f ρ >>= fun a => lo ρ >>= fun l => hi ρ >>= fun h => dSl a l h) := rfl
@[simp] theorem ev_gN : gN i d ρ = some (ρ.set i (some (.val, d))) := rfl
@[simp] theorem ev_gT {g : FGs} : gT n g d ρ = match d with | .tup ds => if ds.length = n then g ds ρ else none | _ => none := rfl
@[simp] theorem ev_gNil' {ds : List D} : gNil' ds ρ = match ds with | [] => some ρ | _ => none := rfl
@[simp] theorem ev_gCons' {f : FG} {g : FGs} {ds : List D} : gCons' f g ds ρ = match ds with | [] => none | d :: ds => match f d ρ with | some ρ' => g ds ρ' | none => none := rfl
@[simp] theorem ev_tYes2 : tYes2 ρ = .ok true := rfl
@[simp] theorem ev_noX_ok {α : Type} {x : α} : noX (.ok x) = .ok x := rfl
@[simp] theorem ev_wipe_nil : wipeR ρ [] = ρ := rfl
@[simp] theorem ev_wipe_cons {v : Nat} {vs : List Nat} : wipeR ρ (v :: vs) = (wipeR ρ vs).set v none := rfl
@[simp] theorem ev_rho0 {k : Nat} {ds : List (Md × D)} : rho0 k ds = ds.map some ++ List.replicate (k - ds.length) none := rfl
end
section
variable {ρ : Rho} {f g : FS} {i : Nat}
@[simp] theorem ev_sNil : sNil ρ = .nx ρ := rfl
@[simp] theorem ev_sBk : sBk ρ = .bk ρ := rfl
@[simp] theorem ev_sCt : sCt ρ = .ct ρ := rfl
@[simp] theorem ev_sRetN : sRetN ρ = .rt (.val, .non) := rfl
@[simp] theorem ev_sRet {f : FV} : sRet f ρ = .of ρ (f ρ) fun r => .rt r := rfl
@[simp] theorem ev_sRetV : sRetV i ρ = match ρ[i]? with | some (some (.val, d)) => .rt (.val, d) | some (some (.own, d)) => .rt (.own, d) | _ => .bad := rfl
@[simp] theorem ev_sSet {f : FB} : sSet i f ρ = .of ρ (f ρ) fun d => .nx (ρ.set i (some (.val, d))) := rfl
@[simp] theorem ev_sSetO {f : FV} : sSetO i f ρ = .of ρ (f ρ) fun r => .nx (ρ.set i (some r)) := rfl
@[simp] theorem ev_sAsg {f : FB} {g : FG} : sAsg f g ρ = .of ρ (f ρ) fun d => match g d ρ with | some ρ' => .nx ρ' | none => .bad := rfl
@[simp] theorem ev_sExpr {f : FB} : sExpr f ρ = .of ρ (f ρ) fun _ => .nx ρ := rfl
@[simp] theorem ev_sIf {t : FT} : sIf t f g ρ = .of ρ (t ρ) fun b => if b = true then f ρ else g ρ := rfl
@[simp] theorem ev_sApp {f : FB} : sApp i f ρ = match ρ[i]? with | some (some (.own, .lst ds)) => .of ρ (f ρ) fun d => if ds.length < sizeLine then .nx (ρ.set i (some (.own, .lst (ds ++ [d])))) else .bad | _ => .bad := rfl
@[simp] theorem ev_sExt {f : FB} : sExt i f ρ = match ρ[i]? with | some (some (.own, .lst ds)) => (.of ρ (f ρ) fun d => (match d with | .lst es => if ds.length + es.length ≤ sizeLine then .nx (ρ.set i (some (.own, .lst (ds ++ es)))) else .bad | _ => .bad)) | _ => .bad := rfl
@[simp] theorem ev_sFor {it : FL} {tg : FG} : sFor it tg f ρ = .of ρ (it ρ) fun ds => forGo tg f ds ρ := rfl
@[simp] theorem ev_of_ok {α : Type} {a : α} {k : α → Flo} : Flo.of ρ (.ok a) k = k a := rfl
@[simp] theorem ev_of_exc {α : Type} {c : Exn} {k : α → Flo} : Flo.of ρ (.exc c) k = .exc c ρ := rfl
@[simp] theorem ev_of_bad {α : Type} {k : α → Flo} : Flo.of ρ .bad k = .bad := rfl
def Flo.andThen (x : Flo) (g : FS) : Flo := match x with
  | .nx ρ => g ρ
  | .rt r => .rt r
  | .bk ρ => .bk ρ
  | .ct ρ => .ct ρ
  | .exc c ρ => .exc c ρ
  | .bad => .bad
@[simp] theorem ev_sSeq : sSeq f g ρ = Flo.andThen (f ρ) g := by
  unfold sSeq Flo.andThen
  cases f ρ <;> rfl
@[simp] theorem then_nx : Flo.andThen (.nx ρ) g = g ρ := rfl
@[simp] theorem then_rt {r : Md × D} : Flo.andThen (.rt r) g = .rt r := rfl
@[simp] theorem then_bk : Flo.andThen (.bk ρ) g = .bk ρ := rfl
@[simp] theorem then_ct : Flo.andThen (.ct ρ) g = .ct ρ := rfl
@[simp] theorem then_exc {c : Exn} : Flo.andThen (.exc c ρ) g = .exc c ρ := rfl
@[simp] theorem then_if {c : Prop} [Decidable c] {x y : Flo} : Flo.andThen (if c then x else y) g = if c then Flo.andThen x g else Flo.andThen y g := by split <;> rfl
def Flo.fin (x : Flo) : Res (Md × D) := match x with
  | .nx _ => .ok (.val, .non)
  | .rt r => .ok r
  | .exc c _ => .exc c
  | _ => .bad
theorem run_fin {k : Nat} {body : FS} {ds : List (Md × D)} : runB k body ds = Flo.fin (body (rho0 k ds)) := by
  unfold runB Flo.fin
  cases body (rho0 k ds) <;> rfl
@[simp] theorem fin_nx : Flo.fin (.nx ρ) = .ok (.val, .non) := rfl
@[simp] theorem fin_rt {r : Md × D} : Flo.fin (.rt r) = .ok r := rfl
@[simp] theorem fin_exc {c : Exn} : Flo.fin (.exc c ρ) = .exc c := rfl
@[simp] theorem fin_if {c : Prop} [Decidable c] {x y : Flo} : Flo.fin (if c then x else y) = if c then Flo.fin x else Flo.fin y := by split <;> rfl
theorem seq_nx {ρ' : Rho} (h : f ρ = .nx ρ') : sSeq f g ρ = g ρ' := by unfold sSeq; rw [h]
theorem seq_rt {r : Md × D} (h : f ρ = .rt r) : sSeq f g ρ = .rt r := by unfold sSeq; rw [h]
end
@[simp] theorem ifRes_bind {α β : Type} {c : Prop} [Decidable c] {x y : Res α} {k : α → Res β} : ((if c then x else y) >>= k) = if c then x >>= k else y >>= k := by split <;> rfl
@[simp] theorem ifRes_of {α : Type} {c : Prop} [Decidable c] {x y : Res α} {ρ : Rho} {k : α → Flo} : Flo.of ρ (if c then x else y) k = if c then Flo.of ρ x k else Flo.of ρ y k := by split <;> rfl
@[simp] theorem res_assoc {α β γ : Type} {x : Res α} {f : α → Res β} {g : β → Res γ} : ((x >>= f) >>= g) = (x >>= fun a => f a >>= g) := by cases x <;> rfl
/-! ### sound data: may be compared -/
def okN : Nat → D → Bool
  | _, .non => true
  | _, .bl _ => true
  | _, .int _ => true
  | _, .str s => PyData.strOk s
  | n + 1, .tup xs => xs.all (okN n)
  | n + 1, .lst xs => xs.all (okN n)
  | _, _ => false
theorem toPs_map : ∀ xs : List D, D.toPs xs = xs.map D.toP
  | [] => by rw [D.toPs]; rfl
  | x :: xs => by rw [D.toPs, toPs_map xs]; rfl
theorem okN_lay : ∀ (n : Nat) (d : D), okN n d = true → d.toP.canLay0 = true ∧ d.toP.depth ≤ n := by
  have all : ∀ (n : Nat), (∀ d, okN n d = true → d.toP.canLay0 = true ∧ d.toP.depth ≤ n) → ∀ xs : List D, xs.all (okN n) = true → PyData.canLayAll0 (D.toPs xs) = true ∧ PyData.depthAll (D.toPs xs) ≤ n := by
    intro n ih xs
    induction xs with
    | nil => intro _; rw [D.toPs]; exact ⟨rfl, Nat.zero_le _⟩
    | cons x xs ihx =>
      intro h
      rw [List.all_cons, Bool.and_eq_true] at h
      obtain ⟨h1, h2⟩ := ih x h.1
      obtain ⟨h3, h4⟩ := ihx h.2
      rw [D.toPs]
      simp only [PyData.canLayAll0, PyData.depthAll, h1, h3, Bool.and_self, true_and]
      omega
  intro n
  induction n with
  | zero =>
    intro d h
    cases d with
    | non => rw [D.toP]; simp [PyData.canLay0, PyData.depth]
    | bl b => rw [D.toP]; simp [PyData.canLay0, PyData.depth]
    | int b => rw [D.toP]; simp [PyData.canLay0, PyData.depth]
    | str b => rw [D.toP]; simp only [okN] at h; simp [PyData.canLay0, PyData.depth, h]
    | _ => simp [okN] at h
  | succ n ih =>
    intro d h
    cases d with
    | non => rw [D.toP]; simp [PyData.canLay0, PyData.depth]
    | bl b => rw [D.toP]; simp [PyData.canLay0, PyData.depth]
    | int b => rw [D.toP]; simp [PyData.canLay0, PyData.depth]
    | str b => rw [D.toP]; simp only [okN] at h; simp [PyData.canLay0, PyData.depth, h]
    | tup xs =>
      simp only [okN] at h
      obtain ⟨h1, h2⟩ := all n ih _ h
      rw [D.toP]
      simp only [PyData.canLay0, PyData.depth]
      exact ⟨h1, by omega⟩
    | lst xs =>
      simp only [okN] at h
      obtain ⟨h1, h2⟩ := all n ih _ h
      rw [D.toP]
      simp only [PyData.canLay0, PyData.depth]
      exact ⟨h1, by omega⟩
    | _ => simp [okN] at h
theorem shp_of {n : Nat} {d : D} (h : okN n d = true) (hn : n ≤ 64) : shp d = true := by
  obtain ⟨h1, h2⟩ := okN_lay n d h
  unfold shp SeqAt.shaped
  rw [h1, decide_eq_true (by omega)]
  rfl
theorem okN_mono : ∀ {n m : Nat} {d : D}, okN n d = true → n ≤ m → okN m d = true := by
  intro n
  induction n with
  | zero => intro m d h hm; cases m <;> cases d <;> simp_all [okN]
  | succ n ih =>
    intro m d h hm
    cases m with
    | zero => omega
    | succ m =>
      cases d <;> simp_all only [okN]
      all_goals
        rw [List.all_eq_true] at h ⊢
        exact fun x hx => ih (h x hx) (by omega)
/-! ### == by cases -/
def deqs (xs ys : List D) : Bool := PyData.eqvAll (D.toPs xs) (D.toPs ys)
@[simp] theorem deq_str {a b : Str} : deq (.str a) (.str b) = (a == b) := by simp [deq, D.toP, PyData.eqv]
@[simp] theorem deq_int {a b : Int} : deq (.int a) (.int b) = (a == b) := by simp [deq, D.toP, PyData.eqv]
@[simp] theorem deq_bl {a b : Bool} : deq (.bl a) (.bl b) = (a == b) := by simp [deq, D.toP, PyData.eqv]
@[simp] theorem deq_tup {a b : List D} : deq (.tup a) (.tup b) = deqs a b := by simp [deq, deqs, D.toP, PyData.eqv]
@[simp] theorem deq_lst {a b : List D} : deq (.lst a) (.lst b) = deqs a b := by simp [deq, deqs, D.toP, PyData.eqv]
@[simp] theorem deqs_nil : deqs [] [] = true := by simp [deqs, D.toPs, PyData.eqvAll]
@[simp] theorem deqs_cons {a b : D} {as bs : List D} : deqs (a :: as) (b :: bs) = (deq a b && deqs as bs) := by simp [deqs, deq, D.toPs, PyData.eqvAll]
@[simp] theorem deqs_nc {b : D} {bs : List D} : deqs [] (b :: bs) = false := by simp [deqs, D.toPs, PyData.eqvAll]
@[simp] theorem deqs_cn {b : D} {bs : List D} : deqs (b :: bs) [] = false := by simp [deqs, D.toPs, PyData.eqvAll]
theorem deqs_strs : ∀ xs ys : List Str, deqs (xs.map .str) (ys.map .str) = decide (xs = ys)
  | [], [] => by simp
  | [], y :: ys => by simp
  | x :: xs, [] => by simp
  | x :: xs, y :: ys => by
    rw [List.map_cons, List.map_cons, deqs_cons, deq_str, deqs_strs xs ys]
    by_cases h1 : x = y
    · by_cases h2 : xs = ys <;> simp [h1, h2]
    · simp [h1]
theorem eq_ok {n m : Nat} {a b : D} (ha : okN n a = true) (hb : okN m b = true) (hn : n ≤ 64) (hm : m ≤ 64) : dEq a b = .ok (.bl (deq a b)) := by
  unfold dEq
  rw [if_pos ⟨shp_of ha hn, shp_of hb hm⟩]
theorem ne_ok {n m : Nat} {a b : D} (ha : okN n a = true) (hb : okN m b = true) (hn : n ≤ 64) (hm : m ≤ 64) : dNe a b = .ok (.bl (!deq a b)) := by
  unfold dNe
  rw [if_pos ⟨shp_of ha hn, shp_of hb hm⟩]
@[simp] theorem eq_int {a b : Int} : dEq (.int a) (.int b) = .ok (.bl (a == b)) := by rw [eq_ok (n := 0) (m := 0) rfl rfl (by decide) (by decide), deq_int]
@[simp] theorem ne_int {a b : Int} : dNe (.int a) (.int b) = .ok (.bl (a != b)) := by rw [ne_ok (n := 0) (m := 0) rfl rfl (by decide) (by decide), deq_int]; rfl
@[simp] theorem eq_bl {a b : Bool} : dEq (.bl a) (.bl b) = .ok (.bl (a == b)) := by rw [eq_ok (n := 0) (m := 0) rfl rfl (by decide) (by decide), deq_bl]
@[simp] theorem ne_bl {a b : Bool} : dNe (.bl a) (.bl b) = .ok (.bl (a != b)) := by rw [ne_ok (n := 0) (m := 0) rfl rfl (by decide) (by decide), deq_bl]; rfl
theorem ints_all (n : Nat) : ∀ ns : List Int, (ns.map D.int).all (okN n) = true
  | [] => rfl
  | x :: ns => by rw [List.map_cons, List.all_cons, ints_all n ns]; cases n <;> rfl
theorem eq_nil {ns : List Int} : dEq (.lst (ns.map .int)) (.lst []) = .ok (.bl ns.isEmpty) := by
  rw [eq_ok (n := 1) (m := 1) (by simp only [okN]; exact ints_all 0 ns) rfl (by decide) (by decide), deq_lst]
  cases ns <;> simp
/-! ### comprehensions, loops -/
section
variable {tg : FG} {t : FT} {e : FB} {ρ : Rho} {body : FS}
theorem comp_map {y : D → D} : ∀ {ds : List D}, (∀ d ∈ ds, ∃ ρ1, tg d ρ = some ρ1 ∧ t ρ1 = .ok true ∧ e ρ1 = .ok (y d)) → compGo tg t e ρ ds = .ok (ds.map y)
  | [], _ => rfl
  | d :: ds, h => by
    obtain ⟨ρ1, h1, h2, h3⟩ := h d List.mem_cons_self
    unfold compGo
    simp only [h1, h2, h3, ok_bind, if_true, comp_map fun d hd => h d (List.mem_cons_of_mem _ hd), List.map_cons]
theorem comp_filter {p : D → Bool} {y : D → D} : ∀ {ds : List D}, (∀ d ∈ ds, ∃ ρ1, tg d ρ = some ρ1 ∧ t ρ1 = .ok (p d) ∧ (p d = true → e ρ1 = .ok (y d))) → compGo tg t e ρ ds = .ok ((ds.filter p).map y)
  | [], _ => rfl
  | d :: ds, h => by
    obtain ⟨ρ1, h1, h2, h3⟩ := h d List.mem_cons_self
    have ih := comp_filter fun d hd => h d (List.mem_cons_of_mem _ hd)
    unfold compGo
    simp only [h1, h2, ok_bind, ih]
    cases q : p d with
    | true => rw [if_pos rfl, h3 q, List.filter_cons_of_pos q]; rfl
    | false => rw [if_neg (by simp), List.filter_cons_of_neg (by simp [q])]
theorem comp_ex {P : D → Prop} : ∀ {ds : List D}, (∀ d ∈ ds, ∃ ρ1 y, tg d ρ = some ρ1 ∧ t ρ1 = .ok true ∧ e ρ1 = .ok y ∧ P y) → ∃ ys, compGo tg t e ρ ds = .ok ys ∧ ys.length = ds.length ∧ ∀ y ∈ ys, P y
  | [], _ => ⟨[], rfl, rfl, by simp⟩
  | d :: ds, h => by
    obtain ⟨ρ1, y, h1, h2, h3, h4⟩ := h d List.mem_cons_self
    obtain ⟨ys, e1, e2, e3⟩ := comp_ex fun d hd => h d (List.mem_cons_of_mem _ hd)
    refine ⟨y :: ys, ?_, by rw [List.length_cons, List.length_cons, e2], fun z hz => ?_⟩
    · unfold compGo
      simp only [h1, h2, h3, e1, ok_bind, if_true]
    · rcases List.mem_cons.mp hz with q | q
      · subst q; exact h4
      · exact e3 z q
theorem range_mem {lo : Int} {n : Nat} {d : D} (h : d ∈ rangeD lo n) : ∃ i : Nat, i < n ∧ d = .int (lo + (i : Nat)) := by
  unfold rangeD at h
  obtain ⟨i, h1, h2⟩ := List.mem_map.mp h
  exact ⟨i, List.mem_range.mp h1, h2.symm⟩
theorem range_len {lo : Int} {n : Nat} : (rangeD lo n).length = n := by unfold rangeD; simp
theorem for_inv {I : List D → Rho → Prop} : ∀ {ds : List D} {ρ : Rho}, I ds ρ → (∀ d r ρ, I (d :: r) ρ → ∃ ρ1 ρ2, tg d ρ = some ρ1 ∧ (body ρ1 = .nx ρ2 ∨ body ρ1 = .ct ρ2) ∧ I r ρ2) → ∃ ρ', forGo tg body ds ρ = .nx ρ' ∧ I [] ρ'
  | [], ρ, h, _ => ⟨ρ, rfl, h⟩
  | d :: r, ρ, h, st => by
    obtain ⟨ρ1, ρ2, h1, h2, h3⟩ := st d r ρ h
    obtain ⟨ρ', h4, h5⟩ := for_inv h3 st
    refine ⟨ρ', ?_, h5⟩
    unfold forGo
    rcases h2 with h2 | h2 <;> simp only [h1, h2, h4]
end
/-! ### operators on what they take -/
section
variable {i j : Int} {xs ys : List D} {s t : Str}
@[simp] theorem add_int : dAdd (.int i) (.int j) = .ok (.val, .int (i + j)) := rfl
theorem add_tup (h : xs.length + ys.length ≤ sizeLine) : dAdd (.tup xs) (.tup ys) = .ok (.val, .tup (xs ++ ys)) := by simp only [dAdd, if_pos h]
theorem add_lst (h : xs.length + ys.length ≤ sizeLine) : dAdd (.lst xs) (.lst ys) = .ok (.own, .lst (xs ++ ys)) := by simp only [dAdd, if_pos h]
@[simp] theorem sub_int : dSub (.int i) (.int j) = .ok (.int (i - j)) := rfl
theorem mul_l (h : -(2 ^ 64) < i ∧ i < 2 ^ 64) : dMul (.int i) (.int j) = .ok (.val, .int (i * j)) := by simp only [dMul, if_pos (Or.inl h)]
theorem mul_r (h : -(2 ^ 64) < j ∧ j < 2 ^ 64) : dMul (.int i) (.int j) = .ok (.val, .int (i * j)) := by simp only [dMul, if_pos (Or.inr h)]
theorem mod_int (h : 0 < j) : dMod (.int i) (.int j) = .ok (.int (i % j)) := by simp only [dMod, if_pos h]
theorem fdiv_int (h : 0 < j ∧ j < 1073741824) : dFdiv (.int i) (.int j) = .ok (.int (i / j)) := by simp only [dFdiv, if_pos h]
@[simp] theorem lt_int : dLt (.int i) (.int j) = .ok (.bl (decide (i < j))) := rfl
@[simp] theorem le_int : dLe (.int i) (.int j) = .ok (.bl (decide (i ≤ j))) := rfl
@[simp] theorem gt_int : dGt (.int i) (.int j) = .ok (.bl (decide (j < i))) := rfl
@[simp] theorem ge_int : dGe (.int i) (.int j) = .ok (.bl (decide (j ≤ i))) := rfl
@[simp] theorem len_lst : dLen (.lst xs) = .ok (.int xs.length) := rfl
@[simp] theorem len_tup : dLen (.tup xs) = .ok (.int xs.length) := rfl
theorem len_str (h : s.length ≤ sizeLine) : dLen (.str s) = .ok (.int s.length) := by simp only [dLen, if_pos h]
@[simp] theorem list_lst : dList (.lst xs) = .ok (.own, .lst xs) := rfl
@[simp] theorem list_tup : dList (.tup xs) = .ok (.own, .lst xs) := rfl
@[simp] theorem tup_lst : dTup (.lst xs) = .ok (.tup xs) := rfl
@[simp] theorem tup_tup : dTup (.tup xs) = .ok (.tup xs) := rfl
@[simp] theorem items_lst : dItems (.lst xs) = .ok xs := rfl
@[simp] theorem items_tup : dItems (.tup xs) = .ok xs := rfl
theorem items_str (h : s.length ≤ sizeLine) : dItems (.str s) = .ok (s.cps.toList.map fun c => .str ⟨#[c]⟩) := by simp only [dItems, if_pos h]
@[simp] theorem seq_lst : dSeq (.lst xs) = .ok xs := rfl
@[simp] theorem seq_tup : dSeq (.tup xs) = .ok xs := rfl
theorem range_int (h0 : -(2 ^ 62) ≤ j) (h : j ≤ (sizeLine : Int)) : dRange (.int j) = .ok (rangeD 0 j.toNat) := by simp only [dRange, if_pos (And.intro h0 h)]
theorem ix_lst {d : D} (h0 : 0 ≤ i) (h : xs[i.toNat]? = some d) : dIx (.lst xs) (.int i) = .ok d := by
  have e : i = ((i.toNat : Nat) : Int) := by omega
  have e2 : L2.atI xs i = some d := by rw [e]; exact atI_nat h
  simp only [dIx, e2]
theorem ix_tup {d : D} (h0 : 0 ≤ i) (h : xs[i.toNat]? = some d) : dIx (.tup xs) (.int i) = .ok d := by
  have e : i = ((i.toNat : Nat) : Int) := by omega
  have e2 : L2.atI xs i = some d := by rw [e]; exact atI_nat h
  simp only [dIx, e2]
theorem ix_tup0 {d : D} : dIx (.tup (d :: xs)) (.int 0) = .ok d := ix_tup (by decide) rfl
theorem ix_tup1 {d e : D} : dIx (.tup (d :: e :: xs)) (.int 1) = .ok e := ix_tup (by decide) rfl
end
theorem cut_to {α : Type} {xs : List α} {i : Int} (h0 : 0 ≤ i) : cutG xs none (some i) = xs.take i.toNat := by
  have e : i = ((i.toNat : Nat) : Int) := by omega
  unfold cutG
  rw [e, HT.sIx_nat, HT.sIx_none, Int.toNat_natCast, List.drop_zero, Nat.sub_zero]
  rcases Nat.le_total i.toNat xs.length with h | h
  · rw [Nat.min_eq_left h]
  · rw [Nat.min_eq_right h, List.take_of_length_le (Nat.le_refl _), List.take_of_length_le h]
theorem cut_from {α : Type} {xs : List α} {i : Int} (h0 : 0 ≤ i) : cutG xs (some i) none = xs.drop i.toNat := by
  have e : i = ((i.toNat : Nat) : Int) := by omega
  unfold cutG
  rw [e, HT.sIx_nat, HT.sIx_none, Int.toNat_natCast]
  rcases Nat.le_total i.toNat xs.length with h | h
  · rw [Nat.min_eq_left h, List.take_of_length_le (by rw [List.length_drop]; omega)]
  · rw [Nat.min_eq_right h, List.drop_of_length_le (Nat.le_refl _), List.drop_of_length_le h]
    simp
@[simp] theorem sl_lst {ds : List D} {lo hi : Option Int} : dSl (.lst ds) lo hi = .ok (.own, .lst (cutG ds lo hi)) := rfl
@[simp] theorem sl_tup {ds : List D} {lo hi : Option Int} : dSl (.tup ds) lo hi = .ok (.val, .tup (cutG ds lo hi)) := rfl
theorem for_brk {tg : FG} {body : FS} {I : List D → Rho → Prop} {J : Rho → Prop} : ∀ {ds : List D} {ρ : Rho}, I ds ρ → (∀ ρ, I [] ρ → J ρ) →
    (∀ d r ρ, I (d :: r) ρ → ∃ ρ1 ρ2, tg d ρ = some ρ1 ∧ ((body ρ1 = .nx ρ2 ∧ I r ρ2) ∨ (body ρ1 = .ct ρ2 ∧ I r ρ2) ∨ (body ρ1 = .bk ρ2 ∧ J ρ2))) → ∃ ρ', forGo tg body ds ρ = .nx ρ' ∧ J ρ'
  | [], ρ, h, k, _ => ⟨ρ, rfl, k ρ h⟩
  | d :: r, ρ, h, k, st => by
    obtain ⟨ρ1, ρ2, h1, h2⟩ := st d r ρ h
    rcases h2 with ⟨h2, h3⟩ | ⟨h2, h3⟩ | ⟨h2, h3⟩
    · obtain ⟨ρ', h4, h5⟩ := for_brk h3 k st
      exact ⟨ρ', by unfold forGo; simp only [h1, h2, h4], h5⟩
    · obtain ⟨ρ', h4, h5⟩ := for_brk h3 k st
      exact ⟨ρ', by unfold forGo; simp only [h1, h2, h4], h5⟩
    · exact ⟨ρ2, by unfold forGo; simp only [h1, h2], h3⟩
end VL
end
section
set_option linter.all false
set_option maxRecDepth 100000
namespace VF
open PySem VL
open L2 (atI atI_nat)
/-! ### drawn numbers -/
theorem atI_of {α : Type} {xs : List α} {i : Int} {x : α} (h0 : 0 ≤ i) (h : xs[i.toNat]? = some x) : atI xs i = some x := by
  have e : i = ((i.toNat : Nat) : Int) := by omega
  rw [e]
  exact atI_nat h
theorem ix_int {ns : List Int} {i : Int} (h0 : 0 ≤ i) (h : i < ns.length) : ∃ z, dIx (.lst (ns.map .int)) (.int i) = .ok (.int z) := by
  have hl : i.toNat < ns.length := by omega
  have e : atI (ns.map D.int) i = some (.int ns[i.toNat]) := atI_of h0 (by rw [List.getElem?_map, List.getElem?_eq_getElem hl]; rfl)
  exact ⟨ns[i.toNat], by simp only [dIx, e]⟩
abbrev scr (ns : List Int) : Md × D := (.val, .lst (ns.map .int))
abbrev num (i : Int) : Md × D := (.val, .int i)
theorem cell_ok (ns : List Int) {k : Int} (h0 : 0 ≤ k) : ∃ z, f_law_cell [scr ns, num k] = .ok (num z) := by
  unfold f_law_cell runB b_law_cell
  by_cases h : k < (ns.length : Int)
  · obtain ⟨z, hz⟩ := ix_int (ns := ns) h0 h
    refine ⟨z, ?_⟩
    rw [seq_rt (r := num z)]
    simp [h, hz]
  · rw [seq_nx (ρ' := [some (scr ns), some (num k)])]
    · cases ns with
      | nil =>
        refine ⟨0, ?_⟩
        rw [seq_rt (r := num 0)]
        have e := eq_nil (ns := [])
        simp only [List.map_nil] at e
        simp [e]
      | cons x xs =>
        have hp : (0 : Int) < ((x :: xs).length : Int) := by rw [List.length_cons]; omega
        obtain ⟨z, hz⟩ := ix_int (ns := x :: xs) (i := k % ((x :: xs).length : Int)) (Int.emod_nonneg _ (by omega)) (Int.emod_lt_of_pos _ hp)
        refine ⟨z * 31 + k, ?_⟩
        rw [seq_nx (ρ' := [some (scr (x :: xs)), some (num k)])]
        · simp only [List.map_cons, List.length_cons, Int.natCast_add, Int.natCast_one, Int.cast_ofNat_Int] at hz hp
          simp [mod_int, mul_r, hp, hz]
        · have e := eq_nil (ns := x :: xs)
          simp only [List.map_cons] at e
          simp [e]
    · simp [h]
theorem pick_ok (ns : List Int) {k m : Int} (h0 : 0 ≤ k) (hm : 0 < m) : ∃ z, f_law_pick [scr ns, num k, num m] = .ok (num z) ∧ 0 ≤ z ∧ z < m := by
  obtain ⟨c, hc⟩ := cell_ok ns h0
  have d0 : 0 ≤ (c + 6151 * (k + 1)) * 40692 % 2147483399 := Int.emod_nonneg _ (by decide)
  have d1 : (c + 6151 * (k + 1)) * 40692 % 2147483399 < 2147483399 := Int.emod_lt_of_pos _ (by decide)
  refine ⟨(((c + 6151 * (k + 1)) * 40692 % 2147483399) * ((c + 6151 * (k + 1)) * 40692 % 2147483399) + ((c + 6151 * (k + 1)) * 40692 % 2147483399) / 31) % 2147483629 % m, ?_, Int.emod_nonneg _ (by omega), Int.emod_lt_of_pos _ hm⟩
  unfold f_law_pick runB b_law_pick
  rw [seq_nx (ρ' := [some (scr ns), some (num k), some (num m), some (num ((c + 6151 * (k + 1)) * 40692 % 2147483399))])]
  · generalize (c + 6151 * (k + 1)) * 40692 % 2147483399 = q at d0 d1
    have b : ((-(2 ^ 64) : Int) < q ∧ q < 2 ^ 64) := by omega
    simp [mod_int, mul_l b, fdiv_int, hm]
  · simp [hc, mod_int, mul_l, mul_r]
end VF
end
section
set_option linter.all false
set_option maxRecDepth 100000
namespace VF
open PySem VL
/-! ### is_name, is_house, on all plain data -/
def small : Str := "abcdefghijklmnopqrstuvwxyz"
def smallHas (c : Nat) : Bool := decide (c ∈ small.cps.toList)
def signsOk (s : Str) : Bool := s.cps.toList.all smallHas
def nameOk (s : Str) : Bool := decide (1 ≤ s.length) && (decide (s.length ≤ 6) && signsOk s)
def isNm : D → Bool
  | .str s => nameOk s
  | _ => false
def plN : Nat → D → Bool
  | _, .non => true
  | _, .bl _ => true
  | _, .int _ => true
  | _, .str s => decide (s.length ≤ sizeLine)
  | n + 1, .tup xs => xs.all (plN n)
  | n + 1, .lst xs => xs.all (plN n)
  | _, _ => false
def Pl (d : D) : Prop := ∃ n, plN n d = true
theorem Pl.str {s : Str} (h : Pl (.str s)) : s.length ≤ sizeLine := by
  obtain ⟨n, h⟩ := h
  cases n <;> simpa [plN] using h
theorem Pl.tup {xs : List D} (h : Pl (.tup xs)) : ∀ x ∈ xs, Pl x := by
  obtain ⟨n, h⟩ := h
  cases n with
  | zero => simp [plN] at h
  | succ n => intro x hx; exact ⟨n, List.all_eq_true.mp (by simpa [plN] using h) x hx⟩
theorem bools_map {α : Type} (p : α → Bool) : ∀ l : List α, bools (l.map fun x => D.bl (p x)) = some (l.map p)
  | [] => rfl
  | x :: l => by simp only [List.map_cons, bools, bools_map p l, Option.map_some]
theorem all_map {α : Type} (p : α → Bool) (l : List α) : dAll (.lst (l.map fun x => D.bl (p x))) = .ok (.bl (l.all p)) := by
  simp only [dAll, bools_map]
  rw [List.all_map]
  rfl
theorem in_small (c : Nat) : dIn (.str ⟨#[c]⟩) (.str small) = .ok (.bl (smallHas c)) := by
  simp only [dIn, dIn', smallHas]
theorem name_ok {d : D} (h : Pl d) : f_is_name [(.val, d)] = .ok (.val, .bl (isNm d)) := by
  unfold f_is_name runB b_is_name
  cases d with
  | str s =>
    have hs := h.str
    have e := comp_map (tg := gN 1) (t := tYes2) (e := b_is_name_c1) (ρ := [some (Md.val, D.str s), none]) (ds := s.cps.toList.map fun c => .str ⟨#[c]⟩) (y := fun d => match d with | .str z => .bl (smallHas (z.cps.toList.headD 0)) | _ => .non) (fun d hd => by
      obtain ⟨c, hc, rfl⟩ := List.mem_map.mp hd
      refine ⟨_, rfl, rfl, ?_⟩
      have := in_small c
      unfold small at this
      simp [b_is_name_c1, this, small])
    rw [List.map_map] at e
    have e2 := all_map smallHas s.cps.toList
    have e3 : (List.map ((fun d => match d with | .str z => D.bl (smallHas (z.cps.toList.headD 0)) | _ => .non) ∘ fun c => D.str ⟨#[c]⟩) s.cps.toList) = s.cps.toList.map (fun c => D.bl (smallHas c)) := rfl
    rw [e3] at e
    have e4 : dAll (D.lst (List.map (fun c => D.bl (smallHas c)) s.cps.toList)) = .ok (.bl (signsOk s)) := e2
    simp [dIsStr, len_str hs, items_str hs, e, e4, isNm, nameOk]
    by_cases h1 : 1 ≤ s.length
    · by_cases h2 : s.length ≤ 6
      · have h1' : (1 : Int) ≤ s.length := by omega
        have h2' : (s.length : Int) ≤ 6 := by omega
        simp [h1, h2, h1', h2']
      · have h1' : (1 : Int) ≤ s.length := by omega
        have h2' : ¬ (s.length : Int) ≤ 6 := by omega
        simp [h1, h2, h1', h2']
    · have h1' : ¬ (1 : Int) ≤ s.length := by omega
      simp [h1, h1']
  | non => simp [dIsStr, D.tyN, isNm]
  | bl b => simp [dIsStr, D.tyN, isNm]
  | int b => simp [dIsStr, D.tyN, isNm]
  | tup b => simp [dIsStr, D.tyN, isNm]
  | lst b => simp [dIsStr, D.tyN, isNm]
  | _ => obtain ⟨n, h⟩ := h; cases n <;> simp [plN] at h
end VF
end
section
set_option linter.all false
set_option maxRecDepth 100000
namespace VF
open PySem VL
def riseD (ns : List D) : Bool := match txts ns with | some ys => decide (ys = usort ys) | none => false
def isH : Nat → D → Bool
  | k + 1, .tup [.tup ns, .tup ps] => decide (ns.length ≤ 4) && (ns.all isNm && (riseD ns && (decide (ps.length ≤ 6) && ps.all fun p => isNm p || isH k p)))
  | _, _ => false
theorem isNm_txts : ∀ {ns : List D}, ns.all isNm = true → ∃ ys : List Str, ns = ys.map .str ∧ (∀ y ∈ ys, nameOk y = true)
  | [], _ => ⟨[], rfl, by simp⟩
  | d :: ns, h => by
    rw [List.all_cons, Bool.and_eq_true] at h
    obtain ⟨ys, rfl, h2⟩ := isNm_txts h.2
    cases d with
    | str s => exact ⟨s :: ys, rfl, fun y hy => by
        rcases List.mem_cons.mp hy with e | e
        · subst e; exact h.1
        · exact h2 y e⟩
    | _ => exact absurd h.1 (by simp [isNm])
theorem txts_map : ∀ ys : List Str, txts (ys.map .str) = some ys
  | [] => rfl
  | y :: ys => by simp only [List.map_cons, txts, txts_map ys, Option.map_some]
theorem small_ok : ∀ c ∈ small.cps.toList, c < 0x110000 := by decide +kernel
theorem nameOk_str {s : Str} (h : nameOk s = true) : PyData.strOk s = true := by
  unfold nameOk signsOk at h
  simp only [Bool.and_eq_true] at h
  unfold PyData.strOk
  rw [← Array.all_toList, List.all_eq_true]
  intro c hc
  have := List.all_eq_true.mp h.2.2 c hc
  unfold smallHas at this
  exact decide_eq_true (small_ok c (of_decide_eq_true this))
theorem strs_all {n : Nat} : ∀ {ys : List Str}, (∀ y ∈ ys, PyData.strOk y = true) → (ys.map D.str).all (okN n) = true
  | [], _ => rfl
  | y :: ys, h => by
    rw [List.map_cons, List.all_cons, strs_all fun z hz => h z (List.mem_cons_of_mem _ hz)]
    have := h y List.mem_cons_self
    cases n <;> simp [okN, this]
theorem usort_mem {ys : List Str} {y : Str} (h : y ∈ usort ys) : y ∈ ys := by
  have h1 := (sortT_perm _).mem_iff.mp h
  have go : ∀ (zs acc : List Str), y ∈ zs.foldl more1 acc → y ∈ acc ∨ y ∈ zs := by
    intro zs
    induction zs with
    | nil => intro acc h; exact .inl h
    | cons z zs ih =>
      intro acc h
      rcases ih _ h with e | e
      · unfold more1 at e
        split at e
        · exact .inl e
        · rcases List.mem_append.mp e with e | e
          · exact .inl e
          · exact .inr (by rw [List.mem_singleton.mp e]; exact List.mem_cons_self)
      · exact .inr (List.mem_cons_of_mem _ e)
  rcases go ys [] h1 with e | e
  · simp at e
  · exact e
theorem rise_ne {ys : List Str} (h : ∀ y ∈ ys, nameOk y = true) : dNe (.lst (ys.map .str)) (.lst ((usort ys).map .str)) = .ok (.bl (!riseD (ys.map .str))) := by
  rw [ne_ok (n := 1) (m := 1) (by simp only [okN]; exact strs_all fun y hy => nameOk_str (h y hy)) (by simp only [okN]; exact strs_all fun y hy => nameOk_str (h y (usort_mem hy))) (by decide) (by decide), deq_lst, deqs_strs]
  unfold riseD
  rw [txts_map]
theorem dSortSet_strs {ys : List Str} (h : ys.length ≤ 1000) : dSortSet (.tup (ys.map .str)) = .ok (.own, .lst ((usort ys).map .str)) := by
  unfold dSortSet setTx
  simp only [txts_map, if_pos h]
theorem isH_len {k : Nat} {xs : List D} (h : ¬ xs.length = 2) : isH k (.tup xs) = false := by
  unfold isH
  split
  · rename_i e
    cases e
    exact absurd rfl h
  · rfl
theorem isTup_tup {xs : List D} : dIsTup (.tup xs) = .ok (.bl true) := rfl
theorem isTup_no {d : D} (h : Pl d) (n : ∀ xs, d ≠ .tup xs) : dIsTup d = .ok (.bl false) := by
  cases d with
  | tup xs => exact absurd rfl (n xs)
  | non => rfl
  | bl b => rfl
  | int b => rfl
  | str b => rfl
  | lst b => rfl
  | _ => obtain ⟨m, h⟩ := h; cases m <;> simp [plN] at h
theorem house_ok : ∀ (k n : Nat), 2 * k + 1 ≤ n → ∀ d, Pl d → f_is_house_of n [(.val, d), (.val, .int k)] = .ok (.val, .bl (isH k d)) := by
  intro k
  induction k with
  | zero =>
    intro n hn d hd
    obtain ⟨n, rfl⟩ : ∃ m, n = m + 1 := ⟨n - 1, by omega⟩
    rw [f_is_house_of, run_fin]
    simp [b_is_house_of, isH]
  | succ k ih =>
    intro n hn d hd
    obtain ⟨n, rfl⟩ : ∃ m, n = m + 2 := ⟨n - 2, by omega⟩
    have part : ∀ p, Pl p → f_is_part (n + 1) [(.val, p), (.val, .int k)] = .ok (.val, .bl (isNm p || isH k p)) := by
      intro p hp
      have h1 := ih n (by omega) p hp
      unfold f_is_part runB b_is_part
      simp [name_ok hp, h1]
      cases isNm p <;> simp
    have kk : (((k + 1 : Nat) : Int) == 0) = false := by rw [beq_eq_false_iff_ne]; omega
    have k1 : ((k + 1 : Nat) : Int) - 1 = (k : Int) := by omega
    rw [f_is_house_of, run_fin]
    generalize ((k + 1 : Nat) : Int) = kz at kk k1
    by_cases t : ∃ xs, d = .tup xs
    · obtain ⟨xs, rfl⟩ := t
      by_cases hl : xs.length = 2
      · obtain ⟨a, b, rfl⟩ : ∃ a b, xs = [a, b] := by
          match xs, hl with
          | [a, b], _ => exact ⟨a, b, rfl⟩
        have ha := hd.tup a (by simp)
        have hb := hd.tup b (by simp)
        by_cases ta : ∃ ns, a = .tup ns
        · obtain ⟨ns, rfl⟩ := ta
          by_cases h4 : ns.length ≤ 4
          · have h4' : ¬ (4 : Int) < ns.length := by omega
            have en := VL.comp_map (tg := gN 4) (t := tYes2) (e := b_is_house_of_c1 (f_is_part (n + 1))) (ρ := [some (.val, .tup [.tup ns, b]), some (.val, .int kz), some (.val, .tup ns), some (.val, b), none, none]) (ds := ns) (y := fun d => .bl (isNm d)) (fun d hd' => ⟨_, rfl, rfl, by simp [b_is_house_of_c1, name_ok (ha.tup d hd')]⟩)
            by_cases hn : ns.all isNm = true
            · obtain ⟨ys, rfl, hy⟩ := isNm_txts hn
              have q1 := dSortSet_strs (ys := ys) (by rw [List.length_map] at h4; omega)
              have q2 := rise_ne hy
              have q4 := all_map isNm (ys.map .str)
              rw [hn] at q4
              rw [List.length_map] at h4 h4'
              by_cases hr : riseD (ys.map .str) = true
              · by_cases tb : ∃ ps, b = .tup ps
                · obtain ⟨ps, rfl⟩ := tb
                  by_cases h6 : ps.length ≤ 6
                  · have h6' : ¬ (6 : Int) < ps.length := by omega
                    have ep := VL.comp_map (tg := gN 5) (t := tYes2) (e := b_is_house_of_c2 (f_is_part (n + 1))) (ρ := [some (.val, .tup [.tup (ys.map .str), .tup ps]), some (.val, .int kz), some (.val, .tup (ys.map .str)), some (.val, .tup ps), none, none]) (ds := ps) (y := fun d => .bl (isNm d || isH k d)) (fun d hd' => ⟨_, rfl, rfl, by simp [b_is_house_of_c2, part d (hb.tup d hd'), k1]⟩)
                    have q3 := all_map (fun d => isNm d || isH k d) ps
                    simp [-List.map_map, b_is_house_of, kk, isTup_tup, h4', en, q4, q1, q2, hr, h6', ep, q3, isH, h4, h6, hn]
                  · have h6' : (6 : Int) < ps.length := by omega
                    simp [-List.map_map, b_is_house_of, kk, isTup_tup, h4', en, q4, q1, q2, hr, h6', isH, h6]
                · have e0 := isTup_no hb fun xs h => tb ⟨xs, h⟩
                  have e1 : isH (k + 1) (.tup [.tup (ys.map .str), b]) = false := by
                    cases b <;> first | rfl | exact absurd ⟨_, rfl⟩ tb
                  simp [-List.map_map, b_is_house_of, kk, isTup_tup, h4', en, q4, q1, q2, hr, e0, e1]
              · have e1 : isH (k + 1) (.tup [.tup (ys.map .str), b]) = false := by
                  cases b <;> first | rfl | (rw [Bool.not_eq_true] at hr; simp [isH, hr])
                simp [-List.map_map, b_is_house_of, kk, isTup_tup, h4', en, q4, q1, q2, hr, e1]
            · rw [Bool.not_eq_true] at hn
              have q4 := all_map isNm ns
              rw [hn] at q4
              have e1 : isH (k + 1) (.tup [.tup ns, b]) = false := by
                cases b <;> first | rfl | (simp only [isH, hn, Bool.false_and, Bool.and_false])
              simp [-List.map_map, b_is_house_of, kk, isTup_tup, h4', en, q4, e1]
          · have h4' : (4 : Int) < ns.length := by omega
            have e1 : isH (k + 1) (.tup [.tup ns, b]) = false := by
              cases b <;> first | rfl | simp [isH, h4]
            simp [-List.map_map, b_is_house_of, kk, isTup_tup, h4', e1]
        · have e0 := isTup_no ha fun xs h => ta ⟨xs, h⟩
          have e1 : isH (k + 1) (.tup [a, b]) = false := by
            cases a <;> first | rfl | exact absurd ⟨_, rfl⟩ ta
          simp [-List.map_map, b_is_house_of, kk, isTup_tup, e0, e1]
      · have e1 := isH_len (k := k + 1) hl
        have hl' : ((xs.length : Int) != 2) = true := by rw [bne_iff_ne]; omega
        simp [-List.map_map, b_is_house_of, kk, isTup_tup, hl', e1]
    · have e0 := isTup_no hd fun xs h => t ⟨xs, h⟩
      have e1 : isH (k + 1) d = false := by
        cases d <;> first | rfl | exact absurd ⟨_, rfl⟩ t
      simp [-List.map_map, b_is_house_of, kk, e0, e1]
theorem is_house_ok {d : D} (h : Pl d) : f_is_house [(.val, d)] = .ok (.val, .bl (isH 8 d)) := by
  have := house_ok 8 24 (by decide) d h
  rw [f_is_house, run_fin]
  have e : ((8 : Nat) : Int) = 8 := rfl
  rw [e] at this
  simp [b_is_house, this]
end VF
end
section
set_option linter.all false
set_option maxRecDepth 100000
namespace VL
open PySem PySem.Spec PyProof.Rows L2
/-! ### usort: its facts -/
theorem more1_nodup {xs : List Str} {x : Str} (h : xs.Nodup) : (more1 xs x).Nodup := by
  unfold more1
  split
  · exact h
  · rename_i hx
    rw [List.nodup_append]
    refine ⟨h, by simp, fun y hy z hz => ?_⟩
    rw [List.mem_singleton.mp hz]
    exact fun q => hx (q ▸ hy)
theorem fold_nodup : ∀ (ys acc : List Str), acc.Nodup → (ys.foldl more1 acc).Nodup
  | [], _, h => h
  | y :: ys, acc, h => fold_nodup ys _ (more1_nodup h)
theorem once1_nodup (ys : List Str) : (once1 ys).Nodup := fold_nodup ys [] .nil
theorem mem_more1 {xs : List Str} {x y : Str} : y ∈ more1 xs x ↔ y ∈ xs ∨ y = x := by
  unfold more1
  split
  · rename_i h
    exact ⟨.inl, fun q => q.elim id fun e => e ▸ h⟩
  · rw [List.mem_append, List.mem_singleton]
theorem mem_fold : ∀ (ys acc : List Str) (y : Str), y ∈ ys.foldl more1 acc ↔ y ∈ acc ∨ y ∈ ys
  | [], _, _ => by simp
  | x :: ys, acc, y => by
    rw [List.foldl_cons, mem_fold ys, mem_more1, List.mem_cons, or_assoc]
theorem mem_once1 {ys : List Str} {y : Str} : y ∈ once1 ys ↔ y ∈ ys := by
  unfold once1
  rw [mem_fold]
  simp
theorem mem_usort {ys : List Str} {y : Str} : y ∈ usort ys ↔ y ∈ ys := by
  unfold usort
  rw [(sortT_perm _).mem_iff, mem_once1]
theorem usort_nodup (ys : List Str) : (usort ys).Nodup := (sortT_perm _).nodup_iff.mpr (once1_nodup ys)
theorem usort_sorted (ys : List Str) : (usort ys).Pairwise tLe := sortT_sorted _
theorem usort_len (ys : List Str) : (usort ys).length ≤ ys.length := by
  have h := once_len ys []
  unfold usort
  rw [(sortT_perm _).length_eq]
  unfold once1
  simpa using h
/-- rising -/
def Rise (ys : List Str) : Prop := ys.Pairwise fun a b => tlt a b = true
theorem tlt_irrefl (a : Str) : tlt a a = false := tLe_refl a
theorem Rise.nodup {ys : List Str} (h : Rise ys) : ys.Nodup := h.imp fun {a b} k e => by rw [e, tlt_irrefl] at k; cases k
theorem Rise.sorted {ys : List Str} (h : Rise ys) : ys.Pairwise tLe := h.imp fun k => tLe_of_lt k
theorem rise_of {ys : List Str} (h : ys.Pairwise tLe) (n : ys.Nodup) : Rise ys := (h.and n).imp fun ⟨a, b⟩ => tlt_of_le a b
theorem usort_rise (ys : List Str) : Rise (usort ys) := rise_of (usort_sorted ys) (usort_nodup ys)
theorem once1_id : ∀ (ys acc : List Str), (acc ++ ys).Nodup → ys.foldl more1 acc = acc ++ ys
  | [], acc, _ => by simp
  | y :: ys, acc, h => by
    have hy : y ∉ acc := fun z => by
      rw [List.nodup_append] at h
      exact h.2.2 y z y List.mem_cons_self rfl
    rw [List.foldl_cons, more1, if_neg hy, once1_id ys (acc ++ [y]) (by simpa using h)]
    simp
theorem usort_id {ys : List Str} (h : Rise ys) : usort ys = ys := by
  unfold usort
  have e : once1 ys = ys := by
    unfold once1
    rw [once1_id ys [] (by simpa using h.nodup)]
    rfl
  rw [e]
  exact sort_unique (sortT_perm _) (sortT_sorted _) h.sorted
theorem rise_iff {ys : List Str} : ys = usort ys ↔ Rise ys := ⟨fun h => by rw [h]; exact usort_rise _, fun h => (usort_id h).symm⟩
theorem rise_eq {xs ys : List Str} (h : Rise xs) (k : Rise ys) (m : ∀ y, y ∈ xs ↔ y ∈ ys) : xs = ys := by
  refine sort_unique ?_ h.sorted k.sorted
  exact (List.perm_ext_iff_of_nodup h.nodup k.nodup).mpr m
end VL
end
section
set_option linter.all false
set_option maxRecDepth 100000
namespace VF
open PySem VL
/-! ### drawn houses -/
def pool : List Str := ["a", "b", "c", "ab", "zz", "q", "longer"]
theorem pool_ok : ∀ s ∈ pool, nameOk s = true := by decide +kernel
theorem pool_ix {z : Int} (h0 : 0 ≤ z) (h : z < 7) : ∃ s, dIx (.lst [.str "a", .str "b", .str "c", .str "ab", .str "zz", .str "q", .str "longer"]) (.int z) = .ok (.str s) ∧ nameOk s = true := by
  have hl : z.toNat < pool.length := by show z.toNat < 7; omega
  refine ⟨pool[z.toNat], ?_, pool_ok _ (List.getElem_mem hl)⟩
  exact ix_lst (xs := pool.map .str) h0 (by rw [List.getElem?_map, List.getElem?_eq_getElem hl]; rfl)
/-- a good house, so deep at most -/
def GH : Nat → D → Prop
  | 0, _ => False
  | k + 1, d => ∃ ys ps, d = .tup [.tup (ys.map .str), .tup ps] ∧ ys.length ≤ 3 ∧ (∀ y ∈ ys, nameOk y = true) ∧ Rise ys ∧ ps.length ≤ 3 ∧ ∀ p ∈ ps, (∃ s, p = .str s ∧ nameOk s = true) ∨ GH k p
theorem strs_of {P : D → Prop} : ∀ {ds : List D}, (∀ d ∈ ds, ∃ s, d = .str s ∧ nameOk s = true) → ∃ ys : List Str, ds = ys.map .str ∧ ∀ y ∈ ys, nameOk y = true
  | [], _ => ⟨[], rfl, by simp⟩
  | d :: ds, h => by
    obtain ⟨s, rfl, hs⟩ := h d List.mem_cons_self
    obtain ⟨ys, rfl, hy⟩ := strs_of (P := P) fun d hd => h d (List.mem_cons_of_mem _ hd)
    refine ⟨s :: ys, rfl, fun y hy' => ?_⟩
    rcases List.mem_cons.mp hy' with e | e
    · subst e; exact hs
    · exact hy y e
theorem line3 {n : Nat} (h : n ≤ 1000) : n ≤ sizeLine := Nat.le_trans h (by decide)
theorem small_line : 1000 ≤ sizeLine := by decide
def Shape (P : D → Prop) (d : D) : Prop := ∃ ys ps, d = .tup [.tup (ys.map .str), .tup ps] ∧ ys.length ≤ 3 ∧ (∀ y ∈ ys, nameOk y = true) ∧ Rise ys ∧ ps.length ≤ 3 ∧ ∀ p ∈ ps, (∃ s, p = .str s ∧ nameOk s = true) ∨ P p
theorem drawn_step (ns : List Int) (F : Fn) (P : D → Prop) (deep at_ : Int) (ha : 0 ≤ at_) (hd : 1 ≤ deep) (rec : 1 < deep → ∀ a : Int, 0 ≤ a → ∃ h, F [scr ns, num a, num (deep - 1)] = .ok (.val, h) ∧ P h) :
    ∃ h, runB 7 (b_law_house F) [scr ns, num at_, num deep] = .ok (.val, h) ∧ Shape P h := by
  rw [run_fin]
  obtain ⟨z1, q1, a1, b1⟩ := pick_ok ns (k := at_) (m := 4) ha (by decide)
  obtain ⟨z2, q2, a2, b2⟩ := pick_ok ns (k := at_ + 5) (m := 4) (by omega) (by decide)
  have hz1 : dRange (.int z1) = .ok (rangeD 0 z1.toNat) := range_int (by omega) (by have := small_line; omega)
  have hz2 : dRange (.int z2) = .ok (rangeD 0 z2.toNat) := range_int (by omega) (by have := small_line; omega)
  have hs7 : 7 ≤ sizeLine := line3 (by decide)
  have hs2 : 2 ≤ sizeLine := line3 (by decide)
  obtain ⟨nms, en, ln, gn⟩ := comp_ex (tg := gN 6) (t := tYes2) (e := b_law_house_c1 F)
    (ρ := [some (scr ns), some (num at_), some (num deep), some (.val, .lst [.str "a", .str "b", .str "c", .str "ab", .str "zz", .str "q", .str "longer"]), none, none, none]) (ds := rangeD 0 z1.toNat) (P := fun d => ∃ s, d = .str s ∧ nameOk s = true) (fun d hd' => by
      obtain ⟨i, hi, rfl⟩ := range_mem hd'
      obtain ⟨z, e, h0, h1⟩ := pick_ok ns (k := at_ + 1 + (0 + (i : Nat))) (m := 6) (by omega) (by decide)
      obtain ⟨s, es, hs⟩ := pool_ix h0 (by omega)
      refine ⟨_, .str s, rfl, rfl, ?_, s, rfl, hs⟩
      simp only [Int.zero_add] at e
      simp [b_law_house_c1, e, es])
  obtain ⟨ys, rfl, hy⟩ := strs_of (P := fun _ => True) gn
  have lys : ys.length ≤ 3 := by
    rw [List.length_map, range_len] at ln
    omega
  have q3 : dSortSet (.lst (ys.map .str)) = .ok (.own, .lst ((usort ys).map .str)) := by
    unfold dSortSet setTx
    simp only [txts_map, if_pos (show ys.length ≤ 1000 by omega)]
  let I : List D → Rho → Prop := fun r ρ => ∃ m ps, ρ = [some (scr ns), some (num at_), some (num deep), some (.val, .lst [.str "a", .str "b", .str "c", .str "ab", .str "zz", .str "q", .str "longer"]), some (.val, .lst (ys.map .str)), some (.own, .lst ps), m] ∧ ps.length + r.length ≤ 3 ∧
    (∀ p ∈ ps, (∃ s, p = .str s ∧ nameOk s = true) ∨ P p) ∧ ∀ d ∈ r, ∃ i : Nat, d = .int i
  obtain ⟨ρ', ef, m, ps, rfl, lp, gp, _⟩ := for_inv (tg := gN 6) (body := b_law_house_l1 F) (I := I) (ds := rangeD 0 z2.toNat) (ρ := [some (scr ns), some (num at_), some (num deep), some (.val, .lst [.str "a", .str "b", .str "c", .str "ab", .str "zz", .str "q", .str "longer"]), some (.val, .lst (ys.map .str)), some (.own, .lst []), none])
    ⟨none, [], rfl, by rw [range_len, List.length_nil]; omega, by simp, fun d hd' => by obtain ⟨i, _, rfl⟩ := range_mem hd'; exact ⟨i, by simp⟩⟩
    (fun d r ρ h => by
      obtain ⟨m, ps, rfl, lp, gp, gr⟩ := h
      obtain ⟨i, rfl⟩ := gr d List.mem_cons_self
      obtain ⟨z, q4, h0, h1⟩ := pick_ok ns (k := at_ + 6 + (i : Nat)) (m := 5) (by omega) (by decide)
      rw [List.length_cons] at lp
      have hl : ps.length < sizeLine := by have := small_line; omega
      have fin : ∀ p, ((∃ s, p = .str s ∧ nameOk s = true) ∨ P p) → I r [some (scr ns), some (num at_), some (num deep), some (.val, .lst [.str "a", .str "b", .str "c", .str "ab", .str "zz", .str "q", .str "longer"]), some (.val, .lst (ys.map .str)), some (.own, .lst (ps ++ [p])), some (.val, .int i)] := fun p hp =>
        ⟨_, ps ++ [p], rfl, by rw [List.length_append, List.length_singleton]; omega, fun x hx => by
          rcases List.mem_append.mp hx with e | e
          · exact gp x e
          · rw [List.mem_singleton.mp e]; exact hp, fun x hx => gr x (List.mem_cons_of_mem _ hx)⟩
      by_cases c : 1 < deep ∧ z < 2
      · obtain ⟨h, q5, gh⟩ := rec c.1 (at_ + 20 + 70 * (i : Nat) + 11 * deep) (by omega)
        refine ⟨_, _, rfl, .inl ?_, fin h (.inr gh)⟩
        have hd' : ((-18446744073709551616 : Int) < 11 ∧ (11 : Int) < 18446744073709551616) := by decide
        simp [b_law_house_l1, c.1, c.2, q4, mul_l, q5, hl]
      · obtain ⟨z3, q5, h2, h3⟩ := pick_ok ns (k := at_ + 10 + (i : Nat)) (m := 7) (by omega) (by decide)
        obtain ⟨s, es, hs⟩ := pool_ix h2 h3
        refine ⟨_, _, rfl, .inl ?_, fin (.str s) (.inl ⟨s, rfl, hs⟩)⟩
        by_cases c1 : 1 < deep
        · have c2 : ¬ z < 2 := fun q => c ⟨c1, q⟩
          simp [b_law_house_l1, c1, c2, q4, q5, es, hl]
        · simp [b_law_house_l1, c1, q5, es, hl])
  refine ⟨.tup [.tup ((usort ys).map .str), .tup ps], ?_, usort ys, ps, rfl, by have := usort_len ys; omega, fun y h => hy y (mem_usort.mp h), usort_rise ys, by rw [List.length_nil] at lp; omega, gp⟩
  simp [b_law_house, hs7, hs2, q1, hz1, en, q2, hz2, ef, q3]
theorem drawn_ok (ns : List Int) : ∀ (k n : Nat), k ≤ n → 1 ≤ k → ∀ at_ : Int, 0 ≤ at_ → ∃ h, f_law_house n [scr ns, num at_, num k] = .ok (.val, h) ∧ GH k h := by
  intro k
  induction k with
  | zero => intro n _ h; omega
  | succ k ih =>
    intro n hn _ at_ ha
    obtain ⟨n, rfl⟩ : ∃ m, n = m + 1 := ⟨n - 1, by omega⟩
    rw [f_law_house]
    exact drawn_step ns (f_law_house n) (GH k) ((k + 1 : Nat) : Int) at_ ha (by omega) fun h a h0 => by
      have e : ((k + 1 : Nat) : Int) - 1 = (k : Int) := by omega
      rw [e]
      exact ih n (by omega) (by omega) a h0
end VF
end
section
set_option linter.all false
set_option maxRecDepth 100000
namespace VF
open PySem VL
/-! ### plain data made -/
theorem plN_mono : ∀ {n m : Nat} {d : D}, plN n d = true → n ≤ m → plN m d = true := by
  intro n
  induction n with
  | zero => intro m d h hm; cases m <;> cases d <;> simp_all [plN]
  | succ n ih =>
    intro m d h hm
    cases m with
    | zero => omega
    | succ m =>
      cases d <;> simp_all only [plN]
      all_goals
        rw [List.all_eq_true] at h ⊢
        exact fun x hx => ih (h x hx) (by omega)
theorem pl_all : ∀ {xs : List D}, (∀ x ∈ xs, Pl x) → ∃ n, xs.all (plN n) = true
  | [], _ => ⟨0, rfl⟩
  | x :: xs, h => by
    obtain ⟨n, hn⟩ := h x List.mem_cons_self
    obtain ⟨m, hm⟩ := pl_all fun y hy => h y (List.mem_cons_of_mem _ hy)
    refine ⟨max n m, ?_⟩
    rw [List.all_cons, plN_mono hn (Nat.le_max_left _ _), Bool.true_and, List.all_eq_true]
    exact fun y hy => plN_mono (List.all_eq_true.mp hm y hy) (Nat.le_max_right _ _)
theorem pl_tup {xs : List D} (h : ∀ x ∈ xs, Pl x) : Pl (.tup xs) := let ⟨n, hn⟩ := pl_all h; ⟨n + 1, by simpa [plN] using hn⟩
theorem pl_lst {xs : List D} (h : ∀ x ∈ xs, Pl x) : Pl (.lst xs) := let ⟨n, hn⟩ := pl_all h; ⟨n + 1, by simpa [plN] using hn⟩
theorem pl_non : Pl .non := ⟨0, rfl⟩
theorem pl_int (i : Int) : Pl (.int i) := ⟨0, rfl⟩
theorem pl_bl (i : Bool) : Pl (.bl i) := ⟨0, rfl⟩
theorem pl_str {s : Str} (h : s.length ≤ sizeLine) : Pl (.str s) := ⟨0, by simpa [plN] using h⟩
theorem pl_strS {s : Str} (h : s.length ≤ 1000) : Pl (.str s) := pl_str (line3 h)
theorem nameOk_len {s : Str} (h : nameOk s = true) : s.length ≤ 6 := by
  unfold nameOk at h
  simp only [Bool.and_eq_true, decide_eq_true_eq] at h
  exact h.2.1
theorem pl_name {s : Str} (h : nameOk s = true) : Pl (.str s) := pl_strS (by have := nameOk_len h; omega)
theorem pl_names {ys : List Str} (h : ∀ y ∈ ys, nameOk y = true) : Pl (.tup (ys.map .str)) := pl_tup fun x hx => by
  obtain ⟨y, hy, rfl⟩ := List.mem_map.mp hx
  exact pl_name (h y hy)
theorem pl_cons {x : D} {xs : List D} (h : Pl x) (k : ∀ y ∈ xs, Pl y) : ∀ y ∈ x :: xs, Pl y := fun y hy => by
  rcases List.mem_cons.mp hy with e | e
  · rw [e]; exact h
  · exact k y e
theorem pl_nil : ∀ y ∈ ([] : List D), Pl y := by simp
theorem pl_app {xs ys : List D} (h : ∀ y ∈ xs, Pl y) (k : ∀ y ∈ ys, Pl y) : ∀ y ∈ xs ++ ys, Pl y := fun y hy => by
  rcases List.mem_append.mp hy with e | e
  · exact h y e
  · exact k y e
theorem GH.pl : ∀ {k : Nat} {d : D}, GH k d → Pl d := by
  intro k
  induction k with
  | zero => intro d h; exact h.elim
  | succ k ih =>
    rintro d ⟨ys, ps, rfl, _, hy, _, _, hp⟩
    refine pl_tup (pl_cons (pl_names hy) (pl_cons (pl_tup fun p h => ?_) pl_nil))
    rcases hp p h with ⟨s, rfl, hs⟩ | h
    · exact pl_name hs
    · exact ih h
theorem all_names {ys : List Str} (h : ∀ y ∈ ys, nameOk y = true) : (ys.map D.str).all isNm = true := by
  rw [List.all_eq_true]
  intro x hx
  obtain ⟨y, hy, rfl⟩ := List.mem_map.mp hx
  exact h y hy
theorem riseD_of {ys : List Str} (h : Rise ys) : riseD (ys.map .str) = true := by
  unfold riseD
  rw [txts_map]
  exact decide_eq_true (rise_iff.mpr h)
theorem GH.isH : ∀ {k : Nat} {d : D}, GH k d → ∀ j, k ≤ j → VF.isH j d = true := by
  intro k
  induction k with
  | zero => intro d h; exact h.elim
  | succ k ih =>
    rintro d ⟨ys, ps, rfl, ly, hy, hr, lp, hp⟩ j hj
    obtain ⟨j, rfl⟩ : ∃ i, j = i + 1 := ⟨j - 1, by omega⟩
    unfold VF.isH
    rw [List.length_map, decide_eq_true (by omega : ys.length ≤ 4), all_names hy, riseD_of hr, decide_eq_true (by omega : ps.length ≤ 6)]
    simp only [Bool.true_and]
    rw [List.all_eq_true]
    intro p h
    rcases hp p h with ⟨s, rfl, hs⟩ | h
    · rw [show isNm (.str s) = true from hs]; rfl
    · rw [ih h j (by omega), Bool.or_true]
/-! ### spoilt ones -/
def Spoilt (d : D) : Prop := isNm d = false ∧ ∀ j, isH j d = false
theorem spoilt_tup {xs : List D} (h : ∀ j, isH j (.tup xs) = false) : Spoilt (.tup xs) := ⟨rfl, h⟩
theorem spoilt_len {xs : List D} (h : ¬ xs.length = 2) : Spoilt (.tup xs) := spoilt_tup fun _ => isH_len h
theorem isH_names {ns : List D} {b : D} (h : (ns.all isNm && riseD ns) = false) (j : Nat) : isH j (.tup [.tup ns, b]) = false := by
  cases j with
  | zero => rfl
  | succ j =>
    cases b with
    | tup ps =>
      unfold isH
      rw [← Bool.and_assoc (ns.all isNm), h, Bool.false_and, Bool.and_false]
    | _ => rfl
theorem isH_part {a : D} {ps : List D} {p : D} (hp : p ∈ ps) (h : Spoilt p) (j : Nat) : isH j (.tup [a, .tup ps]) = false := by
  cases j with
  | zero => rfl
  | succ j =>
    cases a with
    | tup ns =>
      unfold isH
      have e : (ps.all fun p => isNm p || isH j p) = false := by
        rw [List.all_eq_false]
        exact ⟨p, hp, by rw [h.1, h.2 j]; simp⟩
      rw [e]
      simp
    | _ => rfl
theorem isH_a {a b : D} (h : ∀ ns, a ≠ .tup ns) (j : Nat) : isH j (.tup [a, b]) = false := by
  cases j with
  | zero => rfl
  | succ j =>
    cases a with
    | tup ns => exact absurd rfl (h ns)
    | _ => rfl
theorem isH_b {a b : D} (h : ∀ ns, b ≠ .tup ns) (j : Nat) : isH j (.tup [a, b]) = false := by
  cases j with
  | zero => rfl
  | succ j =>
    cases b with
    | tup ns => exact absurd rfl (h ns)
    | _ => cases a <;> rfl
theorem isH_notup {d : D} (h : ∀ ns, d ≠ .tup ns) (j : Nat) : isH j d = false := by
  cases j with
  | zero => rfl
  | succ j =>
    cases d with
    | tup ns => exact absurd rfl (h ns)
    | _ => rfl
theorem all_bad {ns : List D} {x : D} (hx : x ∈ ns) (h : isNm x = false) : (ns.all isNm && riseD ns) = false := by
  rw [show ns.all isNm = false from List.all_eq_false.mpr ⟨x, hx, by rw [h]; simp⟩]
  rfl
def badOnes (ns ps : List D) : List D := [.lst [.tup ns, .tup ps], .tup [.tup ns], .tup [.tup ns, .tup ps, .tup []], .tup [.lst ns, .tup ps], .tup [.tup ns, .lst ps], .tup [.non, .tup ps], .non,
  .tup [.tup ns, .non], .tup [.tup (ns ++ [.str "A"]), .tup ps], .tup [.tup ([.str ""] ++ ns), .tup ps], .tup [.tup (ns ++ [.str "abcdefg"]), .tup ps], .int 0, .tup [],
  .tup [.tup [.str "a", .str "a"], .tup ps], .tup [.tup [.str "b", .str "a"], .tup ps], .tup [.tup (ns ++ [.non]), .tup ps], .tup [.tup (ns ++ [.int 1]), .tup ps], .bl true,
  .tup [.tup ns, .tup (ps ++ [.str "A"])], .tup [.tup ns, .tup (ps ++ [.str ""])], .tup [.tup ns, .tup ([.non] ++ ps)], .tup [.tup ns, .tup (ps ++ [.int 0])],
  .tup [.tup ns, .tup (ps ++ [.tup []])], .tup [.tup ns, .tup (ps ++ [.str "abcdefg"])], .tup [.tup ns, .tup (ps ++ [.tup [.str "a"]])], .str "a1", .lst [.tup ns]]
theorem nm_A : isNm (.str "A") = false := by decide +kernel
theorem nm_0 : isNm (.str "") = false := by decide +kernel
theorem nm_7 : isNm (.str "abcdefg") = false := by decide +kernel
theorem nm_a1 : isNm (.str "a1") = false := by decide +kernel
theorem sp_str {s : Str} (h : isNm (.str s) = false) : Spoilt (.str s) := ⟨h, isH_notup (by simp)⟩
theorem badOnes_ok (ns ps : List D) : ∀ d ∈ badOnes ns ps, Spoilt d := by
  intro d hd
  have ap : ∀ {x : D} {l : List D}, x ∈ l ++ [x] := by simp
  simp only [badOnes, List.mem_cons, List.not_mem_nil, or_false] at hd
  rcases hd with rfl | rfl | rfl | rfl | rfl | rfl | rfl | rfl | rfl | rfl | rfl | rfl | rfl | rfl | rfl | rfl | rfl | rfl | rfl | rfl | rfl | rfl | rfl | rfl | rfl | rfl | rfl
  · exact ⟨rfl, isH_notup (by simp)⟩
  · exact spoilt_len (by simp)
  · exact spoilt_len (by simp)
  · exact spoilt_tup (isH_a (by simp))
  · exact spoilt_tup (isH_b (by simp))
  · exact spoilt_tup (isH_a (by simp))
  · exact ⟨rfl, isH_notup (by simp)⟩
  · exact spoilt_tup (isH_b (by simp))
  · exact spoilt_tup (isH_names (all_bad ap nm_A))
  · exact spoilt_tup (isH_names (all_bad (x := .str "") (by simp) nm_0))
  · exact spoilt_tup (isH_names (all_bad ap nm_7))
  · exact ⟨rfl, isH_notup (by simp)⟩
  · exact spoilt_len (by simp)
  · exact spoilt_tup (isH_names (by decide +kernel))
  · exact spoilt_tup (isH_names (by decide +kernel))
  · exact spoilt_tup (isH_names (all_bad ap rfl))
  · exact spoilt_tup (isH_names (all_bad ap rfl))
  · exact ⟨rfl, isH_notup (by simp)⟩
  · exact spoilt_tup (isH_part ap (sp_str nm_A))
  · exact spoilt_tup (isH_part ap (sp_str nm_0))
  · exact spoilt_tup (isH_part (p := .non) (by simp) ⟨rfl, isH_notup (by simp)⟩)
  · exact spoilt_tup (isH_part ap ⟨rfl, isH_notup (by simp)⟩)
  · exact spoilt_tup (isH_part ap (spoilt_len (by simp)))
  · exact spoilt_tup (isH_part ap (sp_str nm_7))
  · exact spoilt_tup (isH_part ap (spoilt_len (by simp)))
  · exact sp_str nm_a1
  · exact ⟨rfl, isH_notup (by simp)⟩
theorem badOnes_pl {ns ps : List D} (hn : ∀ x ∈ ns, Pl x) (hp : ∀ x ∈ ps, Pl x) : ∀ d ∈ badOnes ns ps, Pl d := by
  intro d hd
  have sA : Pl (.str "A") := pl_strS (by decide +kernel)
  have s0 : Pl (.str "") := pl_strS (by decide +kernel)
  have s7 : Pl (.str "abcdefg") := pl_strS (by decide +kernel)
  have s1 : Pl (.str "a1") := pl_strS (by decide +kernel)
  have sa : Pl (.str "a") := pl_strS (by decide +kernel)
  have sb : Pl (.str "b") := pl_strS (by decide +kernel)
  have tn := pl_tup hn
  have tp := pl_tup hp
  have two : ∀ {a b : D}, Pl a → Pl b → Pl (.tup [a, b]) := fun ha hb => pl_tup (pl_cons ha (pl_cons hb pl_nil))
  have an : ∀ {x : D}, Pl x → Pl (.tup (ns ++ [x])) := fun h => pl_tup (pl_app hn (pl_cons h pl_nil))
  have apx : ∀ {x : D}, Pl x → Pl (.tup (ps ++ [x])) := fun h => pl_tup (pl_app hp (pl_cons h pl_nil))
  simp only [badOnes, List.mem_cons, List.not_mem_nil, or_false] at hd
  rcases hd with rfl | rfl | rfl | rfl | rfl | rfl | rfl | rfl | rfl | rfl | rfl | rfl | rfl | rfl | rfl | rfl | rfl | rfl | rfl | rfl | rfl | rfl | rfl | rfl | rfl | rfl | rfl
  · exact pl_lst (pl_cons tn (pl_cons tp pl_nil))
  · exact pl_tup (pl_cons tn pl_nil)
  · exact pl_tup (pl_cons tn (pl_cons tp (pl_cons (pl_tup pl_nil) pl_nil)))
  · exact two (pl_lst hn) tp
  · exact two tn (pl_lst hp)
  · exact two pl_non tp
  · exact pl_non
  · exact two tn pl_non
  · exact two (an sA) tp
  · exact two (pl_tup (pl_cons s0 hn)) tp
  · exact two (an s7) tp
  · exact pl_int 0
  · exact pl_tup pl_nil
  · exact two (two sa sa) tp
  · exact two (two sb sa) tp
  · exact two (an pl_non) tp
  · exact two (an (pl_int 1)) tp
  · exact pl_bl true
  · exact two tn (apx sA)
  · exact two tn (apx s0)
  · exact two tn (pl_tup (pl_cons pl_non hp))
  · exact two tn (apx (pl_int 0))
  · exact two tn (apx (pl_tup pl_nil))
  · exact two tn (apx s7)
  · exact two tn (apx (pl_tup (pl_cons sa pl_nil)))
  · exact s1
  · exact pl_lst (pl_cons tn pl_nil)
theorem bad_house_ok {ns ps : List D} (hn : ns.length ≤ 3) (hp : ps.length ≤ 3) (c : Int) : ∃ d, f_law_bad_house [(.val, .tup [.tup ns, .tup ps]), num c] = .ok (.val, d) ∧ d ∈ badOnes ns ps := by
  have c0 : 0 ≤ c % 27 := Int.emod_nonneg _ (by decide)
  have c1 : c % 27 < 27 := Int.emod_lt_of_pos _ (by decide)
  have hl : (c % 27).toNat < (badOnes ns ps).length := by show _ < 27; omega
  refine ⟨(badOnes ns ps)[(c % 27).toNat], ?_, List.getElem_mem hl⟩
  have e := ix_lst (xs := badOnes ns ps) c0 (List.getElem?_eq_getElem hl)
  have s : ∀ n : Nat, n ≤ 1000 → n ≤ sizeLine := fun n h => line3 h
  have s1 := s 1 (by decide)
  have s2 := s 2 (by decide)
  have s3 := s 3 (by decide)
  have s4 := s 4 (by decide)
  have s5 := s 5 (by decide)
  have s6 := s 6 (by decide)
  have s7 := s 7 (by decide)
  have t13 := s (7 + 6) (by decide)
  have t18 := s (13 + 5) (by decide)
  have t22 := s (18 + 4) (by decide)
  have t27 := s (22 + 5) (by decide)
  have a1 : ∀ x, dAdd (.tup ns) (.tup [x]) = .ok (.val, .tup (ns ++ [x])) := fun x => add_tup (s _ (by rw [List.length_singleton]; omega))
  have a2 : ∀ x, dAdd (.tup ps) (.tup [x]) = .ok (.val, .tup (ps ++ [x])) := fun x => add_tup (s _ (by rw [List.length_singleton]; omega))
  have a3 : ∀ x, dAdd (.tup [x]) (.tup ns) = .ok (.val, .tup ([x] ++ ns)) := fun x => add_tup (s _ (by rw [List.length_singleton]; omega))
  have a4 : ∀ x, dAdd (.tup [x]) (.tup ps) = .ok (.val, .tup ([x] ++ ps)) := fun x => add_tup (s _ (by rw [List.length_singleton]; omega))
  rw [f_law_bad_house, run_fin]
  generalize (badOnes ns ps)[(c % 27).toNat] = res at e
  simp only [badOnes] at e
  simp [b_law_bad_house, s1, s2, s3, s4, s5, s6, s7, t13, t18, t22, t27, a1, a2, a3, a4, mod_int]
  simp at e
  rw [e]
  rfl
end VF
end
section
set_option linter.all false
set_option maxRecDepth 100000
namespace VF
open PySem VL
/-! ### spoilt at any house -/
def isStrD : D → Bool
  | .str _ => true
  | _ => false
/-- the places of what is no text -/
def inner : Nat → List D → List Int
  | _, [] => []
  | i, p :: ps => if isStrD p = true then inner (i + 1) ps else (i : Int) :: inner (i + 1) ps
theorem inner_mem : ∀ {ps : List D} {i : Nat} {z : Int}, z ∈ inner i ps → ∃ j p, z = ((i + j : Nat) : Int) ∧ ps[j]? = some p ∧ isStrD p = false
  | [], _, _, h => by simp [inner] at h
  | p :: ps, i, z, h => by
    unfold inner at h
    split at h
    · obtain ⟨j, q, h1, h2, h3⟩ := inner_mem h
      exact ⟨j + 1, q, by rw [h1]; omega, by simpa using h2, h3⟩
    · rename_i hp
      rcases List.mem_cons.mp h with e | e
      · exact ⟨0, p, by rw [e]; rfl, rfl, by simpa using hp⟩
      · obtain ⟨j, q, h1, h2, h3⟩ := inner_mem e
        exact ⟨j + 1, q, by rw [h1]; omega, by simpa using h2, h3⟩
theorem comp_inner {ρ : Rho} {el : FB} {t : FT} {tg : FG} (h : ∀ (i : Nat) (p : D), ∃ ρ1, tg (.tup [.int i, p]) ρ = some ρ1 ∧ (∀ b, dIsStr p = .ok (.bl b) → t ρ1 = .ok (!b)) ∧ el ρ1 = .ok (.int i)) :
    ∀ (ps : List D) (i : Nat), (∀ p ∈ ps, dIsStr p = .ok (.bl (isStrD p))) → compGo tg t el ρ (enumD i ps) = .ok ((inner i ps).map .int)
  | [], _, _ => rfl
  | p :: ps, i, hp => by
    obtain ⟨ρ1, h1, h2, h3⟩ := h i p
    have h4 := h2 _ (hp p List.mem_cons_self)
    have ih := comp_inner h ps (i + 1) fun q hq => hp q (List.mem_cons_of_mem _ hq)
    unfold enumD compGo
    simp only [h1, h4, ok_bind, h3, ih]
    cases q : isStrD p with
    | true => simp [inner, q]
    | false => simp [inner, q]
theorem with_step (ns : List Int) (F : Fn) (P : D → Prop) (k : Nat) (at_ c : Int) (ha : 0 ≤ at_) {h : D} (gh : Shape P h) (nP : ∀ p, P p → dIsStr p = .ok (.bl false) ∧ isStrD p = false ∧ Pl p)
    (rec : ∀ p, P p → ∃ d, F [(.val, p), scr ns, num (at_ + 2), num c] = .ok (.val, d) ∧ Pl d ∧ Spoilt d) :
    ∃ d, runB 7 (b_law_with F) [(.val, h), scr ns, num at_, num c] = .ok (.val, d) ∧ Pl d ∧ Spoilt d := by
  obtain ⟨ys, ps, rfl, ly, hy, hr, lp, hp⟩ := gh
  have pps : ∀ p ∈ ps, Pl p := fun p h => by
    rcases hp p h with ⟨s, rfl, hs⟩ | h
    · exact pl_name hs
    · exact (nP p h).2.2
  have pns : ∀ p ∈ ys.map D.str, Pl p := fun p h => by
    obtain ⟨y, h1, rfl⟩ := List.mem_map.mp h
    exact pl_name (hy y h1)
  obtain ⟨db, q1, mb⟩ := bad_house_ok (ns := ys.map .str) (ps := ps) (by rw [List.length_map]; exact ly) lp c
  have sb := badOnes_ok _ _ db mb
  have pb := badOnes_pl pns pps db mb
  have ec := comp_inner (ρ := [some (.val, .tup [.tup (ys.map .str), .tup ps]), some (scr ns), some (num at_), some (num c), none, none, none]) (el := b_law_with_c1 F) (t := tNot2 (asT (e1 dIsStr (vrB 6)))) (tg := gT 2 (gCons' (gN 5) (gCons' (gN 6) gNil')))
    (fun i p => ⟨[some (.val, .tup [.tup (ys.map .str), .tup ps]), some (scr ns), some (num at_), some (num c), none, some (.val, .int i), some (.val, p)], by simp, fun b hb => by simp [hb], by simp [b_law_with_c1]⟩) ps 0 (fun p h => by
      rcases hp p h with ⟨s, rfl, hs⟩ | h
      · rfl
      · rw [(nP p h).1, (nP p h).2.1])
  obtain ⟨z, q2, z0, z1⟩ := pick_ok ns (k := at_) (m := 2) ha (by decide)
  have en := eq_nil (ns := inner 0 ps)
  have s0 : 0 ≤ sizeLine := Nat.zero_le _
  have s1 : 1 ≤ sizeLine := line3 (by decide)
  have s2 : 2 ≤ sizeLine := line3 (by decide)
  rw [run_fin]
  by_cases e : (inner 0 ps).isEmpty = true
  · rw [e] at en
    exact ⟨db, by simp [b_law_with, ix_tup1, ec, en, q1], pb, sb⟩
  · rw [Bool.not_eq_true] at e
    rw [e] at en
    by_cases ez : z = 0
    · subst ez
      exact ⟨db, by simp [b_law_with, ix_tup1, ec, en, q2, q1], pb, sb⟩
    · have hlen : (0 : Int) < (inner 0 ps).length := by
        cases q : inner 0 ps with
        | nil => rw [q] at e; cases e
        | cons a b => rw [List.length_cons]; omega
      obtain ⟨j, q3, j0, j1⟩ := pick_ok ns (k := at_ + 1) (m := (inner 0 ps).length) (by omega) hlen
      have jl : j.toNat < (inner 0 ps).length := by omega
      obtain ⟨i, p, hi, hpi, hs⟩ := inner_mem (List.getElem_mem jl)
      rw [Nat.zero_add] at hi
      have q4 : dIx (.lst ((inner 0 ps).map .int)) (.int j) = .ok (.int i) := ix_lst j0 (by rw [List.getElem?_map, List.getElem?_eq_getElem jl, hi]; rfl)
      have hmem := List.mem_of_getElem? hpi
      have hPp : P p := by
        rcases hp p hmem with ⟨s, rfl, _⟩ | h
        · cases hs
        · exact h
      obtain ⟨d, q5, pd, sd⟩ := rec p hPp
      have q6 : dIx (.tup ps) (.int i) = .ok p := ix_tup (by omega) (by simpa using hpi)
      have c1 : cutG ps none (some (i : Int)) = ps.take i := by rw [cut_to (by omega)]; simp
      have c2 : cutG ps (some ((i : Int) + 1)) none = ps.drop (i + 1) := by rw [cut_from (by omega)]; rfl
      have hil : i < ps.length := (List.getElem?_eq_some_iff.mp hpi).1
      have a1 : dAdd (.tup (ps.take i)) (.tup [d]) = .ok (.val, .tup (ps.take i ++ [d])) := add_tup (line3 (by rw [List.length_take, List.length_singleton]; omega))
      have a2 : dAdd (.tup (ps.take i ++ [d])) (.tup (ps.drop (i + 1))) = .ok (.val, .tup (ps.take i ++ [d] ++ ps.drop (i + 1))) := add_tup (line3 (by rw [List.length_append, List.length_take, List.length_singleton, List.length_drop]; omega))
      refine ⟨.tup [.tup (ys.map .str), .tup (ps.take i ++ [d] ++ ps.drop (i + 1))], ?_, ?_, ?_⟩
      · simp only [List.append_assoc] at a2
        simp [b_law_with, ix_tup1, ix_tup0, ec, en, q2, ez, q3, q4, q6, q5, c1, c2, a1, a2, s1, s2]
      · refine pl_tup (pl_cons (pl_tup pns) (pl_cons (pl_tup ?_) pl_nil))
        exact pl_app (pl_app (fun x hx => pps x (List.mem_of_mem_take hx)) (pl_cons pd pl_nil)) fun x hx => pps x (List.mem_of_mem_drop hx)
      · exact spoilt_tup (isH_part (p := d) (by simp) sd)
theorem with_ok (ns : List Int) (c : Int) : ∀ (k n : Nat), k ≤ n → ∀ at_ : Int, 0 ≤ at_ → ∀ h, GH k h → ∃ d, f_law_with n [(.val, h), scr ns, num at_, num c] = .ok (.val, d) ∧ Pl d ∧ Spoilt d := by
  intro k
  induction k with
  | zero => intro n _ a _ h g; exact g.elim
  | succ k ih =>
    intro n hn at_ ha h g
    obtain ⟨n, rfl⟩ : ∃ m, n = m + 1 := ⟨n - 1, by omega⟩
    rw [f_law_with]
    refine with_step ns (f_law_with n) (GH k) k at_ c ha g (fun p hp => ?_) fun p hp => ih n (by omega) (at_ + 2) (by omega) p hp
    refine ⟨?_, ?_, hp.pl⟩
    · cases k with
      | zero => exact hp.elim
      | succ k => obtain ⟨_, _, rfl, _⟩ := hp; rfl
    · cases k with
      | zero => exact hp.elim
      | succ k => obtain ⟨_, _, rfl, _⟩ := hp; rfl
end VF
end
section
set_option linter.all false
set_option maxRecDepth 100000
namespace VF
open PySem VL
def deepD : Nat → D
  | 0 => .tup [.tup [], .tup []]
  | n + 1 => .tup [.tup [], .tup [.str "a", deepD n]]
theorem deep_pl : ∀ n, Pl (deepD n)
  | 0 => pl_tup (pl_cons (pl_tup pl_nil) (pl_cons (pl_tup pl_nil) pl_nil))
  | n + 1 => pl_tup (pl_cons (pl_tup pl_nil) (pl_cons (pl_tup (pl_cons (pl_strS (by decide +kernel)) (pl_cons (deep_pl n) pl_nil))) pl_nil))
theorem deep_for (a b c : Option (Md × D)) : ∀ (ds : List D) (k : Nat) (m : Option (Md × D)), ∃ x, forGo (gN 4) b_law_once_l1 ds [a, b, c, some (.val, deepD k), m] = .nx [a, b, c, some (.val, deepD (k + ds.length)), x]
  | [], k, m => ⟨m, rfl⟩
  | d :: ds, k, m => by
    obtain ⟨x, h⟩ := deep_for a b c ds (k + 1) (some (.val, d))
    have s2 : 2 ≤ sizeLine := line3 (by decide)
    have s0 : 0 ≤ sizeLine := Nat.zero_le _
    refine ⟨x, ?_⟩
    unfold forGo
    have e : b_law_once_l1 [a, b, c, some (.val, deepD k), some (.val, d)] = .nx [a, b, c, some (.val, deepD (k + 1)), some (.val, d)] := by
      simp [b_law_once_l1, s2, deepD]
    simp only [ev_gN, List.set_cons_succ, List.set_cons_zero, e, h, List.length_cons]
    rw [Nat.add_assoc, Nat.add_comm 1]
theorem once_at (ns : List Int) (z : Int) (hz : z = 0 ∨ z = 1 ∨ z = 2) (q : f_law_pick [scr ns, num 611, num 3] = .ok (num z)) : f_law_once [scr ns] = .ok (.val, .bl true) := by
  obtain ⟨h, q1, gh⟩ := drawn_ok ns 3 24 (by decide) (by decide) 0 (by decide)
  obtain ⟨c, q2, c0, c1⟩ := pick_ok ns (k := 610) (m := 1000000) (by decide) (by decide)
  obtain ⟨d, q3, pd, sd⟩ := with_ok ns c 3 24 (by decide) 600 (by decide) h gh
  have q4 := is_house_ok gh.pl
  rw [gh.isH 8 (by decide)] at q4
  have q5 := is_house_ok pd
  rw [sd.2 8] at q5
  have t1 : dNotN (.bl true) (.bl true) = .ok (.bl false) := rfl
  have t2 : dNotN (.bl false) (.bl false) = .ok (.bl false) := rfl
  have t3 : dPow (.int 10) (.int 6) = .ok (.int 1000000) := rfl
  have s : ∀ n : Nat, n ≤ 1000 → n ≤ sizeLine := fun n h => line3 h
  have s0 := s 0 (by decide)
  have s1 := s 1 (by decide)
  have s2 := s 2 (by decide)
  have s5 := s 5 (by decide)
  have e3 : ((3 : Nat) : Int) = 3 := rfl
  rw [e3] at q1
  have str : ∀ x : Str, x.length ≤ 6 → Pl (.str x) := fun x h => pl_strS (by omega)
  have la : ("a" : Str).length ≤ 6 := by decide +kernel
  have lb : ("b" : Str).length ≤ 6 := by decide +kernel
  have lc : ("c" : Str).length ≤ 6 := by decide +kernel
  have ld : ("d" : Str).length ≤ 6 := by decide +kernel
  have le : ("e" : Str).length ≤ 6 := by decide +kernel
  have two : ∀ {a b : D}, Pl a → Pl b → Pl (.tup [a, b]) := fun ha hb => pl_tup (pl_cons ha (pl_cons hb pl_nil))
  have nil : Pl (.tup []) := pl_tup pl_nil
  have as : ∀ n, Pl (.tup (List.replicate n [D.str "a"]).flatten) := fun n => pl_tup fun x hx => by
    obtain ⟨l, h1, h2⟩ := List.mem_flatten.mp hx
    rw [(List.mem_replicate.mp h1).2, List.mem_singleton] at h2
    rw [h2]
    exact str _ la
  rw [f_law_once, run_fin]
  rcases hz with rfl | rfl | rfl
  · have r1 : cutG [D.str "a", .str "b", .str "c", .str "d", .str "e"] none (some 3) = [.str "a", .str "b", .str "c"] := rfl
    have h1 := is_house_ok (two (pl_tup (pl_cons (str _ la) (pl_cons (str _ lb) (pl_cons (str _ lc) pl_nil)))) nil)
    rw [show isH 8 (.tup [.tup [.str "a", .str "b", .str "c"], .tup []]) = true from by decide +kernel] at h1
    have m1 : dMul (.tup [.str "a"]) (.int 5) = .ok (.val, .tup (List.replicate 5 [D.str "a"]).flatten) := rfl
    have h2 := is_house_ok (two nil (as 5))
    rw [show isH 8 (.tup [.tup [], .tup (List.replicate 5 [D.str "a"]).flatten]) = true from by decide +kernel] at h2
    obtain ⟨x, h3⟩ := deep_for (some (scr ns)) (some (.val, h)) (some (num 3)) (rangeD 0 6) 0 none
    have h4 := is_house_ok (deep_pl 6)
    rw [show isH 8 (deepD 6) = true from by decide +kernel] at h4
    rw [range_len] at h3
    replace h3 : forGo (gN 4) b_law_once_l1 (rangeD 0 6) [some (scr ns), some (.val, h), some (num 3), some (.val, .tup [.tup [], .tup []]), none] = .nx [some (scr ns), some (.val, h), some (num 3), some (.val, deepD 6), x] := h3
    have r2 : dRange (.int 6) = .ok (rangeD 0 6) := rfl
    generalize deepD 6 = dd at h3 h4
    generalize (List.replicate 5 [D.str "a"]).flatten = aa at m1 h2
    simp [b_law_once, q1, q4, t1, t3, q2, q3, q5, t2, q, s0, s1, s2, s5, r1, h1, m1, h2, r2, h3, h4]
  · have r1 : cutG [D.str "a", .str "b", .str "c", .str "d", .str "e"] none (some 4) = [.str "a", .str "b", .str "c", .str "d"] := rfl
    have h1 := is_house_ok (two (pl_tup (pl_cons (str _ la) (pl_cons (str _ lb) (pl_cons (str _ lc) (pl_cons (str _ ld) pl_nil))))) nil)
    rw [show isH 8 (.tup [.tup [.str "a", .str "b", .str "c", .str "d"], .tup []]) = true from by decide +kernel] at h1
    have m1 : dMul (.tup [.str "a"]) (.int 6) = .ok (.val, .tup (List.replicate 6 [D.str "a"]).flatten) := rfl
    have h2 := is_house_ok (two nil (as 6))
    rw [show isH 8 (.tup [.tup [], .tup (List.replicate 6 [D.str "a"]).flatten]) = true from by decide +kernel] at h2
    obtain ⟨x, h3⟩ := deep_for (some (scr ns)) (some (.val, h)) (some (num 4)) (rangeD 0 7) 0 none
    have h4 := is_house_ok (deep_pl 7)
    rw [show isH 8 (deepD 7) = true from by decide +kernel] at h4
    rw [range_len] at h3
    replace h3 : forGo (gN 4) b_law_once_l1 (rangeD 0 7) [some (scr ns), some (.val, h), some (num 4), some (.val, .tup [.tup [], .tup []]), none] = .nx [some (scr ns), some (.val, h), some (num 4), some (.val, deepD 7), x] := h3
    have r2 : dRange (.int 7) = .ok (rangeD 0 7) := rfl
    generalize deepD 7 = dd at h3 h4
    generalize (List.replicate 6 [D.str "a"]).flatten = aa at m1 h2
    simp [b_law_once, q1, q4, t1, t3, q2, q3, q5, t2, q, s0, s1, s2, s5, r1, h1, m1, h2, r2, h3, h4]
  · have r1 : cutG [D.str "a", .str "b", .str "c", .str "d", .str "e"] none (some 5) = [.str "a", .str "b", .str "c", .str "d", .str "e"] := rfl
    have h1 := is_house_ok (two (pl_tup (pl_cons (str _ la) (pl_cons (str _ lb) (pl_cons (str _ lc) (pl_cons (str _ ld) (pl_cons (str _ le) pl_nil)))))) nil)
    rw [show isH 8 (.tup [.tup [.str "a", .str "b", .str "c", .str "d", .str "e"], .tup []]) = false from by decide +kernel] at h1
    have m1 : dMul (.tup [.str "a"]) (.int 7) = .ok (.val, .tup (List.replicate 7 [D.str "a"]).flatten) := rfl
    have h2 := is_house_ok (two nil (as 7))
    rw [show isH 8 (.tup [.tup [], .tup (List.replicate 7 [D.str "a"]).flatten]) = false from by decide +kernel] at h2
    obtain ⟨x, h3⟩ := deep_for (some (scr ns)) (some (.val, h)) (some (num 5)) (rangeD 0 8) 0 none
    have h4 := is_house_ok (deep_pl 8)
    rw [show isH 8 (deepD 8) = false from by decide +kernel] at h4
    rw [range_len] at h3
    replace h3 : forGo (gN 4) b_law_once_l1 (rangeD 0 8) [some (scr ns), some (.val, h), some (num 5), some (.val, .tup [.tup [], .tup []]), none] = .nx [some (scr ns), some (.val, h), some (num 5), some (.val, deepD 8), x] := h3
    have r2 : dRange (.int 8) = .ok (rangeD 0 8) := rfl
    generalize deepD 8 = dd at h3 h4
    generalize (List.replicate 7 [D.str "a"]).flatten = aa at m1 h2
    simp [b_law_once, q1, q4, t1, t3, q2, q3, q5, t2, q, s0, s1, s2, s5, r1, h1, m1, h2, r2, h3, h4]
theorem once_ok (ns : List Int) : f_law_once [scr ns] = .ok (.val, .bl true) := by
  obtain ⟨z, q, z0, z1⟩ := pick_ok ns (k := 611) (m := 3) (by decide) (by decide)
  exact once_at ns z (by omega) q
theorem law_true (ns : List Int) : f_law [(.val, .lst (ns.map .int))] = .ok (.val, .bl true) := by
  have r : dRange (.int 10) = .ok (rangeD 0 10) := rfl
  obtain ⟨ρ', h, a, b, rfl⟩ := for_brk (tg := gN 1) (body := b_law_l1) (ds := rangeD 0 10) (ρ := [some (scr ns), none, none]) (I := fun r ρ => (∃ a b, ρ = [some (scr ns), a, b]) ∧ ∀ d ∈ r, ∃ i : Nat, d = .int i) (J := fun ρ => ∃ a b, ρ = [some (scr ns), a, b])
    ⟨⟨none, none, rfl⟩, fun d hd => by obtain ⟨i, _, rfl⟩ := range_mem hd; exact ⟨i, by simp⟩⟩ (fun ρ h => h.1) (fun d r ρ h => by
      obtain ⟨⟨a, b, rfl⟩, hr⟩ := h
      obtain ⟨i, rfl⟩ := hr d List.mem_cons_self
      have ec := VL.comp_map (tg := gN 2) (t := tYes2) (e := b_law_c1) (ρ := [some (scr ns), some (num i), none]) (ds := ns.map .int) (y := fun d => match d with | .int z => .int (z + 7919 * i) | d => d) (fun d hd => by
        obtain ⟨z, _, rfl⟩ := List.mem_map.mp hd
        exact ⟨_, rfl, rfl, by simp [b_law_c1, mul_l]⟩)
      have em : (ns.map D.int).map (fun d => match d with | .int z => D.int (z + 7919 * (i : Int)) | d => d) = (ns.map fun z : Int => z + 7919 * (i : Int)).map D.int := by
        rw [List.map_map, List.map_map]
        rfl
      rw [em] at ec
      have q := once_ok (ns.map fun z : Int => z + 7919 * (i : Int))
      have en := eq_nil (ns := ns)
      have s0 : 0 ≤ sizeLine := Nat.zero_le _
      refine ⟨_, [some (scr ns), some (num i), b], rfl, ?_⟩
      · cases he : ns.isEmpty with
        | true =>
          rw [he] at en
          refine .inr (.inr ⟨?_, _, _, rfl⟩)
          simp [-List.map_map, b_law_l1, ec, q, en]
        | false =>
          rw [he] at en
          refine .inl ⟨?_, ⟨_, _, rfl⟩, fun d hd => hr d (List.mem_cons_of_mem _ hd)⟩
          simp [-List.map_map, b_law_l1, ec, q, en])
  rw [f_law, run_fin]
  simp [b_law, r, h]
end VF
end
section
set_option linter.all false
set_option maxRecDepth 100000
set_option maxHeartbeats 4000000
namespace shorthouse_k01_houses
open PySem PySem.Spec PyProof.Rows L2 VL VF
def top (i : Nat) : Stmt := PySem.Challenge.pw_shorthouse_k01_houses.main.body.getD i (.Pass ⟨0, 0, 0, 0⟩)
abbrev s_is_name : Stmt := top 6
abbrev s_is_part : Stmt := top 7
abbrev s_is_house_of : Stmt := top 8
abbrev s_is_house : Stmt := top 9
abbrev s_law_cell : Stmt := top 11
abbrev s_law_pick : Stmt := top 12
abbrev s_law_house : Stmt := top 13
abbrev s_law_bad_house : Stmt := top 14
abbrev s_law_with : Stmt := top 15
abbrev s_law_once : Stmt := top 16
abbrev s_law : Stmt := top 17
structure Tp (K : PySem.W.Frag) (mg : Str → Option Value) where
  a_is_name : Addr
  d_is_name : FuncData
  F_is_name : Fun K "is_name" "is_name" s_is_name a_is_name d_is_name
  b_is_name : Binds K d_is_name ["thing"] []
  m_is_name : mg "is_name" = some (.ref a_is_name)
  a_is_part : Addr
  d_is_part : FuncData
  F_is_part : Fun K "is_part" "is_part" s_is_part a_is_part d_is_part
  b_is_part : Binds K d_is_part ["thing", "deep"] []
  m_is_part : mg "is_part" = some (.ref a_is_part)
  a_is_house_of : Addr
  d_is_house_of : FuncData
  F_is_house_of : Fun K "is_house_of" "is_house_of" s_is_house_of a_is_house_of d_is_house_of
  b_is_house_of : Binds K d_is_house_of ["thing", "deep"] []
  m_is_house_of : mg "is_house_of" = some (.ref a_is_house_of)
  a_is_house : Addr
  d_is_house : FuncData
  F_is_house : Fun K "is_house" "is_house" s_is_house a_is_house d_is_house
  b_is_house : Binds K d_is_house ["thing"] []
  m_is_house : mg "is_house" = some (.ref a_is_house)
  a_law_cell : Addr
  d_law_cell : FuncData
  F_law_cell : Fun K "_law_cell" "_law_cell" s_law_cell a_law_cell d_law_cell
  b_law_cell : Binds K d_law_cell ["_law_script", "_law_k"] []
  m_law_cell : mg "_law_cell" = some (.ref a_law_cell)
  a_law_pick : Addr
  d_law_pick : FuncData
  F_law_pick : Fun K "_law_pick" "_law_pick" s_law_pick a_law_pick d_law_pick
  b_law_pick : Binds K d_law_pick ["_law_script", "_law_k", "_law_many"] []
  m_law_pick : mg "_law_pick" = some (.ref a_law_pick)
  a_law_house : Addr
  d_law_house : FuncData
  F_law_house : Fun K "_law_house" "_law_house" s_law_house a_law_house d_law_house
  b_law_house : Binds K d_law_house ["_law_script", "_law_at", "_law_deep"] []
  m_law_house : mg "_law_house" = some (.ref a_law_house)
  a_law_bad_house : Addr
  d_law_bad_house : FuncData
  F_law_bad_house : Fun K "_law_bad_house" "_law_bad_house" s_law_bad_house a_law_bad_house d_law_bad_house
  b_law_bad_house : Binds K d_law_bad_house ["_law_house_here", "_law_cell_here"] []
  m_law_bad_house : mg "_law_bad_house" = some (.ref a_law_bad_house)
  a_law_with : Addr
  d_law_with : FuncData
  F_law_with : Fun K "_law_with" "_law_with" s_law_with a_law_with d_law_with
  b_law_with : Binds K d_law_with ["_law_house_here", "_law_script", "_law_at", "_law_cell_here"] []
  m_law_with : mg "_law_with" = some (.ref a_law_with)
  a_law_once : Addr
  d_law_once : FuncData
  F_law_once : Fun K "_law_once" "_law_once" s_law_once a_law_once d_law_once
  b_law_once : Binds K d_law_once ["_law_script"] []
  m_law_once : mg "_law_once" = some (.ref a_law_once)
  a_law : Addr
  d_law : FuncData
  F_law : Fun K "law" "law" s_law a_law d_law
  b_law : Binds K d_law ["_law_script"] []
  m_law : mg "law" = some (.ref a_law)
  z_all : mg "all" = none
  z_enumerate : mg "enumerate" = none
  z_isinstance : mg "isinstance" = none
  z_len : mg "len" = none
  z_list : mg "list" = none
  z_range : mg "range" = none
  z_set : mg "set" = none
  z_sorted : mg "sorted" = none
  z_str : mg "str" = none
  z_tuple : mg "tuple" = none
  t_SMALL : Tok
  c_SMALL : mg "SMALL" = some (.str "abcdefghijklmnopqrstuvwxyz" t_SMALL)
  t_LONGEST : Tok
  c_LONGEST : mg "LONGEST" = some (.int 6 t_LONGEST)
  t_MOST_NAMES : Tok
  c_MOST_NAMES : mg "MOST_NAMES" = some (.int 4 t_MOST_NAMES)
  t_MOST_PARTS : Tok
  c_MOST_PARTS : mg "MOST_PARTS" = some (.int 6 t_MOST_PARTS)
  t_DEEPEST : Tok
  c_DEEPEST : mg "DEEPEST" = some (.int 8 t_DEEPEST)
section
variable {P : Program} {w : World} {K : PySem.W.Frag} {mg : Str → Option Value} {base : Heap} {cl : Cl}
theorem sc_is_name : FnScope ["thing", "sign"] ["thing"] (defScope s_is_name) := ⟨rfl, rfl, rfl, by decide +kernel, rfl, by decide +kernel, by decide +kernel⟩
theorem ok_is_name (T : Tp K mg) : FnOk P w K mg base (L2.CX P w) 1 T.a_is_name T.d_is_name ["thing"] (spF cl 1 f_is_name) :=
  fn_ok T.F_is_name sc_is_name (by decide) fun cdv A outer s H O0 E hr =>
    vss_one (vs_ret (ve_r (vr_and (vr_1c sem_isStr (pe_callB call_isi rfl T.z_isinstance PyProof.Rows.boot_isinstance (pa_cons (b_var (pv 0)) (pa_cons (pe_bltn rfl T.z_str PyProof.Rows.boot_str rfl) pa_nil)))) (vr_and (vr_chain op_le op_le sem_cmp sem_cmp (pe_chain op_le op_le (vb_r (r_int pe_int)) (vb_r (vr_1 sem_len (pe_callB call_len rfl T.z_len PySem.boot_len (pa_cons (b_var (pv 0)) pa_nil)))) (vb_r (r_int (pe_glob rfl T.c_LONGEST ⟨_, rfl⟩))))) (vr_one (vr_1 sem_all (pe_callB (cr_all rfl) rfl T.z_all PyProof.Rows.boot_all (pa_cons (vb_e (ve_lc (pe_lc (own := [("sign", 1)]) rfl sc_is_name.nd (vi_seq (src_b (b_var (pv 0)))) (blkOk_by (by show blkC ["thing", "sign"] (defScope s_is_name) _ _ = true; decide +kernel)) (fun _ _ _ _ _ => vg_name (pg_name (i := 1) sc_is_name.nd rfl (by first | exact .inl rfl | exact .inr rfl))) (fun _ _ _ _ _ => vts_nil) (fun _ _ _ _ _ => vr_cmp (op_in3 (hu65 hr)) sem_in (b_var (pv 1)) (vb_r (r_str (pe_glob rfl T.c_SMALL ⟨_, rfl⟩))) rfl)) (by decide))) pa_nil))))))))
theorem sc_is_part : FnScope ["thing", "deep"] ["thing", "deep"] (defScope s_is_part) := ⟨rfl, rfl, rfl, by decide +kernel, rfl, by decide +kernel, by decide +kernel⟩
theorem sc_is_house_of : FnScope ["thing", "deep", "names", "parts", "name", "part"] ["thing", "deep"] (defScope s_is_house_of) := ⟨rfl, rfl, rfl, by decide +kernel, rfl, by decide +kernel, by decide +kernel⟩
theorem step_is_part (T : Tp K mg) (n : Nat) {F_is_house_of : Fn} (G_is_house_of : FnOk P w K mg base (L2.CX P w) (n + 1) T.a_is_house_of T.d_is_house_of ["thing", "deep"] (spF cl 2 F_is_house_of)) :
    FnOk P w K mg base (L2.CX P w) (n + 1 + 1) T.a_is_part T.d_is_part ["thing", "deep"] (spF cl 2 (runB 2 (b_is_part F_is_house_of))) :=
  fn_ok T.F_is_part sc_is_part (by decide) fun cdv A outer s H O0 E hr =>
    vss_one (vs_ret (ve_r (vr_or (vr_e (ve_call (pe_callS (ok_is_name (cl := cl) T) (hr.mono (by omega)) rfl T.m_is_name T.F_is_name.kp T.b_is_name (passAt (takes_of rfl rfl rfl rfl)) (vas_cons (a_var (pv 0)) vas_nil)) (fun _ _ _ h => h))) (vr_one (vr_e (ve_call (pe_callS G_is_house_of hr rfl T.m_is_house_of T.F_is_house_of.kp T.b_is_house_of (passAt (takes_of rfl rfl rfl rfl)) (vas_cons (a_var (pv 0)) (vas_cons (a_var (pv 1)) vas_nil))) (fun _ _ _ h => h)))))))
theorem step_is_house_of (T : Tp K mg) (n : Nat) {F_is_part : Fn} (G_is_part : FnOk P w K mg base (L2.CX P w) (n + 1) T.a_is_part T.d_is_part ["thing", "deep"] (spF cl 2 F_is_part)) :
    FnOk P w K mg base (L2.CX P w) (n + 1 + 1) T.a_is_house_of T.d_is_house_of ["thing", "deep"] (spF cl 2 (runB 6 (b_is_house_of F_is_part))) :=
  fn_ok T.F_is_house_of sc_is_house_of (by decide) fun cdv A outer s H O0 E hr =>
    vss_cons (vs_if (vt_w (vw_or (vt_cmp (op_eqD (hu64 hr)) sem_eq (b_var (pv 1)) (vb_r (r_int pe_int)) rfl) (vw_or (vt_not (vt_b (vb_r (vr_1c sem_isTup (pe_callB call_isi rfl T.z_isinstance PyProof.Rows.boot_isinstance (pa_cons (b_var (pv 0)) (pa_cons (pe_bltn rfl T.z_tuple PyProof.Rows.boot_tuple rfl) pa_nil))))))) (vw_or1 (vt_cmp (op_neD (hu64 hr)) sem_ne (vb_r (vr_1 sem_len (pe_callB call_len rfl T.z_len PySem.boot_len (pa_cons (b_var (pv 0)) pa_nil)))) (vb_r (r_int pe_int)) rfl))))) (vss_one (vs_ret (ve_r (r_bl pe_bl)))) vss_nil)
    (vss_cons (vs_asg (ps_asg (r_var (pv 0)) (vg_tup (vgs_cons (vg_name (pg_name (i := 2) sc_is_house_of.nd rfl (by first | exact .inl rfl | exact .inr rfl))) (vgs_cons (vg_name (pg_name (i := 3) sc_is_house_of.nd rfl (by first | exact .inl rfl | exact .inr rfl))) vgs_nil)))))
    (vss_cons (vs_if (vt_w (vw_or (vt_not (vt_b (vb_r (vr_1c sem_isTup (pe_callB call_isi rfl T.z_isinstance PyProof.Rows.boot_isinstance (pa_cons (b_var (pv 2)) (pa_cons (pe_bltn rfl T.z_tuple PyProof.Rows.boot_tuple rfl) pa_nil))))))) (vw_or (vt_cmp op_gt sem_cmp (vb_r (vr_1 sem_len (pe_callB call_len rfl T.z_len PySem.boot_len (pa_cons (b_var (pv 2)) pa_nil)))) (vb_r (r_int (pe_glob rfl T.c_MOST_NAMES ⟨_, rfl⟩))) rfl) (vw_or1 (vt_not (vt_b (vb_r (vr_1 sem_all (pe_callB (cr_all rfl) rfl T.z_all PyProof.Rows.boot_all (pa_cons (vb_e (ve_lc (pe_lc (own := [("name", 4)]) rfl sc_is_house_of.nd (vi_seq (src_b (b_var (pv 2)))) (blkOk_by (by show blkC ["thing", "deep", "names", "parts", "name", "part"] (defScope s_is_house_of) _ _ = true; decide +kernel)) (fun _ _ _ _ _ => vg_name (pg_name (i := 4) sc_is_house_of.nd rfl (by first | exact .inl rfl | exact .inr rfl))) (fun _ _ _ _ _ => vts_nil) (fun _ _ _ _ _ => vr_e (ve_call0 (pe_call (ok_is_name (cl := cl) T) (hr.mono (by omega)) rfl T.m_is_name T.F_is_name.kp T.b_is_name .nil passL (vas_cons (a_var (pv 4)) vas_nil))))) (by decide))) pa_nil)))))))))) (vss_one (vs_ret (ve_r (r_bl pe_bl)))) vss_nil)
    (vss_cons (vs_if (vt_cmp (op_neD (hu64 hr)) sem_ne (vb_e (ve_1 sem_list (pe_callTy call_list_of rfl T.z_list PyProof.Rows.boot_list (pa_cons (b_var (pv 2)) pa_nil)))) (vb_e (ve_sortSet rfl rfl T.z_sorted rfl T.z_set (b_var (pv 2)))) rfl) (vss_one (vs_ret (ve_r (r_bl pe_bl)))) vss_nil)
    (vss_cons (vs_if (vt_w (vw_or (vt_not (vt_b (vb_r (vr_1c sem_isTup (pe_callB call_isi rfl T.z_isinstance PyProof.Rows.boot_isinstance (pa_cons (b_var (pv 3)) (pa_cons (pe_bltn rfl T.z_tuple PyProof.Rows.boot_tuple rfl) pa_nil))))))) (vw_or1 (vt_cmp op_gt sem_cmp (vb_r (vr_1 sem_len (pe_callB call_len rfl T.z_len PySem.boot_len (pa_cons (b_var (pv 3)) pa_nil)))) (vb_r (r_int (pe_glob rfl T.c_MOST_PARTS ⟨_, rfl⟩))) rfl)))) (vss_one (vs_ret (ve_r (r_bl pe_bl)))) vss_nil)
    (vss_one (vs_ret (ve_r (vr_1 sem_all (pe_callB (cr_all rfl) rfl T.z_all PyProof.Rows.boot_all (pa_cons (vb_e (ve_lc (pe_lc (own := [("part", 5)]) rfl sc_is_house_of.nd (vi_seq (src_b (b_var (pv 3)))) (blkOk_by (by show blkC ["thing", "deep", "names", "parts", "name", "part"] (defScope s_is_house_of) _ _ = true; decide +kernel)) (fun _ _ _ _ _ => vg_name (pg_name (i := 5) sc_is_house_of.nd rfl (by first | exact .inl rfl | exact .inr rfl))) (fun _ _ _ _ _ => vts_nil) (fun _ _ _ _ _ => vr_e (ve_call0 (pe_call G_is_part hr rfl T.m_is_part T.F_is_part.kp T.b_is_part .nil passL (vas_cons (a_var (pv 5)) (vas_cons (va_r (vr_op op_sub sem_sub (b_var (pv 1)) (vb_r (r_int pe_int)))) vas_nil)))))) (by decide))) pa_nil))))))))))
theorem all_is_part_is_house_of (T : Tp K mg) : ∀ n : Nat, FnOk P w K mg base (L2.CX P w) (n + 1) T.a_is_part T.d_is_part ["thing", "deep"] (spF cl 2 (f_is_part n)) ∧ FnOk P w K mg base (L2.CX P w) (n + 1) T.a_is_house_of T.d_is_house_of ["thing", "deep"] (spF cl 2 (f_is_house_of n))
  | 0 => ⟨fn_badk, fn_badk⟩
  | n + 1 => by
    have ih := all_is_part_is_house_of T n
    have h_is_part := step_is_part (P := P) (w := w) (base := base) (cl := cl) T n (ih.2)
    rw [Nat.add_right_comm] at h_is_part
    have h_is_house_of := step_is_house_of (P := P) (w := w) (base := base) (cl := cl) T n (ih.1)
    rw [Nat.add_right_comm] at h_is_house_of
    exact ⟨h_is_part, h_is_house_of⟩
theorem ok_is_part (T : Tp K mg) (n : Nat) : FnOk P w K mg base (L2.CX P w) (n + 1) T.a_is_part T.d_is_part ["thing", "deep"] (spF cl 2 (f_is_part n)) := (all_is_part_is_house_of T n).1
theorem ok_is_house_of (T : Tp K mg) (n : Nat) : FnOk P w K mg base (L2.CX P w) (n + 1) T.a_is_house_of T.d_is_house_of ["thing", "deep"] (spF cl 2 (f_is_house_of n)) := (all_is_part_is_house_of T n).2
theorem sc_is_house : FnScope ["thing"] ["thing"] (defScope s_is_house) := ⟨rfl, rfl, rfl, by decide +kernel, rfl, by decide +kernel, by decide +kernel⟩
theorem ok_is_house (T : Tp K mg) : FnOk P w K mg base (L2.CX P w) 26 T.a_is_house T.d_is_house ["thing"] (spF cl 1 f_is_house) :=
  fn_ok T.F_is_house sc_is_house (by decide) fun cdv A outer s H O0 E hr =>
    vss_one (vs_ret (ve_call (pe_callS (ok_is_house_of (cl := cl) T 24) (hr.mono (by decide)) rfl T.m_is_house_of T.F_is_house_of.kp T.b_is_house_of (passAt (takes_of rfl rfl rfl rfl)) (vas_cons (a_var (pv 0)) (vas_cons (va_r (r_int (pe_glob rfl T.c_DEEPEST ⟨_, rfl⟩))) vas_nil))) (fun _ _ _ h => h)))
theorem sc_law_cell : FnScope ["_law_script", "_law_k"] ["_law_script", "_law_k"] (defScope s_law_cell) := ⟨rfl, rfl, rfl, by decide +kernel, rfl, by decide +kernel, by decide +kernel⟩
theorem ok_law_cell (T : Tp K mg) : FnOk P w K mg base (L2.CX P w) 1 T.a_law_cell T.d_law_cell ["_law_script", "_law_k"] (spF cl 2 f_law_cell) :=
  fn_ok T.F_law_cell sc_law_cell (by decide) fun cdv A outer s H O0 E hr =>
    vss_cons (vs_if (vt_cmp op_lt sem_cmp (b_var (pv 1)) (vb_r (vr_1 sem_len (pe_callB call_len rfl T.z_len PySem.boot_len (pa_cons (b_var (pv 0)) pa_nil)))) rfl) (vss_one (vs_ret (ve_r (vr_ix (b_var (pv 0)) (b_var (pv 1)))))) vss_nil)
    (vss_cons (vs_if (vt_cmp (op_eqD (hu64 hr)) sem_eq (b_var (pv 0)) (vb_e (ve_lst vl_nil)) rfl) (vss_one (vs_ret (ve_r (r_int pe_int)))) vss_nil)
    (vss_one (vs_ret (ve_op op_add4 sem_add (vb_e (ve_op op_mul3 sem_mul (vb_r (vr_ix (b_var (pv 0)) (vb_r (vr_op op_mod sem_mod (b_var (pv 1)) (vb_r (vr_1 sem_len (pe_callB call_len rfl T.z_len PySem.boot_len (pa_cons (b_var (pv 0)) pa_nil)))))))) (vb_r (r_int pe_int)))) (b_var (pv 1))))))
theorem sc_law_pick : FnScope ["_law_script", "_law_k", "_law_many", "_law_drawn"] ["_law_script", "_law_k", "_law_many"] (defScope s_law_pick) := ⟨rfl, rfl, rfl, by decide +kernel, rfl, by decide +kernel, by decide +kernel⟩
theorem ok_law_pick (T : Tp K mg) : FnOk P w K mg base (L2.CX P w) 2 T.a_law_pick T.d_law_pick ["_law_script", "_law_k", "_law_many"] (spF cl 3 f_law_pick) :=
  fn_ok T.F_law_pick sc_law_pick (by decide) fun cdv A outer s H O0 E hr =>
    vss_cons (vs_set (i := 3) (ps_set (i := 3) sc_law_pick.nd rfl (by first | exact .inl rfl | exact .inr rfl) (vr_op op_mod sem_mod (vb_e (ve_op op_mul3 sem_mul (vb_e (ve_op op_add4 sem_add (vb_e (ve_call (pe_callS (ok_law_cell (cl := cl) T) (hr.mono (by decide)) rfl T.m_law_cell T.F_law_cell.kp T.b_law_cell (passAt (takes_of rfl rfl rfl rfl)) (vas_cons (a_var (pv 0)) (vas_cons (a_var (pv 1)) vas_nil))) (fun _ _ _ h => h))) (vb_e (ve_op op_mul3 sem_mul (vb_r (r_int pe_int)) (vb_e (ve_op op_add4 sem_add (b_var (pv 1)) (vb_r (r_int pe_int)))))))) (vb_r (r_int pe_int)))) (vb_r (r_int pe_int)))))
    (vss_one (vs_ret (ve_r (vr_op op_mod sem_mod (vb_r (vr_op op_mod sem_mod (vb_e (ve_op op_add4 sem_add (vb_e (ve_op op_mul3 sem_mul (b_var (pv 3)) (b_var (pv 3)))) (vb_r (vr_op op_fdiv sem_fdiv (b_var (pv 3)) (vb_r (r_int pe_int)))))) (vb_r (r_int pe_int)))) (b_var (pv 2))))))
theorem sc_law_house : FnScope ["_law_script", "_law_at", "_law_deep", "_law_pool", "_law_names", "_law_parts", "_law_k"] ["_law_script", "_law_at", "_law_deep"] (defScope s_law_house) := ⟨rfl, rfl, rfl, by decide +kernel, rfl, by decide +kernel, by decide +kernel⟩
theorem step_law_house (T : Tp K mg) (n : Nat) {F_law_house : Fn} (G_law_house : FnOk P w K mg base (L2.CX P w) (n + 2) T.a_law_house T.d_law_house ["_law_script", "_law_at", "_law_deep"] (spF cl 3 F_law_house)) :
    FnOk P w K mg base (L2.CX P w) (n + 2 + 1) T.a_law_house T.d_law_house ["_law_script", "_law_at", "_law_deep"] (spF cl 3 (runB 7 (b_law_house F_law_house))) :=
  fn_ok T.F_law_house sc_law_house (by decide) fun cdv A outer s H O0 E hr =>
    vss_cons (vs_set (i := 3) (ps_set (i := 3) sc_law_house.nd rfl (by first | exact .inl rfl | exact .inr rfl) (vr_e (ve_lst (vl_cons (r_str pe_str) (vl_cons (r_str pe_str) (vl_cons (r_str pe_str) (vl_cons (r_str pe_str) (vl_cons (r_str pe_str) (vl_cons (r_str pe_str) (vl_cons (r_str pe_str) vl_nil)))))))))))
    (vss_cons (vs_set (i := 4) (asg_e (asg_lc (ps_setLc (i := 4) (own := [("_law_k", 6)]) rfl sc_law_house.nd rfl rfl (sw_true rfl rfl rfl rfl) (vi_range re_id (pi_range1 rfl T.z_range (pa_cons (vb_e (ve_call (pe_callS (ok_law_pick (cl := cl) T) (hr.mono (by omega)) rfl T.m_law_pick T.F_law_pick.kp T.b_law_pick (passAt (takes_of rfl rfl rfl rfl)) (vas_cons (a_var (pv 0)) (vas_cons (a_var (pv 1)) (vas_cons (va_r (r_int pe_int)) vas_nil)))) (fun _ _ _ h => h))) pa_nil))) (blkOk_by (by show blkC ["_law_script", "_law_at", "_law_deep", "_law_pool", "_law_names", "_law_parts", "_law_k"] (defScope s_law_house) _ _ = true; decide +kernel)) (fun _ _ _ _ _ => vg_name (pg_name (i := 6) sc_law_house.nd rfl (by first | exact .inl rfl | exact .inr rfl))) (fun _ _ _ _ _ => vts_nil) (fun _ _ _ _ _ => vr_ix (b_var (pv 3)) (vb_e (ve_call0 (pe_call (ok_law_pick (cl := cl) T) (hr.mono (by omega)) rfl T.m_law_pick T.F_law_pick.kp T.b_law_pick .nil passL (vas_cons (a_var (pv 0)) (vas_cons (va_e (ve_op op_add4 sem_add (vb_e (ve_op op_add4 sem_add (b_var (pv 1)) (vb_r (r_int pe_int)))) (b_var (pv 6)))) (vas_cons (va_r (r_int pe_int)) vas_nil)))))))) (by decide))))
    (vss_cons (vs_setO (i := 5) (ps_set (i := 5) sc_law_house.nd rfl (by first | exact .inl rfl | exact .inr rfl) (ve_lst vl_nil)))
    (vss_cons (vs_for (ps_for (passes_of rfl) rfl (vi_range si_re (pi_range1 rfl T.z_range (pa_cons (vb_e (ve_call (pe_callS (ok_law_pick (cl := cl) T) (hr.mono (by omega)) rfl T.m_law_pick T.F_law_pick.kp T.b_law_pick (passAt (takes_of rfl rfl rfl rfl)) (vas_cons (a_var (pv 0)) (vas_cons (va_e (ve_op op_add4 sem_add (b_var (pv 1)) (vb_r (r_int pe_int)))) (vas_cons (va_r (r_int pe_int)) vas_nil)))) (fun _ _ _ h => h))) pa_nil))) (vg_name (pg_name (i := 6) sc_law_house.nd rfl (by first | exact .inl rfl | exact .inr rfl))) (vss_one (vs_if (vt_w (vw_and (vt_cmp op_gt sem_cmp (b_var (pv 2)) (vb_r (r_int pe_int)) rfl) (vw_and1 (vt_cmp op_lt sem_cmp (vb_e (ve_call (pe_callS (ok_law_pick (cl := cl) T) (hr.mono (by omega)) rfl T.m_law_pick T.F_law_pick.kp T.b_law_pick (passAt (takes_of rfl rfl rfl rfl)) (vas_cons (a_var (pv 0)) (vas_cons (va_e (ve_op op_add4 sem_add (vb_e (ve_op op_add4 sem_add (b_var (pv 1)) (vb_r (r_int pe_int)))) (b_var (pv 6)))) (vas_cons (va_r (r_int pe_int)) vas_nil)))) (fun _ _ _ h => h))) (vb_r (r_int pe_int)) rfl)))) (vss_one (vs_app (i := 5) (ps_expr (pe_bm PySem.F.plainAttrs_list PySem.F.slot_list_append PySem.F.type_list_append mt_append (pv 5) (pa_cons (vr_e (ve_call (pe_callS G_law_house hr rfl T.m_law_house T.F_law_house.kp T.b_law_house (passAt (takes_of rfl rfl rfl rfl)) (vas_cons (a_var (pv 0)) (vas_cons (va_e (ve_op op_add4 sem_add (vb_e (ve_op op_add4 sem_add (vb_e (ve_op op_add4 sem_add (b_var (pv 1)) (vb_r (r_int pe_int)))) (vb_e (ve_op op_mul3 sem_mul (vb_r (r_int pe_int)) (b_var (pv 6)))))) (vb_e (ve_op op_mul3 sem_mul (vb_r (r_int pe_int)) (b_var (pv 2)))))) (vas_cons (va_r (vr_op op_sub sem_sub (b_var (pv 2)) (vb_r (r_int pe_int)))) vas_nil)))) (fun _ _ _ h => h))) pa_nil))))) (vss_one (vs_app (i := 5) (ps_expr (pe_bm PySem.F.plainAttrs_list PySem.F.slot_list_append PySem.F.type_list_append mt_append (pv 5) (pa_cons (vr_ix (b_var (pv 3)) (vb_e (ve_call (pe_callS (ok_law_pick (cl := cl) T) (hr.mono (by omega)) rfl T.m_law_pick T.F_law_pick.kp T.b_law_pick (passAt (takes_of rfl rfl rfl rfl)) (vas_cons (a_var (pv 0)) (vas_cons (va_e (ve_op op_add4 sem_add (vb_e (ve_op op_add4 sem_add (b_var (pv 1)) (vb_r (r_int pe_int)))) (b_var (pv 6)))) (vas_cons (va_r (r_int pe_int)) vas_nil)))) (fun _ _ _ h => h)))) pa_nil)))))))))
    (vss_one (vs_ret (ve_r (vr_tup (vl_cons (vr_1 sem_tup (pe_callTy call_tuple_of rfl T.z_tuple PyProof.Rows.boot_tuple (pa_cons (vb_e (ve_sortSet rfl rfl T.z_sorted rfl T.z_set (b_var (pv 4)))) pa_nil))) (vl_cons (vr_1 sem_tup (pe_callTy call_tuple_of rfl T.z_tuple PyProof.Rows.boot_tuple (pa_cons (b_var (pv 5)) pa_nil))) vl_nil)))))))))
theorem ok_law_house (T : Tp K mg) : ∀ n : Nat, FnOk P w K mg base (L2.CX P w) (n + 2) T.a_law_house T.d_law_house ["_law_script", "_law_at", "_law_deep"] (spF cl 3 (f_law_house n))
  | 0 => fn_badk
  | n + 1 => by
    have h := step_law_house (P := P) (w := w) (base := base) (cl := cl) T n (ok_law_house T n)
    rw [Nat.add_right_comm] at h
    exact h
theorem sc_law_bad_house : FnScope ["_law_house_here", "_law_cell_here", "_law_names", "_law_parts", "_law_some"] ["_law_house_here", "_law_cell_here"] (defScope s_law_bad_house) := ⟨rfl, rfl, rfl, by decide +kernel, rfl, by decide +kernel, by decide +kernel⟩
theorem ok_law_bad_house (T : Tp K mg) : FnOk P w K mg base (L2.CX P w) 1 T.a_law_bad_house T.d_law_bad_house ["_law_house_here", "_law_cell_here"] (spF cl 2 f_law_bad_house) :=
  fn_ok T.F_law_bad_house sc_law_bad_house (by decide) fun cdv A outer s H O0 E hr =>
    vss_cons (vs_asg (ps_asg (r_var (pv 0)) (vg_tup (vgs_cons (vg_name (pg_name (i := 2) sc_law_bad_house.nd rfl (by first | exact .inl rfl | exact .inr rfl))) (vgs_cons (vg_name (pg_name (i := 3) sc_law_bad_house.nd rfl (by first | exact .inl rfl | exact .inr rfl))) vgs_nil)))))
    (vss_cons (vs_setO (i := 4) (ps_set (i := 4) sc_law_bad_house.nd rfl (by first | exact .inl rfl | exact .inr rfl) (ve_lst (vl_cons (vr_e (ve_1 sem_list (pe_callTy call_list_of rfl T.z_list PyProof.Rows.boot_list (pa_cons (b_var (pv 0)) pa_nil)))) (vl_cons (vr_tup (vl_cons (r_var (pv 2)) vl_nil)) (vl_cons (vr_tup (vl_cons (r_var (pv 2)) (vl_cons (r_var (pv 3)) (vl_cons (vr_tup vl_nil) vl_nil)))) (vl_cons (vr_tup (vl_cons (vr_e (ve_1 sem_list (pe_callTy call_list_of rfl T.z_list PyProof.Rows.boot_list (pa_cons (b_var (pv 2)) pa_nil)))) (vl_cons (r_var (pv 3)) vl_nil))) (vl_cons (vr_tup (vl_cons (r_var (pv 2)) (vl_cons (vr_e (ve_1 sem_list (pe_callTy call_list_of rfl T.z_list PyProof.Rows.boot_list (pa_cons (b_var (pv 3)) pa_nil)))) vl_nil))) (vl_cons (vr_tup (vl_cons (r_non pe_non) (vl_cons (r_var (pv 3)) vl_nil))) (vl_cons (r_non pe_non) vl_nil))))))))))
    (vss_cons (vs_ext (i := 4) (ps_expr (pe_bm PySem.F.plainAttrs_list PySem.F.slot_list_extend PySem.F.type_list_extend mt_extR (pv 4) (pa_cons (vr_e (ve_lst (vl_cons (vr_tup (vl_cons (r_var (pv 2)) (vl_cons (r_non pe_non) vl_nil))) (vl_cons (vr_tup (vl_cons (vr_e (ve_op op_add4 sem_add (b_var (pv 2)) (vb_r (vr_tup (vl_cons (r_str pe_str) vl_nil))))) (vl_cons (r_var (pv 3)) vl_nil))) (vl_cons (vr_tup (vl_cons (vr_e (ve_op op_add4 sem_add (vb_r (vr_tup (vl_cons (r_str pe_str) vl_nil))) (b_var (pv 2)))) (vl_cons (r_var (pv 3)) vl_nil))) (vl_cons (vr_tup (vl_cons (vr_e (ve_op op_add4 sem_add (b_var (pv 2)) (vb_r (vr_tup (vl_cons (r_str pe_str) vl_nil))))) (vl_cons (r_var (pv 3)) vl_nil))) (vl_cons (r_int pe_int) (vl_cons (vr_tup vl_nil) vl_nil)))))))) pa_nil))))
    (vss_cons (vs_ext (i := 4) (ps_expr (pe_bm PySem.F.plainAttrs_list PySem.F.slot_list_extend PySem.F.type_list_extend mt_extR (pv 4) (pa_cons (vr_e (ve_lst (vl_cons (vr_tup (vl_cons (vr_tup (vl_cons (r_str pe_str) (vl_cons (r_str pe_str) vl_nil))) (vl_cons (r_var (pv 3)) vl_nil))) (vl_cons (vr_tup (vl_cons (vr_tup (vl_cons (r_str pe_str) (vl_cons (r_str pe_str) vl_nil))) (vl_cons (r_var (pv 3)) vl_nil))) (vl_cons (vr_tup (vl_cons (vr_e (ve_op op_add4 sem_add (b_var (pv 2)) (vb_r (vr_tup (vl_cons (r_non pe_non) vl_nil))))) (vl_cons (r_var (pv 3)) vl_nil))) (vl_cons (vr_tup (vl_cons (vr_e (ve_op op_add4 sem_add (b_var (pv 2)) (vb_r (vr_tup (vl_cons (r_int pe_int) vl_nil))))) (vl_cons (r_var (pv 3)) vl_nil))) (vl_cons (r_bl pe_bl) vl_nil))))))) pa_nil))))
    (vss_cons (vs_ext (i := 4) (ps_expr (pe_bm PySem.F.plainAttrs_list PySem.F.slot_list_extend PySem.F.type_list_extend mt_extR (pv 4) (pa_cons (vr_e (ve_lst (vl_cons (vr_tup (vl_cons (r_var (pv 2)) (vl_cons (vr_e (ve_op op_add4 sem_add (b_var (pv 3)) (vb_r (vr_tup (vl_cons (r_str pe_str) vl_nil))))) vl_nil))) (vl_cons (vr_tup (vl_cons (r_var (pv 2)) (vl_cons (vr_e (ve_op op_add4 sem_add (b_var (pv 3)) (vb_r (vr_tup (vl_cons (r_str pe_str) vl_nil))))) vl_nil))) (vl_cons (vr_tup (vl_cons (r_var (pv 2)) (vl_cons (vr_e (ve_op op_add4 sem_add (vb_r (vr_tup (vl_cons (r_non pe_non) vl_nil))) (b_var (pv 3)))) vl_nil))) (vl_cons (vr_tup (vl_cons (r_var (pv 2)) (vl_cons (vr_e (ve_op op_add4 sem_add (b_var (pv 3)) (vb_r (vr_tup (vl_cons (r_int pe_int) vl_nil))))) vl_nil))) vl_nil)))))) pa_nil))))
    (vss_cons (vs_ext (i := 4) (ps_expr (pe_bm PySem.F.plainAttrs_list PySem.F.slot_list_extend PySem.F.type_list_extend mt_extR (pv 4) (pa_cons (vr_e (ve_lst (vl_cons (vr_tup (vl_cons (r_var (pv 2)) (vl_cons (vr_e (ve_op op_add4 sem_add (b_var (pv 3)) (vb_r (vr_tup (vl_cons (vr_tup vl_nil) vl_nil))))) vl_nil))) (vl_cons (vr_tup (vl_cons (r_var (pv 2)) (vl_cons (vr_e (ve_op op_add4 sem_add (b_var (pv 3)) (vb_r (vr_tup (vl_cons (r_str pe_str) vl_nil))))) vl_nil))) (vl_cons (vr_tup (vl_cons (r_var (pv 2)) (vl_cons (vr_e (ve_op op_add4 sem_add (b_var (pv 3)) (vb_r (vr_tup (vl_cons (vr_tup (vl_cons (r_str pe_str) vl_nil)) vl_nil))))) vl_nil))) (vl_cons (r_str pe_str) (vl_cons (vr_e (ve_lst (vl_cons (r_var (pv 2)) vl_nil))) vl_nil))))))) pa_nil))))
    (vss_one (vs_ret (ve_r (vr_ix (b_var (pv 4)) (vb_r (vr_op op_mod sem_mod (b_var (pv 1)) (vb_r (r_int pe_int)))))))))))))
theorem sc_law_with : FnScope ["_law_house_here", "_law_script", "_law_at", "_law_cell_here", "_law_inner", "_law_k", "_law_part"] ["_law_house_here", "_law_script", "_law_at", "_law_cell_here"] (defScope s_law_with) := ⟨rfl, rfl, rfl, by decide +kernel, rfl, by decide +kernel, by decide +kernel⟩
theorem step_law_with (T : Tp K mg) (n : Nat) {F_law_with : Fn} (G_law_with : FnOk P w K mg base (L2.CX P w) (n + 2) T.a_law_with T.d_law_with ["_law_house_here", "_law_script", "_law_at", "_law_cell_here"] (spF cl 4 F_law_with)) :
    FnOk P w K mg base (L2.CX P w) (n + 2 + 1) T.a_law_with T.d_law_with ["_law_house_here", "_law_script", "_law_at", "_law_cell_here"] (spF cl 4 (runB 7 (b_law_with F_law_with))) :=
  fn_ok T.F_law_with sc_law_with (by decide) fun cdv A outer s H O0 E hr =>
    vss_cons (vs_set (i := 4) (asg_e (asg_lc (ps_setLc (i := 4) (own := [("_law_k", 5), ("_law_part", 6)]) rfl sc_law_with.nd rfl rfl (sw_true rfl rfl rfl rfl) (vi_enum (pi_enum2 rfl T.z_enumerate (pa_cons (src_b (vb_r (vr_ix (b_var (pv 0)) (vb_r (r_int pe_int))))) pa_nil))) (blkOk_by (by show blkC ["_law_house_here", "_law_script", "_law_at", "_law_cell_here", "_law_inner", "_law_k", "_law_part"] (defScope s_law_with) _ _ = true; decide +kernel)) (fun _ _ _ _ _ => vg_tup (vgs_cons (vg_name (pg_name (i := 5) sc_law_with.nd rfl (by first | exact .inl rfl | exact .inr rfl))) (vgs_cons (vg_name (pg_name (i := 6) sc_law_with.nd rfl (by first | exact .inl rfl | exact .inr rfl))) vgs_nil))) (fun _ _ _ _ _ => vts_one (vt_not (vt_b (vb_r (vr_1c sem_isStr (pe_callB call_isi rfl T.z_isinstance PyProof.Rows.boot_isinstance (pa_cons (b_var (pv 6)) (pa_cons (pe_bltn rfl T.z_str PyProof.Rows.boot_str rfl) pa_nil)))))))) (fun _ _ _ _ _ => r_var (pv 5))) (by decide))))
    (vss_cons (vs_if (vt_w (vw_or (vt_cmp (op_eqD (hu64 hr)) sem_eq (b_var (pv 4)) (vb_e (ve_lst vl_nil)) rfl) (vw_or1 (vt_cmp (op_eqD (hu64 hr)) sem_eq (vb_e (ve_call (pe_callS (ok_law_pick (cl := cl) T) (hr.mono (by omega)) rfl T.m_law_pick T.F_law_pick.kp T.b_law_pick (passAt (takes_of rfl rfl rfl rfl)) (vas_cons (a_var (pv 1)) (vas_cons (a_var (pv 2)) (vas_cons (va_r (r_int pe_int)) vas_nil)))) (fun _ _ _ h => h))) (vb_r (r_int pe_int)) rfl)))) (vss_one (vs_ret (ve_call (pe_callS (ok_law_bad_house (cl := cl) T) (hr.mono (by omega)) rfl T.m_law_bad_house T.F_law_bad_house.kp T.b_law_bad_house (passAt (takes_of rfl rfl rfl rfl)) (vas_cons (a_var (pv 0)) (vas_cons (a_var (pv 3)) vas_nil))) (fun _ _ _ h => h)))) vss_nil)
    (vss_cons (vs_set (i := 5) (ps_set (i := 5) sc_law_with.nd rfl (by first | exact .inl rfl | exact .inr rfl) (vr_ix (b_var (pv 4)) (vb_e (ve_call (pe_callS (ok_law_pick (cl := cl) T) (hr.mono (by omega)) rfl T.m_law_pick T.F_law_pick.kp T.b_law_pick (passAt (takes_of rfl rfl rfl rfl)) (vas_cons (a_var (pv 1)) (vas_cons (va_e (ve_op op_add4 sem_add (b_var (pv 2)) (vb_r (r_int pe_int)))) (vas_cons (va_r (vr_1 sem_len (pe_callB call_len rfl T.z_len PySem.boot_len (pa_cons (b_var (pv 4)) pa_nil)))) vas_nil)))) (fun _ _ _ h => h))))))
    (vss_one (vs_ret (ve_r (vr_tup (vl_cons (vr_ix (b_var (pv 0)) (vb_r (r_int pe_int))) (vl_cons (vr_e (ve_op op_add4 sem_add (vb_e (ve_op op_add4 sem_add (vb_e (ve_sl (vb_r (vr_ix (b_var (pv 0)) (vb_r (r_int pe_int)))) vo_none (vo_some (b_var (pv 5))))) (vb_r (vr_tup (vl_cons (vr_e (ve_call (pe_callS G_law_with hr rfl T.m_law_with T.F_law_with.kp T.b_law_with (passAt (takes_of rfl rfl rfl rfl)) (vas_cons (va_r (vr_ix (vb_r (vr_ix (b_var (pv 0)) (vb_r (r_int pe_int)))) (b_var (pv 5)))) (vas_cons (a_var (pv 1)) (vas_cons (va_e (ve_op op_add4 sem_add (b_var (pv 2)) (vb_r (r_int pe_int)))) (vas_cons (a_var (pv 3)) vas_nil))))) (fun _ _ _ h => h))) vl_nil))))) (vb_e (ve_sl (vb_r (vr_ix (b_var (pv 0)) (vb_r (r_int pe_int)))) (vo_some (vb_e (ve_op op_add4 sem_add (b_var (pv 5)) (vb_r (r_int pe_int))))) vo_none)))) vl_nil))))))))
theorem ok_law_with (T : Tp K mg) : ∀ n : Nat, FnOk P w K mg base (L2.CX P w) (n + 2) T.a_law_with T.d_law_with ["_law_house_here", "_law_script", "_law_at", "_law_cell_here"] (spF cl 4 (f_law_with n))
  | 0 => fn_badk
  | n + 1 => by
    have h := step_law_with (P := P) (w := w) (base := base) (cl := cl) T n (ok_law_with T n)
    rw [Nat.add_right_comm] at h
    exact h
theorem sc_law_once : FnScope ["_law_script", "_law_house_here", "_law_many", "_law_deep", "_law_k"] ["_law_script"] (defScope s_law_once) := ⟨rfl, rfl, rfl, by decide +kernel, rfl, by decide +kernel, by decide +kernel⟩
theorem ok_law_once (T : Tp K mg) : FnOk P w K mg base (L2.CX P w) 27 T.a_law_once T.d_law_once ["_law_script"] (spF cl 1 f_law_once) :=
  fn_ok T.F_law_once sc_law_once (by decide) fun cdv A outer s H O0 E hr =>
    vss_cons (vs_set (i := 1) (ps_set (i := 1) sc_law_once.nd rfl (by first | exact .inl rfl | exact .inr rfl) (vr_e (ve_call (pe_callS (ok_law_house (cl := cl) T 24) (hr.mono (by decide)) rfl T.m_law_house T.F_law_house.kp T.b_law_house (passAt (takes_of rfl rfl rfl rfl)) (vas_cons (a_var (pv 0)) (vas_cons (va_r (r_int pe_int)) (vas_cons (va_r (r_int pe_int)) vas_nil)))) (fun _ _ _ h => h)))))
    (vss_cons (vs_if (vt_cmp op_isnot2 sem_isnot (vb_e (ve_call (pe_callS (ok_is_house (cl := cl) T) (hr.mono (by decide)) rfl T.m_is_house T.F_is_house.kp T.b_is_house (passAt (takes_of rfl rfl rfl rfl)) (vas_cons (a_var (pv 1)) vas_nil)) (fun _ _ _ h => h))) (vb_r (r_bl pe_bl)) rfl) (vss_one (vs_ret (ve_r (r_bl pe_bl)))) vss_nil)
    (vss_cons (vs_if (vt_cmp op_isnot2 sem_isnot (vb_e (ve_call (pe_callS (ok_is_house (cl := cl) T) (hr.mono (by decide)) rfl T.m_is_house T.F_is_house.kp T.b_is_house (passAt (takes_of rfl rfl rfl rfl)) (vas_cons (va_e (ve_call (pe_callS (ok_law_with (cl := cl) T 24) (hr.mono (by decide)) rfl T.m_law_with T.F_law_with.kp T.b_law_with (passAt (takes_of rfl rfl rfl rfl)) (vas_cons (a_var (pv 1)) (vas_cons (a_var (pv 0)) (vas_cons (va_r (r_int pe_int)) (vas_cons (va_e (ve_call (pe_callS (ok_law_pick (cl := cl) T) (hr.mono (by decide)) rfl T.m_law_pick T.F_law_pick.kp T.b_law_pick (passAt (takes_of rfl rfl rfl rfl)) (vas_cons (a_var (pv 0)) (vas_cons (va_r (r_int pe_int)) (vas_cons (va_r (vr_op op_pow sem_pow (vb_r (r_int pe_int)) (vb_r (r_int pe_int)))) vas_nil)))) (fun _ _ _ h => h))) vas_nil))))) (fun _ _ _ h => h))) vas_nil)) (fun _ _ _ h => h))) (vb_r (r_bl pe_bl)) rfl) (vss_one (vs_ret (ve_r (r_bl pe_bl)))) vss_nil)
    (vss_cons (vs_set (i := 2) (ps_set (i := 2) sc_law_once.nd rfl (by first | exact .inl rfl | exact .inr rfl) (vr_e (ve_op op_add4 sem_add (vb_r (r_int pe_int)) (vb_e (ve_call (pe_callS (ok_law_pick (cl := cl) T) (hr.mono (by decide)) rfl T.m_law_pick T.F_law_pick.kp T.b_law_pick (passAt (takes_of rfl rfl rfl rfl)) (vas_cons (a_var (pv 0)) (vas_cons (va_r (r_int pe_int)) (vas_cons (va_r (r_int pe_int)) vas_nil)))) (fun _ _ _ h => h)))))))
    (vss_cons (vs_if (vt_cmp (op_neD (hu64 hr)) sem_ne (vb_e (ve_call (pe_callS (ok_is_house (cl := cl) T) (hr.mono (by decide)) rfl T.m_is_house T.F_is_house.kp T.b_is_house (passAt (takes_of rfl rfl rfl rfl)) (vas_cons (va_r (vr_tup (vl_cons (vr_e (ve_sl (vb_r (vr_tup (vl_cons (r_str pe_str) (vl_cons (r_str pe_str) (vl_cons (r_str pe_str) (vl_cons (r_str pe_str) (vl_cons (r_str pe_str) vl_nil))))))) vo_none (vo_some (b_var (pv 2))))) (vl_cons (vr_tup vl_nil) vl_nil)))) vas_nil)) (fun _ _ _ h => h))) (vb_r (vr_cmp op_lt sem_cmp (b_var (pv 2)) (vb_r (r_int pe_int)) rfl)) rfl) (vss_one (vs_ret (ve_r (r_bl pe_bl)))) vss_nil)
    (vss_cons (vs_if (vt_cmp (op_neD (hu64 hr)) sem_ne (vb_e (ve_call (pe_callS (ok_is_house (cl := cl) T) (hr.mono (by decide)) rfl T.m_is_house T.F_is_house.kp T.b_is_house (passAt (takes_of rfl rfl rfl rfl)) (vas_cons (va_r (vr_tup (vl_cons (vr_tup vl_nil) (vl_cons (vr_e (ve_op op_mul3 sem_mul (vb_r (vr_tup (vl_cons (r_str pe_str) vl_nil))) (vb_e (ve_op op_add4 sem_add (b_var (pv 2)) (vb_r (r_int pe_int)))))) vl_nil)))) vas_nil)) (fun _ _ _ h => h))) (vb_r (vr_cmp op_lt sem_cmp (b_var (pv 2)) (vb_r (r_int pe_int)) rfl)) rfl) (vss_one (vs_ret (ve_r (r_bl pe_bl)))) vss_nil)
    (vss_cons (vs_set (i := 3) (ps_set (i := 3) sc_law_once.nd rfl (by first | exact .inl rfl | exact .inr rfl) (vr_tup (vl_cons (vr_tup vl_nil) (vl_cons (vr_tup vl_nil) vl_nil)))))
    (vss_cons (vs_for (ps_for (passes_of rfl) rfl (vi_range si_re (pi_range1 rfl T.z_range (pa_cons (vb_e (ve_op op_add4 sem_add (b_var (pv 2)) (vb_r (r_int pe_int)))) pa_nil))) (vg_name (pg_name (i := 4) sc_law_once.nd rfl (by first | exact .inl rfl | exact .inr rfl))) (vss_one (vs_set (i := 3) (ps_set (i := 3) sc_law_once.nd rfl (by first | exact .inl rfl | exact .inr rfl) (vr_tup (vl_cons (vr_tup vl_nil) (vl_cons (vr_tup (vl_cons (r_str pe_str) (vl_cons (r_var (pv 3)) vl_nil))) vl_nil))))))))
    (vss_one (vs_ret (ve_r (vr_cmp (op_eqD (hu64 hr)) sem_eq (vb_e (ve_call (pe_callS (ok_is_house (cl := cl) T) (hr.mono (by decide)) rfl T.m_is_house T.F_is_house.kp T.b_is_house (passAt (takes_of rfl rfl rfl rfl)) (vas_cons (a_var (pv 3)) vas_nil)) (fun _ _ _ h => h))) (vb_r (vr_cmp op_lt sem_cmp (b_var (pv 2)) (vb_r (r_int pe_int)) rfl)) rfl)))))))))))
theorem sc_law : FnScope ["_law_script", "_law_turn", "_law_cell_here"] ["_law_script"] (defScope s_law) := ⟨rfl, rfl, rfl, by decide +kernel, rfl, by decide +kernel, by decide +kernel⟩
theorem ok_law (T : Tp K mg) : FnOk P w K mg base (L2.CX P w) 28 T.a_law T.d_law ["_law_script"] (spF cl 1 f_law) :=
  fn_ok T.F_law sc_law (by decide) fun cdv A outer s H O0 E hr =>
    vss_cons (vs_for (ps_for (passes_of rfl) rfl (vi_range si_re (pi_range1 rfl T.z_range (pa_cons (vb_r (r_int pe_int)) pa_nil))) (vg_name (pg_name (i := 1) sc_law.nd rfl (by first | exact .inl rfl | exact .inr rfl))) (vss_cons (vs_if (vt_not (vt_b (vb_e (ve_call (pe_callS (ok_law_once (cl := cl) T) (hr.mono (by decide)) rfl T.m_law_once T.F_law_once.kp T.b_law_once (passAt (takes_of rfl rfl rfl rfl)) (vas_cons (va_e (ve_lc (pe_lc (own := [("_law_cell_here", 2)]) rfl sc_law.nd (vi_seq (src_b (b_var (pv 0)))) (blkOk_by (by show blkC ["_law_script", "_law_turn", "_law_cell_here"] (defScope s_law) _ _ = true; decide +kernel)) (fun _ _ _ _ _ => vg_name (pg_name (i := 2) sc_law.nd rfl (by first | exact .inl rfl | exact .inr rfl))) (fun _ _ _ _ _ => vts_nil) (fun _ _ _ _ _ => vr_e (ve_op op_add4 sem_add (b_var (pv 2)) (vb_e (ve_op op_mul3 sem_mul (vb_r (r_int pe_int)) (b_var (pv 1))))))) (by decide))) vas_nil)) (fun _ _ _ h => h))))) (vss_one (vs_ret (ve_r (r_bl pe_bl)))) vss_nil)
    (vss_one (vs_if (vt_cmp (op_eqD (hu64 hr)) sem_eq (b_var (pv 0)) (vb_e (ve_lst vl_nil)) rfl) (vss_one vs_break) vss_nil)))))
    (vss_one (vs_ret (ve_r (r_bl pe_bl))))
end
end shorthouse_k01_houses
end
section
set_option linter.all false
set_option maxRecDepth 100000
namespace shorthouse_k01_houses
open PySem PySem.Spec PyProof.Rows L2 VL VF
def cl0 : Cl := fun _ => .none
theorem all_mk {l : PySem.W.OpenLaw} {w : World} {K : PySem.W.Frag} {h : Heap} {mg : Str → Option Value} {fa : Addr} (X : K.In h) (G : h.Ns mainGlobals mg) (hfa : mg "law" = some (.ref fa)) (nl : noLst K = true)
    {g0 : Addr} {od0 an0 : Option Addr} {sl0 : Array (Option Value)} {oc0 kV0 dc0 pm0 cd0 ct0 : Value}
    (a0 : PySem.W.nsIn K mainGlobals "is_name" = some (some (.ref g0))) (l0 : K.lookup g0 = some ⟨oc0, od0, .func (PySem.W.fnOf "is_name" "is_name" (defArgs s_is_name) (defBody s_is_name) (defScope s_is_name) .none kV0 dc0 pm0 an0 cd0 ct0), sl0⟩) (c0 : PySem.W.codeIn K cd0 "is_name" = true) (k0 : PySem.W.keepIn K (.ref g0) = true)
    {g1 : Addr} {od1 an1 : Option Addr} {sl1 : Array (Option Value)} {oc1 kV1 dc1 pm1 cd1 ct1 : Value}
    (a1 : PySem.W.nsIn K mainGlobals "is_part" = some (some (.ref g1))) (l1 : K.lookup g1 = some ⟨oc1, od1, .func (PySem.W.fnOf "is_part" "is_part" (defArgs s_is_part) (defBody s_is_part) (defScope s_is_part) .none kV1 dc1 pm1 an1 cd1 ct1), sl1⟩) (c1 : PySem.W.codeIn K cd1 "is_part" = true) (k1 : PySem.W.keepIn K (.ref g1) = true)
    {g2 : Addr} {od2 an2 : Option Addr} {sl2 : Array (Option Value)} {oc2 kV2 dc2 pm2 cd2 ct2 : Value}
    (a2 : PySem.W.nsIn K mainGlobals "is_house_of" = some (some (.ref g2))) (l2 : K.lookup g2 = some ⟨oc2, od2, .func (PySem.W.fnOf "is_house_of" "is_house_of" (defArgs s_is_house_of) (defBody s_is_house_of) (defScope s_is_house_of) .none kV2 dc2 pm2 an2 cd2 ct2), sl2⟩) (c2 : PySem.W.codeIn K cd2 "is_house_of" = true) (k2 : PySem.W.keepIn K (.ref g2) = true)
    {g3 : Addr} {od3 an3 : Option Addr} {sl3 : Array (Option Value)} {oc3 kV3 dc3 pm3 cd3 ct3 : Value}
    (a3 : PySem.W.nsIn K mainGlobals "is_house" = some (some (.ref g3))) (l3 : K.lookup g3 = some ⟨oc3, od3, .func (PySem.W.fnOf "is_house" "is_house" (defArgs s_is_house) (defBody s_is_house) (defScope s_is_house) .none kV3 dc3 pm3 an3 cd3 ct3), sl3⟩) (c3 : PySem.W.codeIn K cd3 "is_house" = true) (k3 : PySem.W.keepIn K (.ref g3) = true)
    {g4 : Addr} {od4 an4 : Option Addr} {sl4 : Array (Option Value)} {oc4 kV4 dc4 pm4 cd4 ct4 : Value}
    (a4 : PySem.W.nsIn K mainGlobals "_law_cell" = some (some (.ref g4))) (l4 : K.lookup g4 = some ⟨oc4, od4, .func (PySem.W.fnOf "_law_cell" "_law_cell" (defArgs s_law_cell) (defBody s_law_cell) (defScope s_law_cell) .none kV4 dc4 pm4 an4 cd4 ct4), sl4⟩) (c4 : PySem.W.codeIn K cd4 "_law_cell" = true) (k4 : PySem.W.keepIn K (.ref g4) = true)
    {g5 : Addr} {od5 an5 : Option Addr} {sl5 : Array (Option Value)} {oc5 kV5 dc5 pm5 cd5 ct5 : Value}
    (a5 : PySem.W.nsIn K mainGlobals "_law_pick" = some (some (.ref g5))) (l5 : K.lookup g5 = some ⟨oc5, od5, .func (PySem.W.fnOf "_law_pick" "_law_pick" (defArgs s_law_pick) (defBody s_law_pick) (defScope s_law_pick) .none kV5 dc5 pm5 an5 cd5 ct5), sl5⟩) (c5 : PySem.W.codeIn K cd5 "_law_pick" = true) (k5 : PySem.W.keepIn K (.ref g5) = true)
    {g6 : Addr} {od6 an6 : Option Addr} {sl6 : Array (Option Value)} {oc6 kV6 dc6 pm6 cd6 ct6 : Value}
    (a6 : PySem.W.nsIn K mainGlobals "_law_house" = some (some (.ref g6))) (l6 : K.lookup g6 = some ⟨oc6, od6, .func (PySem.W.fnOf "_law_house" "_law_house" (defArgs s_law_house) (defBody s_law_house) (defScope s_law_house) .none kV6 dc6 pm6 an6 cd6 ct6), sl6⟩) (c6 : PySem.W.codeIn K cd6 "_law_house" = true) (k6 : PySem.W.keepIn K (.ref g6) = true)
    {g7 : Addr} {od7 an7 : Option Addr} {sl7 : Array (Option Value)} {oc7 kV7 dc7 pm7 cd7 ct7 : Value}
    (a7 : PySem.W.nsIn K mainGlobals "_law_bad_house" = some (some (.ref g7))) (l7 : K.lookup g7 = some ⟨oc7, od7, .func (PySem.W.fnOf "_law_bad_house" "_law_bad_house" (defArgs s_law_bad_house) (defBody s_law_bad_house) (defScope s_law_bad_house) .none kV7 dc7 pm7 an7 cd7 ct7), sl7⟩) (c7 : PySem.W.codeIn K cd7 "_law_bad_house" = true) (k7 : PySem.W.keepIn K (.ref g7) = true)
    {g8 : Addr} {od8 an8 : Option Addr} {sl8 : Array (Option Value)} {oc8 kV8 dc8 pm8 cd8 ct8 : Value}
    (a8 : PySem.W.nsIn K mainGlobals "_law_with" = some (some (.ref g8))) (l8 : K.lookup g8 = some ⟨oc8, od8, .func (PySem.W.fnOf "_law_with" "_law_with" (defArgs s_law_with) (defBody s_law_with) (defScope s_law_with) .none kV8 dc8 pm8 an8 cd8 ct8), sl8⟩) (c8 : PySem.W.codeIn K cd8 "_law_with" = true) (k8 : PySem.W.keepIn K (.ref g8) = true)
    {g9 : Addr} {od9 an9 : Option Addr} {sl9 : Array (Option Value)} {oc9 kV9 dc9 pm9 cd9 ct9 : Value}
    (a9 : PySem.W.nsIn K mainGlobals "_law_once" = some (some (.ref g9))) (l9 : K.lookup g9 = some ⟨oc9, od9, .func (PySem.W.fnOf "_law_once" "_law_once" (defArgs s_law_once) (defBody s_law_once) (defScope s_law_once) .none kV9 dc9 pm9 an9 cd9 ct9), sl9⟩) (c9 : PySem.W.codeIn K cd9 "_law_once" = true) (k9 : PySem.W.keepIn K (.ref g9) = true)
    {g10 : Addr} {od10 an10 : Option Addr} {sl10 : Array (Option Value)} {oc10 kV10 dc10 pm10 cd10 ct10 : Value}
    (a10 : PySem.W.nsIn K mainGlobals "law" = some (some (.ref g10))) (l10 : K.lookup g10 = some ⟨oc10, od10, .func (PySem.W.fnOf "law" "law" (defArgs s_law) (defBody s_law) (defScope s_law) .none kV10 dc10 pm10 an10 cd10 ct10), sl10⟩) (c10 : PySem.W.codeIn K cd10 "law" = true) (k10 : PySem.W.keepIn K (.ref g10) = true)
    (z0 : PySem.W.nsIn K mainGlobals "all" = some none)
    (z1 : PySem.W.nsIn K mainGlobals "enumerate" = some none)
    (z2 : PySem.W.nsIn K mainGlobals "isinstance" = some none)
    (z3 : PySem.W.nsIn K mainGlobals "len" = some none)
    (z4 : PySem.W.nsIn K mainGlobals "list" = some none)
    (z5 : PySem.W.nsIn K mainGlobals "range" = some none)
    (z6 : PySem.W.nsIn K mainGlobals "set" = some none)
    (z7 : PySem.W.nsIn K mainGlobals "sorted" = some none)
    (z8 : PySem.W.nsIn K mainGlobals "str" = some none)
    (z9 : PySem.W.nsIn K mainGlobals "tuple" = some none)
    {tk0 : Tok} (q0 : PySem.W.nsIn K mainGlobals "SMALL" = some (some (.str "abcdefghijklmnopqrstuvwxyz" tk0)))
    {tk1 : Tok} (q1 : PySem.W.nsIn K mainGlobals "LONGEST" = some (some (.int 6 tk1)))
    {tk2 : Tok} (q2 : PySem.W.nsIn K mainGlobals "MOST_NAMES" = some (some (.int 4 tk2)))
    {tk3 : Tok} (q3 : PySem.W.nsIn K mainGlobals "MOST_PARTS" = some (some (.int 6 tk3)))
    {tk4 : Tok} (q4 : PySem.W.nsIn K mainGlobals "DEEPEST" = some (some (.int 8 tk4)))
    : ∃ fd : FuncData, (∀ (s : Shared) (v : Value), BindsTo s fd ⟨[v], []⟩ [("_law_script", v)]) ∧ ∀ base : Heap, K.In base → base.Ns mainGlobals mg → FnOk l.prog w K mg base (L2.CX l.prog w) 28 fa fd ["_law_script"] (spLaw K) := by
  have e := hfa.symm.trans (PySem.W.mg_of X G a10)
  cases e
  have F0 := fun_mk (st := s_is_name) l0 c0 k0
  have b0 := F0.binds (ps := ["thing"]) fun _ _ _ _ _ _ us hl => match us, hl with | [_], _ => rfl
  have F1 := fun_mk (st := s_is_part) l1 c1 k1
  have b1 := F1.binds (ps := ["thing", "deep"]) fun _ _ _ _ _ _ us hl => match us, hl with | [_, _], _ => rfl
  have F2 := fun_mk (st := s_is_house_of) l2 c2 k2
  have b2 := F2.binds (ps := ["thing", "deep"]) fun _ _ _ _ _ _ us hl => match us, hl with | [_, _], _ => rfl
  have F3 := fun_mk (st := s_is_house) l3 c3 k3
  have b3 := F3.binds (ps := ["thing"]) fun _ _ _ _ _ _ us hl => match us, hl with | [_], _ => rfl
  have F4 := fun_mk (st := s_law_cell) l4 c4 k4
  have b4 := F4.binds (ps := ["_law_script", "_law_k"]) fun _ _ _ _ _ _ us hl => match us, hl with | [_, _], _ => rfl
  have F5 := fun_mk (st := s_law_pick) l5 c5 k5
  have b5 := F5.binds (ps := ["_law_script", "_law_k", "_law_many"]) fun _ _ _ _ _ _ us hl => match us, hl with | [_, _, _], _ => rfl
  have F6 := fun_mk (st := s_law_house) l6 c6 k6
  have b6 := F6.binds (ps := ["_law_script", "_law_at", "_law_deep"]) fun _ _ _ _ _ _ us hl => match us, hl with | [_, _, _], _ => rfl
  have F7 := fun_mk (st := s_law_bad_house) l7 c7 k7
  have b7 := F7.binds (ps := ["_law_house_here", "_law_cell_here"]) fun _ _ _ _ _ _ us hl => match us, hl with | [_, _], _ => rfl
  have F8 := fun_mk (st := s_law_with) l8 c8 k8
  have b8 := F8.binds (ps := ["_law_house_here", "_law_script", "_law_at", "_law_cell_here"]) fun _ _ _ _ _ _ us hl => match us, hl with | [_, _, _, _], _ => rfl
  have F9 := fun_mk (st := s_law_once) l9 c9 k9
  have b9 := F9.binds (ps := ["_law_script"]) fun _ _ _ _ _ _ us hl => match us, hl with | [_], _ => rfl
  have F10 := fun_mk (st := s_law) l10 c10 k10
  have b10 := F10.binds (ps := ["_law_script"]) fun _ _ _ _ _ _ us hl => match us, hl with | [_], _ => rfl
  let T : Tp K mg := {
    a_is_name := g0, d_is_name := _, F_is_name := F0, b_is_name := b0, m_is_name := PySem.W.mg_of X G a0,
    a_is_part := g1, d_is_part := _, F_is_part := F1, b_is_part := b1, m_is_part := PySem.W.mg_of X G a1,
    a_is_house_of := g2, d_is_house_of := _, F_is_house_of := F2, b_is_house_of := b2, m_is_house_of := PySem.W.mg_of X G a2,
    a_is_house := g3, d_is_house := _, F_is_house := F3, b_is_house := b3, m_is_house := PySem.W.mg_of X G a3,
    a_law_cell := g4, d_law_cell := _, F_law_cell := F4, b_law_cell := b4, m_law_cell := PySem.W.mg_of X G a4,
    a_law_pick := g5, d_law_pick := _, F_law_pick := F5, b_law_pick := b5, m_law_pick := PySem.W.mg_of X G a5,
    a_law_house := g6, d_law_house := _, F_law_house := F6, b_law_house := b6, m_law_house := PySem.W.mg_of X G a6,
    a_law_bad_house := g7, d_law_bad_house := _, F_law_bad_house := F7, b_law_bad_house := b7, m_law_bad_house := PySem.W.mg_of X G a7,
    a_law_with := g8, d_law_with := _, F_law_with := F8, b_law_with := b8, m_law_with := PySem.W.mg_of X G a8,
    a_law_once := g9, d_law_once := _, F_law_once := F9, b_law_once := b9, m_law_once := PySem.W.mg_of X G a9,
    a_law := fa, d_law := _, F_law := F10, b_law := b10, m_law := PySem.W.mg_of X G a10,
    z_all := PySem.W.mg_none_of X G z0,
    z_enumerate := PySem.W.mg_none_of X G z1,
    z_isinstance := PySem.W.mg_none_of X G z2,
    z_len := PySem.W.mg_none_of X G z3,
    z_list := PySem.W.mg_none_of X G z4,
    z_range := PySem.W.mg_none_of X G z5,
    z_set := PySem.W.mg_none_of X G z6,
    z_sorted := PySem.W.mg_none_of X G z7,
    z_str := PySem.W.mg_none_of X G z8,
    z_tuple := PySem.W.mg_none_of X G z9,
    t_SMALL := _, c_SMALL := PySem.W.mg_of X G q0,
    t_LONGEST := _, c_LONGEST := PySem.W.mg_of X G q1,
    t_MOST_NAMES := _, c_MOST_NAMES := PySem.W.mg_of X G q2,
    t_MOST_PARTS := _, c_MOST_PARTS := PySem.W.mg_of X G q3,
    t_DEEPEST := _, c_DEEPEST := PySem.W.mg_of X G q4
  }
  refine ⟨PySem.W.fnOf "law" "law" (defArgs s_law) (defBody s_law) (defScope s_law) .none kV10 dc10 pm10 an10 cd10 ct10, fun s v => .of_eq rfl, fun base _ _ => ?_⟩
  exact law_end nl (ok_law (P := l.prog) (w := w) (base := base) (cl := cl0) T) (fun ns _ => law_true ns)
theorem walk {l : PySem.W.OpenLaw} {q : Program} {loose : List Str} {XP : (Str → Option Value) → Heap → Prop} {YP : World → Heap → Prop} {d : DefRec} {K : Params → PySem.W.Frag} (hn : l.most = some 63) (hdf : d.params.defaults = [])
    (hY : ∀ (w : World) (h : Heap), YP w h → (K w.params).In h)
    (F : ∀ (w : World) (mg : Str → Option Value) (fa : Addr) (h : Heap), (K w.params).In h → h.Ns mainGlobals mg → mg d.name = some (.ref fa) →
      ∃ fd : FuncData, (∀ (s : Shared) (u : Value), BindsTo s fd ⟨[u], []⟩ [("_law_script", u)]) ∧ ∀ base : Heap, (K w.params).In base → base.Ns mainGlobals mg → FnOk l.prog w (K w.params) mg base (L2.CX l.prog w) 28 fa fd ["_law_script"] (spLaw (K w.params))) :
    PySem.W.WalkO q loose XP YP l.row.toRowW d [] (fun f vs => PySem.call f vs) :=
  L2.walk_of (n := 63) (k := 28) (x := "_law_script") (CX := fun w => L2.CX l.prog w) (sp := fun w => spLaw (K w.params)) hn (by decide) hdf ⟨rfl, by decide, by decide⟩ hY F (fun _ _ a ns hl _ hS => ⟨a, ns, rfl, hS, hl, fun _ => rfl⟩) fun _ _ _ _ _ z => cx_none z
end shorthouse_k01_houses
open PySem PySem.W PyProof.Rows
set_option maxRecDepth 100000 in
set_option maxHeartbeats 0 in
theorem PySem.Challenge.cw_shorthouse_k01_houses_holds : PySem.Challenge.rw_shorthouse_k01_houses.Holds := by
  w_on; o_law; k_head; (case hw => w_witness2)
  k_fill
  refine shorthouse_k01_houses.walk (l := PySem.Challenge.rw_shorthouse_k01_houses) rfl rfl (fun w h Y => PySem.W.kIn_of Y) ?F
  case F =>
    intro w mg fa h KX G hmg
    refine' shorthouse_k01_houses.all_mk KX G hmg ?nl ?a0 ?l0 ?c0 ?k0 ?a1 ?l1 ?c1 ?k1 ?a2 ?l2 ?c2 ?k2 ?a3 ?l3 ?c3 ?k3 ?a4 ?l4 ?c4 ?k4 ?a5 ?l5 ?c5 ?k5 ?a6 ?l6 ?c6 ?k6 ?a7 ?l7 ?c7 ?k7 ?a8 ?l8 ?c8 ?k8 ?a9 ?l9 ?c9 ?k9 ?a10 ?l10 ?c10 ?k10 ?z0 ?z1 ?z2 ?z3 ?z4 ?z5 ?z6 ?z7 ?z8 ?z9 ?q0 ?q1 ?q2 ?q3 ?q4
    (case nl => first | rfl | kernel_rfl | decide +kernel)
    (case a0 => k_is); (case l0 => k_is); (case c0 => k_is); (case k0 => k_is)
    (case a1 => k_is); (case l1 => k_is); (case c1 => k_is); (case k1 => k_is)
    (case a2 => k_is); (case l2 => k_is); (case c2 => k_is); (case k2 => k_is)
    (case a3 => k_is); (case l3 => k_is); (case c3 => k_is); (case k3 => k_is)
    (case a4 => k_is); (case l4 => k_is); (case c4 => k_is); (case k4 => k_is)
    (case a5 => k_is); (case l5 => k_is); (case c5 => k_is); (case k5 => k_is)
    (case a6 => k_is); (case l6 => k_is); (case c6 => k_is); (case k6 => k_is)
    (case a7 => k_is); (case l7 => k_is); (case c7 => k_is); (case k7 => k_is)
    (case a8 => k_is); (case l8 => k_is); (case c8 => k_is); (case k8 => k_is)
    (case a9 => k_is); (case l9 => k_is); (case c9 => k_is); (case k9 => k_is)
    (case a10 => k_is); (case l10 => k_is); (case c10 => k_is); (case k10 => k_is)
    (case z0 => k_is)
    (case z1 => k_is)
    (case z2 => k_is)
    (case z3 => k_is)
    (case z4 => k_is)
    (case z5 => k_is)
    (case z6 => k_is)
    (case z7 => k_is)
    (case z8 => k_is)
    (case z9 => k_is)
    (case q0 => k_is)
    (case q1 => k_is)
    (case q2 => k_is)
    (case q3 => k_is)
    (case q4 => k_is)
end
