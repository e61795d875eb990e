import PyProof.Rows.All
import HandS.ForMost
import HandS.ForExc
import HandS.Deep
import HandS.IsInst
import HandS.CallSlots
import HandS.TupAny
import HandS.TupMul
import HandS.TupLe
import HandS.Style
import HandS.Walk
import HandS.Zip
import HandS.Rev
import HandS.RaiseMore
import HandS.Replace
import HandS.StrMore
import HandS.Strs
import HandS.Defaults
import HandS.Conv
import HandS.Codes
import KE.GoesZip
import KE.GoesMore
import KE.GoesEnum
import HandS.ExcInit
import HandS.ExcField
import HandS.ExcIs
import PySem.Challenge.RW_waymark_k12_what_is_shown_is_read
set_option Elab.async false
set_option linter.all false
set_option maxRecDepth 100000
/-! WmBase: a layer of value semantics over the hand layer: each expression, statement and def computes a plain Lean function of data. -/
namespace Wm
open PySem PySem.Spec PyProof.Rows L2

abbrev D := PyData
abbrev En := List (Option D)

/-- a result: a value, an exception (class, fields), or nothing known -/
inductive Rs (α : Type) where
  | ok (a : α)
  | ex (c : Str) (fs : List (Str × D))
  | bad
def Rs.bind {α β : Type} (r : Rs α) (k : α → Rs β) : Rs β := match r with
  | .ok a => k a
  | .ex c fs => .ex c fs
  | .bad => .bad
instance : Monad Rs where
  pure := Rs.ok
  bind := Rs.bind
/-- so that a rule is used as a step, not as a reckoning -/
theorem nrfl {α : Sort u} {a b : α} (h : a = b) : a = b := h
@[simp] theorem ok_bind {α β : Type} (a : α) (k : α → Rs β) : (Rs.ok a >>= k) = k a := nrfl rfl
@[simp] theorem ex_bind {α β : Type} (c : Str) (fs : List (Str × D)) (k : α → Rs β) : ((Rs.ex c fs : Rs α) >>= k) = .ex c fs := nrfl rfl
@[simp] theorem bad_bind {α β : Type} (k : α → Rs β) : ((Rs.bad : Rs α) >>= k) = .bad := nrfl rfl
@[simp] theorem pure_ok {α : Type} (a : α) : (pure a : Rs α) = .ok a := nrfl rfl
@[simp] theorem bind_assoc' {α β γ : Type} (r : Rs α) (k : α → Rs β) (l : β → Rs γ) : ((r >>= k) >>= l) = (r >>= fun a => k a >>= l) := by cases r <;> rfl

/-! ### heaps -/
theorem same_upd {H : Hp} {p : Addr} {o : HO} (h : H p = none) : Same H (upd H p o) := fun b x e => by
  rw [upd_ne (ne_of_none e h)]; exact e
theorem sqt_same {K : PySem.W.Frag} {H H' : Hp} {a : Addr} {xs : List V} (e : Same H H') (h : SqT K H a xs) : SqT K H' a xs := by
  rcases h with (h | ⟨o, h⟩) | h
  · exact .inl (.inl (e _ _ h))
  · exact .inl (.inr ⟨o, e _ _ h⟩)
  · exact .inr h
theorem rd_same {H H' : Hp} {a : Addr} {u : HO} (e : Same H H') (h : Rd H a u) : Rd H' a u := by
  rcases h with h | ⟨o, h⟩
  · exact .inl (e _ _ h)
  · exact .inr ⟨o, e _ _ h⟩
/-! what a value stands for -/
mutual
inductive Dq (K : PySem.W.Frag) (H : Hp) : V → PyData → Prop
  | non : Dq K H .non .none
  | bl (b : Bool) : Dq K H (.bl b) (.bool b)
  | int (i : Int) : Dq K H (.int i) (.int i)
  | str (x : Str) : Dq K H (.str x) (.str x)
  | lst {a : Addr} {xs : List V} {ds : List PyData} : SqL K H a xs → DqAll K H xs ds → Dq K H (.ref a) (.list ds)
  | tup {a : Addr} {xs : List V} {ds : List PyData} : SqT K H a xs → DqAll K H xs ds → Dq K H (.ref a) (.tuple ds)
inductive DqAll (K : PySem.W.Frag) (H : Hp) : List V → List PyData → Prop
  | nil : DqAll K H [] []
  | cons {v : V} {vs : List V} {d : PyData} {ds : List PyData} : Dq K H v d → DqAll K H vs ds → DqAll K H (v :: vs) (d :: ds)
end
mutual
theorem Dq.dp {K : PySem.W.Frag} {H : Hp} : ∀ {v : V} {d : D}, Dq K H v d → Dp K H v d
  | _, _, .non => .non
  | _, _, .bl b => .bl b
  | _, _, .int i => .int i
  | _, _, .str x => .str x
  | _, _, .lst h r => .lst h (DqAll.dp r)
  | _, _, .tup h r => .tup h (DqAll.dp r)
theorem DqAll.dp {K : PySem.W.Frag} {H : Hp} : ∀ {vs : List V} {ds : List D}, DqAll K H vs ds → DpAll K H vs ds
  | _, _, .nil => .nil
  | _, _, .cons a r => .cons (Dq.dp a) (DqAll.dp r)
end
mutual
theorem dq_mono {K : PySem.W.Frag} {H H' : Hp} (e : Same H H') : ∀ {v : V} {d : D}, Dq K H v d → Dq K H' v d
  | _, _, .non => .non
  | _, _, .bl b => .bl b
  | _, _, .int i => .int i
  | _, _, .str x => .str x
  | _, _, .lst h r => .lst (e.seq h) (dqAll_mono e r)
  | _, _, .tup h r => .tup (sqt_same e h) (dqAll_mono e r)
theorem dqAll_mono {K : PySem.W.Frag} {H H' : Hp} (e : Same H H') : ∀ {vs : List V} {ds : List D}, DqAll K H vs ds → DqAll K H' vs ds
  | _, _, .nil => .nil
  | _, _, .cons a r => .cons (dq_mono e a) (dqAll_mono e r)
end
theorem DqAll.length {K : PySem.W.Frag} {H : Hp} : ∀ {vs : List V} {ds : List PyData}, DqAll K H vs ds → vs.length = ds.length
  | _, _, .nil => rfl
  | _, _, .cons _ r => by simp [DqAll.length r]
theorem DqAll.append {K : PySem.W.Frag} {H : Hp} : ∀ {vs ws : List V} {ds es : List PyData}, DqAll K H vs ds → DqAll K H ws es → DqAll K H (vs ++ ws) (ds ++ es)
  | _, _, _, _, .nil, s => s
  | _, _, _, _, .cons a r, s => .cons a (DqAll.append r s)
theorem DqAll.get {K : PySem.W.Frag} {H : Hp} : ∀ {vs : List V} {ds : List PyData} {i : Nat} {d : PyData}, DqAll K H vs ds → ds[i]? = some d → ∃ v, vs[i]? = some v ∧ Dq K H v d
  | _, _, _, _, .nil, e => by simp at e
  | _, _, 0, _, .cons a r, e => ⟨_, rfl, by simp at e; subst e; exact a⟩
  | _, _, i + 1, _, .cons a r, e => by
    obtain ⟨v, h1, h2⟩ := DqAll.get (i := i) r (by simpa using e)
    exact ⟨v, by simpa using h1, h2⟩
theorem DqAll.set {K : PySem.W.Frag} {H : Hp} {v : V} {d : PyData} (h : Dq K H v d) : ∀ {vs : List V} {ds : List PyData} (i : Nat), DqAll K H vs ds → DqAll K H (vs.set i v) (ds.set i d)
  | _, _, _, .nil => .nil
  | _, _, 0, .cons _ r => .cons h r
  | _, _, i + 1, .cons a r => .cons a (DqAll.set h i r)
theorem DqAll.take {K : PySem.W.Frag} {H : Hp} : ∀ {vs : List V} {ds : List PyData} (n : Nat), DqAll K H vs ds → DqAll K H (vs.take n) (ds.take n)
  | _, _, 0, _ => .nil
  | _, _, _ + 1, .nil => .nil
  | _, _, n + 1, .cons a r => .cons a (DqAll.take n r)
theorem DqAll.drop {K : PySem.W.Frag} {H : Hp} : ∀ {vs : List V} {ds : List PyData} (n : Nat), DqAll K H vs ds → DqAll K H (vs.drop n) (ds.drop n)
  | _, _, 0, r => r
  | _, _, _ + 1, .nil => .nil
  | _, _, n + 1, .cons _ r => DqAll.drop n r

/-- the heap grows: H by new objects; Hd, the part that stands still, too; nothing of H comes into Hd -/
structure Step (H Hd H' Hd' : Hp) : Prop where
  up : Same H H'
  sub : Same Hd' H'
  keep : Same Hd Hd'
  old : ∀ a, H a ≠ none → Hd' a = Hd a
theorem Step.refl {H Hd : Hp} (s : Same Hd H) : Step H Hd H Hd := ⟨fun _ _ e => e, s, fun _ _ e => e, fun _ _ => rfl⟩
theorem Step.of {H Hd H' Hd' : Hp} (s : Same Hd H) (up : Same H H') (sub : Same Hd' H') (old : ∀ a, H a ≠ none → Hd' a = Hd a) : Step H Hd H' Hd' := ⟨up, sub, fun a o e => by
    rw [old a (by rw [s a o e]; simp)]; exact e, old⟩
theorem Step.trans {H Hd H1 Hd1 H2 Hd2 : Hp} (s : Step H Hd H1 Hd1) (t : Step H1 Hd1 H2 Hd2) : Step H Hd H2 Hd2 :=
  ⟨fun a o e => t.up a o (s.up a o e), t.sub, fun a o e => t.keep a o (s.keep a o e), fun a h => by
    have h1 : H1 a ≠ none := by
      cases e : H a with
      | none => exact absurd e h
      | some o => rw [s.up a o e]; simp
    rw [t.old a h1, s.old a h]⟩
theorem none_of_same {H H' : Hp} (s : Same H H') {p : Addr} (h : H' p = none) : H p = none := by
  cases e : H p with
  | none => rfl
  | some o => rw [s p o e] at h; cases h
/-- a new object that stands still -/
theorem Step.new {H Hd : Hp} {p : Addr} {o : HO} (s : Same Hd H) (h : H p = none) : Step H Hd (upd H p o) (upd Hd p o) :=
  .of s (same_upd h) (fun a x e => by
    by_cases z : a = p
    · subst z; rw [upd_same] at e ⊢; exact e
    · rw [upd_ne z] at e ⊢; exact s a x e) fun a n => by
    rw [upd_ne (fun z => n (by rw [z]; exact h))]
/-- a new object that is owned -/
theorem Step.own {H Hd : Hp} {p : Addr} {o : HO} (s : Same Hd H) (h : H p = none) : Step H Hd (upd H p o) Hd :=
  .of s (same_upd h) (fun a x e => same_upd h a x (s a x e)) fun _ _ => rfl

/-! the slots and the heap stand for the data. own: codes. i: slot i holds its list alone; 100 * c + i: slot i holds an object of the class c; 1000 + i: slot i stands (what the def was handed there) -/
/-- the classes: their names, their fields in the order in which they are stored -/
def cN : Nat → Str × List Str
  | 1 => ("Reader", ["text", "here"])
  | 2 => ("Desk", ["here", "known"])
  | _ => ("", [])
def obC (i j : Nat) : Bool := decide (100 ≤ j) && (decide (j < 1000) && decide (j % 100 = i))
def isObj (own : List Nat) (i : Nat) : Bool := own.any (obC i)
def drp (own : List Nat) (i : Nat) : List Nat := own.filter fun j => decide (1000 ≤ j) || decide (j % 100 ≠ i)
/-- a def's base: what stood at its entry, less what it owns; the slots that stand -/
structure Bs where
  h : Hp
  an : Nat → Option V
/-- fields: a list is the object's own -/
inductive FvAll (K : PySem.W.Frag) (H Hd : Hp) : List Addr → List V → List D → Prop
  | nil : FvAll K H Hd [] [] []
  | still {v : V} {d : D} {A : List Addr} {vs : List V} {ds : List D} : (∀ l, d ≠ .list l) → Dq K Hd v d → FvAll K H Hd A vs ds → FvAll K H Hd A (v :: vs) (d :: ds)
  | own {a : Addr} {ws : List V} {es : List D} {A : List Addr} {vs : List V} {ds : List D} : H a = some (.lst ws) → DqAll K Hd ws es → FvAll K H Hd A vs ds → FvAll K H Hd (a :: A) (.ref a :: vs) (.list es :: ds)
/-- what is owned: at 0 a list (or a value that is none), else an object of the class -/
def Ov (K : PySem.W.Frag) (H Hd : Hp) : Nat → List Addr → V → D → Prop
  | 0, A, v, d => (∃ a vs ds, v = .ref a ∧ d = .list ds ∧ A = [a] ∧ H a = some (.lst vs) ∧ DqAll K Hd vs ds) ∨ ((∀ ds, d ≠ .list ds) ∧ A = [] ∧ Dq K Hd v d)
  | c + 1, A, v, d => ∃ p C dx vs ds A', v = .ref p ∧ d = .tuple ds ∧ A = p :: dx :: A' ∧ PySem.W.nsIn K mainGlobals (cN (c + 1)).1 = some (some (.ref C)) ∧ H p = some (.ins C dx (List.zip ((cN (c + 1)).2.take ds.length) vs)) ∧ H dx = some (.own p) ∧ ds.length ≤ (cN (c + 1)).2.length ∧ FvAll K H Hd A' vs ds ∧ A'.Nodup
section
variable {K : PySem.W.Frag} {H Hd H' Hd' : Hp}
theorem FvAll.mono {A : List Addr} {vs : List V} {ds : List D} (h : FvAll K H Hd A vs ds) (k : ∀ a ∈ A, ∀ o, H a = some o → H' a = some o) (e : Same Hd Hd') : FvAll K H' Hd' A vs ds := by
  induction h with
  | nil => exact .nil
  | still n d _ ih => exact .still n (dq_mono e d) (ih k)
  | own q d _ ih => exact .own (k _ List.mem_cons_self _ q) (dqAll_mono e d) (ih fun a m => k a (List.mem_cons_of_mem _ m))
theorem FvAll.len {A : List Addr} {vs : List V} {ds : List D} (h : FvAll K H Hd A vs ds) : vs.length = ds.length := by
  induction h with
  | nil => rfl
  | still _ _ _ ih => simp [ih]
  | own _ _ _ ih => simp [ih]
theorem FvAll.there {A : List Addr} {vs : List V} {ds : List D} (h : FvAll K H Hd A vs ds) : ∀ a ∈ A, ∃ ws, H a = some (.lst ws) := by
  induction h with
  | nil => exact fun _ m => nomatch m
  | still _ _ _ ih => exact ih
  | own q _ _ ih =>
    intro a m
    rcases List.mem_cons.mp m with rfl | m
    · exact ⟨_, q⟩
    · exact ih a m
theorem Ov.mono {c : Nat} {A : List Addr} {v : V} {d : D} (h : Ov K H Hd c A v d) (k : ∀ a ∈ A, ∀ o, H a = some o → H' a = some o) (e : Same Hd Hd') : Ov K H' Hd' c A v d := by
  cases c with
  | zero =>
    rcases h with ⟨a, vs, ds, e1, e2, e3, e4, e5⟩ | ⟨e1, e2, e3⟩
    · subst e3; exact .inl ⟨a, vs, ds, e1, e2, rfl, k a List.mem_cons_self _ e4, dqAll_mono e e5⟩
    · exact .inr ⟨e1, e2, dq_mono e e3⟩
  | succ c =>
    obtain ⟨p, C, dx, vs, ds, A', e1, e2, e3, e4, e5, e6, e7, e8, e9⟩ := h
    subst e3
    exact ⟨p, C, dx, vs, ds, A', e1, e2, rfl, e4, k p List.mem_cons_self _ e5, k dx (List.mem_cons_of_mem _ List.mem_cons_self) _ e6, e7, e8.mono (fun a m => k a (List.mem_cons_of_mem _ (List.mem_cons_of_mem _ m))) e, e9⟩
end
structure Rel (K : PySem.W.Frag) (H0 : Bs) (Hd0 : Hp) (own : List Nat) (ρ : En) (σ : L2.St) (H Hd : Hp) : Prop where
  st : Step H0.h Hd0 H Hd
  len : ρ.length = σ.length
  val : ∀ i d, ρ[i]? = some (some d) → (i < 100 → i ∉ own) → isObj own i = false → ∃ v, σ[i]? = some (some v) ∧ Dq K Hd v d
  anc : ∀ i v, H0.an i = some v → 1000 + i ∈ own ∧ σ[i]? = some (some v)
  ex : ∃ A : Nat → List Addr, (∀ j, j ∈ own → j < 1000 → ∀ d, ρ[j % 100]? = some (some d) → ∃ v, σ[j % 100]? = some (some v) ∧ Ov K H Hd (j / 100) (A j) v d) ∧
    (∀ j, j ∈ own → ∀ a ∈ A j, Hd a = none ∧ H0.h a = none ∧ H a ≠ none) ∧
    (∀ j k, j ∈ own → k ∈ own → ∀ a, a ∈ A j → a ∈ A k → j = k)
theorem Rel.step {K : PySem.W.Frag} {H0 : Bs} {Hd0 : Hp} {own : List Nat} {ρ : En} {σ : L2.St} {H Hd H' Hd' : Hp} (r : Rel K H0 Hd0 own ρ σ H Hd) (t : Step H Hd H' Hd') : Rel K H0 Hd0 own ρ σ H' Hd' where
  st := r.st.trans t
  len := r.len
  val := fun i d e n n2 => let ⟨v, h1, h2⟩ := r.val i d e n n2; ⟨v, h1, dq_mono (t.keep) h2⟩
  anc := r.anc
  ex := by
    obtain ⟨A, h1, h2, h3⟩ := r.ex
    refine ⟨A, fun j m l d e => ?_, fun j m a ma => ?_, h3⟩
    · obtain ⟨v, e1, e2⟩ := h1 j m l d e
      exact ⟨v, e1, e2.mono (fun a _ o q => t.up a o q) t.keep⟩
    · obtain ⟨q1, q2, q3⟩ := h2 j m a ma
      refine ⟨by rw [t.old a q3]; exact q1, q2, fun z => q3 ?_⟩
      cases w : H a with
      | none => rfl
      | some o => rw [t.up a o w] at z; cases z
/-- what an owned slot holds, where it is a list -/
theorem Rel.ownL {K : PySem.W.Frag} {H0 : Bs} {Hd0 : Hp} {own : List Nat} {ρ : En} {σ : L2.St} {H Hd : Hp} (r : Rel K H0 Hd0 own ρ σ H Hd) {i : Nat} {d : D} (h : ρ[i]? = some (some d)) (m : i ∈ own) (hi : i < 100) :
    (∃ (a : Addr) (vs : List V) (ds : List D), d = .list ds ∧ σ[i]? = some (some (V.ref a)) ∧ H a = some (.lst vs) ∧ Hd a = none ∧ H0.h a = none ∧ DqAll K Hd vs ds) ∨
    ((∀ ds, d ≠ .list ds) ∧ ∃ v, σ[i]? = some (some v) ∧ Dq K Hd v d) := by
  obtain ⟨A, h1, h2, h3⟩ := r.ex
  have e : i % 100 = i := Nat.mod_eq_of_lt hi
  have e2 : i / 100 = 0 := Nat.div_eq_of_lt hi
  obtain ⟨v, v1, v2⟩ := h1 i m (by omega) d (by rw [e]; exact h)
  rw [e] at v1
  rw [e2] at v2
  rcases v2 with ⟨a, vs, ds, q1, q2, q3, q4, q5⟩ | ⟨q1, _, q3⟩
  · subst q1
    obtain ⟨w1, w2, _⟩ := h2 i m a (by rw [q3]; exact List.mem_cons_self)
    exact .inl ⟨a, vs, ds, q2, v1, q4, w1, w2, q5⟩
  · exact .inr ⟨q1, v, v1, q3⟩

/-- an exception: its class, its fields -/
def ExR (K : PySem.W.Frag) (mg : Str → Option Value) (H Hd : Hp) (c : Str) (fs : List (Str × D)) (cls : Value) (a : Option Addr) : Prop :=
  mg c = some cls ∧ match fs with
  | [] => a = none
  | fs => ∃ p vs, a = some p ∧ H p = some (.xd (List.zip (fs.map (·.1)) vs)) ∧ DqAll K Hd vs (fs.map (·.2))
theorem ExR.mono {K : PySem.W.Frag} {mg : Str → Option Value} {H Hd H' Hd' : Hp} {c : Str} {fs : List (Str × D)} {cls : Value} {a : Option Addr} (h : ExR K mg H Hd c fs cls a) (e : Same H H') (e' : Same Hd Hd') : ExR K mg H' Hd' c fs cls a := by
  obtain ⟨h1, h2⟩ := h
  refine ⟨h1, ?_⟩
  cases fs with
  | nil => exact h2
  | cons f fs =>
    obtain ⟨p, vs, e1, e2, e3⟩ := h2
    exact ⟨p, vs, e1, e _ _ e2, dqAll_mono e' e3⟩

/-- good, or a list that a slot owns (its items good) -/
def Dv (K : PySem.W.Frag) (H Hd : Hp) (v : V) (d : D) : Prop := Dq K Hd v d ∨ ∃ (a : Addr) (vs : List V) (ds : List D), v = V.ref a ∧ d = .list ds ∧ H a = some (.lst vs) ∧ DqAll K Hd vs ds
theorem Dv.step {K : PySem.W.Frag} {H Hd H' Hd' : Hp} {v : V} {d : D} (s : Same Hd H) (t : Step H Hd H' Hd') (h : Dv K H Hd v d) : Dv K H' Hd' v d := by
  rcases h with h | ⟨a, vs, ds, e1, e2, e3, e4⟩
  · exact .inl (dq_mono (t.keep) h)
  · exact .inr ⟨a, vs, ds, e1, e2, t.up _ _ e3, dqAll_mono (t.keep) e4⟩
theorem Dv.dp {K : PySem.W.Frag} {H Hd : Hp} {v : V} {d : D} (s : Same Hd H) (h : Dv K H Hd v d) : Dq K H v d := by
  rcases h with h | ⟨a, vs, ds, rfl, rfl, e3, e4⟩
  · exact dq_mono s h
  · exact .lst (.inl (.inl e3)) (dqAll_mono s e4)

/-- a list is a new one, held by none -/
def NewV (K : PySem.W.Frag) (H H' Hd' : Hp) (v : V) (d : D) : Prop := match d with
  | .list ds => ∃ p vs, v = .ref p ∧ H p = none ∧ Hd' p = none ∧ H' p = some (.lst vs) ∧ DqAll K Hd' vs ds
  | d => Dq K Hd' v d
section
variable (X : Cx) (W : WX)
def PoE (σ : L2.St) (H Hd : Hp) (r : Rs D) (Q : VK) : Prop := match r with
  | .ok d => ∀ v H' Hd', Step H Hd H' Hd' → Dq X.K Hd' v d → Q v H'
  | .ex c fs => ∀ cls a H' Hd', Step H Hd H' Hd' → ExR X.K X.mg H' Hd' c fs cls a → W cls a σ H'
  | .bad => False
def PoB (σ : L2.St) (H Hd : Hp) (r : Rs D) (Q : VK) : Prop := match r with
  | .ok d => ∀ v H' Hd', Step H Hd H' Hd' → Dv X.K H' Hd' v d → Q v H'
  | .ex c fs => ∀ cls a H' Hd', Step H Hd H' Hd' → ExR X.K X.mg H' Hd' c fs cls a → W cls a σ H'
  | .bad => False
def PoM (σ : L2.St) (H Hd : Hp) (r : Rs D) (Q : VK) : Prop := match r with
  | .ok d => ∀ v H' Hd', Step H Hd H' Hd' → NewV X.K H H' Hd' v d → Q v H'
  | .ex c fs => ∀ cls a H' Hd', Step H Hd H' Hd' → ExR X.K X.mg H' Hd' c fs cls a → W cls a σ H'
  | .bad => False
def PoT (σ : L2.St) (H Hd : Hp) (r : Rs Bool) (Q : Bool → Hp → Prop) : Prop := match r with
  | .ok b => ∀ H' Hd', Step H Hd H' Hd' → Q b H'
  | .ex c fs => ∀ cls a H' Hd', Step H Hd H' Hd' → ExR X.K X.mg H' Hd' c fs cls a → W cls a σ H'
  | .bad => False
def PoA (σ : L2.St) (H Hd : Hp) (r : Rs (List D)) (Q : List V → Hp → Prop) : Prop := match r with
  | .ok ds => ∀ vs H' Hd', Step H Hd H' Hd' → DqAll X.K Hd' vs ds → Q vs H'
  | .ex c fs => ∀ cls a H' Hd', Step H Hd H' Hd' → ExR X.K X.mg H' Hd' c fs cls a → W cls a σ H'
  | .bad => False
end
section
variable {X : Cx} {W : WX} {σ : L2.St} {H Hd H1 Hd1 : Hp}
theorem PoE.step {r : Rs D} {Q : VK} (h : PoE X W σ H Hd r Q) (t : Step H Hd H1 Hd1) : PoE X W σ H1 Hd1 r Q := by
  cases r with
  | ok d => exact fun v H' Hd' s => h v H' Hd' (t.trans s)
  | ex c fs => exact fun cls a H' Hd' s => h cls a H' Hd' (t.trans s)
  | bad => exact h
theorem PoB.step {r : Rs D} {Q : VK} (h : PoB X W σ H Hd r Q) (t : Step H Hd H1 Hd1) : PoB X W σ H1 Hd1 r Q := by
  cases r with
  | ok d => exact fun v H' Hd' s => h v H' Hd' (t.trans s)
  | ex c fs => exact fun cls a H' Hd' s => h cls a H' Hd' (t.trans s)
  | bad => exact h
theorem NewV.back {H H1 H' Hd' : Hp} {v : V} {d : D} (s : Same H H1) (h : NewV X.K H1 H' Hd' v d) : NewV X.K H H' Hd' v d := by
  cases d with
  | list ds => obtain ⟨p, vs, e, n, r⟩ := h; exact ⟨p, vs, e, none_of_same s n, r⟩
  | _ => exact h
theorem PoM.step {r : Rs D} {Q : VK} (h : PoM X W σ H Hd r Q) (t : Step H Hd H1 Hd1) : PoM X W σ H1 Hd1 r Q := by
  cases r with
  | ok d => exact fun v H' Hd' s n => h v H' Hd' (t.trans s) (n.back t.up)
  | ex c fs => exact fun cls a H' Hd' s => h cls a H' Hd' (t.trans s)
  | bad => exact h
theorem PoT.step {r : Rs Bool} {Q : Bool → Hp → Prop} (h : PoT X W σ H Hd r Q) (t : Step H Hd H1 Hd1) : PoT X W σ H1 Hd1 r Q := by
  cases r with
  | ok d => exact fun H' Hd' s => h H' Hd' (t.trans s)
  | ex c fs => exact fun cls a H' Hd' s => h cls a H' Hd' (t.trans s)
  | bad => exact h
theorem PoA.step {r : Rs (List D)} {Q : List V → Hp → Prop} (h : PoA X W σ H Hd r Q) (t : Step H Hd H1 Hd1) : PoA X W σ H1 Hd1 r Q := by
  cases r with
  | ok d => exact fun vs H' Hd' s => h vs H' Hd' (t.trans s)
  | ex c fs => exact fun cls a H' Hd' s => h cls a H' Hd' (t.trans s)
  | bad => exact h
end

/-! ### the judgements -/
structure SE (X : Cx) (W : WX) (own : List Nat) (e : Expr) (f : En → Rs D) : Prop where
  ex : ∃ t, PE X e t ∧ ∀ H0 Hd0 ρ σ H Hd, Rel X.K H0 Hd0 own ρ σ H Hd → ∀ Q : VK, PoE X W σ H Hd (f ρ) Q → t σ H Q
structure SB (X : Cx) (W : WX) (own : List Nat) (e : Expr) (f : En → Rs D) : Prop where
  ex : ∃ t, PE X e t ∧ ∀ H0 Hd0 ρ σ H Hd, Rel X.K H0 Hd0 own ρ σ H Hd → ∀ Q : VK, PoB X W σ H Hd (f ρ) Q → t σ H Q
structure SM (X : Cx) (W : WX) (own : List Nat) (e : Expr) (f : En → Rs D) : Prop where
  ex : ∃ t, PE X e t ∧ ∀ H0 Hd0 ρ σ H Hd, Rel X.K H0 Hd0 own ρ σ H Hd → ∀ Q : VK, PoM X W σ H Hd (f ρ) Q → t σ H Q
structure SC (X : Cx) (W : WX) (own : List Nat) (e : Expr) (f : En → Rs Bool) : Prop where
  ex : ∃ t, PT X e t ∧ ∀ H0 Hd0 ρ σ H Hd, Rel X.K H0 Hd0 own ρ σ H Hd → ∀ Q : Bool → Hp → Prop, PoT X W σ H Hd (f ρ) Q → t σ H Q
/-- a chain of and, or -/
structure SW (X : Cx) (W : WX) (own : List Nat) (e : Expr) (f : En → Rs Bool) : Prop where
  ex : ∃ t, PW X e t ∧ ∀ H0 Hd0 ρ σ H Hd, Rel X.K H0 Hd0 own ρ σ H Hd → ∀ Q : Bool → Hp → Prop, PoT X W σ H Hd (f ρ) Q → t σ H Q
structure SA (X : Cx) (W : WX) (own : List Nat) (es : List Expr) (f : En → Rs (List D)) : Prop where
  ex : ∃ t, PA X es t ∧ ∀ H0 Hd0 ρ σ H Hd, Rel X.K H0 Hd0 own ρ σ H Hd → ∀ Q : List V → Hp → Prop, PoA X W σ H Hd (f ρ) Q → t σ H Q
section
variable {X : Cx} {W : WX} {own : List Nat} {e a b : Expr} {f fa fb : En → Rs D} {pos : Pos}
theorem SE.bb (h : SE X W own e f) : SB X W own e f := by
  obtain ⟨t, p, r⟩ := h.ex
  refine ⟨t, p, fun H0 Hd0 ρ σ H Hd R Q q => r H0 Hd0 ρ σ H Hd R Q ?_⟩
  cases hf : f ρ with
  | ok d => rw [hf] at q; exact fun v H' Hd' s x => q v H' Hd' s (.inl x)
  | ex c fs => rw [hf] at q; exact q
  | bad => rw [hf] at q; exact q
/-- what is new may be let stand -/
theorem NewV.still {H Hd H' Hd' : Hp} {v : V} {d : D} (s : Step H Hd H' Hd') (h : NewV X.K H H' Hd' v d) : ∃ Hd'', Step H Hd H' Hd'' ∧ Dq X.K Hd'' v d := by
  have triv : Dq X.K Hd' v d → ∃ Hd'', Step H Hd H' Hd'' ∧ Dq X.K Hd'' v d := fun h => ⟨Hd', s, h⟩
  cases d with
  | list ds =>
    obtain ⟨p, vs, rfl, n, n', e1, r1⟩ := h
    have n2 : Same Hd' (upd Hd' p (.lst vs)) := same_upd n'
    refine ⟨upd Hd' p (.lst vs), ⟨s.up, fun b x eb => ?_, fun b x e => n2 b x (s.keep b x e), fun b nb => ?_⟩, .lst (.inl (.inl upd_same)) (dqAll_mono n2 r1)⟩
    · by_cases z : b = p
      · subst z; rw [upd_same] at eb; cases eb; exact e1
      · rw [upd_ne z] at eb; exact s.sub b x eb
    · rw [upd_ne (fun z => nb (by rw [z]; exact n))]; exact s.old b nb
  | none => exact triv h
  | bool b => exact triv h
  | int b => exact triv h
  | str b => exact triv h
  | tuple b => exact triv h
  | dict b => exact triv h
theorem SM.se (h : SM X W own e f) : SE X W own e f := by
  obtain ⟨t, p, r⟩ := h.ex
  refine ⟨t, p, fun H0 Hd0 ρ σ H Hd R Q q => r H0 Hd0 ρ σ H Hd R Q ?_⟩
  cases hf : f ρ with
  | ok d =>
    rw [hf] at q
    intro v H' Hd' s n
    obtain ⟨Hd'', s', x⟩ := n.still s
    exact q v H' Hd'' s' x
  | ex c fs => rw [hf] at q; exact q
  | bad => rw [hf] at q; exact q
theorem SE.congr {g : En → Rs D} (h : SE X W own e f) (hg : ∀ ρ, f ρ = g ρ) : SE X W own e g := by
  have : f = g := funext hg
  subst this; exact h
end

/-! ### names, constants -/
def eVar (i : Nat) : En → Rs D := fun ρ => match ρ[i]? with
  | some (some d) => .ok d
  | _ => .bad
def eC (d : D) : En → Rs D := fun _ => .ok d
section
variable {X : Cx} {W : WX} {own : List Nat} {pos : Pos}
theorem se_var (i : Nat) {x : Str} (ho : (own.contains i || isObj own i) = false := by rfl) (hN : X.N[i]? = some x := by rfl) (hv : Vis X.env.scope x := by first | exact Or.inl rfl | exact Or.inr (Or.inl rfl) | exact Or.inr (Or.inr rfl))
    (hd : (x == ("__debug__" : Str)) = false := by rfl) (hcd : (x == ("__classdict__" : Str)) = false := by rfl) : SE X W own (.Name x pos) (eVar i) := by
  refine ⟨_, pe_var hN hv hd hcd, fun H0 Hd0 ρ σ H Hd R Q q => ?_⟩
  unfold eVar at q
  cases hi : ρ[i]? with
  | none => rw [hi] at q; exact q.elim
  | some o =>
    cases o with
    | none => rw [hi] at q; exact q.elim
    | some d =>
      rw [hi] at q
      obtain ⟨v, h1, h2⟩ := R.val i d hi (by intro _ h; rw [List.contains_iff_mem.mpr h] at ho; cases ho) (Bool.or_eq_false_iff.mp ho).2
      exact ⟨v, h1, q v H Hd (.refl R.st.sub) h2⟩
theorem sb_own (i : Nat) {x : Str} (ho : (own.contains i && decide (i < 100)) = true := by rfl) (hN : X.N[i]? = some x := by rfl) (hv : Vis X.env.scope x := by first | exact Or.inl rfl | exact Or.inr (Or.inl rfl) | exact Or.inr (Or.inr rfl))
    (hd : (x == ("__debug__" : Str)) = false := by rfl) (hcd : (x == ("__classdict__" : Str)) = false := by rfl) : SB X W own (.Name x pos) (eVar i) := by
  refine ⟨_, pe_var hN hv hd hcd, fun H0 Hd0 ρ σ H Hd R Q q => ?_⟩
  unfold eVar at q
  cases hi : ρ[i]? with
  | none => rw [hi] at q; exact q.elim
  | some o =>
    cases o with
    | none => rw [hi] at q; exact q.elim
    | some d =>
      rw [hi] at q
      rcases R.ownL hi (List.contains_iff_mem.mp (Bool.and_eq_true_iff.mp ho).1) (of_decide_eq_true (Bool.and_eq_true_iff.mp ho).2) with ⟨a, vs, ds, rfl, h2, h3, h4, h5, h6⟩ | ⟨h1, v, h2, h3⟩
      · exact ⟨.ref a, h2, q (.ref a) H Hd (.refl R.st.sub) (.inr ⟨a, vs, ds, rfl, rfl, h3, h6⟩)⟩
      · exact ⟨v, h2, q v H Hd (.refl R.st.sub) (.inl h3)⟩
theorem se_c {v : V} {d : D} {e : Expr} (h : PE X e (tC v)) (hd : ∀ K H, Dq K H v d) : SE X W own e (eC d) :=
  ⟨_, h, fun H0 Hd0 ρ σ H Hd R Q q => q v H Hd (.refl R.st.sub) (hd _ _)⟩
theorem se_int {i : Int} {j : Nat} : SE X W own (.Constant (.int i) j pos) (eC (.int i)) := se_c pe_int fun _ _ => .int i
theorem se_bl {b : Bool} {j : Nat} : SE X W own (.Constant (.bool b) j pos) (eC (.bool b)) := se_c pe_bl fun _ _ => .bl b
theorem se_non {j : Nat} : SE X W own (.Constant .none j pos) (eC .none) := se_c pe_non fun _ _ => .non
theorem se_str {x y : Str} {j : Nat} (h : x = y := by rfl) : SE X W own (.Constant (.str x) j pos) (eC (.str y)) := by
  subst h; exact se_c pe_str fun _ _ => .str x
/-- a module's constant -/
theorem se_glob {x : Str} {v : V} {u : Value} {d : D} (hm : X.mg x = some u) (r : RelV v u) (hd : ∀ H, Dq X.K H v d) (hg : Gl X x := by rfl) (hdb : (x == ("__debug__" : Str)) = false := by rfl) : SE X W own (.Name x pos) (eC d) :=
  ⟨_, pe_glob hg hm r hdb, fun H0 Hd0 ρ σ H Hd R Q q => q v H Hd (.refl R.st.sub) (hd _)⟩
end

/-! ### two places -/
/-- an operation on values is one on data -/
def OpS (X : Cx) (r : R2) (g : D → D → Rs D) : Prop := ∀ W σ H Hd x y dx dy, Same Hd H → Dv X.K H Hd x dx → Dv X.K H Hd y dy → ∀ Q, PoE X W σ H Hd (g dx dy) Q → r x y H Q
def e2 (g : D → D → Rs D) (fa fb : En → Rs D) : En → Rs D := fun ρ => fa ρ >>= fun x => fb ρ >>= fun y => g x y
section
variable {X : Cx} {W : WX} {own : List Nat} {a b : Expr} {fa fb : En → Rs D} {pos : Pos}
/-- two operands in a row -/
theorem run2 {ta tb : TE} {g : D → D → Rs D} {r : R2} (hr : OpS X r g)
    (ra : ∀ H0 Hd0 ρ σ H Hd, Rel X.K H0 Hd0 own ρ σ H Hd → ∀ Q : VK, PoB X W σ H Hd (fa ρ) Q → ta σ H Q)
    (rb : ∀ H0 Hd0 ρ σ H Hd, Rel X.K H0 Hd0 own ρ σ H Hd → ∀ Q : VK, PoB X W σ H Hd (fb ρ) Q → tb σ H Q)
    {H0 : Bs} {Hd0 : Hp} {ρ : En} {σ : L2.St} {H Hd : Hp} (R : Rel X.K H0 Hd0 own ρ σ H Hd) {Q : VK} (q : PoE X W σ H Hd (e2 g fa fb ρ) Q) : tOp r ta tb σ H Q := by
  show ta σ H fun x H1 => tb σ H1 fun y H2 => r x y H2 Q
  refine ra _ _ _ _ _ _ R _ ?_
  unfold e2 at q
  cases ha : fa ρ with
  | bad => rw [ha] at q; exact q
  | ex c fs => rw [ha] at q; exact q
  | ok d1 =>
    rw [ha] at q
    intro x H1 Hd1 s1 v1
    refine rb _ _ _ _ _ _ (R.step s1) _ ?_
    have q1 : PoE X W σ H1 Hd1 (fb ρ >>= fun y => g d1 y) Q := PoE.step q s1
    cases hb : fb ρ with
    | bad => rw [hb] at q1; exact q1
    | ex c fs => rw [hb] at q1; exact q1
    | ok d2 =>
      rw [hb] at q1
      intro y H2 Hd2 s2 v2
      exact hr W σ H2 Hd2 x y d1 d2 s2.sub (v1.step s1.sub s2) v2 Q (PoE.step q1 s2)
theorem se_op {op : Operator} {r : R2} {g : D → D → Rs D} (ho : OpR X (binaryOp op) r) (hr : OpS X r g) (ha : SB X W own a fa) (hb : SB X W own b fb) : SE X W own (.BinOp a op b pos) (e2 g fa fb) := by
  obtain ⟨ta, pa, ra⟩ := ha.ex
  obtain ⟨tb, pb, rb⟩ := hb.ex
  exact ⟨_, pe_op ho pa pb, fun H0 Hd0 ρ σ H Hd R Q q => run2 hr ra rb R q⟩
theorem se_cmp {op : CmpOp} {r : R2} {g : D → D → Rs D} (ho : OpR X (compareOp op) r) (hr : OpS X r g) (ha : SB X W own a fa) (hb : SB X W own b fb) (hm : behindInMarks op b = false) : SE X W own (.Compare a [op] [b] pos) (e2 g fa fb) := by
  obtain ⟨ta, pa, ra⟩ := ha.ex
  obtain ⟨tb, pb, rb⟩ := hb.ex
  exact ⟨_, pe_cmpR ho pa pb hm, fun H0 Hd0 ρ σ H Hd R Q q => run2 hr ra rb R q⟩
theorem se_ix {r : R2} {g : D → D → Rs D} (ho : IxR X r) (hr : OpS X r g) (ha : SB X W own a fa) (hb : SB X W own b fb) (hs : PlainIx b := by exact fun _ _ => rfl) : SE X W own (.Subscript a b pos) (e2 g fa fb) := by
  obtain ⟨ta, pa, ra⟩ := ha.ex
  obtain ⟨tb, pb, rb⟩ := hb.ex
  exact ⟨_, pe_ix ho pa pb hs, fun H0 Hd0 ρ σ H Hd R Q q => run2 hr ra rb R q⟩
/-- a bool as a test -/
def asB (r : Rs D) : Rs Bool := r >>= fun d => match d with
  | .bool b => .ok b
  | _ => .bad
def tB (f : En → Rs D) : En → Rs Bool := fun ρ => asB (f ρ)
theorem PoT.of_asB {r : Rs D} {σ : L2.St} {H Hd : Hp} {Q : Bool → Hp → Prop} (q : PoT X W σ H Hd (asB r) Q) : PoE X W σ H Hd r (fun x H1 => ∃ k, x = .bl k ∧ Q k H1) := by
  unfold asB at q
  cases r with
  | bad => exact q
  | ex c fs => exact q
  | ok d =>
    intro v H' Hd' s x
    cases x with
    | bl k => exact ⟨k, rfl, q H' Hd' s⟩
    | _ => exact (show False from q).elim
theorem st_cmp {op : CmpOp} {r : R2} {g : D → D → Rs D} (ho : OpR X (compareOp op) r) (hr : OpS X r g) (ha : SB X W own a fa) (hb : SB X W own b fb) (hm : behindInMarks op b = false) : SC X W own (.Compare a [op] [b] pos) (tB (e2 g fa fb)) := by
  obtain ⟨ta, pa, ra⟩ := ha.ex
  obtain ⟨tb, pb, rb⟩ := hb.ex
  exact ⟨_, pt_cmpR ho pa pb hm, fun H0 Hd0 ρ σ H Hd R Q q => run2 hr ra rb R (PoT.of_asB q)⟩
/-- a value that is a truth -/
theorem st_val {e : Expr} {f : En → Rs D} (h : SE X W own e f) (he : ∀ whole, isTrue e X.env whole = (do let v ← whole; standAt e.pos; holding [v] (truthy v)) := by intro _; rfl) : SC X W own e (tB f) := by
  obtain ⟨t, p, r⟩ := h.ex
  exact ⟨_, pt_val p he, fun H0 Hd0 ρ σ H Hd R Q q => r H0 Hd0 ρ σ H Hd R _ (PoT.of_asB q)⟩
end
/-! ### and, or, not -/
def tAn (f g : En → Rs Bool) : En → Rs Bool := fun ρ => f ρ >>= fun c => if c = true then g ρ else .ok false
def tOr' (f g : En → Rs Bool) : En → Rs Bool := fun ρ => f ρ >>= fun c => if c = true then .ok true else g ρ
def tNo (f : En → Rs Bool) : En → Rs Bool := fun ρ => f ρ >>= fun c => .ok (!c)
def eAn (f g : En → Rs D) : En → Rs D := fun ρ => f ρ >>= fun d => match d with
  | .bool true => g ρ
  | .bool false => .ok (.bool false)
  | _ => .bad
def eOr (f g : En → Rs D) : En → Rs D := fun ρ => f ρ >>= fun d => match d with
  | .bool true => .ok (.bool true)
  | .bool false => g ρ
  | _ => .bad
def eNo (f : En → Rs D) : En → Rs D := fun ρ => f ρ >>= fun d => match d with
  | .bool c => .ok (.bool (!c))
  | _ => .bad
def eIf (c : En → Rs Bool) (f g : En → Rs D) : En → Rs D := fun ρ => c ρ >>= fun b => if b = true then f ρ else g ρ
section
variable {X : Cx} {W : WX} {own : List Nat} {a b : Expr} {fa fb : En → Rs Bool} {ga gb : En → Rs D} {pos : Pos} {rest : List Expr}
theorem sw_and1 (h : SC X W own a fa) : SW X W own (.BoolOp .And [a] pos) fa := let ⟨_, p, r⟩ := h.ex; ⟨_, pw_and1 p, r⟩
theorem sw_or1 (h : SC X W own a fa) : SW X W own (.BoolOp .Or [a] pos) fa := let ⟨_, p, r⟩ := h.ex; ⟨_, pw_or1 p, r⟩
theorem sw_and (h : SC X W own a fa) (h2 : SW X W own (.BoolOp .And (b :: rest) pos) fb) : SW X W own (.BoolOp .And (a :: b :: rest) pos) (tAn fa fb) := by
  obtain ⟨ta, pa, ra⟩ := h.ex
  obtain ⟨tb, pb, rb⟩ := h2.ex
  refine ⟨_, pw_and pa pb, fun H0 Hd0 ρ σ H Hd R Q q => ?_⟩
  refine ra _ _ _ _ _ _ R _ ?_
  unfold tAn at q
  cases ha : fa ρ with
  | bad => rw [ha] at q; exact q
  | ex c fs => rw [ha] at q; exact q
  | ok c =>
    rw [ha] at q
    intro H1 Hd1 s1
    have q1 := PoT.step (r := if c = true then fb ρ else .ok false) q s1
    cases c with
    | true => exact rb _ _ _ _ _ _ (R.step s1) _ q1
    | false => exact q1 H1 Hd1 (.refl s1.sub)
theorem sw_or (h : SC X W own a fa) (h2 : SW X W own (.BoolOp .Or (b :: rest) pos) fb) : SW X W own (.BoolOp .Or (a :: b :: rest) pos) (tOr' fa fb) := by
  obtain ⟨ta, pa, ra⟩ := h.ex
  obtain ⟨tb, pb, rb⟩ := h2.ex
  refine ⟨_, pw_or pa pb, fun H0 Hd0 ρ σ H Hd R Q q => ?_⟩
  refine ra _ _ _ _ _ _ R _ ?_
  unfold tOr' at q
  cases ha : fa ρ with
  | bad => rw [ha] at q; exact q
  | ex c fs => rw [ha] at q; exact q
  | ok c =>
    rw [ha] at q
    intro H1 Hd1 s1
    have q1 := PoT.step (r := if c = true then .ok true else fb ρ) q s1
    cases c with
    | true => exact q1 H1 Hd1 (.refl s1.sub)
    | false => exact rb _ _ _ _ _ _ (R.step s1) _ q1
theorem SW.t {e : Expr} {f : En → Rs Bool} (h : SW X W own e f) : SC X W own e f := let ⟨_, p, r⟩ := h.ex; ⟨_, p.pt, r⟩
theorem st_not (h : SC X W own a fa) : SC X W own (.UnaryOp .Not a pos) (tNo fa) := by
  obtain ⟨ta, pa, ra⟩ := h.ex
  refine ⟨_, pt_not pa, fun H0 Hd0 ρ σ H Hd R Q q => ?_⟩
  refine ra _ _ _ _ _ _ R _ ?_
  unfold tNo at q
  cases ha : fa ρ with
  | bad => rw [ha] at q; exact q
  | ex c fs => rw [ha] at q; exact q
  | ok c => rw [ha] at q; exact q
theorem se_one {op : BoolOp} {e : Expr} {f : En → Rs D} (h : SE X W own e f) : SE X W own (.BoolOp op [e] pos) f := let ⟨_, p, r⟩ := h.ex; ⟨_, pe_one p, r⟩
theorem se_and (h : SE X W own a ga) (h2 : SE X W own (.BoolOp .And (b :: rest) pos) gb) : SE X W own (.BoolOp .And (a :: b :: rest) pos) (eAn ga gb) := by
  obtain ⟨ta, pa, ra⟩ := h.ex
  obtain ⟨tb, pb, rb⟩ := h2.ex
  refine ⟨_, pe_and pa pb, fun H0 Hd0 ρ σ H Hd R Q q => ?_⟩
  refine ra _ _ _ _ _ _ R _ ?_
  unfold eAn at q
  cases ha : ga ρ with
  | bad => rw [ha] at q; exact q
  | ex c fs => rw [ha] at q; exact q
  | ok d =>
    rw [ha] at q
    intro v H1 Hd1 s1 x
    cases x with
    | bl c =>
      refine ⟨c, rfl, ?_⟩
      cases c with
      | true => exact rb _ _ _ _ _ _ (R.step s1) _ (PoE.step (r := gb ρ) q s1)
      | false => exact q (.bl false) H1 Hd1 s1 (.bl false)
    | _ => exact (show False from q).elim
theorem se_or (h : SE X W own a ga) (h2 : SE X W own (.BoolOp .Or (b :: rest) pos) gb) : SE X W own (.BoolOp .Or (a :: b :: rest) pos) (eOr ga gb) := by
  obtain ⟨ta, pa, ra⟩ := h.ex
  obtain ⟨tb, pb, rb⟩ := h2.ex
  refine ⟨_, pe_or pa pb, fun H0 Hd0 ρ σ H Hd R Q q => ?_⟩
  refine ra _ _ _ _ _ _ R _ ?_
  unfold eOr at q
  cases ha : ga ρ with
  | bad => rw [ha] at q; exact q
  | ex c fs => rw [ha] at q; exact q
  | ok d =>
    rw [ha] at q
    intro v H1 Hd1 s1 x
    cases x with
    | bl c =>
      refine ⟨c, rfl, ?_⟩
      cases c with
      | true => exact q (.bl true) H1 Hd1 s1 (.bl true)
      | false => exact rb _ _ _ _ _ _ (R.step s1) _ (PoE.step (r := gb ρ) q s1)
    | _ => exact (show False from q).elim
theorem se_not (h : SE X W own a ga) : SE X W own (.UnaryOp .Not a pos) (eNo ga) := by
  obtain ⟨ta, pa, ra⟩ := h.ex
  refine ⟨_, pe_not pa, fun H0 Hd0 ρ σ H Hd R Q q => ?_⟩
  refine ra _ _ _ _ _ _ R _ ?_
  unfold eNo at q
  cases ha : ga ρ with
  | bad => rw [ha] at q; exact q
  | ex c fs => rw [ha] at q; exact q
  | ok d =>
    rw [ha] at q
    intro v H1 Hd1 s1 x
    cases x with
    | bl c => exact ⟨c, rfl, q (.bl (!c)) H1 Hd1 s1 (.bl _)⟩
    | _ => exact (show False from q).elim
theorem se_ifx {c : Expr} {fc : En → Rs Bool} (hc : SC X W own c fc) (h : SE X W own a ga) (h2 : SE X W own b gb) : SE X W own (.IfExp c a b pos) (eIf fc ga gb) := by
  obtain ⟨tc, pc, rc⟩ := hc.ex
  obtain ⟨ta, pa, ra⟩ := h.ex
  obtain ⟨tb, pb, rb⟩ := h2.ex
  refine ⟨_, pe_ifExp pc pa pb, fun H0 Hd0 ρ σ H Hd R Q q => ?_⟩
  refine rc _ _ _ _ _ _ R _ ?_
  unfold eIf at q
  cases ha : fc ρ with
  | bad => rw [ha] at q; exact q
  | ex c fs => rw [ha] at q; exact q
  | ok d =>
    rw [ha] at q
    intro H1 Hd1 s1
    have q1 := PoE.step (r := if d = true then ga ρ else gb ρ) q s1
    cases d with
    | true => exact ra _ _ _ _ _ _ (R.step s1) _ q1
    | false => exact rb _ _ _ _ _ _ (R.step s1) _ q1
end

/-! ### arguments, displays -/
def aNil : En → Rs (List D) := fun _ => .ok []
def aCons (f : En → Rs D) (g : En → Rs (List D)) : En → Rs (List D) := fun ρ => f ρ >>= fun d => g ρ >>= fun ds => .ok (d :: ds)
section
variable {X : Cx} {W : WX} {own : List Nat} {e : Expr} {es : List Expr} {f : En → Rs D} {g : En → Rs (List D)} {pos : Pos}
theorem sa_nil : SA X W own [] aNil := ⟨_, pa_nil, fun H0 Hd0 ρ σ H Hd R Q q => q [] H Hd (.refl R.st.sub) .nil⟩
theorem sa_cons (h : SE X W own e f) (h2 : SA X W own es g) (hs : starEach (e :: es) X.env = (false, eval e X.env) :: starEach es X.env := by rfl) : SA X W own (e :: es) (aCons f g) := by
  obtain ⟨ta, pa, ra⟩ := h.ex
  obtain ⟨tb, pb, rb⟩ := h2.ex
  refine ⟨_, pa_cons pa pb hs, fun H0 Hd0 ρ σ H Hd R Q q => ?_⟩
  refine ra _ _ _ _ _ _ R _ ?_
  unfold aCons at q
  cases ha : f ρ with
  | bad => rw [ha] at q; exact q
  | ex c fs => rw [ha] at q; exact q
  | ok d =>
    rw [ha] at q
    intro v H1 Hd1 s1 x
    have q1 : PoA X W σ H1 Hd1 (g ρ >>= fun ds => .ok (d :: ds)) Q := PoA.step q s1
    refine rb _ _ _ _ _ _ (R.step s1) _ ?_
    cases hb : g ρ with
    | bad => rw [hb] at q1; exact q1
    | ex c fs => rw [hb] at q1; exact q1
    | ok ds =>
      rw [hb] at q1
      intro vs H2 Hd2 s2 xs
      exact q1 (v :: vs) H2 Hd2 s2 (.cons (dq_mono (s2.keep) x) xs)
/-- (a, b, ..) -/
def eTup (g : En → Rs (List D)) : En → Rs D := fun ρ => g ρ >>= fun ds => if ds.length ≤ sizeLine then .ok (.tuple ds) else .bad
def eLst (g : En → Rs (List D)) : En → Rs D := fun ρ => g ρ >>= fun ds => if ds.length ≤ sizeLine then .ok (.list ds) else .bad
theorem se_tup {k : Nat} (h : SA X W own es g) : SE X W own (.Tuple es k pos) (eTup g) := by
  obtain ⟨ta, pa, ra⟩ := h.ex
  refine ⟨_, pe_tup pa, fun H0 Hd0 ρ σ H Hd R Q q => ?_⟩
  refine ra _ _ _ _ _ _ R _ ?_
  unfold eTup at q
  cases ha : g ρ with
  | bad => rw [ha] at q; exact q
  | ex c fs => rw [ha] at q; exact q
  | ok ds =>
    simp only [ha, ok_bind] at q
    intro vs H1 Hd1 s1 xs
    by_cases hl : ds.length ≤ sizeLine
    · rw [if_pos hl] at q
      refine ⟨by rw [xs.length]; exact hl, fun p hp => ?_⟩
      have n2 : Same Hd1 (upd Hd1 p (.tup vs)) := same_upd (none_of_same s1.sub hp)
      exact q (.ref p) _ _ (s1.trans (.new s1.sub hp)) (.tup (.inl (.inl upd_same)) (dqAll_mono n2 xs))
    · rw [if_neg hl] at q; exact q.elim
theorem sm_lst (h : SA X W own es g) : SM X W own (.List es pos) (eLst g) := by
  obtain ⟨ta, pa, ra⟩ := h.ex
  refine ⟨_, pe_lst pa, fun H0 Hd0 ρ σ H Hd R Q q => ?_⟩
  refine ra _ _ _ _ _ _ R _ ?_
  unfold eLst at q
  cases ha : g ρ with
  | bad => rw [ha] at q; exact q
  | ex c fs => rw [ha] at q; exact q
  | ok ds =>
    simp only [ha, ok_bind] at q
    intro vs H1 Hd1 s1 xs
    by_cases hl : ds.length ≤ sizeLine
    · rw [if_pos hl] at q
      refine ⟨by rw [xs.length]; exact hl, fun p hp => ?_⟩
      exact q (.ref p) _ _ (s1.trans (.own s1.sub hp)) ⟨p, vs, rfl, none_of_same s1.up hp, none_of_same s1.sub hp, upd_same, xs⟩
    · rw [if_neg hl] at q; exact q.elim
end
end Wm

set_option Elab.async false
set_option linter.all false
set_option maxRecDepth 100000
/-! WmStmt: statements, loops, defs and calls of the layer. -/
namespace Wm
open PySem PySem.Spec PyProof.Rows L2

/-- what a statement leads to (rx: returned, with what the slots hold then) -/
inductive Out where
  | nx (ρ : En)
  | bk (ρ : En)
  | ct (ρ : En)
  | rt (d : D)
  | ex (c : Str) (fs : List (Str × D)) (ρ : En)
  | bad
  | rx (d : D) (ρ : En)

theorem mem_drp {own : List Nat} {i j : Nat} : j ∈ drp own i ↔ j ∈ own ∧ (1000 ≤ j ∨ j % 100 ≠ i) := by
  unfold drp; rw [List.mem_filter]; simp
theorem isObj_iff {own : List Nat} {i : Nat} : isObj own i = true ↔ ∃ j ∈ own, 100 ≤ j ∧ j < 1000 ∧ j % 100 = i := by
  unfold isObj obC; rw [List.any_eq_true]; simp
theorem isObj_drp {own : List Nat} {i k : Nat} (h : isObj (drp own i) k = false) (hk : k ≠ i) : isObj own k = false := by
  cases e : isObj own k with
  | false => rfl
  | true =>
    obtain ⟨j, m, a, b, c⟩ := isObj_iff.mp e
    have : isObj (drp own i) k = true := isObj_iff.mpr ⟨j, mem_drp.mpr ⟨m, .inr (by rw [c]; exact hk)⟩, a, b, c⟩
    rw [this] at h; cases h
theorem isObj_cons {own : List Nat} {i k : Nat} (hi : i < 100) : isObj (i :: own) k = isObj own k := by
  unfold isObj
  rw [List.any_cons]
  have : obC k i = false := by unfold obC; rw [decide_eq_false (by omega)]; rfl
  rw [this, Bool.false_or]
/-- what an exception leaves: the slots that are owned all the same (E); the slots whose objects are forgotten (wp); io: what a return must still own -/
structure Md where
  nw : Bool
  E : List Nat
  wp : List Nat
  io : List Nat
abbrev Md.of (b : Bool) : Md := ⟨b, [], [], []⟩
def wipeS (ws : List Nat) (ρ : En) : En := ws.foldr (fun i r => r.set i none) ρ
@[simp] theorem wipeS_nil (ρ : En) : wipeS [] ρ = ρ := rfl
theorem wipeS_len (ws : List Nat) (ρ : En) : (wipeS ws ρ).length = ρ.length := by
  unfold wipeS
  induction ws with
  | nil => rfl
  | cons w ws ih => simp [ih]
theorem wipeS_in {ws : List Nat} {ρ : En} {i : Nat} {d : D} (h : (wipeS ws ρ)[i]? = some (some d)) : i ∉ ws ∧ ρ[i]? = some (some d) := by
  unfold wipeS at h
  induction ws with
  | nil => exact ⟨(fun z => nomatch z), h⟩
  | cons w ws ih =>
    rw [List.foldr_cons] at h
    by_cases z : i = w
    · subst z
      have hl : i < (List.foldr (fun i r => List.set r i none) ρ ws).length := by
        have := (List.getElem?_eq_some_iff.mp h).1
        simpa using this
      rw [List.getElem?_set_self hl] at h
      cases h
    · rw [List.getElem?_set_ne (Ne.symm z)] at h
      obtain ⟨h1, h2⟩ := ih h
      refine ⟨fun m => ?_, h2⟩
      rcases List.mem_cons.mp m with m | m
      · exact z m
      · exact h1 m
def okE (fl : Md) (own : List Nat) : Bool := fl.E.all own.contains && own.all fun j => decide (j < 100) || (decide (1000 ≤ j) || (fl.E.contains j || fl.wp.contains (j % 100)))
/-- less is owned, but the objects and what stands -/
def lessO (own' own : List Nat) : Bool := own'.all own.contains && own.all fun j => decide (j < 100) || own'.contains j
def Bs.res (B : Bs) (E : List Nat) : Bs := ⟨B.h, fun i => if 1000 + i ∈ E then B.an i else none⟩

theorem ncon {own : List Nat} {j : Nat} (h : own.contains j = false) : j ∉ own := fun m => by rw [List.contains_iff_mem.mpr m] at h; cases h
section
variable {K : PySem.W.Frag} {H0 : Bs} {Hd0 : Hp} {own : List Nat} {ρ : En} {σ : L2.St} {H Hd : Hp}
theorem Rel.set {i : Nat} {d : D} {v : V} (R : Rel K H0 Hd0 own ρ σ H Hd) (x : Dq K Hd v d) (hk : (1000 + i) ∉ own) : Rel K H0 Hd0 (drp own i) (ρ.set i (some d)) (σ.set i (some v)) H Hd where
  st := R.st
  len := by simp [R.len]
  val := fun j e h n n2 => by
    by_cases z : j = i
    · subst z
      have hl : j < ρ.length := by
        have := (List.getElem?_eq_some_iff.mp h).1
        simpa using this
      rw [List.getElem?_set_self hl] at h
      cases h
      exact ⟨v, by rw [List.getElem?_set_self (by rw [← R.len]; exact hl)], x⟩
    · rw [List.getElem?_set_ne (Ne.symm z)] at h
      rw [List.getElem?_set_ne (Ne.symm z)]
      exact R.val j e h (fun c m => n c (mem_drp.mpr ⟨m, .inr (by rw [Nat.mod_eq_of_lt c]; exact z)⟩)) (isObj_drp n2 z)
  anc := fun k w h => by
    obtain ⟨h1, h2⟩ := R.anc k w h
    refine ⟨mem_drp.mpr ⟨h1, .inl (by omega)⟩, ?_⟩
    rw [List.getElem?_set_ne (fun z => hk (by rw [z]; exact h1))]
    exact h2
  ex := by
    obtain ⟨A, h1, h2, h3⟩ := R.ex
    refine ⟨A, fun j m l e h => ?_, fun j m => h2 j (mem_drp.mp m).1, fun j k mj mk => h3 j k (mem_drp.mp mj).1 (mem_drp.mp mk).1⟩
    obtain ⟨m1, z⟩ := mem_drp.mp m
    have z : j % 100 ≠ i := z.resolve_left (by omega)
    rw [List.getElem?_set_ne (Ne.symm z)] at h
    rw [List.getElem?_set_ne (Ne.symm z)]
    exact h1 j m1 l e h
theorem Rel.setM {X : Cx} {H' Hd' : Hp} {i : Nat} {d : D} {v : V} (R : Rel X.K H0 Hd0 own ρ σ H Hd) (s : Step H Hd H' Hd') (x : NewV X.K H H' Hd' v d) (hk : (1000 + i) ∉ own) (hi : i < 100) : Rel X.K H0 Hd0 (i :: drp own i) (ρ.set i (some d)) (σ.set i (some v)) H' Hd' where
  st := R.st.trans s
  len := by simp [R.len]
  val := fun j e h n n2 => by
    have z : j ≠ i := fun z => n (by omega) (by rw [z]; exact List.mem_cons_self)
    rw [List.getElem?_set_ne (Ne.symm z)] at h
    rw [List.getElem?_set_ne (Ne.symm z)]
    rw [isObj_cons hi] at n2
    exact (R.step s).val j e h (fun c m => n c (List.mem_cons_of_mem _ (mem_drp.mpr ⟨m, .inr (by rw [Nat.mod_eq_of_lt c]; exact z)⟩))) (isObj_drp n2 z)
  anc := fun k w h => by
    obtain ⟨h1, h2⟩ := R.anc k w h
    refine ⟨List.mem_cons_of_mem _ (mem_drp.mpr ⟨h1, .inl (by omega)⟩), ?_⟩
    rw [List.getElem?_set_ne (fun z => hk (by rw [z]; exact h1))]
    exact h2
  ex := by
    obtain ⟨A, h1, h2, h3⟩ := (R.step s).ex
    obtain ⟨A0, _, h20, _⟩ := R.ex
    -- the new list's own place
    obtain ⟨B, b1, b2⟩ : ∃ B : List Addr, (∀ hl : i < ρ.length, Ov X.K H' Hd' 0 B v d) ∧ ∀ a ∈ B, Hd' a = none ∧ H0.h a = none ∧ H' a ≠ none ∧ H a = none := by
      cases d with
      | list ds =>
        obtain ⟨p, vs, rfl, n1, n2, e1, r1⟩ := x
        refine ⟨[p], fun _ => .inl ⟨p, vs, ds, rfl, rfl, rfl, e1, r1⟩, fun a m => ?_⟩
        rw [List.mem_singleton.mp m]
        exact ⟨n2, none_of_same R.st.up n1, by rw [e1]; simp, n1⟩
      | none => exact ⟨[], fun _ => .inr ⟨(fun _ z => nomatch z), rfl, x⟩, fun _ z => nomatch z⟩
      | bool b => exact ⟨[], fun _ => .inr ⟨(fun _ z => nomatch z), rfl, x⟩, fun _ z => nomatch z⟩
      | int b => exact ⟨[], fun _ => .inr ⟨(fun _ z => nomatch z), rfl, x⟩, fun _ z => nomatch z⟩
      | str b => exact ⟨[], fun _ => .inr ⟨(fun _ z => nomatch z), rfl, x⟩, fun _ z => nomatch z⟩
      | tuple b => exact ⟨[], fun _ => .inr ⟨(fun _ z => nomatch z), rfl, x⟩, fun _ z => nomatch z⟩
      | dict b => exact ⟨[], fun _ => .inr ⟨(fun _ z => nomatch z), rfl, x⟩, fun _ z => nomatch z⟩
    -- what was owned ahead stood ahead
    have old : ∃ A : Nat → List Addr, (∀ j, j ∈ own → j < 1000 → ∀ d, ρ[j % 100]? = some (some d) → ∃ v, σ[j % 100]? = some (some v) ∧ Ov X.K H' Hd' (j / 100) (A j) v d) ∧
        (∀ j, j ∈ own → ∀ a ∈ A j, Hd' a = none ∧ H0.h a = none ∧ H' a ≠ none ∧ H a ≠ none) ∧ (∀ j k, j ∈ own → k ∈ own → ∀ a, a ∈ A j → a ∈ A k → j = k) := by
      obtain ⟨A, h1, h2, h3⟩ := R.ex
      refine ⟨A, fun j m l d e => ?_, fun j m a ma => ?_, h3⟩
      · obtain ⟨v, e1, e2⟩ := h1 j m l d e
        exact ⟨v, e1, e2.mono (fun a _ o q => s.up a o q) s.keep⟩
      · obtain ⟨q1, q2, q3⟩ := h2 j m a ma
        refine ⟨by rw [s.old a q3]; exact q1, q2, fun z => q3 ?_, q3⟩
        cases w : H a with
        | none => rfl
        | some o => rw [s.up a o w] at z; cases z
    obtain ⟨A, h1, h2, h3⟩ := old
    have em : i % 100 = i := Nat.mod_eq_of_lt hi
    have ed : i / 100 = 0 := Nat.div_eq_of_lt hi
    refine ⟨fun j => if j = i then B else A j, fun j m l e h => ?_, fun j m a ma => ?_, fun j k mj mk a aj ak => ?_⟩
    · by_cases z : j = i
      · subst z
        rw [em] at h ⊢
        have hl : j < ρ.length := by
          have := (List.getElem?_eq_some_iff.mp h).1
          simpa using this
        rw [List.getElem?_set_self hl] at h
        cases h
        refine ⟨v, by rw [List.getElem?_set_self (by rw [← R.len]; exact hl)], ?_⟩
        rw [ed]
        simp only [if_true]
        exact b1 hl
      · rcases List.mem_cons.mp m with m | m
        · exact absurd m z
        obtain ⟨m1, z2⟩ := mem_drp.mp m
        have z2 : j % 100 ≠ i := z2.resolve_left (by omega)
        rw [List.getElem?_set_ne (Ne.symm z2)] at h
        rw [List.getElem?_set_ne (Ne.symm z2)]
        simp only [if_neg z]
        exact h1 j m1 l e h
    · by_cases z : j = i
      · simp only [if_pos z] at ma
        obtain ⟨q1, q2, q3, _⟩ := b2 a ma
        exact ⟨q1, q2, q3⟩
      · simp only [if_neg z] at ma
        rcases List.mem_cons.mp m with m | m
        · exact absurd m z
        obtain ⟨q1, q2, q3, _⟩ := h2 j (mem_drp.mp m).1 a ma
        exact ⟨q1, q2, q3⟩
    · by_cases zj : j = i
      · by_cases zk : k = i
        · rw [zj, zk]
        · simp only [if_pos zj] at aj
          simp only [if_neg zk] at ak
          rcases List.mem_cons.mp mk with m | m
          · exact absurd m zk
          exact absurd (b2 a aj).2.2.2 (h2 k (mem_drp.mp m).1 a ak).2.2.2
      · simp only [if_neg zj] at aj
        rcases List.mem_cons.mp mj with m | m
        · exact absurd m zj
        by_cases zk : k = i
        · simp only [if_pos zk] at ak
          exact absurd (b2 a ak).2.2.2 (h2 j (mem_drp.mp m).1 a aj).2.2.2
        · simp only [if_neg zk] at ak
          rcases List.mem_cons.mp mk with m' | m'
          · exact absurd m' zk
          exact h3 j k (mem_drp.mp m).1 (mem_drp.mp m').1 a aj ak
/-- what is owned at c changes: H' but for the old places as H was -/
theorem Rel.change {c : Nat} {d : D} {v : V} {H' : Hp} {A0 : List Addr} (R : Rel K H0 Hd0 own ρ σ H Hd) (m : c ∈ own) (hc : c < 1000) (one : ∀ j ∈ own, j < 1000 → j % 100 = c % 100 → j = c)
    (hs : ∀ A : Nat → List Addr, (∀ j, j ∈ own → j < 1000 → ∀ d, ρ[j % 100]? = some (some d) → ∃ v, σ[j % 100]? = some (some v) ∧ Ov K H Hd (j / 100) (A j) v d) → (∀ a ∈ A c, Hd a = none ∧ H0.h a = none ∧ H a ≠ none) →
      ∃ A' : List Addr, (∃ v, σ[c % 100]? = some (some v) ∧ Ov K H' Hd (c / 100) A' v d) ∧ (∀ a, a ∉ A c → H' a = H a) ∧ (∀ a ∈ A', a ∈ A c) ∧ (∀ a, H' a = none → H a = none)) :
    Rel K H0 Hd0 own (ρ.set (c % 100) (some d)) σ H' Hd := by
  obtain ⟨A, h1, h2, h3⟩ := R.ex
  obtain ⟨A', k1, k2, k3, k4⟩ := hs A h1 (h2 c m)
  refine ⟨⟨fun b o e => ?_, fun b o e => ?_, R.st.keep, R.st.old⟩, by simp [R.len], fun j e hj n n2 => ?_, R.anc, fun j => if j = c then A' else A j, fun j mj l e h => ?_, fun j mj a ma => ?_, fun j k mj mk a aj ak => ?_⟩
  · rw [k2 b (fun z => by rw [(h2 c m b z).2.1] at e; cases e)]
    exact R.st.up b o e
  · rw [k2 b (fun z => by rw [(h2 c m b z).1] at e; cases e)]
    exact R.st.sub b o e
  · have z : j ≠ c % 100 := fun z => by
      by_cases lt : c < 100
      · rw [Nat.mod_eq_of_lt lt] at z
        exact n (by omega) (by rw [z]; exact m)
      · have : isObj own j = true := isObj_iff.mpr ⟨c, m, by omega, hc, z.symm⟩
        rw [this] at n2; cases n2
    rw [List.getElem?_set_ne (Ne.symm z)] at hj
    exact R.val j e hj n n2
  · by_cases z : j = c
    · subst z
      simp only [if_true]
      have hl : j % 100 < ρ.length := by
        have := (List.getElem?_eq_some_iff.mp h).1
        simpa using this
      rw [List.getElem?_set_self hl] at h
      cases h
      exact k1
    · simp only [if_neg z]
      have z2 : j % 100 ≠ c % 100 := fun w => z (one j mj l w)
      rw [List.getElem?_set_ne (Ne.symm z2)] at h
      obtain ⟨v, e1, e2⟩ := h1 j mj l e h
      exact ⟨v, e1, e2.mono (fun a ma o q => by rw [k2 a fun w => z (h3 j c mj m a ma w)]; exact q) fun _ _ q => q⟩
  · by_cases z : j = c
    · simp only [if_pos z] at ma
      obtain ⟨q1, q2, q3⟩ := h2 c m a (k3 a ma)
      exact ⟨q1, q2, fun w => q3 (k4 a w)⟩
    · simp only [if_neg z] at ma
      obtain ⟨q1, q2, q3⟩ := h2 j mj a ma
      exact ⟨q1, q2, fun w => q3 (k4 a w)⟩
  · have back : ∀ j, a ∈ (if j = c then A' else A j) → a ∈ A j := fun j q => by
      by_cases z : j = c
      · simp only [if_pos z] at q
        rw [z]; exact k3 a q
      · simp only [if_neg z] at q
        exact q
    exact h3 j k mj mk a (back j aj) (back k ak)
/-- one code a slot -/
def oneC (own : List Nat) (c : Nat) : Bool := own.all fun j => decide (1000 ≤ j) || (decide (j % 100 ≠ c % 100) || decide (j = c))
theorem oneC_ok {c : Nat} (h : oneC own c = true) : ∀ j ∈ own, j < 1000 → j % 100 = c % 100 → j = c := fun j m l e => by
  have := List.all_eq_true.mp h j m
  simp only [Bool.or_eq_true, decide_eq_true_eq] at this
  rcases this with q | q | q
  · omega
  · exact absurd e q
  · exact q
/-- an owned list is changed -/
theorem Rel.mut {i : Nat} {ds es : List D} {ws : List V} {a : Addr} (R : Rel K H0 Hd0 own ρ σ H Hd) (m : i ∈ own) (hi : i < 100) (one : oneC own i = true) (h : ρ[i]? = some (some (.list ds))) (hs : σ[i]? = some (some (V.ref a))) (r : DqAll K Hd ws es) :
    Rel K H0 Hd0 own (ρ.set i (some (.list es))) σ (upd H a (.lst ws)) Hd := by
  have em : i % 100 = i := Nat.mod_eq_of_lt hi
  have ed : i / 100 = 0 := Nat.div_eq_of_lt hi
  have key := R.change (d := .list es) (v := .ref a) (H' := upd H a (.lst ws)) (A0 := []) m (by omega) (oneC_ok one) (fun A h1 h2 => by
    obtain ⟨v, v1, v2⟩ := h1 i m (by omega) _ (by rw [em]; exact h)
    rw [em, hs] at v1
    cases v1
    rw [ed] at v2
    rcases v2 with ⟨a', vs, ds', q1, q2, q3, q4, q5⟩ | ⟨q1, _⟩
    · cases q1
      refine ⟨[a], ⟨.ref a, by rw [em]; exact hs, ?_⟩, fun b nb => ?_, fun b mb => by rw [q3]; exact mb, fun b nb => ?_⟩
      · rw [ed]; exact .inl ⟨a, ws, es, rfl, rfl, rfl, upd_same, r⟩
      · rw [q3] at nb
        rw [upd_ne (fun z => nb (by rw [z]; exact List.mem_cons_self))]
      · by_cases z : b = a
        · subst z; rw [upd_same] at nb; cases nb
        · rw [upd_ne z] at nb; exact nb
    · exact absurd rfl (q1 ds))
  rw [em] at key
  exact key
/-- fewer lists are owned: these stand still from now on -/
theorem Rel.lessen {own' : List Nat} (R : Rel K H0 Hd0 own ρ σ H Hd) (hs : ∀ i ∈ own', i ∈ own) : ∃ Hd', Same Hd Hd' ∧ Step H0.h Hd0 H Hd' ∧ (∀ i d, ρ[i]? = some (some d) → (i < 100 → i ∉ own') → isObj own i = false → ∃ v, σ[i]? = some (some v) ∧ Dq K Hd' v d) ∧
    ∃ A : Nat → List Addr, (∀ j, j ∈ own' → j < 1000 → ∀ d, ρ[j % 100]? = some (some d) → ∃ v, σ[j % 100]? = some (some v) ∧ Ov K H Hd' (j / 100) (A j) v d) ∧
      (∀ j, j ∈ own' → ∀ a ∈ A j, Hd' a = none ∧ H0.h a = none ∧ H a ≠ none) ∧ (∀ j k, j ∈ own' → k ∈ own' → ∀ a, a ∈ A j → a ∈ A k → j = k) := by
  classical
  obtain ⟨A, h1, h2, h3⟩ := R.ex
  let P : Addr → Prop := fun a => ∃ i, i ∈ own ∧ i ∉ own' ∧ i < 100 ∧ a ∈ A i ∧ ∃ d, ρ[i]? = some (some d)
  let Hd' : Hp := fun a => if P a then H a else Hd a
  have pa : ∀ a, P a → Hd a = none ∧ H0.h a = none := fun a ⟨i, m, _, _, h, _⟩ => ⟨(h2 i m a h).1, (h2 i m a h).2.1⟩
  have up : Same Hd Hd' := fun a o e => by
    show (if P a then H a else Hd a) = some o
    by_cases p : P a
    · rw [(pa a p).1] at e; cases e
    · rw [if_neg p]; exact e
  refine ⟨Hd', up, ⟨R.st.up, fun a o e => ?_, fun a o e => up a o (R.st.keep a o e), fun a n => ?_⟩, fun i d e n n2 => ?_, A, fun j m l d e => ?_, fun j m a ma => ?_, fun j k mj mk => h3 j k (hs j mj) (hs k mk)⟩
  · have e' : (if P a then H a else Hd a) = some o := e
    by_cases p : P a
    · rw [if_pos p] at e'; exact e'
    · rw [if_neg p] at e'; exact R.st.sub a o e'
  · show (if P a then H a else Hd a) = Hd0 a
    by_cases p : P a
    · exact absurd (pa a p).2 n
    · rw [if_neg p]; exact R.st.old a n
  · by_cases m : i < 100 ∧ i ∈ own
    · have em : i % 100 = i := Nat.mod_eq_of_lt m.1
      have ed : i / 100 = 0 := Nat.div_eq_of_lt m.1
      obtain ⟨v, v1, v2⟩ := h1 i m.2 (by omega) d (by rw [em]; exact e)
      rw [em] at v1
      rw [ed] at v2
      rcases v2 with ⟨b, vs, ds, q1, q2, q3, q4, q5⟩ | ⟨q1, _, q3⟩
      · subst q1 q2
        refine ⟨.ref b, v1, ?_⟩
        have p : P b := ⟨i, m.2, n m.1, m.1, by rw [q3]; exact List.mem_cons_self, _, e⟩
        have e7 : Hd' b = some (.lst vs) := by
          show (if P b then H b else Hd b) = _
          rw [if_pos p]; exact q4
        exact .lst (.inl (.inl e7)) (dqAll_mono up q5)
      · exact ⟨v, v1, dq_mono up q3⟩
    · obtain ⟨v, e1, e2⟩ := R.val i d e (fun c z => m ⟨c, z⟩) n2
      exact ⟨v, e1, dq_mono up e2⟩
  · obtain ⟨v, e1, e2⟩ := h1 j (hs j m) l d e
    exact ⟨v, e1, e2.mono (fun _ _ _ q => q) up⟩
  · obtain ⟨q1, q2, q3⟩ := h2 j (hs j m) a ma
    refine ⟨?_, q2, q3⟩
    show (if P a then H a else Hd a) = none
    rw [if_neg, q1]
    rintro ⟨i, m', n', _, h', _⟩
    have := h3 j i (hs j m) m' a ma h'
    subst this
    exact n' m
theorem Rel.weak {own' : List Nat} (R : Rel K H0 Hd0 own ρ σ H Hd) (hs : lessO own' own = true) : ∃ Hd', Rel K H0 Hd0 own' ρ σ H Hd' ∧ Same Hd Hd' := by
  obtain ⟨s1, s2⟩ := Bool.and_eq_true_iff.mp hs
  have t1 : ∀ i ∈ own', i ∈ own := fun i m => List.contains_iff_mem.mp (List.all_eq_true.mp s1 i m)
  have t2 : ∀ i ∈ own, 100 ≤ i → i ∈ own' := fun i m l => by
    have := List.all_eq_true.mp s2 i m
    simp only [Bool.or_eq_true, decide_eq_true_eq] at this
    rcases this with q | q
    · omega
    · exact List.contains_iff_mem.mp q
  obtain ⟨Hd', up, st, val, ex⟩ := R.lessen t1
  refine ⟨Hd', ⟨st, R.len, fun i d e n n2 => val i d e n ?_, fun i v h => ⟨t2 _ (R.anc i v h).1 (by omega), (R.anc i v h).2⟩, ex⟩, up⟩
  cases c : isObj own i with
  | false => rfl
  | true =>
    obtain ⟨j, m, a, b, e⟩ := isObj_iff.mp c
    have : isObj own' i = true := isObj_iff.mpr ⟨j, t2 j m a, a, b, e⟩
    rw [this] at n2; cases n2
/-- at an exception -/
theorem Rel.exc {fl : Md} (R : Rel K H0 Hd0 own ρ σ H Hd) (hE : okE fl own = true) : ∃ Hd', Rel K (H0.res fl.E) Hd0 fl.E (wipeS fl.wp ρ) σ H Hd' ∧ Same Hd Hd' := by
  obtain ⟨s1, s2⟩ := Bool.and_eq_true_iff.mp hE
  have t1 : ∀ i ∈ fl.E, i ∈ own := fun i m => List.contains_iff_mem.mp (List.all_eq_true.mp s1 i m)
  obtain ⟨Hd', up, st, val, A, a1, a2, a3⟩ := R.lessen t1
  refine ⟨Hd', ⟨st, by rw [wipeS_len]; exact R.len, fun i d e n n2 => ?_, fun i v h => ?_, A, fun j m l d e => a1 j m l d (wipeS_in e).2, a2, a3⟩, up⟩
  · obtain ⟨nw, e'⟩ := wipeS_in e
    refine val i d e' n ?_
    cases c : isObj own i with
    | false => rfl
    | true =>
      obtain ⟨j, m, a, b, f⟩ := isObj_iff.mp c
      have := List.all_eq_true.mp s2 j m
      simp only [Bool.or_eq_true, decide_eq_true_eq] at this
      rcases this with q | q | q | q
      · omega
      · omega
      · have : isObj fl.E i = true := isObj_iff.mpr ⟨j, List.contains_iff_mem.mp q, a, b, f⟩
        rw [this] at n2; cases n2
      · rw [f] at q
        exact absurd (List.contains_iff_mem.mp q) nw
  · unfold Bs.res at h
    simp only at h
    split at h
    · rename_i c
      exact ⟨c, (R.anc i v h).2⟩
    · cases h
/-- slots are forgotten -/
theorem Rel.forget {ρ' : En} {σ' : L2.St} (R : Rel K H0 Hd0 own ρ σ H Hd) (hl : ρ'.length = σ'.length) (h : ∀ (i : Nat) d, ρ'[i]? = some (some d) → ρ[i]? = some (some d) ∧ σ'[i]? = σ[i]?) (ha : ∀ i, 1000 + i ∈ own → σ'[i]? = σ[i]?) : Rel K H0 Hd0 own ρ' σ' H Hd where
  st := R.st
  len := hl
  val := fun i d e n n2 => by
    obtain ⟨e1, e2⟩ := h i d e
    rw [e2]; exact R.val i d e1 n n2
  anc := fun i v e => by
    obtain ⟨h1, h2⟩ := R.anc i v e
    exact ⟨h1, by rw [ha i h1]; exact h2⟩
  ex := by
    obtain ⟨A, h1, h2, h3⟩ := R.ex
    refine ⟨A, fun j m l d e => ?_, h2, h3⟩
    obtain ⟨e1, e2⟩ := h _ d e
    rw [e2]; exact h1 j m l d e1
end

/-! ### statements -/
section
variable (X : Cx) (W : WX) (H0 : Bs) (Hd0 : Hp) (fl : Md) (L own : List Nat) (Dn : Ends)
/-- a returned value: where fl, a list is a new one -/
def PoR (d : D) : Prop := match fl.nw with
  | false => ∀ v H' Hd', Step H0.h Hd0 H' Hd' → Dq X.K Hd' v d → Dn.rt v H'
  | true => ∀ v H' Hd', Step H0.h Hd0 H' Hd' → NewV X.K H0.h H' Hd' v d → Dn.rt v H'
def PoS (o : Out) : Prop := match o with
  | .nx ρ => ∀ σ' H' Hd', Rel X.K H0 Hd0 own ρ σ' H' Hd' → Dn.nx σ' H'
  | .bk ρ => ∀ σ' H' Hd', Rel X.K H0 Hd0 L ρ σ' H' Hd' → Dn.bk σ' H'
  | .ct ρ => ∀ σ' H' Hd', Rel X.K H0 Hd0 L ρ σ' H' Hd' → Dn.ct σ' H'
  | .rt d => PoR X H0 Hd0 fl Dn d
  | .ex c fs ρ => ∀ cls a σ' H' Hd', Rel X.K (H0.res fl.E) Hd0 fl.E (wipeS fl.wp ρ) σ' H' Hd' → ExR X.K X.mg H' Hd' c fs cls a → W cls a σ' H'
  | .bad => False
  | .rx d ρ => ∀ own' v σ' H' Hd', fl.io.all own'.contains = true → Rel X.K H0 Hd0 own' ρ σ' H' Hd' → Dq X.K Hd' v d → Dn.rt v H'
end
structure SS (X : Cx) (W : WX) (fl : Md) (L own : List Nat) (st : Stmt) (f : En → Out) (own' : List Nat) : Prop where
  ex : ∃ t, PS X st t ∧ ∀ H0 Hd0 ρ σ H Hd, Rel X.K H0 Hd0 own ρ σ H Hd → ∀ Dn : Ends, PoS X W H0 Hd0 fl L own' Dn (f ρ) → t Dn σ H
structure SSs (X : Cx) (W : WX) (fl : Md) (L own : List Nat) (st : List Stmt) (f : En → Out) (own' : List Nat) : Prop where
  ex : ∃ t, PSs X st t ∧ ∀ H0 Hd0 ρ σ H Hd, Rel X.K H0 Hd0 own ρ σ H Hd → ∀ Dn : Ends, PoS X W H0 Hd0 fl L own' Dn (f ρ) → t Dn σ H

def sNx : En → Out := fun ρ => .nx ρ
def oSeq (o : Out) (g : En → Out) : Out := match o with
  | .nx ρ' => g ρ'
  | o => o
def sSeq (f g : En → Out) : En → Out := fun ρ => oSeq (f ρ) g
/-- a value, then .. -/
def oBind (r : Rs D) (ρ : En) (k : D → Out) : Out := match r with
  | .ok d => k d
  | .ex c fs => .ex c fs ρ
  | .bad => .bad
def oBindB (r : Rs Bool) (ρ : En) (k : Bool → Out) : Out := match r with
  | .ok d => k d
  | .ex c fs => .ex c fs ρ
  | .bad => .bad
@[simp] theorem oBind_ok (d : D) (ρ : En) (k : D → Out) : oBind (.ok d) ρ k = k d := nrfl rfl
@[simp] theorem oBindB_ok (d : Bool) (ρ : En) (k : Bool → Out) : oBindB (.ok d) ρ k = k d := nrfl rfl
@[simp] theorem oBind_ex (c : Str) (fs : List (Str × D)) (ρ : En) (k : D → Out) : oBind (.ex c fs) ρ k = .ex c fs ρ := nrfl rfl
@[simp] theorem oBindB_ex (c : Str) (fs : List (Str × D)) (ρ : En) (k : Bool → Out) : oBindB (.ex c fs) ρ k = .ex c fs ρ := nrfl rfl
@[simp] theorem oBind_bad (ρ : En) (k : D → Out) : oBind .bad ρ k = .bad := nrfl rfl
@[simp] theorem oBindB_bad (ρ : En) (k : Bool → Out) : oBindB .bad ρ k = .bad := nrfl rfl
section
variable {X : Cx} {W : WX} {fl : Md} {L own own' own'' : List Nat} {st : Stmt} {sts rest : List Stmt} {e : Expr} {f g : En → Out} {fe : En → Rs D} {pos pos' : Pos}
/-- an exception out of an expression, at a statement -/
theorem PoR.same {H0 : Bs} {Hd0 : Hp} {Dn Dn' : Ends} {d : D} (h : PoR X H0 Hd0 fl Dn d) (e : Dn'.rt = Dn.rt) : PoR X H0 Hd0 fl Dn' d := by
  unfold PoR at h ⊢
  rw [e]; exact h
theorem PoR.at {H0 : Bs} {Hd0 : Hp} {Dn : Ends} {d : D} {b : Bool} (h : PoR X H0 Hd0 fl Dn d) (e : fl.nw = b) : (match b with
  | false => ∀ v H' Hd', Step H0.h Hd0 H' Hd' → Dq X.K Hd' v d → Dn.rt v H'
  | true => ∀ v H' Hd', Step H0.h Hd0 H' Hd' → NewV X.K H0.h H' Hd' v d → Dn.rt v H') := by
  unfold PoR at h
  rw [e] at h
  cases b <;> exact h
theorem exc_of {H0 : Bs} {Hd0 : Hp} {ρ : En} {σ : L2.St} {H Hd H' Hd' : Hp} {c : Str} {fs : List (Str × D)} {cls : Value} {a : Option Addr} {Dn : Ends} (R : Rel X.K H0 Hd0 own ρ σ H Hd) (q : PoS X W H0 Hd0 fl L own' Dn (.ex c fs ρ)) (s : Step H Hd H' Hd') (x : ExR X.K X.mg H' Hd' c fs cls a) (hE : okE fl own = true) : W cls a σ H' := by
  obtain ⟨Hd'', R', up⟩ := (R.step s).exc hE
  exact q cls a σ H' Hd'' R' (x.mono (fun _ _ z => z) up)
theorem ss_nil : SSs X W fl L own [] sNx own := ⟨_, pss_nil, fun H0 Hd0 ρ σ H Hd R Dn q => q σ H Hd R⟩
theorem ss_cons (h1 : SS X W fl L own st f own') (h2 : SSs X W fl L own' rest g own'') : SSs X W fl L own (st :: rest) (sSeq f g) own'' := by
  obtain ⟨t, p, r⟩ := h1.ex
  obtain ⟨t2, p2, r2⟩ := h2.ex
  refine ⟨_, pss_cons p p2, fun H0 Hd0 ρ σ H Hd R Dn q => ?_⟩
  show t { Dn with nx := t2 Dn } σ H
  refine r _ _ _ _ _ _ R _ ?_
  unfold sSeq oSeq at q
  cases hf : f ρ with
  | nx ρ' => rw [hf] at q; exact fun σ' H' Hd' R' => r2 _ _ _ _ _ _ R' Dn q
  | bk ρ' => rw [hf] at q; exact q
  | ct ρ' => rw [hf] at q; exact q
  | rt d => rw [hf] at q; exact PoR.same q rfl
  | ex c fs ρ' => rw [hf] at q; exact q
  | bad => rw [hf] at q; exact q
  | rx d ρ' => rw [hf] at q; exact q
theorem ss_one (h1 : SS X W fl L own st f own') : SSs X W fl L own [st] f own' := by
  obtain ⟨t, p, r⟩ := h1.ex
  exact ⟨_, pss_one p, r⟩
/-- fewer are owned behind -/
theorem SS.weak (h : SS X W fl L own st f own') (hs : lessO own'' own' = true) : SS X W fl L own st f own'' := by
  obtain ⟨t, p, r⟩ := h.ex
  refine ⟨_, p, fun H0 Hd0 ρ σ H Hd R Dn q => r _ _ _ _ _ _ R Dn ?_⟩
  cases hf : f ρ with
  | nx ρ' =>
    rw [hf] at q
    intro σ' H' Hd' R'
    obtain ⟨Hd'', R'', _⟩ := R'.weak (own' := own'') hs
    exact q σ' H' Hd'' R''
  | bk ρ' => rw [hf] at q; exact q
  | ct ρ' => rw [hf] at q; exact q
  | rt d => rw [hf] at q; exact q
  | ex c fs ρ' => rw [hf] at q; exact q
  | bad => rw [hf] at q; exact q
  | rx d ρ' => rw [hf] at q; exact q
theorem SSs.weak (h : SSs X W fl L own sts f own') (hs : lessO own'' own' = true) : SSs X W fl L own sts f own'' := by
  obtain ⟨t, p, r⟩ := h.ex
  refine ⟨_, p, fun H0 Hd0 ρ σ H Hd R Dn q => r _ _ _ _ _ _ R Dn ?_⟩
  cases hf : f ρ with
  | nx ρ' =>
    rw [hf] at q
    intro σ' H' Hd' R'
    obtain ⟨Hd'', R'', _⟩ := R'.weak (own' := own'') hs
    exact q σ' H' Hd'' R''
  | bk ρ' => rw [hf] at q; exact q
  | ct ρ' => rw [hf] at q; exact q
  | rt d => rw [hf] at q; exact q
  | ex c fs ρ' => rw [hf] at q; exact q
  | bad => rw [hf] at q; exact q
  | rx d ρ' => rw [hf] at q; exact q
/-- fewer are owned ahead -/
theorem SS.ahead (h : SS X W fl L own' st f own'') (hs : lessO own' own = true) : SS X W fl L own st f own'' := by
  obtain ⟨t, p, r⟩ := h.ex
  refine ⟨_, p, fun H0 Hd0 ρ σ H Hd R Dn q => ?_⟩
  obtain ⟨Hd', R', _⟩ := R.weak (own' := own') hs
  exact r _ _ _ _ _ _ R' Dn q
theorem SSs.ahead (h : SSs X W fl L own' sts f own'') (hs : lessO own' own = true) : SSs X W fl L own sts f own'' := by
  obtain ⟨t, p, r⟩ := h.ex
  refine ⟨_, p, fun H0 Hd0 ρ σ H Hd R Dn q => ?_⟩
  obtain ⟨Hd', R', _⟩ := R.weak (own' := own') hs
  exact r _ _ _ _ _ _ R' Dn q
/-- x = e -/
def sSet (i : Nat) (fe : En → Rs D) : En → Out := fun ρ => oBind (fe ρ) ρ fun d => .nx (ρ.set i (some d))
theorem ss_set (i : Nat) {x : Str} (h : SE X W own e fe) (hN : X.N.Nodup) (hi : X.N[i]? = some x := by rfl) (hx : Loc X.env.scope x := by first | exact Or.inl rfl | exact Or.inr rfl) (hs : swapsWith e (some (.Name x pos')) pos.line X.env = pure false := by rfl) (hf : X.fn x = true ∨ X.env.scope.names.lookup x = some .local := by first | exact .inl rfl | exact .inr rfl) (hk : own.contains (1000 + i) = false := by rfl) (hE : okE fl own = true := by rfl) :
    SS X W fl L own (.Assign [.Name x pos'] e pos) (sSet i fe) (drp own i) := by
  obtain ⟨t, p, r⟩ := h.ex
  refine ⟨_, ps_set hN hi hx p hs hf, fun H0 Hd0 ρ σ H Hd R Dn q => ?_⟩
  refine r _ _ _ _ _ _ R _ ?_
  unfold sSet at q
  cases he : fe ρ with
  | ok d => rw [he] at q; exact fun v H' Hd' s x => q _ _ _ ((R.step s).set x (ncon hk))
  | ex c fs => rw [he] at q; exact fun cls a H' Hd' s x => exc_of R q s x hE
  | bad => rw [he] at q; exact q
theorem ss_setM (i : Nat) {x : Str} (h : SM X W own e fe) (hN : X.N.Nodup) (hi : X.N[i]? = some x := by rfl) (hx : Loc X.env.scope x := by first | exact Or.inl rfl | exact Or.inr rfl) (hs : swapsWith e (some (.Name x pos')) pos.line X.env = pure false := by rfl) (hf : X.fn x = true ∨ X.env.scope.names.lookup x = some .local := by first | exact .inl rfl | exact .inr rfl) (hk : own.contains (1000 + i) = false := by rfl) (hlt : i < 100 := by decide) (hE : okE fl own = true := by rfl) :
    SS X W fl L own (.Assign [.Name x pos'] e pos) (sSet i fe) (i :: drp own i) := by
  obtain ⟨t, p, r⟩ := h.ex
  refine ⟨_, ps_set hN hi hx p hs hf, fun H0 Hd0 ρ σ H Hd R Dn q => ?_⟩
  refine r _ _ _ _ _ _ R _ ?_
  unfold sSet at q
  cases he : fe ρ with
  | ok d => rw [he] at q; exact fun v H' Hd' s x => q _ _ _ (R.setM s x (ncon hk) hlt)
  | ex c fs => rw [he] at q; exact fun cls a H' Hd' s x => exc_of R q s x hE
  | bad => rw [he] at q; exact q
/-- an expression alone -/
def sExpr (fe : En → Rs D) : En → Out := fun ρ => oBind (fe ρ) ρ fun _ => .nx ρ
theorem ss_expr (h : SE X W own e fe) (hs : swapsWith e none pos.line X.env = pure false := by rfl) (hE : okE fl own = true := by rfl) : SS X W fl L own (.Expr e pos) (sExpr fe) own := by
  obtain ⟨t, p, r⟩ := h.ex
  refine ⟨_, ps_expr p hs, fun H0 Hd0 ρ σ H Hd R Dn q => ?_⟩
  refine r _ _ _ _ _ _ R _ ?_
  unfold sExpr at q
  cases he : fe ρ with
  | ok d => rw [he] at q; exact fun v H' Hd' s x => q _ _ _ (R.step s)
  | ex c fs => rw [he] at q; exact fun cls a H' Hd' s x => exc_of R q s x hE
  | bad => rw [he] at q; exact q
theorem ss_pass : SS X W fl L own (.Pass pos) sNx own := ⟨_, ps_pass, fun H0 Hd0 ρ σ H Hd R Dn q => q σ H Hd R⟩
def sBk : En → Out := fun ρ => .bk ρ
def sCt : En → Out := fun ρ => .ct ρ
theorem ss_break (hs : lessO L own = true := by rfl) : SS X W fl L own (.Break pos) sBk own'' := ⟨_, ps_break, fun H0 Hd0 ρ σ H Hd R Dn q => by
  obtain ⟨Hd', R', _⟩ := R.weak (own' := L) hs
  exact q σ H Hd' R'⟩
theorem ss_continue (hs : lessO L own = true := by rfl) : SS X W fl L own (.Continue pos) sCt own'' := ⟨_, ps_continue, fun H0 Hd0 ρ σ H Hd R Dn q => by
  obtain ⟨Hd', R', _⟩ := R.weak (own' := L) hs
  exact q σ H Hd' R'⟩
/-- return e -/
def sRet (fe : En → Rs D) : En → Out := fun ρ => oBind (fe ρ) ρ fun d => .rt d
def sRetNL (fe : En → Rs D) : En → Out := fun ρ => oBind (fe ρ) ρ fun d => match d with
  | .list _ => .bad
  | d => .rt d
theorem ss_ret (h : SE X W own e fe) (hE : okE fl own = true := by rfl) (hn : fl.nw = false := by rfl) : SS X W fl L own (.Return (some e) pos) (sRet fe) own'' := by
  obtain ⟨t, p, r⟩ := h.ex
  refine ⟨_, ps_ret p, fun H0 Hd0 ρ σ H Hd R Dn q => ?_⟩
  refine r _ _ _ _ _ _ R _ ?_
  unfold sRet at q
  cases he : fe ρ with
  | ok d => rw [he] at q; have q := PoR.at q hn; exact fun v H' Hd' s x => q v H' Hd' (R.st.trans s) x
  | ex c fs => rw [he] at q; exact fun cls a H' Hd' s x => exc_of R q s x hE
  | bad => rw [he] at q; exact q
theorem ss_retM (h : SM X W own e fe) (hE : okE fl own = true := by rfl) (hn : fl.nw = true := by rfl) : SS X W fl L own (.Return (some e) pos) (sRet fe) own'' := by
  obtain ⟨t, p, r⟩ := h.ex
  refine ⟨_, ps_ret p, fun H0 Hd0 ρ σ H Hd R Dn q => ?_⟩
  refine r _ _ _ _ _ _ R _ ?_
  unfold sRet at q
  cases he : fe ρ with
  | ok d => rw [he] at q; have q := PoR.at q hn; exact fun v H' Hd' s x => q v H' Hd' (R.st.trans s) (x.back R.st.up)
  | ex c fs => rw [he] at q; exact fun cls a H' Hd' s x => exc_of R q s x hE
  | bad => rw [he] at q; exact q
/-- a value that is no list, where a list were to be new -/
theorem ss_retNL (h : SE X W own e fe) (hE : okE fl own = true := by rfl) (hn : fl.nw = true := by rfl) : SS X W fl L own (.Return (some e) pos) (sRetNL fe) own'' := by
  obtain ⟨t, p, r⟩ := h.ex
  refine ⟨_, ps_ret p, fun H0 Hd0 ρ σ H Hd R Dn q => ?_⟩
  refine r _ _ _ _ _ _ R _ ?_
  unfold sRetNL at q
  cases he : fe ρ with
  | ok d =>
    rw [he] at q
    intro v H' Hd' s x
    cases d with
    | list ds => exact q.elim
    | none => have q := PoR.at q hn; exact q v H' Hd' (R.st.trans s) x
    | bool b => have q := PoR.at q hn; exact q v H' Hd' (R.st.trans s) x
    | int b => have q := PoR.at q hn; exact q v H' Hd' (R.st.trans s) x
    | str b => have q := PoR.at q hn; exact q v H' Hd' (R.st.trans s) x
    | tuple b => have q := PoR.at q hn; exact q v H' Hd' (R.st.trans s) x
    | dict b => have q := PoR.at q hn; exact q v H' Hd' (R.st.trans s) x
  | ex c fs => rw [he] at q; exact fun cls a H' Hd' s x => exc_of R q s x hE
  | bad => rw [he] at q; exact q
/-- return of a name that owns its list -/
theorem ss_retO (i : Nat) {x : Str} (ho : (own.contains i && decide (i < 100)) = true := by rfl) (hN : X.N[i]? = some x := by rfl) (hv : Vis X.env.scope x := by first | exact Or.inl rfl | exact Or.inr (Or.inl rfl) | exact Or.inr (Or.inr rfl))
    (hd : (x == ("__debug__" : Str)) = false := by rfl) (hcd : (x == ("__classdict__" : Str)) = false := by rfl) (hn : fl.nw = true := by rfl) : SS X W fl L own (.Return (some (.Name x pos')) pos) (sRet (eVar i)) own'' := by
  refine ⟨_, ps_ret (pe_var hN hv hd hcd), fun H0 Hd0 ρ σ H Hd R Dn q => ?_⟩
  unfold sRet eVar at q
  cases hi : ρ[i]? with
  | none => rw [hi] at q; exact q.elim
  | some o =>
    cases o with
    | none => rw [hi] at q; exact q.elim
    | some d =>
      rw [hi] at q
      have q := PoR.at q hn
      rcases R.ownL hi (List.contains_iff_mem.mp (Bool.and_eq_true_iff.mp ho).1) (of_decide_eq_true (Bool.and_eq_true_iff.mp ho).2) with ⟨a, vs, ds, rfl, h2, h3, h4, h5, h6⟩ | ⟨h1, v, h2, h3⟩
      · exact ⟨.ref a, h2, q (.ref a) H Hd R.st ⟨a, vs, rfl, h5, h4, h3, h6⟩⟩
      · refine ⟨v, h2, q v H Hd R.st ?_⟩
        cases d with
        | list ds => exact absurd rfl (h1 ds)
        | none => exact h3
        | bool b => exact h3
        | int b => exact h3
        | str b => exact h3
        | tuple b => exact h3
        | dict b => exact h3
def sRetN : En → Out := fun _ => .rt .none
theorem ss_retN : SS X W fl L own (.Return none pos) sRetN own'' := ⟨_, ps_retN, fun H0 Hd0 ρ σ H Hd R Dn q => by
  cases hn : fl.nw with
  | false => have q := PoR.at q hn; exact q .non H Hd R.st .non
  | true => have q := PoR.at q hn; exact q .non H Hd R.st .non⟩
/-- if -/
def sIf (c : En → Rs Bool) (f g : En → Out) : En → Out := fun ρ => oBindB (c ρ) ρ fun b => if b = true then f ρ else g ρ
theorem ss_if {c : Expr} {fc : En → Rs Bool} {as bs : List Stmt} (hc : SC X W own c fc) (ha : SSs X W fl L own as f own') (hb : SSs X W fl L own bs g own') (hE : okE fl own = true := by rfl) : SS X W fl L own (.If c as bs pos) (sIf fc f g) own' := by
  obtain ⟨tc, pc, rc⟩ := hc.ex
  obtain ⟨ta, pa, ra⟩ := ha.ex
  obtain ⟨tb, pb, rb⟩ := hb.ex
  refine ⟨_, ps_if pc pa pb, fun H0 Hd0 ρ σ H Hd R Dn q => ?_⟩
  refine rc _ _ _ _ _ _ R _ ?_
  unfold sIf at q
  cases he : fc ρ with
  | ok d =>
    rw [he] at q
    intro H' Hd' s
    cases d with
    | true => exact ra _ _ _ _ _ _ (R.step s) Dn q
    | false => exact rb _ _ _ _ _ _ (R.step s) Dn q
  | ex c fs => rw [he] at q; exact fun cls a H' Hd' s x => exc_of R q s x hE
  | bad => rw [he] at q; exact q
end

/-! ### what is walked -/
/-- J gives out the ds, from H1, Hd1 on -/
def Walks (K : PySem.W.Frag) (J : It) (ds : List D) (Hd1 : Hp) : Prop := ∀ H Hd, Same Hd1 Hd → Same Hd H → ∀ i,
  (∀ d, ds[i]? = some d → J.go i H ∧ ∀ x H', J.yld i H x H' → ∃ Hd', Step H Hd H' Hd' ∧ Dq K Hd' x d) ∧ (ds.length ≤ i → J.stop i H)
section
variable (X : Cx) (W : WX)
def PoI (σ : L2.St) (H Hd : Hp) (r : Rs (List D)) (Q : It → Hp → Prop) : Prop := match r with
  | .ok ds => ∀ J H' Hd', Step H Hd H' Hd' → Walks X.K J ds Hd' → Q J H'
  | .ex c fs => ∀ cls a H' Hd', Step H Hd H' Hd' → ExR X.K X.mg H' Hd' c fs cls a → W cls a σ H'
  | .bad => False
end
structure SI (X : Cx) (W : WX) (own : List Nat) (tg iter : Expr) (f : En → Rs (List D)) : Prop where
  ex : ∃ wi, PI X tg iter wi ∧ ∀ H0 Hd0 ρ σ H Hd, Rel X.K H0 Hd0 own ρ σ H Hd → ∀ Q, PoI X W σ H Hd (f ρ) Q → wi σ H Q
/-- a target: what is stored where (vs: the slots that it may touch) -/
structure SG (X : Cx) (own : List Nat) (tg : Expr) (g : D → En → Rs En) (own' vs : List Nat) : Prop where
  ex : ∃ t, PG X tg t ∧ ∀ H0 Hd0 ρ σ H Hd, Rel X.K H0 Hd0 own ρ σ H Hd → ∀ v d, Dq X.K Hd v d → ∀ ρ', g d ρ = .ok ρ' → ∀ Q, (∀ σ', Rel X.K H0 Hd0 own' ρ' σ' H Hd → (∀ j, j ∉ vs → σ'[j]? = σ[j]?) → σ'.length = σ.length → Q σ' H) → t v σ H Q
structure SGs (X : Cx) (own : List Nat) (tgs : List Expr) (g : List D → En → Rs En) (own' vs : List Nat) : Prop where
  ex : ∃ t, PGs X tgs t ∧ ∀ H0 Hd0 ρ σ H Hd, Rel X.K H0 Hd0 own ρ σ H Hd → ∀ ws ds, DqAll X.K Hd ws ds → ∀ ρ', g ds ρ = .ok ρ' → ∀ Q, (∀ σ', Rel X.K H0 Hd0 own' ρ' σ' H Hd → (∀ j, j ∉ vs → σ'[j]? = σ[j]?) → σ'.length = σ.length → Q σ' H) → t ws σ H Q
def gNm (i : Nat) : D → En → Rs En := fun d ρ => .ok (ρ.set i (some d))
def gsNil : List D → En → Rs En := fun ds ρ => match ds with
  | [] => .ok ρ
  | _ => .bad
def gsCons (g : D → En → Rs En) (gs : List D → En → Rs En) : List D → En → Rs En := fun ds ρ => match ds with
  | d :: ds => g d ρ >>= fun ρ' => gs ds ρ'
  | _ => .bad
def gTp (n : Nat) (gs : List D → En → Rs En) : D → En → Rs En := fun d ρ => match d with
  | .tuple ds => if ds.length = n then gs ds ρ else .bad
  | _ => .bad
section
variable {X : Cx} {W : WX} {own own' own'' vs vs' : List Nat} {tg : Expr} {tgs : List Expr} {g : D → En → Rs En} {gs : List D → En → Rs En} {pos : Pos}
theorem sg_name (i : Nat) {x : Str} (hN : X.N.Nodup) (hi : X.N[i]? = some x := by rfl) (hx : Loc X.env.scope x := by first | exact Or.inl rfl | exact Or.inr rfl) (hf : X.fn x = true ∨ X.env.scope.names.lookup x = some .local := by first | exact .inl rfl | exact .inr rfl) (hk : own.contains (1000 + i) = false := by rfl) : SG X own (.Name x pos) (gNm i) (drp own i) [i] :=
  ⟨_, pg_name hN hi hx hf, fun H0 Hd0 ρ σ H Hd R v d x ρ' e Q q => by
    cases e
    exact q _ (R.set x (ncon hk)) (fun j hj => by
      rw [List.getElem?_set_ne]
      intro z
      exact hj (by rw [z]; exact List.mem_singleton_self _)) (by simp)⟩
theorem sgs_nil : SGs X own [] gsNil own [] := ⟨_, pgs_nil, fun H0 Hd0 ρ σ H Hd R vs ds x ρ' e Q q => by
  cases x with
  | nil => cases e; exact ⟨rfl, q _ R (fun _ _ => rfl) rfl⟩
  | cons _ _ => cases e⟩
theorem sgs_cons (h1 : SG X own tg g own' vs) (h2 : SGs X own' tgs gs own'' vs') (hs : (assignEach (tg :: tgs) X.env).map (·.2) = assign tg X.env :: (assignEach tgs X.env).map (·.2) := by rfl) : SGs X own (tg :: tgs) (gsCons g gs) own'' (vs ++ vs') := by
  obtain ⟨t, p, r⟩ := h1.ex
  obtain ⟨t2, p2, r2⟩ := h2.ex
  refine ⟨_, pgs_cons p p2 hs, fun H0 Hd0 ρ σ H Hd R ws ds x ρ' e Q q => ?_⟩
  cases x with
  | nil => cases e
  | cons x xs =>
    rename_i v ws d ds
    unfold gsCons at e
    cases hg : g d ρ with
    | ok ρ1 =>
      simp only [hg, ok_bind] at e
      exact ⟨v, ws, rfl, r _ _ _ _ _ _ R v d x ρ1 hg _ fun σ' R' h l => r2 _ _ _ _ _ _ R' ws ds xs ρ' e Q fun σ2 R2 h2 l2 => q σ2 R2 (fun j hj => by
        rw [h2 j fun z => hj (List.mem_append_right _ z), h j fun z => hj (List.mem_append_left _ z)]) (l2.trans l)⟩
    | ex c fs => simp only [hg, ex_bind] at e; cases e
    | bad => simp only [hg, bad_bind] at e; cases e
theorem sg_tup {k n : Nat} (hc : X.calm = true) (h : SGs X own tgs gs own' vs) (hn : (assignEach tgs X.env).length = n := by rfl) (hst : (assignEach tgs X.env).findIdx? (·.1) = none := by rfl) : SG X own (.Tuple tgs k pos) (gTp n gs) own' vs := by
  obtain ⟨t, p, r⟩ := h.ex
  refine ⟨_, pg_tup hc p hn hst, fun H0 Hd0 ρ σ H Hd R v d x ρ' e Q q => ?_⟩
  cases x with
  | tup hs hr =>
    rename_i a xs ds
    unfold gTp at e
    by_cases hl : ds.length = n
    · simp only [hl, if_true] at e
      exact ⟨a, xs, rfl, sqt_same R.st.sub hs, by rw [hr.length]; exact hl, r _ _ _ _ _ _ R xs ds hr ρ' e Q q⟩
    · simp only [hl, if_false] at e; cases e
  | _ => cases e
end

/-! ### loops -/
/-- behind a turn of a loop -/
def oLoop (o : Out) (k : En → Out) : Out := match o with
  | .nx ρ => k ρ
  | .ct ρ => k ρ
  | .bk ρ => .nx ρ
  | .rt d => .rt d
  | .ex c fs ρ => .ex c fs ρ
  | .bad => .bad
  | .rx d ρ => .rx d ρ
/-- behind a target's store -/
def oStore (r : Rs En) (k : En → Out) : Out := match r with
  | .ok ρ => k ρ
  | _ => .bad
def forL (tg : D → En → Rs En) (body : En → Out) : List D → En → Out
  | [], ρ => .nx ρ
  | d :: ds, ρ => oStore (tg d ρ) fun ρ1 => oLoop (body ρ1) (forL tg body ds)
def oItems (r : Rs (List D)) (ρ : En) (k : List D → Out) : Out := match r with
  | .ok ds => k ds
  | .ex c fs => .ex c fs ρ
  | .bad => .bad
def sFor (it : En → Rs (List D)) (tg : D → En → Rs En) (body : En → Out) : En → Out := fun ρ => oItems (it ρ) ρ fun ds => forL tg body ds ρ
def fuelW : Nat := 1000000000
def whileL (c : En → Rs Bool) (body : En → Out) : Nat → En → Out
  | 0, _ => .bad
  | n + 1, ρ => oBindB (c ρ) ρ fun b => if b = true then oLoop (body ρ) (whileL c body n) else .nx ρ
def sWhile (c : En → Rs Bool) (body : En → Out) : En → Out := fun ρ => whileL c body fuelW ρ
section
variable {X : Cx} {W : WX} {fl : Md} {L own own2 vs : List Nat} {tg iter : Expr} {body : List Stmt} {it : En → Rs (List D)} {g : D → En → Rs En} {fb : En → Out} {pos : Pos}
/-- the base moved on: what stands still by now -/
theorem Step.rebase {H0 Hd0 H Hd H' Hd' : Hp} (s : Step H0 Hd0 H Hd) (t : Step H0 Hd H' Hd') : Step H0 Hd0 H' Hd' :=
  ⟨t.up, t.sub, fun a o e => t.keep a o (s.keep a o e), fun a n => by rw [t.old a n, s.old a n]⟩
theorem Rel.rebase {K : PySem.W.Frag} {H0 : Bs} {Hd0 H Hd H' Hd' : Hp} {ρ' : En} {σ' : L2.St} (s : Step H0.h Hd0 H Hd) (R : Rel K H0 Hd own ρ' σ' H' Hd') : Rel K H0 Hd0 own ρ' σ' H' Hd' :=
  ⟨s.rebase R.st, R.len, R.val, R.anc, R.ex⟩
theorem Rel.onto {K : PySem.W.Frag} {H0 : Bs} {Hd0 H Hd : Hp} {ρ : En} {σ : L2.St} (R : Rel K H0 Hd0 own ρ σ H Hd) : Rel K H0 Hd own ρ σ H Hd :=
  ⟨⟨R.st.up, R.st.sub, fun _ _ e => e, fun _ _ => rfl⟩, R.len, R.val, R.anc, R.ex⟩
theorem PoS.rebase {H0 : Bs} {Hd0 H Hd : Hp} {Dn : Ends} {o : Out} (s : Step H0.h Hd0 H Hd) (q : PoS X W H0 Hd0 fl L own Dn o) : PoS X W H0 Hd fl L own Dn o := by
  cases o with
  | nx ρ => exact fun σ' H' Hd' R => q σ' H' Hd' (R.rebase s)
  | bk ρ => exact fun σ' H' Hd' R => q σ' H' Hd' (R.rebase s)
  | ct ρ => exact fun σ' H' Hd' R => q σ' H' Hd' (R.rebase s)
  | rt d =>
    show PoR X H0 Hd fl Dn d
    cases hn : fl.nw with
    | false => have q := PoR.at q hn; unfold PoR; rw [hn]; exact fun v H' Hd' t x => q v H' Hd' (s.rebase t) x
    | true => have q := PoR.at q hn; unfold PoR; rw [hn]; exact fun v H' Hd' t x => q v H' Hd' (s.rebase t) x
  | ex c fs ρ => exact fun cls a σ' H' Hd' R => q cls a σ' H' Hd' (R.rebase (H0 := H0.res fl.E) s)
  | bad => exact q
  | rx d ρ => exact fun own' v σ' H' Hd' hio R => q own' v σ' H' Hd' hio (R.rebase s)
theorem ss_for (hp : PassesOwn (model X.prog X.w) X.A X.env X.xe) (hc : X.calm = true) (hi : SI X W own tg iter it) (hg : SG X own tg g own2 vs) (hb : SSs X W fl own own2 body fb own) (hs : ∀ x, foldedSetIterable iter X.env x = pure x := by intro _; rfl) (hE : okE fl own = true := by rfl) :
    SS X W fl L own (.For tg iter body [] pos) (sFor it g fb) own := by
  obtain ⟨wi, pi, ri⟩ := hi.ex
  obtain ⟨tgt, pg, rg⟩ := hg.ex
  obtain ⟨tb, pb, rb⟩ := hb.ex
  refine ⟨_, ps_for hp hc pi pg pb hs, fun H0 Hd0 ρ σ H Hd R Dn q => ?_⟩
  refine ri _ _ _ _ _ _ R _ ?_
  unfold sFor oItems at q
  cases hit : it ρ with
  | bad => rw [hit] at q; exact q
  | ex c fs => rw [hit] at q; exact fun cls a H' Hd' s x => exc_of R q s x hE
  | ok ds =>
    rw [hit] at q
    intro J H1 Hd1 s1 wk
    have R1 := R.step s1
    have q1 := PoS.rebase R1.st q
    refine ⟨fun i m σ' H' => m = ds.length - i ∧ ∃ ρ' Hd', Rel X.K H0 Hd1 own ρ' σ' H' Hd' ∧ PoS X W H0 Hd1 fl L own Dn (forL g fb (ds.drop i) ρ'), ⟨ds.length, rfl, ρ, Hd1, R1.onto, q1⟩, ?_⟩
    rintro i m σ' H' ⟨rfl, ρ', Hd', R', q'⟩
    obtain ⟨hgo, hstop⟩ := wk H' Hd' R'.st.keep R'.st.sub i
    by_cases hlt : i < ds.length
    · have hd : ds[i]? = some ds[i] := List.getElem?_eq_getElem hlt
      obtain ⟨go, yld⟩ := hgo _ hd
      rw [List.drop_eq_getElem_cons hlt] at q'
      refine .inr ⟨go, fun σ2 H2 => ∃ ρ2 Hd2, Rel X.K H0 Hd1 own ρ2 σ2 H2 Hd2 ∧ PoS X W H0 Hd1 fl L own Dn (forL g fb (ds.drop (i + 1)) ρ2), fun σ2 H2 ⟨ρ2, Hd2, r2, q2⟩ => ⟨ds.length - (i + 1), by omega, rfl, ρ2, Hd2, r2, q2⟩, fun x H2 y => ?_⟩
      obtain ⟨Hd2, s2, dx⟩ := yld x H2 y
      have R2 := R'.step s2
      unfold forL oStore oLoop at q'
      cases hgt : g ds[i] ρ' with
      | bad => rw [hgt] at q'; exact q'.elim
      | ex c fs => rw [hgt] at q'; exact q'.elim
      | ok ρ1 =>
        simp only [hgt] at q'
        refine rg _ _ _ _ _ _ R2 x _ dx ρ1 hgt _ fun σ3 R3 _ _ => ?_
        refine rb _ _ _ _ _ _ R3 _ ?_
        cases hbd : fb ρ1 with
        | nx ρ2 => simp only [hbd] at q'; exact fun σ4 H4 Hd4 R4 => ⟨ρ2, Hd4, R4, q'⟩
        | ct ρ2 => simp only [hbd] at q'; exact fun σ4 H4 Hd4 R4 => ⟨ρ2, Hd4, R4, q'⟩
        | bk ρ2 => simp only [hbd] at q'; exact q'
        | rt d => simp only [hbd] at q'; exact PoR.same (fl := fl) q' rfl
        | ex c fs ρ2 => simp only [hbd] at q'; exact q'
        | bad => simp only [hbd] at q'; exact q'
        | rx d ρ2 => simp only [hbd] at q'; exact q'
    · refine .inl ⟨hstop (by omega), ?_⟩
      rw [List.drop_eq_nil_of_le (by omega)] at q'
      exact q' σ' H' Hd' R'
theorem ss_while {c : Expr} {fc : En → Rs Bool} (hp : PassesOwn (model X.prog X.w) X.A X.env X.xe) (hc : SC X W own c fc) (hb : SSs X W fl own own body fb own) (hE : okE fl own = true := by rfl) : SS X W fl L own (.While c body [] pos) (sWhile fc fb) own := by
  obtain ⟨tc, pc, rc⟩ := hc.ex
  obtain ⟨tb, pb, rb⟩ := hb.ex
  refine ⟨_, ps_while hp pc pb, fun H0 Hd0 ρ σ H Hd R Dn q => ?_⟩
  refine ⟨fun m σ' H' => ∃ ρ' Hd', Rel X.K H0 Hd0 own ρ' σ' H' Hd' ∧ PoS X W H0 Hd0 fl L own Dn (whileL fc fb m ρ'), ⟨fuelW, ρ, Hd, R, q⟩, ?_⟩
  rintro m σ' H' ⟨ρ', Hd', R', q'⟩
  refine rc _ _ _ _ _ _ R' _ ?_
  cases m with
  | zero => exact q'.elim
  | succ m =>
    unfold whileL oBindB oLoop at q'
    cases hcd : fc ρ' with
    | bad => simp only [hcd] at q'; exact q'
    | ex c fs => simp only [hcd] at q'; exact fun cls a H' Hd' s x => exc_of R' q' s x hE
    | ok b =>
      intro H1 Hd1 s1
      cases b with
      | false => simp only [hcd] at q'; exact q' _ _ _ (R'.step s1)
      | true =>
        simp only [hcd] at q'
        rw [if_pos rfl]
        refine ⟨fun σ2 H2 => ∃ ρ2 Hd2, Rel X.K H0 Hd0 own ρ2 σ2 H2 Hd2 ∧ PoS X W H0 Hd0 fl L own Dn (whileL fc fb m ρ2), fun σ2 H2 ⟨ρ2, Hd2, r2, q2⟩ => ⟨m, by omega, ρ2, Hd2, r2, q2⟩, ?_⟩
        refine rb _ _ _ _ _ _ (R'.step s1) _ ?_
        cases hbd : fb ρ' with
        | nx ρ2 => simp only [hbd] at q'; exact fun σ4 H4 Hd4 R4 => ⟨ρ2, Hd4, R4, q'⟩
        | ct ρ2 => simp only [hbd] at q'; exact fun σ4 H4 Hd4 R4 => ⟨ρ2, Hd4, R4, q'⟩
        | bk ρ2 => simp only [hbd] at q'; exact q'
        | rt d => simp only [hbd] at q'; exact PoR.same (fl := fl) q' rfl
        | ex c fs ρ2 => simp only [hbd] at q'; exact q'
        | bad => simp only [hbd] at q'; exact q'
        | rx d ρ2 => simp only [hbd] at q'; exact q'
end

/-! ### defs and calls -/
/-- a def computes g (of n arguments); fl: a list that it hands back is a new one -/
def spF (K : PySem.W.Frag) (mg : Str → Option Value) (fl : Bool) (n : Nat) (g : List D → Rs D) : Sp := fun vs H Q E => vs.length = n ∧ ∃ ds Hd, Same Hd H ∧ DqAll K Hd vs ds ∧ match g ds with
  | .ok d => (match fl with
    | false => ∀ v H' Hd', Step H Hd H' Hd' → Dq K Hd' v d → Q v H'
    | true => ∀ v H' Hd', Step H Hd H' Hd' → NewV K H H' Hd' v d → Q v H')
  | .ex c fs => ∀ cls a H' Hd', Step H Hd H' Hd' → ExR K mg H' Hd' c fs cls a → E cls a H'
  | .bad => False
def runF (n : Nat) (f : En → Out) : List D → Rs D := fun ds => match f (ds.map some ++ List.replicate (n - ds.length) none) with
  | .nx _ => .ok .none
  | .rt d => .ok d
  | .ex c fs _ => .ex c fs
  | _ => .bad
/-- a def of the module, ready to be called: its name, its parameters' number, what it computes, its level -/
structure Cal (P : Program) (w : World) (K : PySem.W.Frag) (mg : Str → Option Value) (base : Heap) (k : Nat) (x : Str) (fl : Bool) (n : Nat) (g : List D → Rs D) : Prop where
  ex : ∃ (f : Addr) (fd : FuncData) (ps : List Str), FnOk P w K mg base (L2.CX P w) k f fd ps (spF K mg fl n g) ∧ mg x = some (.ref f) ∧ PySem.W.keepIn K (.ref f) = true ∧ Binds K fd ps []
/-- what a body's context brings -/
structure Cxt (X : Cx) (W : WX) (k : Nat) : Prop where
  calm : X.calm = true
  tk : Takes X W
  hp : PassesOwn (model X.prog X.w) X.A X.env X.xe
  nd : X.N.Nodup
  room : Room k X.A
theorem Rel.start {K : PySem.W.Frag} {H Hd : Hp} {N : List Str} {vs : List V} {ds : List D} (s : Same Hd H) (h : DqAll K Hd vs ds) : Rel K ⟨H, fun _ => none⟩ Hd [] (ds.map some ++ List.replicate (N.length - ds.length) none) (L2.start N vs) H Hd where
  st := .refl s
  len := by unfold L2.start; simp [h.length]
  val := fun i d e _ _ => by
    have hi : i < ds.length := by
      by_cases hi : i < ds.length
      · exact hi
      · rw [List.getElem?_append_right (by simp; omega)] at e
        obtain ⟨_, e2⟩ := List.getElem?_eq_some_iff.mp e
        simp at e2
    rw [List.getElem?_append_left (by simp; exact hi), List.getElem?_map] at e
    cases hd : ds[i]? with
    | none => rw [hd] at e; simp at e
    | some d' =>
      rw [hd] at e
      simp at e
      subst e
      obtain ⟨v, e1, e2⟩ := h.get hd
      refine ⟨v, ?_, e2⟩
      unfold L2.start
      rw [List.getElem?_append_left (by simp; rw [h.length]; exact hi), List.getElem?_map, e1]
      rfl
  anc := fun _ _ z => nomatch z
  ex := ⟨fun _ => [], (fun _ z => nomatch z), (fun _ z => nomatch z), (fun _ _ z => nomatch z)⟩
/-- THE RULE for a def -/
theorem fnok_of {P : Program} {w : World} {K : PySem.W.Frag} {mg : Str → Option Value} {base : Heap} {x qual : Str} {st : Stmt} {f : Addr} {fd : FuncData} {N ps : List Str} {k n : Nat} {fl : Bool} {fb : En → Out}
    (F : Fun K x qual st f fd) (S : FnScope N ps (defScope st)) (hn : ps.length = n)
    (body : ∀ (cdv : Value) (A : Around) (outer : List Env) (s : Shared) (H : Hp) (E : XK), Cxt (cxOf (L2.CX P w) P w K mg base N qual (defScope st) f cdv A outer s H E) (fun cls d _ H => E cls d H) k →
      ∃ own', SSs (cxOf (L2.CX P w) P w K mg base N qual (defScope st) f cdv A outer s H E) (fun cls d _ H => E cls d H) (.of fl) [] [] (defBody st) fb own') :
    FnOk P w K mg base (L2.CX P w) (k + 1) f fd ps (spF K mg fl n (runF N.length fb)) := by
  refine F.okX S (fun vs H Q E h => by rw [hn]; exact h.1) (fun cdv A outer s H vs Q E hr h => ?_)
  obtain ⟨hl, ds, Hd, sub, dp, q⟩ := h
  have C : Cxt (cxOf (L2.CX P w) P w K mg base N qual (defScope st) f cdv A outer s H E) (fun cls d _ H => E cls d H) k :=
    ⟨rfl, takes_of rfl rfl rfl rfl, passes_of rfl, S.nd, hr⟩
  obtain ⟨own', B⟩ := body cdv A outer s H E C
  obtain ⟨t, p, r⟩ := B.ex
  refine ⟨t, p, r ⟨H, fun _ => none⟩ Hd _ _ H Hd (Rel.start (N := N) sub dp) _ ?_⟩
  unfold runF at q
  cases hf : fb (ds.map some ++ List.replicate (N.length - ds.length) none) with
  | nx ρ =>
    rw [hf] at q
    intro σ' H' Hd' R
    cases fl with
    | false => exact q .non H' Hd' R.st .non
    | true => exact q .non H' Hd' R.st .non
  | rt d =>
    rw [hf] at q
    cases fl with
    | false => exact fun v H' Hd' s x => q v H' Hd' s x
    | true => exact fun v H' Hd' s x => q v H' Hd' s x
  | ex c fs ρ =>
    rw [hf] at q
    exact fun cls a σ' H' Hd' R x => q cls a H' Hd' R.st x
  | bk ρ => rw [hf] at q; exact q.elim
  | ct ρ => rw [hf] at q; exact q.elim
  | bad => rw [hf] at q; exact q.elim
  | rx d ρ => rw [hf] at q; exact q.elim
theorem cal_of {P : Program} {w : World} {K : PySem.W.Frag} {mg : Str → Option Value} {base : Heap} {x qual : Str} {st : Stmt} {f : Addr} {fd : FuncData} {N ps : List Str} {k n : Nat} {fl : Bool} {fb : En → Out}
    (F : Fun K x qual st f fd) (S : FnScope N ps (defScope st)) (hm : mg x = some (.ref f)) (hb : Binds K fd ps []) (hn : ps.length = n)
    (body : ∀ (cdv : Value) (A : Around) (outer : List Env) (s : Shared) (H : Hp) (E : XK), Cxt (cxOf (L2.CX P w) P w K mg base N qual (defScope st) f cdv A outer s H E) (fun cls d _ H => E cls d H) k →
      ∃ own', SSs (cxOf (L2.CX P w) P w K mg base N qual (defScope st) f cdv A outer s H E) (fun cls d _ H => E cls d H) (.of fl) [] [] (defBody st) fb own') :
    Cal P w K mg base (k + 1) x fl n (runF N.length fb) := ⟨f, fd, ps, fnok_of F S hn body, hm, F.kp, hb⟩
theorem Cxt.u64 {X : Cx} {W : WX} {k : Nat} (C : Cxt X W k) : X.A.units + 64 < cLine := C.room.units
theorem Cxt.u65 {X : Cx} {W : WX} {k : Nat} (C : Cxt X W k) : X.A.units + 65 < cLine := by have := C.room.un; omega
/-- a call -/
def eCall (n : Nat) (g : List D → Rs D) (fa : En → Rs (List D)) : En → Rs D := fun ρ => fa ρ >>= fun ds => if ds.length = n then g ds else .bad
section
variable {X : Cx} {W : WX} {own : List Nat} {k j n : Nat} {x : Str} {gf : List D → Rs D} {e : Expr} {es : List Expr} {fa : En → Rs (List D)} {p pos : Pos}
theorem se_call (C : Cxt X W k) (F : Cal X.prog X.w X.K X.mg X.base j x false n gf) (ha : SA X W own (e :: es) fa) (hj : j ≤ k := by decide) (hg : Gl X x := by rfl) (hdb : (x == ("__debug__" : Str)) = false := by rfl) (he : starEach (e :: es) X.env = (false, eval e X.env) :: starEach es X.env := by rfl) (hpl : (backTo pos (starEach es X.env)).any (·.1) = false := by rfl) :
    SE X W own (.Call (.Name x p) (e :: es) [] pos) (eCall n gf fa) := by
  obtain ⟨f, fd, ps, ok, hm, hk, hb⟩ := F.ex
  obtain ⟨ta, pa, ra⟩ := ha.ex
  refine ⟨_, pe_callS ok (C.room.mono hj) hg hm hk hb (fun σ => passAt C.tk σ) pa hdb he hpl, fun H0 Hd0 ρ σ H Hd R Q q => ?_⟩
  refine ra _ _ _ _ _ _ R _ ?_
  unfold eCall at q
  cases hf : fa ρ with
  | bad => rw [hf] at q; exact q
  | ex c fs => rw [hf] at q; exact q
  | ok ds =>
    simp only [hf, ok_bind] at q
    intro vs H1 Hd1 s1 xs
    by_cases hl : ds.length = n
    · rw [if_pos hl] at q
      refine ⟨by rw [xs.length]; exact hl, ds, Hd1, s1.sub, xs, ?_⟩
      have q1 := PoE.step q s1
      cases hg : gf ds with
      | ok d => rw [hg] at q1; exact q1
      | ex c fs => rw [hg] at q1; exact q1
      | bad => rw [hg] at q1; exact q1
    · rw [if_neg hl] at q; exact q.elim
theorem sm_call (C : Cxt X W k) (F : Cal X.prog X.w X.K X.mg X.base j x true n gf) (ha : SA X W own (e :: es) fa) (hj : j ≤ k := by decide) (hg : Gl X x := by rfl) (hdb : (x == ("__debug__" : Str)) = false := by rfl) (he : starEach (e :: es) X.env = (false, eval e X.env) :: starEach es X.env := by rfl) (hpl : (backTo pos (starEach es X.env)).any (·.1) = false := by rfl) :
    SM X W own (.Call (.Name x p) (e :: es) [] pos) (eCall n gf fa) := by
  obtain ⟨f, fd, ps, ok, hm, hk, hb⟩ := F.ex
  obtain ⟨ta, pa, ra⟩ := ha.ex
  refine ⟨_, pe_callS ok (C.room.mono hj) hg hm hk hb (fun σ => passAt C.tk σ) pa hdb he hpl, fun H0 Hd0 ρ σ H Hd R Q q => ?_⟩
  refine ra _ _ _ _ _ _ R _ ?_
  unfold eCall at q
  cases hf : fa ρ with
  | bad => rw [hf] at q; exact q
  | ex c fs => rw [hf] at q; exact q
  | ok ds =>
    simp only [hf, ok_bind] at q
    intro vs H1 Hd1 s1 xs
    by_cases hl : ds.length = n
    · rw [if_pos hl] at q
      refine ⟨by rw [xs.length]; exact hl, ds, Hd1, s1.sub, xs, ?_⟩
      have q1 := PoM.step q s1
      cases hg : gf ds with
      | ok d => rw [hg] at q1; exact fun v H' Hd' s n => q1 v H' Hd' s n
      | ex c fs => rw [hg] at q1; exact q1
      | bad => rw [hg] at q1; exact q1
    · rw [if_neg hl] at q; exact q.elim
end
theorem Cal.imp {P : Program} {w : World} {K : PySem.W.Frag} {mg : Str → Option Value} {base : Heap} {k : Nat} {x : Str} {fl : Bool} {n : Nat} {g g' : List D → Rs D} (F : Cal P w K mg base k x fl n g) (h : ∀ ds, ds.length = n → g' ds ≠ .bad → g ds = g' ds) : Cal P w K mg base k x fl n g' := by
  obtain ⟨f, fd, ps, ok, r⟩ := F.ex
  refine ⟨f, fd, ps, ok.imp fun vs H Q E hq => ?_, r⟩
  obtain ⟨hl, ds, Hd, s, dp, q⟩ := hq
  refine ⟨hl, ds, Hd, s, dp, ?_⟩
  rw [h ds (by rw [← dp.length]; exact hl) (fun z => by rw [z] at q; exact q)]
  exact q
end Wm

set_option Elab.async false
set_option linter.all false
set_option maxRecDepth 100000
/-! WmOps: operators, subscripts, built-ins, walks, methods of the layer. -/
namespace Wm
open PySem PySem.Spec PyProof.Rows L2

section
variable {K : PySem.W.Frag} {H Hd : Hp} {v : V}
theorem Dv.int {i : Int} (h : Dv K H Hd v (.int i)) : v = .int i := by
  rcases h with h | ⟨a, vs, ds, _, e, _⟩
  · cases h; rfl
  · cases e
theorem Dv.str {i : Str} (h : Dv K H Hd v (.str i)) : v = .str i := by
  rcases h with h | ⟨a, vs, ds, _, e, _⟩
  · cases h; rfl
  · cases e
theorem Dv.bool {i : Bool} (h : Dv K H Hd v (.bool i)) : v = .bl i := by
  rcases h with h | ⟨a, vs, ds, _, e, _⟩
  · cases h; rfl
  · cases e
theorem Dv.none (h : Dv K H Hd v .none) : v = .non := by
  rcases h with h | ⟨a, vs, ds, _, e, _⟩
  · cases h; rfl
  · cases e
theorem Dv.tup {ds : List D} (s : Same Hd H) (h : Dv K H Hd v (.tuple ds)) : ∃ a vs, v = .ref a ∧ SqT K H a vs ∧ DqAll K Hd vs ds ∧ SqT K Hd a vs := by
  rcases h with h | ⟨a, vs, ds, _, e, _⟩
  · cases h with
    | tup h r => exact ⟨_, _, rfl, sqt_same s h, r, h⟩
  · cases e
theorem Dv.lst {ds : List D} (s : Same Hd H) (h : Dv K H Hd v (.list ds)) : ∃ a vs, v = .ref a ∧ SqL K H a vs ∧ DqAll K Hd vs ds ∧ SqL K H a vs := by
  rcases h with h | ⟨a, vs, ds', e1, e, e3, e4⟩
  · cases h with
    | lst h r => exact ⟨_, _, rfl, s.seq h, r, s.seq h⟩
  · cases e; exact ⟨a, vs, e1, .inl (.inl e3), e4, .inl (.inl e3)⟩
theorem Dv.dict {ds : List (D × D)} (h : Dv K H Hd v (.dict ds)) : False := by
  rcases h with h | ⟨a, vs, ds', e1, e, e3, e4⟩
  · cases h
  · cases e
end
section
variable {X : Cx} {W : WX} {σ : L2.St} {H Hd : Hp} {Q : VK}
theorem PoE.at {d : D} {v : V} (s : Same Hd H) (q : PoE X W σ H Hd (.ok d) Q) (h : Dq X.K Hd v d) : Q v H := q v H Hd (.refl s) h
/-- a new tuple of good items -/
theorem PoE.newT {ds : List D} {vs : List V} {p : Addr} (s : Same Hd H) (q : PoE X W σ H Hd (.ok (.tuple ds)) Q) (h : DqAll X.K Hd vs ds) (hp : H p = none) : Q (.ref p) (upd H p (.tup vs)) :=
  q _ _ _ (.new s hp) (.tup (.inl (.inl upd_same)) (dqAll_mono (same_upd (none_of_same s hp)) h))
theorem PoE.newL {ds : List D} {vs : List V} {p : Addr} (s : Same Hd H) (q : PoE X W σ H Hd (.ok (.list ds)) Q) (h : DqAll X.K Hd vs ds) (hp : H p = none) : Q (.ref p) (upd H p (.lst vs)) :=
  q _ _ _ (.new s hp) (.lst (.inl (.inl upd_same)) (dqAll_mono (same_upd (none_of_same s hp)) h))
theorem PoM.newL {ds : List D} {vs : List V} {p : Addr} (s : Same Hd H) (q : PoM X W σ H Hd (.ok (.list ds)) Q) (h : DqAll X.K Hd vs ds) (hp : H p = none) : Q (.ref p) (upd H p (.lst vs)) :=
  q _ _ _ (.own s hp) ⟨p, vs, rfl, hp, none_of_same s hp, upd_same, h⟩
end

/-! ### + - * // % ** -/
/-- the library's + of lists, whatever the objects' slots are -/
theorem cat_gen (l : Addr) (items : Array Value) (n : Nat) (sl : Array (Option Value)) (b : Addr) (items2 : Array Value) (n2 : Nat) (sl2 : Array (Option Value)) (hc0 : items.size + items2.size ≤ sizeLine) :
    Meets (Builtin.«list.__add__» ⟨[.ref l, .ref b], []⟩) (fun _ R s => s.heap.get? l = some { cls := .type "list", dict := none, data := .seq items n, slots := sl } ∧ s.heap.get? b = some { cls := .type "list", dict := none, data := .seq items2 n2, slots := sl2 } ∧
      R (.ok (.ret (Value.ref s.heap.objs.size))) { s with heap := s.heap.push { cls := Value.type "list", data := Data.seq (items ++ items2) } }) := by
  refine .of_wp fun prog w A R s h => ?_
  obtain ⟨hp, g, d, tk, os⟩ := s
  obtain ⟨hl, hb, h⟩ := h
  have f3 := PySem.AutoSeq1.sub_list_list
  wp_walk using PySem.AutoSeq1.wpAny_loadPart' hl, PySem.AutoSeq1.wpAny_loadPart' hb
  exact ⟨_, rfl, h⟩
/-- lists that are only read -/
def rCatL (K : PySem.W.Frag) : R2 := fun x y H Q => ∃ l b xs zs, x = .ref l ∧ y = .ref b ∧ SqL K H l xs ∧ SqL K H b zs ∧ xs.length + zs.length ≤ sizeLine ∧ ∀ p, H p = none → Q (.ref p) (upd H p (.lst (xs ++ zs)))
theorem op_catL {X : Cx} : OpR X (binaryOp .Add) (rCatL X.K) := by
  intro pins s σ H x y v u Q I rx ry h
  obtain ⟨l, b, xs, zs, rfl, rfl, hH, hB, hz, q⟩ := h
  cases rx
  cases ry
  obtain ⟨its, r, ⟨⟨c1, d1, data1, sl1⟩, n, e, hc, hd, hdt⟩, hl⟩ := I.list hH
  obtain ⟨its2, r2, ⟨⟨c2, d2, data2, sl2⟩, n2, e2, hc2, hd2, hdt2⟩, hl2⟩ := I.list hB
  simp only at hc hdt hd hc2 hdt2 hd2
  subst hc hdt hd hc2 hdt2 hd2
  have k1 := r.length
  have k2 := r2.length
  refine PySem.concat_meets ⟨_, e, rfl⟩ ⟨_, e2, rfl⟩ PySem.noFill_list_add PySem.seq_list_add PySem.F.slot_list_add PySem.F.entry_list_add (PySem.F.args_list_add_2 _ _) (cat_gen l its.toArray n sl1 b its2.toArray n2 sl2 (by rw [List.size_toArray, List.size_toArray]; omega)) ⟨e, e2, ?_⟩
  have ea : its.toArray ++ its2.toArray = (its ++ its2).toArray := by simp
  rw [ea]
  exact ⟨.ref _, _, I.lnew (t' := s.toks) (r.append r2) (by rw [List.length_append]; omega), rfl, q _ I.fresh⟩
def addD : D → D → Rs D
  | .int a, .int b => .ok (.int (a + b))
  | .str a, .str b => if a.length + b.length ≤ sizeLine then .ok (.str (a ++ b)) else .bad
  | .tuple a, .tuple b => if a.length + b.length ≤ sizeLine then .ok (.tuple (a ++ b)) else .bad
  | .list a, .list b => if a.length + b.length ≤ sizeLine then .ok (.list (a ++ b)) else .bad
  | .int a, .bool b => .ok (.int (a + b2i b))
  | _, _ => .bad
def rAddA (K : PySem.W.Frag) : R2 := fun x y H Q => (∃ i j, x = .int i ∧ y = .int j ∧ Q (.int (i + j)) H) ∨ (∃ i j, x = .str i ∧ y = .str j ∧ i.length + j.length ≤ sizeLine ∧ Q (.str (i ++ j)) H) ∨ rCatA K x y H Q ∨ rCatL K x y H Q ∨ ∃ i k, x = .int i ∧ y = .bl k ∧ Q (.int (i + b2i k)) H
theorem op_addA {X : Cx} : OpR X (binaryOp .Add) (rAddA X.K) := op_add.or (op_add_str.or (op_catA.or (op_catL.or op_add_ib)))
theorem addS {X : Cx} : OpS X (rAddA X.K) addD := by
  intro W σ H Hd x y dx dy s hx hy Q q
  unfold addD at q
  split at q
  · exact .inl ⟨_, _, hx.int, hy.int, PoE.at s q (.int _)⟩
  · rename_i a b
    split at q
    · exact .inr (.inl ⟨_, _, hx.str, hy.str, by assumption, PoE.at s q (.str _)⟩)
    · exact q.elim
  · rename_i a b
    split at q
    · rename_i hl
      obtain ⟨p, vs, rfl, h1, h2, h3⟩ := hx.tup s
      obtain ⟨p', ws, rfl, k1, k2, k3⟩ := hy.tup s
      refine .inr (.inr (.inl ⟨p, p', vs, ws, rfl, rfl, h1, k1, by rw [h2.length, k2.length]; exact hl, fun e => ?_, fun e e2 => ?_, fun e e2 z hz => PoE.newT s q (h2.append k2) hz⟩))
      · subst e
        cases h2
        exact PoE.at s q (.tup k3 k2)
      · subst e2
        cases k2
        rw [List.append_nil] at q
        exact PoE.at s q (.tup h3 h2)
    · exact q.elim
  · rename_i a b
    split at q
    · rename_i hl
      obtain ⟨p, vs, rfl, _, h2, h1⟩ := hx.lst s
      obtain ⟨p', ws, rfl, _, k2, k1⟩ := hy.lst s
      exact .inr (.inr (.inr (.inl ⟨p, p', vs, ws, rfl, rfl, h1, k1, by rw [h2.length, k2.length]; exact hl, fun z hz => PoE.newL s q (h2.append k2) hz⟩)))
    · exact q.elim
  · exact .inr (.inr (.inr (.inr ⟨_, _, hx.int, hy.bool, PoE.at s q (.int _)⟩)))
  · exact q.elim
def subD : D → D → Rs D
  | .int a, .int b => .ok (.int (a - b))
  | _, _ => .bad
theorem subS {X : Cx} : OpS X (rI0 fun i j => .int (i - j)) subD := by
  intro W σ H Hd x y dx dy s hx hy Q q
  unfold subD at q
  split at q
  · exact ⟨_, _, hx.int, hy.int, PoE.at s q (.int _)⟩
  · exact q.elim
def big (i : Int) : Bool := decide (-(2 ^ 64) < i) && decide (i < 2 ^ 64)
/-- tuple * int: the same one, none, a new one -/
theorem tuple_mulS (l : Addr) (items : Array Value) (n : Nat) (dd : Option Addr) (sl : Array (Option Value)) (x : Int) (u : Tok) (c0 : (decide (x < -(2 ^ 63)) || decide (x ≥ 2 ^ 63)) = false) (c1 : (items.isEmpty || x == 1) = true) :
    Meets (Builtin.«tuple.__mul__» ⟨[.ref l, .int x u], []⟩) (fun _ R s => s.heap.get? l = some { cls := .type "tuple", dict := dd, data := .seq items n, slots := sl } ∧
      R (.ok (.ret (Value.ref l))) s) :=
  .of_wp fun prog w A R s h => by
    obtain ⟨hp, g, d, tk, os⟩ := s
    obtain ⟨hl, h⟩ := h
    have f1 := AutoSeq1.idx_int
    wp_walk using wpAny_loadPart' hl
    repeat (first
      | (refine wpAny_ite_false (decide_eq_false (by rw [c0]; exact Bool.false_ne_true)) ?_; wp_walk using wpAny_loadPart' hl)
      | (refine wpAny_ite_true (decide_eq_true c1) ?_; wp_walk using wpAny_loadPart' hl))
    exact ⟨_, rfl, h⟩
theorem tuple_mulN (l : Addr) (items : Array Value) (n : Nat) (dd : Option Addr) (sl : Array (Option Value)) (x : Int) (u : Tok) (c0 : (decide (x < -(2 ^ 63)) || decide (x ≥ 2 ^ 63)) = false) (c1 : (items.isEmpty || x == 1) = false) (c2 : (decide (x ≤ 0) || items.isEmpty) = true) :
    Meets (Builtin.«tuple.__mul__» ⟨[.ref l, .int x u], []⟩) (fun _ R s => s.heap.get? l = some { cls := .type "tuple", dict := dd, data := .seq items n, slots := sl } ∧
      R (.ok (.ret (Value.ref s.heap.objs.size))) { s with heap := s.heap.push { cls := Value.type "tuple", data := Data.seq #[] }, toks := s.toks }) :=
  .of_wp fun prog w A R s h => by
    obtain ⟨hp, g, d, tk, os⟩ := s
    obtain ⟨hl, h⟩ := h
    have f1 := AutoSeq1.idx_int
    wp_walk using wpAny_loadPart' hl
    repeat (first
      | (refine wpAny_ite_false (decide_eq_false (by rw [c0]; exact Bool.false_ne_true)) ?_; wp_walk using wpAny_loadPart' hl)
      | (refine wpAny_ite_false (decide_eq_false (by rw [c1]; exact Bool.false_ne_true)) ?_; wp_walk using wpAny_loadPart' hl)
      | (refine wpAny_ite_true (decide_eq_true c2) ?_; wp_walk using wpAny_loadPart' hl))
    exact ⟨_, rfl, h⟩
def rRepS (K : PySem.W.Frag) : R2 := fun x y H Q => ∃ l k xs, x = .ref l ∧ y = .int k ∧ SqT K H l xs ∧ -1000 ≤ k ∧ k ≤ 1000 ∧ (xs = [] ∨ k = 1) ∧ Q (.ref l) H
def rRepN (K : PySem.W.Frag) : R2 := fun x y H Q => ∃ l k xs, x = .ref l ∧ y = .int k ∧ SqT K H l xs ∧ -1000 ≤ k ∧ k ≤ 0 ∧ xs ≠ [] ∧ ∀ p, H p = none → Q (.ref p) (upd H p (.tup []))
theorem op_repS {X : Cx} : OpR X (binaryOp .Mult) (rRepS X.K) := by
  intro pins s σ H x y v u Q I rx ry h
  obtain ⟨l, k, xs, rfl, rfl, hT, h1, h2, hz, q⟩ := h
  cases rx
  obtain ⟨t, rfl⟩ := ry
  obtain ⟨its, r, ⟨⟨cls, dd, data, sl⟩, ho, hc, n, hd⟩, hs⟩ := I.tuple hT
  simp only at hc hd
  subst hc hd
  have hle : its.length = xs.length := r.length.symm
  have c0 : (decide (k < -(2 ^ 63)) || decide (k ≥ 2 ^ 63)) = false := by
    rw [decide_eq_false (by omega), decide_eq_false (by omega)] <;> rfl
  have c1 : (its.toArray.isEmpty || k == 1) = true := by
    rcases hz with e | e
    · rw [e] at hle
      have : its = [] := List.eq_nil_of_length_eq_zero hle
      subst this; rfl
    · subst e; simp
  exact wpAny_binaryOp_repeat_ref (T := "tuple") (U := "int") (by decide) ⟨_, ho, rfl⟩ (fun s' => typeIs_int s' k t) noFill_tuple_mul F.fills_int_mul F.slot_int_rmul repeat_tuple F.slot_int_index.lookup
    (call_meets F.slot_int_rmul (typeIs_int s k t) F.entry_int_rmul (F.args_int_rmul_2 _ _) (int_rmul_tuple k t l its.toArray n dd sl)
      ⟨ho, rfl, ⟨_, ho, rfl⟩, call_meets F.slot_tuple_mul ⟨_, ho, rfl⟩ F.entry_tuple_mul (F.args_tuple_mul_2 _ _) (tuple_mulS l its.toArray n dd sl k t c0 c1) ⟨ho, ⟨.ref l, H, I, rfl, q⟩⟩⟩)
theorem op_repN {X : Cx} : OpR X (binaryOp .Mult) (rRepN X.K) := by
  intro pins s σ H x y v u Q I rx ry h
  obtain ⟨l, k, xs, rfl, rfl, hT, h1, h2, hz, q⟩ := h
  cases rx
  obtain ⟨t, rfl⟩ := ry
  obtain ⟨its, r, ⟨⟨cls, dd, data, sl⟩, ho, hc, n, hd⟩, hs⟩ := I.tuple hT
  simp only at hc hd
  subst hc hd
  have hle : its.length = xs.length := r.length.symm
  have c0 : (decide (k < -(2 ^ 63)) || decide (k ≥ 2 ^ 63)) = false := by
    rw [decide_eq_false (by omega), decide_eq_false (by omega)] <;> rfl
  have hi : its.toArray.isEmpty = false := by
    cases its with
    | nil => exact absurd (List.eq_nil_of_length_eq_zero hle.symm) hz
    | cons a b => rfl
  have c1 : (its.toArray.isEmpty || k == 1) = false := by
    rw [hi, Bool.false_or]
    exact beq_eq_false_iff_ne.mpr (by omega)
  have c2 : (decide (k ≤ 0) || its.toArray.isEmpty) = true := by
    rw [decide_eq_true h2]; rfl
  refine wpAny_binaryOp_repeat_ref (T := "tuple") (U := "int") (by decide) ⟨_, ho, rfl⟩ (fun s' => typeIs_int s' k t) noFill_tuple_mul F.fills_int_mul F.slot_int_rmul repeat_tuple F.slot_int_index.lookup
    (call_meets F.slot_int_rmul (typeIs_int s k t) F.entry_int_rmul (F.args_int_rmul_2 _ _) (int_rmul_tuple k t l its.toArray n dd sl)
      ⟨ho, rfl, ⟨_, ho, rfl⟩, call_meets F.slot_tuple_mul ⟨_, ho, rfl⟩ F.entry_tuple_mul (F.args_tuple_mul_2 _ _) (tuple_mulN l its.toArray n dd sl k t c0 c1 c2) ⟨ho, ?_⟩⟩)
  refine ⟨.ref s.heap.objs.size, _, I.laid (t' := s.toks) (o := .tup []) (fun b ob q => Heap.get?_push_of_some _ q) (Nat.le_refl _) ?_, rfl, q _ (I.hok.fresh (Nat.le_refl _))⟩
  exact ⟨by simp, [], .nil, IsTup.new _ _⟩
/-- list * int, of a list that is only read -/
def rRepL (K : PySem.W.Frag) : R2 := fun x y H Q => ∃ l k xs, x = .ref l ∧ y = .int k ∧ SqL K H l xs ∧ -(2 ^ 63) ≤ k ∧ k < 2 ^ 63 ∧ xs.length * k.toNat ≤ sizeLine ∧
  ∀ p, H p = none → Q (.ref p) (upd H p (.lst (List.replicate k.toNat xs).flatten))
theorem int_rmul_list (a : Int) (t : Tok) (l : Addr) (items : Array Value) (n : Nat) (dd : Option Addr) (sl : Array (Option Value)) :
    Meets (Builtin.«int.__rmul__» ⟨[.int a t, .ref l], []⟩) (fun _ R s => s.heap.get? l = some { cls := .type "list", dict := dd, data := .seq items n, slots := sl } ∧ R (.ok (.ret Value.notImplemented)) s) :=
  .of_wp fun prog w A R s h => by obtain ⟨hp, g, d, tk, os⟩ := s; obtain ⟨hl, h⟩ := h; wp_walk using wpAny_loadPart' hl; exact ⟨_, rfl, h⟩
theorem list_mulG (l : Addr) (items : Array Value) (n : Nat) (sl : Array (Option Value)) (x : Int) (u : Tok) (hc0 : ¬(!Builtin.List.listFitsIndex x) = true) (hc1 : ¬items.size * x.toNat > (2 ^ 63 - 1) / 8) (hc2 : ¬Builtin.List.listTooLong (items.size * x.toNat) = true) :
    Meets (Builtin.«list.__mul__» ⟨[.ref l, .int x u], []⟩) (fun _ R s => s.heap.get? l = some { cls := .type "list", dict := none, data := .seq items n, slots := sl } ∧ R (.ok (.ret (Value.ref s.heap.objs.size))) { s with heap := s.heap.push { cls := Value.type "list", data := Data.seq (List.foldl (fun x1 x2 => x1 ++ x2) #[] (List.replicate (if items.isEmpty = true then 0 else x.toNat) items)) }, toks := s.toks }) :=
  .of_wp fun prog w A R s h => by
    obtain ⟨hp, g, d, tk, os⟩ := s; obtain ⟨hl, h⟩ := h
    have hsz := PySem.AutoListH.joined_fits hc2
    wp_walk using PySem.AutoSeq1.wpAny_loadPart' hl
    refine wpAny_ite_false (decide_eq_false (Nat.not_lt.mpr hsz)) ?_
    wp_walk using PySem.AutoSeq1.wpAny_loadPart' hl
    exact ⟨_, rfl, h⟩
theorem op_repL {X : Cx} : OpR X (binaryOp .Mult) (rRepL X.K) := by
  intro pins s σ H x y v u Q I rx ry h
  obtain ⟨l, k, xs, rfl, rfl, hH, h1, h2, hz, q⟩ := h
  cases rx
  obtain ⟨t, rfl⟩ := ry
  obtain ⟨its, r, ⟨⟨c1, d1, data1, sl1⟩, n, e, hc, hd, hdt⟩, hl⟩ := I.list hH
  simp only at hc hdt hd
  subst hc hdt hd
  have hle := r.length
  have hlen : its.toArray.size * k.toNat ≤ sizeLine := by rw [List.size_toArray, ← hle]; exact hz
  have hcap : ¬ its.toArray.size * k.toNat > (2 ^ 63 - 1) / 8 := by
    have : (sizeLine : Nat) ≤ (2 ^ 63 - 1) / 8 := by decide
    omega
  have hfit : ¬ (!Builtin.List.listFitsIndex k) = true := by
    rw [fitsIndex_both h1 h2]
    exact Bool.false_ne_true
  have hlong : ¬ Builtin.List.listTooLong (its.toArray.size * k.toNat) = true := by
    rw [notLongL hlen]
    exact Bool.false_ne_true
  have hnew : List.foldl (fun x1 x2 => x1 ++ x2) #[] (List.replicate (if its.toArray.isEmpty = true then 0 else k.toNat) its.toArray) = (List.replicate k.toNat its).flatten.toArray := by
    have f0 : ∀ m : Nat, List.foldl (fun x1 x2 => x1 ++ x2) #[] (List.replicate m its.toArray) = (List.replicate m its).flatten.toArray := fun m => by
      have := foldl_rep its m []
      rw [List.nil_append] at this
      exact this
    rw [f0]
    cases its with
    | nil => simp
    | cons a r' => rw [if_neg (by simp)]
  refine wpAny_binaryOp_repeat_ref (T := "list") (U := "int") (by decide) ⟨_, e, rfl⟩ (fun s' => typeIs_int s' k t) noFill_list_mul F.fills_int_mul F.slot_int_rmul repeat_list F.slot_int_index.lookup
    (call_meets F.slot_int_rmul (typeIs_int s k t) F.entry_int_rmul (F.args_int_rmul_2 _ _) (int_rmul_list k t l its.toArray n none sl1)
      ⟨e, rfl, ⟨_, e, rfl⟩, call_meets F.slot_list_mul ⟨_, e, rfl⟩ F.entry_list_mul (F.args_list_mul_2 _ _) (list_mulG l its.toArray n sl1 k t hfit hcap hlong) ⟨e, ?_⟩⟩)
  rw [hnew]
  exact ⟨.ref _, _, I.lnew (t' := s.toks) (r.rep k.toNat) (by rw [PyProof.Rows.lm_len_rep_flat, Nat.mul_comm]; exact hz), rfl, q _ I.fresh⟩
/-- str * int -/
def rMulStr : R2 := fun x y H Q => ∃ a k, x = .str a ∧ y = .int k ∧ a.length * k.toNat ≤ 16777216 ∧ k ≤ 16777216 ∧ -1000 ≤ k ∧ Q (.str (Txt.mul a k)) H
theorem op_mulStr {X : Cx} : OpR X (binaryOp .Mult) rMulStr := by
  intro pins s σ H x y v u Q I rx ry h
  obtain ⟨a, k, rfl, rfl, h1, h2, h3, q⟩ := h
  obtain ⟨t, rfl⟩ := rx
  obtain ⟨t', rfl⟩ := ry
  exact SB.mul (mulOk_of a.length k.toNat (Nat.le_refl _) (by omega) (by omega) (by omega) h1) fun t' k' => ⟨.str (Txt.mul a k), H, I.tok _, ⟨_, rfl⟩, q⟩
def mulD : D → D → Rs D
  | .int a, .int b => if big a || big b then .ok (.int (a * b)) else .bad
  | .str a, .int k => if a.length * k.toNat ≤ 16777216 ∧ k ≤ 16777216 ∧ -1000 ≤ k then .ok (.str (Txt.mul a k)) else .bad
  | .tuple a, .int k => if -1000 ≤ k ∧ k ≤ 1000 ∧ a.length ≤ 1000 then .ok (.tuple (List.replicate k.toNat a).flatten) else .bad
  | .list a, .int k => if -1000 ≤ k ∧ k ≤ 100000 ∧ a.length * k.toNat ≤ 16777216 then .ok (.list (List.replicate k.toNat a).flatten) else .bad
  | _, _ => .bad
def rMulA (K : PySem.W.Frag) : R2 := fun x y H Q => (∃ i j, x = .int i ∧ y = .int j ∧ CMul i j ∧ Q (.int (i * j)) H) ∨ rMulStr x y H Q ∨ rRepT K x y H Q ∨ rRepS K x y H Q ∨ rRepN K x y H Q ∨ rRepL K x y H Q
theorem op_mulA {X : Cx} : OpR X (binaryOp .Mult) (rMulA X.K) := op_mul.or (op_mulStr.or (op_repT.or (op_repS.or (op_repN.or op_repL))))
theorem dqAll_rep {K : PySem.W.Frag} {H : Hp} {vs : List V} {ds : List D} (h : DqAll K H vs ds) : ∀ k : Nat, DqAll K H (List.replicate k vs).flatten (List.replicate k ds).flatten
  | 0 => .nil
  | k + 1 => by
    rw [List.replicate_succ, List.replicate_succ, List.flatten_cons, List.flatten_cons]
    exact h.append (dqAll_rep h k)
theorem mulS {X : Cx} : OpS X (rMulA X.K) mulD := by
  intro W σ H Hd x y dx dy s hx hy Q q
  unfold mulD at q
  split at q
  · rename_i a b
    split at q
    · rename_i h
      refine .inl ⟨_, _, hx.int, hy.int, ?_, PoE.at s q (.int _)⟩
      unfold big at h
      simp only [Bool.or_eq_true, Bool.and_eq_true, decide_eq_true_eq] at h
      exact h
    · exact q.elim
  · rename_i a k
    split at q
    · rename_i h
      exact .inr (.inl ⟨a, k, hx.str, hy.int, h.1, h.2.1, h.2.2, PoE.at s q (.str _)⟩)
    · exact q.elim
  · rename_i a k
    split at q
    · rename_i h
      obtain ⟨p, vs, rfl, h1, h2, h3⟩ := hx.tup s
      have hl := h2.length
      by_cases c : vs = [] ∨ k = 1
      · refine .inr (.inr (.inr (.inl ⟨p, k, vs, rfl, hy.int, h1, h.1, h.2.1, c, ?_⟩)))
        have e : (List.replicate k.toNat a).flatten = a := by
          rcases c with c | c
          · subst c; cases h2; simp
          · subst c; simp
        rw [e] at q
        exact PoE.at s q (.tup h3 h2)
      · have c1 : vs ≠ [] := fun z => c (.inl z)
        have c2 : k ≠ 1 := fun z => c (.inr z)
        by_cases c3 : k ≤ 0
        · refine .inr (.inr (.inr (.inr (.inl ⟨p, k, vs, rfl, hy.int, h1, h.1, c3, c1, fun z hz => ?_⟩))))
          have e : (List.replicate k.toNat a).flatten = [] := by
            rw [show k.toNat = 0 by omega]; rfl
          rw [e] at q
          exact PoE.newT s q .nil hz
        · exact .inr (.inr (.inl ⟨p, k, vs, rfl, hy.int, h1, c1, by omega, h.2.1, by rw [hl]; exact h.2.2, fun z hz => PoE.newT s q (dqAll_rep h2 _) hz⟩))
    · exact q.elim
  · rename_i a k
    split at q
    · rename_i h
      obtain ⟨p, vs, rfl, _, h2, h1⟩ := hx.lst s
      exact .inr (.inr (.inr (.inr (.inr ⟨p, k, vs, rfl, hy.int, h1, by omega, by omega, by rw [h2.length, sizeLine_eq]; exact h.2.2, fun z hz => PoE.newL s q (dqAll_rep h2 _) hz⟩))))
    · exact q.elim
  · exact q.elim
def fdivD : D → D → Rs D
  | .int a, .int b => if b ≠ 0 ∧ b.natAbs < 1073741824 then .ok (.int (a.fdiv b)) else .bad
  | _, _ => .bad
theorem fdivS {X : Cx} : OpS X (rI CDivN fun i j => .int (i.fdiv j)) fdivD := by
  intro W σ H Hd x y dx dy s hx hy Q q
  unfold fdivD at q
  split at q
  · split at q
    · rename_i h
      exact ⟨_, _, hx.int, hy.int, h, PoE.at s q (.int _)⟩
    · exact q.elim
  · exact q.elim
def modD : D → D → Rs D
  | .int a, .int b => if b ≠ 0 then .ok (.int (a.fmod b)) else .bad
  | _, _ => .bad
theorem modS {X : Cx} : OpS X (rI (fun _ j => j ≠ 0) fun i j => .int (i.fmod j)) modD := by
  intro W σ H Hd x y dx dy s hx hy Q q
  unfold modD at q
  split at q
  · split at q
    · rename_i h
      exact ⟨_, _, hx.int, hy.int, h, PoE.at s q (.int _)⟩
    · exact q.elim
  · exact q.elim
def powD : D → D → Rs D
  | .int a, .int b => if 0 ≤ b ∧ b ≤ 1000000 ∧ a.natAbs < 2 ^ 64 then .ok (.int (a ^ b.toNat)) else .bad
  | _, _ => .bad
theorem powS {X : Cx} : OpS X (rI CPow fun i j => .int (i ^ j.toNat)) powD := by
  intro W σ H Hd x y dx dy s hx hy Q q
  unfold powD at q
  split at q
  · split at q
    · rename_i h
      exact ⟨_, _, hx.int, hy.int, h, PoE.at s q (.int _)⟩
    · exact q.elim
  · exact q.elim

/-! ### comparisons -/
def eqB : D → D → Option Bool
  | .int a, .int b => some (decide (a = b))
  | .str a, .str b => some (decide (a = b))
  | .bool a, .bool b => some (decide (a = b))
  | .none, .none => some true
  | .none, .int _ => some false
  | .none, .bool _ => some false
  | .none, .str _ => some false
  | .int _, .none => some false
  | .bool _, .none => some false
  | .str _, .none => some false
  | .int _, .str _ => some false
  | .str _, .int _ => some false
  | .bool _, .str _ => some false
  | .str _, .bool _ => some false
  | d, e => if SeqAt.shaped d && SeqAt.shaped e then some (PyData.eqv d e) else none
def eqD (d e : D) : Rs D := match eqB d e with
  | some b => .ok (.bool b)
  | none => .bad
def neD (d e : D) : Rs D := match eqB d e with
  | some b => .ok (.bool !b)
  | none => .bad
def rEqA (K : PySem.W.Frag) : R2 := fun x y H Q => rEq x y H Q ∨ rEqD K x y H Q
def rNeA (K : PySem.W.Frag) : R2 := fun x y H Q => rNe x y H Q ∨ rNeD K x y H Q
theorem op_eqA {X : Cx} (hu : X.A.units + 64 < cLine) : OpR X (compareOp .Eq) (rEqA X.K) := op_eq.or (op_eqD hu)
theorem op_neA {X : Cx} (hu : X.A.units + 64 < cLine) : OpR X (compareOp .NotEq) (rNeA X.K) := op_ne.or (op_neD hu)
theorem eqB_cases {K : PySem.W.Frag} {H Hd : Hp} {x y : V} {d e : D} {b : Bool} (h : eqB d e = some b) (s : Same Hd H) (hx : Dv K H Hd x d) (hy : Dv K H Hd y e) :
    (scal x y = true ∧ b = decide (x = y)) ∨ (Dp K H x d ∧ Dp K H y e ∧ SeqAt.shaped d = true ∧ SeqAt.shaped e = true ∧ b = PyData.eqv d e) := by
  unfold eqB at h
  split at h
  · cases h
    rw [hx.int, hy.int]
    exact .inl ⟨rfl, by simp⟩
  · cases h
    rw [hx.str, hy.str]
    exact .inl ⟨rfl, by simp⟩
  · cases h
    rw [hx.bool, hy.bool]
    exact .inl ⟨rfl, by simp⟩
  · cases h; rw [hx.none, hy.none]; exact .inl ⟨rfl, by simp⟩
  · cases h; rw [hx.none, hy.int]; exact .inl ⟨rfl, by simp⟩
  · cases h; rw [hx.none, hy.bool]; exact .inl ⟨rfl, by simp⟩
  · cases h; rw [hx.none, hy.str]; exact .inl ⟨rfl, by simp⟩
  · cases h; rw [hx.int, hy.none]; exact .inl ⟨rfl, by simp⟩
  · cases h; rw [hx.bool, hy.none]; exact .inl ⟨rfl, by simp⟩
  · cases h; rw [hx.str, hy.none]; exact .inl ⟨rfl, by simp⟩
  · cases h; rw [hx.int, hy.str]; exact .inl ⟨rfl, by simp⟩
  · cases h; rw [hx.str, hy.int]; exact .inl ⟨rfl, by simp⟩
  · cases h; rw [hx.bool, hy.str]; exact .inl ⟨rfl, by simp⟩
  · cases h; rw [hx.str, hy.bool]; exact .inl ⟨rfl, by simp⟩
  · split at h
    · rename_i hs
      cases h
      rw [Bool.and_eq_true] at hs
      exact .inr ⟨(hx.dp s).dp, (hy.dp s).dp, hs.1, hs.2, rfl⟩
    · cases h
theorem eqS {X : Cx} : OpS X (rEqA X.K) eqD := by
  intro W σ H Hd x y dx dy s hx hy Q q
  unfold eqD at q
  cases h : eqB dx dy with
  | none => rw [h] at q; exact q.elim
  | some b =>
    rw [h] at q
    rcases eqB_cases h s hx hy with ⟨h1, rfl⟩ | ⟨h1, h2, h3, h4, rfl⟩
    · exact .inl ⟨h1, PoE.at s q (.bl _)⟩
    · exact .inr ⟨dx, dy, h1, h2, h3, h4, PoE.at s q (.bl _)⟩
theorem neS {X : Cx} : OpS X (rNeA X.K) neD := by
  intro W σ H Hd x y dx dy s hx hy Q q
  unfold neD at q
  cases h : eqB dx dy with
  | none => rw [h] at q; exact q.elim
  | some b =>
    rw [h] at q
    rcases eqB_cases h s hx hy with ⟨h1, rfl⟩ | ⟨h1, h2, h3, h4, rfl⟩
    · exact .inl ⟨h1, PoE.at s q (.bl _)⟩
    · exact .inr ⟨dx, dy, h1, h2, h3, h4, PoE.at s q (.bl _)⟩
def cmpD (p : Int → Int → Bool) : D → D → Rs D
  | .int a, .int b => .ok (.bool (p a b))
  | _, _ => .bad
abbrev ltD := cmpD fun i j => decide (i < j)
abbrev leD := cmpD fun i j => decide (i ≤ j)
abbrev gtD := cmpD fun i j => decide (j < i)
abbrev geD := cmpD fun i j => decide (j ≤ i)
theorem cmpS {X : Cx} {p : Int → Int → Bool} : OpS X (rI0 fun i j => .bl (p i j)) (cmpD p) := by
  intro W σ H Hd x y dx dy s hx hy Q q
  unfold cmpD at q
  split at q
  · exact ⟨_, _, hx.int, hy.int, PoE.at s q (.bl _)⟩
  · exact q.elim
/-- is None; is, of truths -/
def isD : D → D → Rs D
  | .bool a, .bool b => .ok (.bool (decide (a = b)))
  | .none, .none => .ok (.bool true)
  | _, .none => .ok (.bool false)
  | _, _ => .bad
def isntD (d e : D) : Rs D := isD d e >>= fun r => match r with
  | .bool b => .ok (.bool !b)
  | _ => .bad
def rIsA : R2 := fun x y H Q => (y = .non ∧ Q (.bl (decide (x = .non))) H) ∨ rIsB x y H Q
def rIsntA : R2 := fun x y H Q => (y = .non ∧ Q (.bl (!decide (x = .non))) H) ∨ rNotB x y H Q
theorem op_isA {X : Cx} : OpR X (compareOp .Is) rIsA := op_isN.or op_isBl
theorem op_isntA {X : Cx} : OpR X (compareOp .IsNot) rIsntA := op_notN.or op_notBl
def nonD : D → Bool
  | .none => true
  | _ => false
theorem Dv.non_iff {K : PySem.W.Frag} {H Hd : Hp} {x : V} {d : D} (s : Same Hd H) (h : Dv K H Hd x d) : decide (x = .non) = nonD d := by
  cases d with
  | none => rw [h.none]; rfl
  | bool b => rw [h.bool]; rfl
  | int b => rw [h.int]; rfl
  | str b => rw [h.str]; rfl
  | tuple b => obtain ⟨_, _, rfl, _⟩ := h.tup s; rfl
  | list b => obtain ⟨_, _, rfl, _⟩ := h.lst s; rfl
  | dict b => exact h.dict.elim
theorem isS {X : Cx} : OpS X rIsA isD := by
  intro W σ H Hd x y dx dy s hx hy Q q
  unfold isD at q
  split at q
  · exact .inr ⟨_, _, hx.bool, hy.bool, PoE.at s q (.bl _)⟩
  · exact .inl ⟨hy.none, by rw [hx.none]; exact PoE.at s q (.bl _)⟩
  · rename_i hn
    refine .inl ⟨hy.none, ?_⟩
    rw [hx.non_iff s]
    unfold nonD
    split
    · exact absurd rfl hn
    · exact PoE.at s q (.bl _)
  · exact q.elim
theorem isntS {X : Cx} : OpS X rIsntA isntD := by
  intro W σ H Hd x y dx dy s hx hy Q q
  unfold isntD isD at q
  split at q
  · exact .inr ⟨_, _, hx.bool, hy.bool, PoE.at s q (.bl _)⟩
  · exact .inl ⟨hy.none, by rw [hx.none]; exact PoE.at s q (.bl _)⟩
  · rename_i hn
    refine .inl ⟨hy.none, ?_⟩
    rw [hx.non_iff s]
    unfold nonD
    split
    · exact absurd rfl hn
    · exact PoE.at s q (.bl _)
  · exact q.elim

/-! ### in -/
def flatD : D → Bool
  | .none | .bool _ | .int _ | .str _ => true
  | _ => false
def eqF : D → D → Bool
  | .none, .none => true
  | .bool a, .bool b => a == b
  | .bool a, .int b => (if a then 1 else 0) == b
  | .int a, .bool b => a == (if b then 1 else 0)
  | .int a, .int b => a == b
  | .str a, .str b => a == b
  | _, _ => false
def inStr (a b : Str) : Bool := match a.cps.toList with
  | [c] => decide (c ∈ b.cps.toList)
  | _ => !(Builtin.Str.occurrences b a 0 b.length 1).isEmpty
def inB : D → D → Option Bool
  | .str a, .str b => some (inStr a b)
  | d, .tuple ds => if flatD d && ds.all flatD then some (ds.any fun e => eqF e d) else none
  | d, .list ds => if flatD d && ds.all flatD then some (ds.any fun e => eqF e d) else if SeqAt.shaped d && SeqAt.shaped (.list ds) then some (ds.any fun z => PyData.eqv z d) else none
  | _, _ => none
def inD (d e : D) : Rs D := match inB d e with
  | some b => .ok (.bool b)
  | none => .bad
def notInD (d e : D) : Rs D := match inB d e with
  | some b => .ok (.bool !b)
  | none => .bad
theorem flat_of {K : PySem.W.Frag} {H : Hp} {v : V} {d : D} (h : Dq K H v d) (f : flatD d = true) : flatV v = true := by
  cases h <;> first | rfl | cases f
theorem eqF_of {K : PySem.W.Frag} {H H' : Hp} {v w : V} {d e : D} (h : Dq K H v d) (h' : Dq K H' w e) (f : flatD d = true) (f' : flatD e = true) : eqV v w = eqF d e := by
  cases h <;> cases h' <;> first | rfl | cases f | cases f'
theorem flatAll_of {K : PySem.W.Frag} {H : Hp} : ∀ {vs : List V} {ds : List D}, DqAll K H vs ds → ds.all flatD = true → vs.all flatV = true
  | _, _, .nil, _ => rfl
  | _, _, .cons a r, f => by
    rw [List.all_cons, Bool.and_eq_true] at f ⊢
    exact ⟨flat_of a f.1, flatAll_of r f.2⟩
theorem inV_of {K : PySem.W.Frag} {H H' : Hp} {x : V} {d : D} (h : Dq K H' x d) (f : flatD d = true) : ∀ {vs : List V} {ds : List D}, DqAll K H vs ds → ds.all flatD = true → inV x vs = ds.any fun e => eqF e d
  | _, _, .nil, _ => rfl
  | _, _, .cons a r, g => by
    rw [List.all_cons, Bool.and_eq_true] at g
    have := inV_of h f r g.2
    unfold inV at this ⊢
    rw [List.any_cons, List.any_cons, this, eqF_of a h g.1 f]
def rInA (K : PySem.W.Frag) : R2 := fun x y H Q => (∃ (c : Nat) (z : Str), x = .str ⟨#[c]⟩ ∧ y = .str z ∧ Q (.bl (decide (c ∈ z.cps.toList))) H) ∨ (∃ i j, x = .str i ∧ y = .str j ∧ Q (.bl (!(Builtin.Str.occurrences j i 0 j.length 1).isEmpty)) H) ∨ rIn K false x y H Q ∨ rInD K x y H Q
def rNotInA (K : PySem.W.Frag) : R2 := fun x y H Q => (∃ (c : Nat) (z : Str), x = .str ⟨#[c]⟩ ∧ y = .str z ∧ Q (.bl (!decide (c ∈ z.cps.toList))) H) ∨ (∃ i j, x = .str i ∧ y = .str j ∧ Q (.bl (!(!(Builtin.Str.occurrences j i 0 j.length 1).isEmpty))) H) ∨ rIn K true x y H Q ∨ rNotInD K x y H Q
theorem op_inA {X : Cx} (hu : X.A.units + 65 < cLine) : OpR X (compareOp .In) (rInA X.K) := op_in_sign.or (op_in_str.or (op_in_seq.or (op_inD hu)))
theorem op_notInA {X : Cx} (hu : X.A.units + 65 < cLine) : OpR X (compareOp .NotIn) (rNotInA X.K) := op_notIn_sign.or (op_notin_str.or (op_notIn_seq.or (op_notInD hu)))
theorem inS {X : Cx} : OpS X (rInA X.K) inD := by
  intro W σ H Hd x y dx dy s hx hy Q q
  unfold inD at q
  cases h : inB dx dy with
  | none => rw [h] at q; exact q.elim
  | some b =>
    rw [h] at q
    have q' := PoE.at s q (.bl b)
    unfold inB at h
    split at h
    · rename_i a b'
      cases h
      unfold inStr at q'
      split at q'
      · rename_i c hc
        have ha : a = ⟨#[c]⟩ := by
          cases a
          rename_i cps
          congr
          exact Array.ext' (by simpa using hc)
        exact .inl ⟨c, _, by rw [hx.str, ha], hy.str, q'⟩
      · exact .inr (.inl ⟨_, _, hx.str, hy.str, q'⟩)
    · rename_i ds
      split at h
      · rename_i hf
        rw [Bool.and_eq_true] at hf
        cases h
        obtain ⟨p, vs, rfl, h1, h2, h3⟩ := hy.tup s
        refine .inr (.inr (.inl ⟨p, vs, rfl, .inr h1, flat_of (hx.dp s) hf.1, flatAll_of h2 hf.2, ?_⟩))
        rw [inV_of (hx.dp s) hf.1 h2 hf.2]
        exact q'
      · cases h
    · rename_i ds
      obtain ⟨p, vs, rfl, h1, h2, hr⟩ := hy.lst s
      split at h
      · rename_i hf
        rw [Bool.and_eq_true] at hf
        cases h
        refine .inr (.inr (.inl ⟨p, vs, rfl, .inl h1, flat_of (hx.dp s) hf.1, flatAll_of h2 hf.2, ?_⟩))
        rw [inV_of (hx.dp s) hf.1 h2 hf.2]
        exact q'
      · split at h
        · rename_i hs
          rw [Bool.and_eq_true] at hs
          cases h
          exact .inr (.inr (.inr ⟨_, ds, (hx.dp s).dp, (Dq.lst hr (dqAll_mono s h2)).dp, hs.1, hs.2, q'⟩))
        · cases h
    · cases h
theorem notInS {X : Cx} : OpS X (rNotInA X.K) notInD := by
  intro W σ H Hd x y dx dy s hx hy Q q
  unfold notInD at q
  cases h : inB dx dy with
  | none => rw [h] at q; exact q.elim
  | some b =>
    rw [h] at q
    have q' := PoE.at s q (.bl !b)
    unfold inB at h
    split at h
    · rename_i a b'
      cases h
      unfold inStr at q'
      split at q'
      · rename_i c hc
        have ha : a = ⟨#[c]⟩ := by
          cases a
          rename_i cps
          congr
          exact Array.ext' (by simpa using hc)
        exact .inl ⟨c, _, by rw [hx.str, ha], hy.str, q'⟩
      · exact .inr (.inl ⟨_, _, hx.str, hy.str, q'⟩)
    · rename_i ds
      split at h
      · rename_i hf
        rw [Bool.and_eq_true] at hf
        cases h
        obtain ⟨p, vs, rfl, h1, h2, h3⟩ := hy.tup s
        refine .inr (.inr (.inl ⟨p, vs, rfl, .inr h1, flat_of (hx.dp s) hf.1, flatAll_of h2 hf.2, ?_⟩))
        rw [inV_of (hx.dp s) hf.1 h2 hf.2]
        exact q'
      · cases h
    · rename_i ds
      obtain ⟨p, vs, rfl, h1, h2, hr⟩ := hy.lst s
      split at h
      · rename_i hf
        rw [Bool.and_eq_true] at hf
        cases h
        refine .inr (.inr (.inl ⟨p, vs, rfl, .inl h1, flat_of (hx.dp s) hf.1, flatAll_of h2 hf.2, ?_⟩))
        rw [inV_of (hx.dp s) hf.1 h2 hf.2]
        exact q'
      · split at h
        · rename_i hs
          rw [Bool.and_eq_true] at hs
          cases h
          exact .inr (.inr (.inr ⟨_, ds, (hx.dp s).dp, (Dq.lst hr (dqAll_mono s h2)).dp, hs.1, hs.2, q'⟩))
        · cases h
    · cases h

/-! ### x[i] -/
def ixD : D → D → Rs D
  | .list ds, .int i => match atI ds i with | some d => .ok d | none => .bad
  | .tuple ds, .int i => match atI ds i with | some d => .ok d | none => .bad
  | .str a, .int i => if a.length ≤ sizeLine then match atI a.cps.toList i with | some c => .ok (.str ⟨#[c]⟩) | none => .bad else .bad
  | _, _ => .bad
theorem atI_dp {K : PySem.W.Frag} {H : Hp} {vs : List V} {ds : List D} {i : Int} {d : D} (h : DqAll K H vs ds) (e : atI ds i = some d) : ∃ v, atI vs i = some v ∧ Dq K H v d := by
  unfold atI at e ⊢
  rw [h.length]
  cases hx : ixN ds.length i with
  | none => rw [hx] at e; cases e
  | some j =>
    rw [hx] at e
    exact h.get e
theorem ixS {X : Cx} : OpS X (rIx X.K) ixD := by
  intro W σ H Hd x y dx dy s hx hy Q q
  unfold ixD at q
  split at q
  · rename_i ds i
    cases h : atI ds i with
    | none => rw [h] at q; exact q.elim
    | some d =>
      rw [h] at q
      obtain ⟨p, vs, rfl, h1, h2, _⟩ := hx.lst s
      obtain ⟨v, e1, e2⟩ := atI_dp h2 h
      exact .inl ⟨p, vs, i, v, rfl, hy.int, h1, e1, PoE.at s q e2⟩
  · rename_i ds i
    cases h : atI ds i with
    | none => rw [h] at q; exact q.elim
    | some d =>
      rw [h] at q
      obtain ⟨p, vs, rfl, h1, h2, h3⟩ := hx.tup s
      obtain ⟨v, e1, e2⟩ := atI_dp h2 h
      exact .inr (.inl ⟨p, vs, i, v, rfl, hy.int, h1, e1, PoE.at s q e2⟩)
  · rename_i a i
    split at q
    · rename_i hl
      cases h : atI a.cps.toList i with
      | none => rw [h] at q; exact q.elim
      | some d =>
        rw [h] at q
        exact .inr (.inr ⟨a, i, d, hx.str, hy.int, hl, h, PoE.at s q (.str _)⟩)
    · exact q.elim
  · exact q.elim

/-! ### x[a:b] -/
structure SO (X : Cx) (W : WX) (own : List Nat) (e : Option Expr) (f : En → Rs (Option Int)) : Prop where
  ex : ∃ t, PO X e t ∧ ∀ H0 Hd0 ρ σ H Hd, Rel X.K H0 Hd0 own ρ σ H Hd → ∀ Q : Option Int → Hp → Prop, (match f ρ with
    | .ok o => ∀ H' Hd', Step H Hd H' Hd' → Q o H'
    | .ex c fs => ∀ cls a H' Hd', Step H Hd H' Hd' → ExR X.K X.mg H' Hd' c fs cls a → W cls a σ H'
    | .bad => False) → t σ H Q
def oNo : En → Rs (Option Int) := fun _ => .ok none
def oSo (f : En → Rs D) : En → Rs (Option Int) := fun ρ => f ρ >>= fun d => match d with
  | .int i => .ok (some i)
  | _ => .bad
def cutL {α : Type} (xs : List α) (lo hi : Option Int) : List α := (xs.drop (HT.sIx xs.length 0 lo)).take (HT.sIx xs.length xs.length hi - HT.sIx xs.length 0 lo)
def slD : D → Option Int → Option Int → Rs D
  | .list ds, lo, hi => .ok (.list (cutL ds lo hi))
  | .tuple ds, lo, hi => .ok (.tuple (cutL ds lo hi))
  | .str a, lo, hi => if a.length ≤ sizeLine then .ok (.str (cutS a lo hi)) else .bad
  | _, _, _ => .bad
def eSl (f : En → Rs D) (lo hi : En → Rs (Option Int)) : En → Rs D := fun ρ => f ρ >>= fun d => lo ρ >>= fun l => hi ρ >>= fun h => slD d l h
section
variable {X : Cx} {W : WX} {own : List Nat} {e : Expr} {lo hi : Option Expr} {f : En → Rs D} {fl fh : En → Rs (Option Int)} {pos p2 : Pos}
theorem so_none : SO X W own none oNo := ⟨_, po_none, fun H0 Hd0 ρ σ H Hd R Q q => q H Hd (.refl R.st.sub)⟩
theorem so_some (h : SE X W own e f) : SO X W own (some e) (oSo f) := by
  obtain ⟨t, p, r⟩ := h.ex
  refine ⟨_, po_some p, fun H0 Hd0 ρ σ H Hd R Q q => ?_⟩
  refine r _ _ _ _ _ _ R _ ?_
  unfold oSo at q
  cases hf : f ρ with
  | bad => rw [hf] at q; exact q
  | ex c fs => rw [hf] at q; exact q
  | ok d =>
    simp only [hf, ok_bind] at q
    intro v H' Hd' s x
    cases x with
    | int i => exact ⟨i, rfl, q H' Hd' s⟩
    | _ => exact q.elim
def rSlAll (K : PySem.W.Frag) : V → Option Int → Option Int → Hp → VK → Prop := fun x lo hi H Q => rSlL K x lo hi H Q ∨ rSlA K x lo hi H Q ∨ rSlS x lo hi H Q
theorem sl_all : SlR X (rSlAll X.K) := sl_list.or (sl_tupA.or sl_str)
theorem dqAll_cut {K : PySem.W.Frag} {H : Hp} {vs : List V} {ds : List D} (h : DqAll K H vs ds) (lo hi : Option Int) : DqAll K H (cutV vs lo hi) (cutL ds lo hi) := by
  unfold cutV cutL
  rw [h.length]
  exact (h.drop _).take _
theorem cutL_whole {ds : List D} {lo hi : Option Int} (h : HT.sIx ds.length 0 lo = 0 ∧ HT.sIx ds.length ds.length hi = ds.length) : cutL ds lo hi = ds := by
  unfold cutL
  rw [h.1, h.2]
  simp
theorem slS {σ : L2.St} {H Hd : Hp} {x : V} {d : D} {l h : Option Int} {Q : VK} (s : Same Hd H) (hx : Dv X.K H Hd x d) (q : PoE X W σ H Hd (slD d l h) Q) : rSlAll X.K x l h H Q := by
  unfold slD at q
  split at q
  · obtain ⟨p, vs, rfl, h1, h2, _⟩ := hx.lst s
    exact .inl ⟨p, vs, rfl, h1, fun z hz => PoE.newL s q (dqAll_cut h2 _ _) hz⟩
  · obtain ⟨p, vs, rfl, h1, h2, h3⟩ := hx.tup s
    refine .inr (.inl ⟨p, vs, rfl, h1, fun e => ?_, fun _ z hz => PoE.newT s q (dqAll_cut h2 _ _) hz⟩)
    rw [h2.length] at e
    rw [cutL_whole e] at q
    exact PoE.at s q (.tup h3 h2)
  · split at q
    · rename_i hl
      exact .inr (.inr ⟨_, hx.str, hl, PoE.at s q (.str _)⟩)
    · exact q.elim
  · exact q.elim
theorem se_slice (he : SB X W own e f) (hl : SO X W own lo fl) (hh : SO X W own hi fh) : SE X W own (.Subscript e (.Slice lo hi none p2) pos) (eSl f fl fh) := by
  obtain ⟨t, p, r⟩ := he.ex
  obtain ⟨tl, pl, rl⟩ := hl.ex
  obtain ⟨th, ph, rh⟩ := hh.ex
  refine ⟨_, pe_slice sl_all p pl ph, fun H0 Hd0 ρ σ H Hd R Q q => ?_⟩
  refine r _ _ _ _ _ _ R _ ?_
  unfold eSl at q
  cases hf : f ρ with
  | bad => rw [hf] at q; exact q
  | ex c fs => rw [hf] at q; exact q
  | ok d =>
    rw [hf] at q
    intro x H1 Hd1 s1 v1
    refine rl _ _ _ _ _ _ (R.step s1) _ ?_
    have q1 : PoE X W σ H1 Hd1 (fl ρ >>= fun l => fh ρ >>= fun h => slD d l h) Q := PoE.step q s1
    cases hg : fl ρ with
    | bad => rw [hg] at q1; exact q1
    | ex c fs => rw [hg] at q1; exact q1
    | ok l =>
      rw [hg] at q1
      intro H2 Hd2 s2
      refine rh _ _ _ _ _ _ ((R.step s1).step s2) _ ?_
      have q2 : PoE X W σ H2 Hd2 (fh ρ >>= fun h => slD d l h) Q := PoE.step q1 s2
      cases hk : fh ρ with
      | bad => rw [hk] at q2; exact q2
      | ex c fs => rw [hk] at q2; exact q2
      | ok h =>
        rw [hk] at q2
        intro H3 Hd3 s3
        exact slS s3.sub ((v1.step s1.sub s2).step s2.sub s3) (PoE.step q2 s3)
end
end Wm

set_option Elab.async false
set_option linter.all false
set_option maxRecDepth 100000
/-! WmOps2: built-ins, methods, walks, comprehensions, lists that change. -/
namespace Wm
open PySem PySem.Spec PyProof.Rows L2

/-! ### arguments that are only looked at -/
inductive DvAll (K : PySem.W.Frag) (H Hd : Hp) : List V → List D → Prop
  | nil : DvAll K H Hd [] []
  | cons {v : V} {vs : List V} {d : D} {ds : List D} : Dv K H Hd v d → DvAll K H Hd vs ds → DvAll K H Hd (v :: vs) (d :: ds)
section
variable (X : Cx) (W : WX)
def PoAb (σ : L2.St) (H Hd : Hp) (r : Rs (List D)) (Q : List V → Hp → Prop) : Prop := match r with
  | .ok ds => ∀ vs H' Hd', Step H Hd H' Hd' → DvAll X.K H' Hd' vs ds → Q vs H'
  | .ex c fs => ∀ cls a H' Hd', Step H Hd H' Hd' → ExR X.K X.mg H' Hd' c fs cls a → W cls a σ H'
  | .bad => False
end
structure SAb (X : Cx) (W : WX) (own : List Nat) (es : List Expr) (f : En → Rs (List D)) : Prop where
  ex : ∃ t, PA X es t ∧ ∀ H0 Hd0 ρ σ H Hd, Rel X.K H0 Hd0 own ρ σ H Hd → ∀ Q : List V → Hp → Prop, PoAb X W σ H Hd (f ρ) Q → t σ H Q
section
variable {X : Cx} {W : WX} {own : List Nat} {e : Expr} {es : List Expr} {f : En → Rs D} {g : En → Rs (List D)} {pos : Pos}
theorem PoAb.step {σ : L2.St} {H Hd H1 Hd1 : Hp} {r : Rs (List D)} {Q : List V → Hp → Prop} (h : PoAb X W σ H Hd r Q) (t : Step H Hd H1 Hd1) : PoAb X W σ H1 Hd1 r Q := by
  cases r with
  | ok d => exact fun vs H' Hd' s => h vs H' Hd' (t.trans s)
  | ex c fs => exact fun cls a H' Hd' s => h cls a H' Hd' (t.trans s)
  | bad => exact h
theorem sab_nil : SAb X W own [] aNil := ⟨_, pa_nil, fun H0 Hd0 ρ σ H Hd R Q q => q [] H Hd (.refl R.st.sub) .nil⟩
theorem sab_cons (h : SB X W own e f) (h2 : SAb X W own es g) (hs : starEach (e :: es) X.env = (false, eval e X.env) :: starEach es X.env := by rfl) : SAb X W own (e :: es) (aCons f g) := by
  obtain ⟨ta, pa, ra⟩ := h.ex
  obtain ⟨tb, pb, rb⟩ := h2.ex
  refine ⟨_, pa_cons pa pb hs, fun H0 Hd0 ρ σ H Hd R Q q => ?_⟩
  refine ra _ _ _ _ _ _ R _ ?_
  unfold aCons at q
  cases ha : f ρ with
  | bad => rw [ha] at q; exact q
  | ex c fs => rw [ha] at q; exact q
  | ok d =>
    rw [ha] at q
    intro v H1 Hd1 s1 x
    have q1 : PoAb X W σ H1 Hd1 (g ρ >>= fun ds => .ok (d :: ds)) Q := PoAb.step q s1
    refine rb _ _ _ _ _ _ (R.step s1) _ ?_
    cases hb : g ρ with
    | bad => rw [hb] at q1; exact q1
    | ex c fs => rw [hb] at q1; exact q1
    | ok ds =>
      rw [hb] at q1
      intro vs H2 Hd2 s2 xs
      exact q1 (v :: vs) H2 Hd2 s2 (.cons (x.step s1.sub s2) xs)
end
/-- a built-in on values is one on data -/
def CalS (X : Cx) (r : List V → Hp → VK → Prop) (g : List D → Rs D) : Prop := ∀ W σ H Hd vs ds, Same Hd H → DvAll X.K H Hd vs ds → ∀ Q, PoE X W σ H Hd (g ds) Q → r vs H Q
def CalM (X : Cx) (r : List V → Hp → VK → Prop) (g : List D → Rs D) : Prop := ∀ W σ H Hd vs ds, Same Hd H → DvAll X.K H Hd vs ds → ∀ Q, PoM X W σ H Hd (g ds) Q → r vs H Q
def eBlt (g : List D → Rs D) (fa : En → Rs (List D)) : En → Rs D := fun ρ => fa ρ >>= g
section
variable {X : Cx} {W : WX} {own : List Nat} {x : Str} {e : Expr} {es : List Expr} {fa : En → Rs (List D)} {p pos : Pos} {id : String} {r : List V → Hp → VK → Prop} {g : List D → Rs D}
theorem run1 {t : TA} (hr : CalS X r g) (ra : ∀ H0 Hd0 ρ σ H Hd, Rel X.K H0 Hd0 own ρ σ H Hd → ∀ Q : List V → Hp → Prop, PoAb X W σ H Hd (fa ρ) Q → t σ H Q)
    {H0 : Bs} {Hd0 : Hp} {ρ : En} {σ : L2.St} {H Hd : Hp} (R : Rel X.K H0 Hd0 own ρ σ H Hd) {Q : VK} (q : PoE X W σ H Hd (eBlt g fa ρ) Q) : tCB r t σ H Q := by
  refine ra _ _ _ _ _ _ R _ ?_
  unfold eBlt at q
  cases ha : fa ρ with
  | bad => rw [ha] at q; exact q
  | ex c fs => rw [ha] at q; exact q
  | ok ds =>
    rw [ha] at q
    intro vs H1 Hd1 s1 xs
    exact hr W σ H1 Hd1 vs ds s1.sub xs Q (PoE.step q s1)
theorem run1M {t : TA} (hr : CalM X r g) (ra : ∀ H0 Hd0 ρ σ H Hd, Rel X.K H0 Hd0 own ρ σ H Hd → ∀ Q : List V → Hp → Prop, PoAb X W σ H Hd (fa ρ) Q → t σ H Q)
    {H0 : Bs} {Hd0 : Hp} {ρ : En} {σ : L2.St} {H Hd : Hp} (R : Rel X.K H0 Hd0 own ρ σ H Hd) {Q : VK} (q : PoM X W σ H Hd (eBlt g fa ρ) Q) : tCB r t σ H Q := by
  refine ra _ _ _ _ _ _ R _ ?_
  unfold eBlt at q
  cases ha : fa ρ with
  | bad => rw [ha] at q; exact q
  | ex c fs => rw [ha] at q; exact q
  | ok ds =>
    rw [ha] at q
    intro vs H1 Hd1 s1 xs
    exact hr W σ H1 Hd1 vs ds s1.sub xs Q (PoM.step q s1)
theorem se_blt (hc : CallR X (.builtin id) r) (hr : CalS X r g) (hm : X.mg x = none) (ha : SAb X W own (e :: es) fa) (hv : bootBuiltins x = some (.builtin id) := by decide +kernel) (hg : Gl X x := by rfl) (hn : x ≠ "__name__" := by decide) (hdb : (x == ("__debug__" : Str)) = false := by rfl)
    (he : starEach (e :: es) X.env = (false, eval e X.env) :: starEach es X.env := by rfl) (hpl : (backTo pos (starEach es X.env)).any (·.1) = false := by rfl) : SE X W own (.Call (.Name x p) (e :: es) [] pos) (eBlt g fa) := by
  obtain ⟨ta, pa, ra⟩ := ha.ex
  exact ⟨_, pe_callB hc hg hm hv pa hn hdb he hpl, fun H0 Hd0 ρ σ H Hd R Q q => run1 hr ra R q⟩
theorem se_bty (hc : CallR X (.type id) r) (hr : CalS X r g) (hm : X.mg x = none) (ha : SAb X W own (e :: es) fa) (hv : bootBuiltins x = some (.type id) := by decide +kernel) (hg : Gl X x := by rfl) (hn : x ≠ "__name__" := by decide) (hdb : (x == ("__debug__" : Str)) = false := by rfl)
    (he : starEach (e :: es) X.env = (false, eval e X.env) :: starEach es X.env := by rfl) (hpl : (backTo pos (starEach es X.env)).any (·.1) = false := by rfl) : SE X W own (.Call (.Name x p) (e :: es) [] pos) (eBlt g fa) := by
  obtain ⟨ta, pa, ra⟩ := ha.ex
  exact ⟨_, pe_callTy hc hg hm hv pa hn hdb he hpl, fun H0 Hd0 ρ σ H Hd R Q q => run1 hr ra R q⟩
theorem sm_bty (hc : CallR X (.type id) r) (hr : CalM X r g) (hm : X.mg x = none) (ha : SAb X W own (e :: es) fa) (hv : bootBuiltins x = some (.type id) := by decide +kernel) (hg : Gl X x := by rfl) (hn : x ≠ "__name__" := by decide) (hdb : (x == ("__debug__" : Str)) = false := by rfl)
    (he : starEach (e :: es) X.env = (false, eval e X.env) :: starEach es X.env := by rfl) (hpl : (backTo pos (starEach es X.env)).any (·.1) = false := by rfl) : SM X W own (.Call (.Name x p) (e :: es) [] pos) (eBlt g fa) := by
  obtain ⟨ta, pa, ra⟩ := ha.ex
  exact ⟨_, pe_callTy hc hg hm hv pa hn hdb he hpl, fun H0 Hd0 ρ σ H Hd R Q q => run1M hr ra R q⟩
end
section
variable {X : Cx}
theorem DvAll.inv1 {K : PySem.W.Frag} {H Hd : Hp} {vs : List V} {d : D} (h : DvAll K H Hd vs [d]) : ∃ v, vs = [v] ∧ Dv K H Hd v d := by
  cases h with
  | cons a r => cases r; exact ⟨_, rfl, a⟩
theorem DvAll.inv2 {K : PySem.W.Frag} {H Hd : Hp} {vs : List V} {d e : D} (h : DvAll K H Hd vs [d, e]) : ∃ v w, vs = [v, w] ∧ Dv K H Hd v d ∧ Dv K H Hd w e := by
  cases h with
  | cons a r => cases r with
    | cons b r => cases r; exact ⟨_, _, rfl, a, b⟩
def lenD : List D → Rs D
  | [.list ds] => .ok (.int ds.length)
  | [.tuple ds] => .ok (.int ds.length)
  | [.str a] => if a.length ≤ sizeLine then .ok (.int a.length) else .bad
  | _ => .bad
theorem lenS : CalS X (fun xs H Q => ∃ x n, xs = [x] ∧ LenV X.K x H n ∧ Q (.int n) H) lenD := by
  intro W σ H Hd vs ds s h Q q
  unfold lenD at q
  split at q
  · obtain ⟨v, rfl, k⟩ := h.inv1
    obtain ⟨p, vs, rfl, h1, h2, _⟩ := k.lst s
    exact ⟨_, _, rfl, .inl ⟨vs, h1, rfl⟩, by rw [h2.length]; exact PoE.at s q (.int _)⟩
  · obtain ⟨v, rfl, k⟩ := h.inv1
    obtain ⟨p, vs, rfl, h1, h2, _⟩ := k.tup s
    exact ⟨_, _, rfl, .inr ⟨vs, h1, rfl⟩, by rw [h2.length]; exact PoE.at s q (.int _)⟩
  · obtain ⟨v, rfl, k⟩ := h.inv1
    split at q
    · rename_i hl
      rw [k.str]
      exact ⟨_, _, rfl, (show LenV X.K (.str _) H _ from ⟨hl, rfl⟩), PoE.at s q (.int _)⟩
    · exact q.elim
  · exact q.elim
def intD : List D → Rs D
  | [.int i] => .ok (.int i)
  | [.bool b] => .ok (.int (if b then 1 else 0))
  | [.str a] => if a.length ≤ 640 then match PySem.intText? a with | some n => .ok (.int n) | none => .bad else .bad
  | _ => .bad
def rIntA : List V → Hp → VK → Prop := fun xs H Q => ((∃ i, xs = [.int i] ∧ Q (.int i) H) ∨ ∃ k, xs = [.bl k] ∧ Q (.int (if k then 1 else 0)) H) ∨ ∃ a n, xs = [.str a] ∧ PySem.intText? a = some n ∧ a.length ≤ 640 ∧ Q (.int n) H
theorem call_intA : CallR X (.type "int") rIntA := call_int1.or call_int_str
theorem intS : CalS X rIntA intD := by
  intro W σ H Hd vs ds s h Q q
  unfold intD at q
  split at q
  · obtain ⟨v, rfl, k⟩ := h.inv1
    exact .inl (.inl ⟨_, by rw [k.int], PoE.at s q (.int _)⟩)
  · obtain ⟨v, rfl, k⟩ := h.inv1
    exact .inl (.inr ⟨_, by rw [k.bool], PoE.at s q (.int _)⟩)
  · obtain ⟨v, rfl, k⟩ := h.inv1
    split at q
    · split at q
      · exact .inr ⟨_, _, by rw [k.str], by assumption, by assumption, PoE.at s q (.int _)⟩
      · exact q.elim
    · exact q.elim
  · exact q.elim
def strD : List D → Rs D
  | [.int i] => if i.natAbs.log2 < 1920 then .ok (.str (toString i)) else .bad
  | [.str a] => .ok (.str a)
  | _ => .bad
def rStrA : List V → Hp → VK → Prop := fun xs H Q => (∃ i, xs = [.int i] ∧ i.natAbs.log2 < 1920 ∧ Q (.str (toString i)) H) ∨ ∃ a, xs = [.str a] ∧ Q (.str a) H
theorem call_strA : CallR X (.type "str") rStrA := call_str_int.or SkE.call_str_str
theorem strS : CalS X rStrA strD := by
  intro W σ H Hd vs ds s h Q q
  unfold strD at q
  split at q
  · obtain ⟨v, rfl, k⟩ := h.inv1
    split at q
    · exact .inl ⟨_, by rw [k.int], by assumption, PoE.at s q (.str _)⟩
    · exact q.elim
  · obtain ⟨v, rfl, k⟩ := h.inv1
    exact .inr ⟨_, by rw [k.str], PoE.at s q (.str _)⟩
  · exact q.elim
def ordD : List D → Rs D
  | [.str a] => if a.length = 1 then .ok (.int (a.cps.getD 0 0 : Nat)) else .bad
  | _ => .bad
theorem ordS : CalS X (fun xs H Q => ∃ x, xs = [.str x] ∧ x.length = 1 ∧ Q (.int (x.cps.getD 0 0 : Nat)) H) ordD := by
  intro W σ H Hd vs ds s h Q q
  unfold ordD at q
  split at q
  · obtain ⟨v, rfl, k⟩ := h.inv1
    split at q
    · exact ⟨_, by rw [k.str], by assumption, PoE.at s q (.int _)⟩
    · exact q.elim
  · exact q.elim
def maxD : List D → Rs D
  | [.int i, .int j] => .ok (.int (if j > i then j else i))
  | _ => .bad
def minD : List D → Rs D
  | [.int i, .int j] => .ok (.int (if j < i then j else i))
  | _ => .bad
theorem maxS : CalS X (fun xs H Q => ∃ i j, xs = [.int i, .int j] ∧ Q (.int (if j > i then j else i)) H) maxD := by
  intro W σ H Hd vs ds s h Q q
  unfold maxD at q
  split at q
  · obtain ⟨v, w, rfl, k, k'⟩ := h.inv2
    exact ⟨_, _, by rw [k.int, k'.int], PoE.at s q (.int _)⟩
  · exact q.elim
theorem minS : CalS X (fun xs H Q => ∃ i j, xs = [.int i, .int j] ∧ Q (.int (if j < i then j else i)) H) minD := by
  intro W σ H Hd vs ds s h Q q
  unfold minD at q
  split at q
  · obtain ⟨v, w, rfl, k, k'⟩ := h.inv2
    exact ⟨_, _, by rw [k.int, k'.int], PoE.at s q (.int _)⟩
  · exact q.elim
def tupD : List D → Rs D
  | [.list ds] => .ok (.tuple ds)
  | [.tuple ds] => .ok (.tuple ds)
  | _ => .bad
theorem tupS : CalS X (fun xs H Q => ∃ p ys, xs = [.ref p] ∧ ((SqL X.K H p ys ∧ ∀ l, H l = none → Q (.ref l) (upd H l (.tup ys))) ∨ (SqT X.K H p ys ∧ Q (.ref p) H))) tupD := by
  intro W σ H Hd vs ds s h Q q
  unfold tupD at q
  split at q
  · obtain ⟨v, rfl, k⟩ := h.inv1
    obtain ⟨p, vs, rfl, h1, h2, _⟩ := k.lst s
    exact ⟨p, vs, rfl, .inl ⟨h1, fun l hl => PoE.newT s q h2 hl⟩⟩
  · obtain ⟨v, rfl, k⟩ := h.inv1
    obtain ⟨p, vs, rfl, h1, h2, h3⟩ := k.tup s
    exact ⟨p, vs, rfl, .inr ⟨h1, PoE.at s q (.tup h3 h2)⟩⟩
  · exact q.elim
def listD : List D → Rs D
  | [.list ds] => .ok (.list ds)
  | [.tuple ds] => .ok (.list ds)
  | _ => .bad
theorem listS : CalM X (fun xs H Q => ∃ p ys, xs = [.ref p] ∧ (SqL X.K H p ys ∨ SqT X.K H p ys) ∧ ∀ l, H l = none → Q (.ref l) (upd H l (.lst ys))) listD := by
  intro W σ H Hd vs ds s h Q q
  unfold listD at q
  split at q
  · obtain ⟨v, rfl, k⟩ := h.inv1
    obtain ⟨p, vs, rfl, h1, h2, _⟩ := k.lst s
    exact ⟨p, vs, rfl, .inl h1, fun l hl => PoM.newL s q h2 hl⟩
  · obtain ⟨v, rfl, k⟩ := h.inv1
    obtain ⟨p, vs, rfl, h1, h2, h3⟩ := k.tup s
    exact ⟨p, vs, rfl, .inr h1, fun l hl => PoM.newL s q h2 hl⟩
  · exact q.elim
def divmodD : List D → Rs D
  | [.int i, .int j] => if 0 < j ∧ j < 1073741824 then .ok (.tuple [.int (i / j), .int (i % j)]) else .bad
  | _ => .bad
theorem divmodS : CalS X (fun xs H Q => ∃ i j, xs = [.int i, .int j] ∧ CDiv i j ∧ ∀ p, H p = none → Q (.ref p) (upd H p (.tup [.int (i / j), .int (i % j)]))) divmodD := by
  intro W σ H Hd vs ds s h Q q
  unfold divmodD at q
  split at q
  · obtain ⟨v, w, rfl, k, k'⟩ := h.inv2
    split at q
    · exact ⟨_, _, by rw [k.int, k'.int], by assumption, fun p hp => PoE.newT s q (.cons (.int _) (.cons (.int _) .nil)) hp⟩
    · exact q.elim
  · exact q.elim
/-- a list of truths -/
def boolsOf : List D → Option (List Bool)
  | [] => some []
  | .bool b :: ds => (boolsOf ds).map (b :: ·)
  | _ => none
theorem boolsOf_ok {K : PySem.W.Frag} {H : Hp} : ∀ {ds : List D} {vs : List V} {bs : List Bool}, boolsOf ds = some bs → DqAll K H vs ds → vs = bs.map V.bl
  | [], _, bs, e, .nil => by cases e; rfl
  | .bool b :: ds, _, bs, e, .cons a r => by
    unfold boolsOf at e
    cases h : boolsOf ds with
    | none => rw [h] at e; cases e
    | some cs =>
      rw [h] at e
      cases e
      cases a
      rw [boolsOf_ok h r]
      rfl
def allD : List D → Rs D
  | [.list ds] => match boolsOf ds with | some bs => .ok (.bool (bs.all id)) | none => .bad
  | _ => .bad
def anyD : List D → Rs D
  | [.list ds] => match boolsOf ds with | some bs => .ok (.bool (bs.any id)) | none => .bad
  | _ => .bad
theorem allS : CalS X (rAll X.K) allD := by
  intro W σ H Hd vs ds s h Q q
  unfold allD at q
  split at q
  · obtain ⟨v, rfl, k⟩ := h.inv1
    obtain ⟨p, vs, rfl, h1, h2, _⟩ := k.lst s
    split at q
    · rename_i bs hb
      exact ⟨p, bs, rfl, by rw [← boolsOf_ok hb h2]; exact h1, PoE.at s q (.bl _)⟩
    · exact q.elim
  · exact q.elim
theorem anyS : CalS X (rAny X.K) anyD := by
  intro W σ H Hd vs ds s h Q q
  unfold anyD at q
  split at q
  · obtain ⟨v, rfl, k⟩ := h.inv1
    obtain ⟨p, vs, rfl, h1, h2, _⟩ := k.lst s
    split at q
    · rename_i bs hb
      exact ⟨p, bs, rfl, by rw [← boolsOf_ok hb h2]; exact h1, PoE.at s q (.bl _)⟩
    · exact q.elim
  · exact q.elim
/-! ### isinstance(x, T), T a built-in class -/
def tyD : D → String
  | .none => "NoneType"
  | .bool _ => "bool"
  | .int _ => "int"
  | .str _ => "str"
  | .list _ => "list"
  | .tuple _ => "tuple"
  | .dict _ => "dict"
def isiD (T : String) (d : D) : Rs D := match kitB (tyD d) T with
  | some b => .ok (.bool b)
  | none => .bad
def eIsi (T : String) (f : En → Rs D) : En → Rs D := fun ρ => f ρ >>= isiD T
theorem tyx_of {K : PySem.W.Frag} {H : Hp} {v : V} {d : D} (h : Dq K H v d) : TyX K H v (.type (tyD d)) := by
  cases h with
  | non => exact .base .non
  | bl b => exact .base (.bl b)
  | int i => exact .base (.int i)
  | str x => exact .base (.str x)
  | lst h r =>
    rcases h with (h | ⟨o, h⟩) | ⟨o, its, n, h, hc, _⟩
    · exact .base (.lst h)
    · exact .base (.frz h)
    · exact .kList h hc
  | tup h r =>
    rcases h with (h | ⟨o, h⟩) | ⟨o, its, n, h, hc, _⟩
    · exact .base (.tup h)
    · exact .fTuple h
    · exact .kTuple h hc
theorem se_isi {W : WX} {own : List Nat} {e : Expr} {f : En → Rs D} {T : Str} {n : String} {p p2 pos : Pos} (h : SB X W own e f) (hm : X.mg "isinstance" = none) (hT : X.mg T = none) (hv : bootBuiltins T = some (.type n) := by decide +kernel)
    (hi : Gl X "isinstance" := by rfl) (hg : Gl X T := by rfl) (hn : T ≠ "__name__" := by decide) (hdb : (T == ("__debug__" : Str)) = false := by rfl)
    (he : starEach [e, .Name T p2] X.env = (false, eval e X.env) :: starEach [.Name T p2] X.env := by rfl) (he2 : starEach [.Name T p2] X.env = (false, eval (.Name T p2) X.env) :: starEach [] X.env := by rfl) (hpl : (backTo pos (starEach [.Name T p2] X.env)).any (·.1) = false := by rfl) :
    SE X W own (.Call (.Name "isinstance" p) [e, .Name T p2] [] pos) (eIsi n f) := by
  obtain ⟨t, pp, r⟩ := h.ex
  refine ⟨_, pe_callB call_isi hi hm (by decide +kernel) (pa_cons pp (pa_cons (pe_bltn (v := .ty n) hg hT hv rfl hn hdb) pa_nil he2) he) (by decide) (by rfl) he hpl, fun H0 Hd0 ρ σ H Hd R Q q => ?_⟩
  refine r _ _ _ _ _ _ R _ ?_
  unfold eIsi at q
  cases hf : f ρ with
  | bad => rw [hf] at q; exact q
  | ex c fs => rw [hf] at q; exact q
  | ok d =>
    rw [hf] at q
    intro v H1 Hd1 s1 x
    have q1 : PoE X W σ H1 Hd1 (isiD n d) Q := PoE.step q s1
    unfold isiD at q1
    cases hk : kitB (tyD d) n with
    | none => rw [hk] at q1; exact q1.elim
    | some b =>
      rw [hk] at q1
      exact ⟨v, .ty n, _, _, b, rfl, .ty n, tyx_of (x.dp s1.sub), kit_ty hk, PoE.at s1.sub q1 (.bl _)⟩
end
end Wm

set_option Elab.async false
set_option linter.all false
set_option maxRecDepth 100000
/-! WmOps3: methods of texts, walks, comprehensions, lists that change. -/
namespace Wm
open PySem PySem.Spec PyProof.Rows L2

/-! ### methods of texts -/
def onS (g : Str → Rs D) : D → Rs D
  | .str a => g a
  | _ => .bad
def eM0 (g : Str → Rs D) (fo : En → Rs D) : En → Rs D := fun ρ => fo ρ >>= onS g
def eM1 (g : Str → D → Rs D) (fo fa : En → Rs D) : En → Rs D := fun ρ => fo ρ >>= onS fun a => fa ρ >>= g a
section
variable {X : Cx} {W : WX} {own : List Nat} {o e : Expr} {fo fa : En → Rs D} {name : Str} {id : String} {apos pos : Pos} {r : V → List V → Hp → VK → Prop}
theorem se_m0 {g : Str → Rs D} (slot : Slot "str" name id) (ty : typeOf (.builtin id) = pure (.type "method_descriptor")) (rule : MtR X id r) (hr : ∀ W σ H Hd Q a, Same Hd H → PoE X W σ H Hd (g a) Q → r (.str a) [] H Q) (ho : SB X W own o fo)
    (hbase : attributeBase o name X.env (eval o X.env) = eval o X.env := by rfl) (hline : (apos.endLine == pos.line) = true := by rfl) : SE X W own (.Call (.Attribute o name apos) [] [] pos) (eM0 g fo) := by
  obtain ⟨t, p, rr⟩ := ho.ex
  refine ⟨_, pe_m0 slot ty rule p hbase hline, fun H0 Hd0 ρ σ H Hd R Q q => ?_⟩
  refine rr _ _ _ _ _ _ R _ ?_
  unfold eM0 at q
  cases hf : fo ρ with
  | bad => rw [hf] at q; exact q
  | ex c fs => rw [hf] at q; exact q
  | ok d =>
    rw [hf] at q
    intro v H1 Hd1 s1 x
    have q1 : PoE X W σ H1 Hd1 (onS g d) Q := PoE.step q s1
    unfold onS at q1
    split at q1
    · rw [x.str]
      exact ⟨⟨_, rfl⟩, hr W σ H1 Hd1 Q _ s1.sub q1⟩
    · exact q1.elim
theorem se_m1 {g : Str → D → Rs D} (slot : Slot "str" name id) (ty : typeOf (.builtin id) = pure (.type "method_descriptor")) (rule : MtR X id r) (hr : ∀ W σ H Hd Q a y d, Same Hd H → Dv X.K H Hd y d → PoE X W σ H Hd (g a d) Q → r (.str a) [y] H Q) (ho : SB X W own o fo) (ha : SB X W own e fa)
    (hs : starEach [e] X.env = [(false, eval e X.env)] := by rfl) (hbase : attributeBase o name X.env (eval o X.env) = eval o X.env := by rfl) (hline : (apos.endLine == pos.line) = true := by rfl) : SE X W own (.Call (.Attribute o name apos) [e] [] pos) (eM1 g fo fa) := by
  obtain ⟨t, p, rr⟩ := ho.ex
  obtain ⟨t2, p2, rr2⟩ := ha.ex
  refine ⟨_, pe_m1 slot ty rule p p2 hs hbase hline, fun H0 Hd0 ρ σ H Hd R Q q => ?_⟩
  refine rr _ _ _ _ _ _ R _ ?_
  unfold eM1 at q
  cases hf : fo ρ with
  | bad => rw [hf] at q; exact q
  | ex c fs => rw [hf] at q; exact q
  | ok d =>
    rw [hf] at q
    intro v H1 Hd1 s1 x
    have q1 : PoE X W σ H1 Hd1 (onS (fun a => fa ρ >>= g a) d) Q := PoE.step q s1
    unfold onS at q1
    split at q1
    rotate_left
    · exact q1.elim
    rename_i a
    rw [x.str]
    refine ⟨⟨_, rfl⟩, rr2 _ _ _ _ _ _ (R.step s1) _ ?_⟩
    cases hg : fa ρ with
    | bad => rw [hg] at q1; exact q1
    | ex c fs => rw [hg] at q1; exact q1
    | ok y =>
      rw [hg] at q1
      intro u H2 Hd2 s2 z
      exact hr W σ H2 Hd2 Q a u y s2.sub z (PoE.step (r := g a y) q1 s2)
end

section
variable {X : Cx} {W : WX} {own : List Nat} {o e : Expr} {fo fa : En → Rs D} {apos pos : Pos}
def lowerD (a : Str) : Rs D := if a.length ≤ 5592405 then .ok (.str (Txt.lower a)) else .bad
def upperD (a : Str) : Rs D := if a.length ≤ 5592405 then .ok (.str (Txt.upper a)) else .bad
theorem se_lower (ho : SB X W own o fo) (hbase : attributeBase o "lower" X.env (eval o X.env) = eval o X.env := by rfl) (hline : (apos.endLine == pos.line) = true := by rfl) : SE X W own (.Call (.Attribute o "lower" apos) [] [] pos) (eM0 lowerD fo) :=
  se_m0 PySem.F.slot_str_lower PySem.F.type_str_lower mt_lower (fun W σ H Hd Q a s q => by
    unfold lowerD at q
    split at q
    · exact ⟨a, rfl, rfl, by assumption, PoE.at s q (.str _)⟩
    · exact q.elim) ho hbase hline
theorem se_upper (ho : SB X W own o fo) (hbase : attributeBase o "upper" X.env (eval o X.env) = eval o X.env := by rfl) (hline : (apos.endLine == pos.line) = true := by rfl) : SE X W own (.Call (.Attribute o "upper" apos) [] [] pos) (eM0 upperD fo) :=
  se_m0 PySem.F.slot_str_upper PySem.F.type_str_upper mt_upper (fun W σ H Hd Q a s q => by
    unfold upperD at q
    split at q
    · exact ⟨a, rfl, rfl, by assumption, PoE.at s q (.str _)⟩
    · exact q.elim) ho hbase hline
def isalnumD (a : Str) : Rs D := .ok (.bool (Txt.isalnum a))
def isdigitD (a : Str) : Rs D := .ok (.bool (Txt.isdigit a))
theorem se_isalnum (ho : SB X W own o fo) (hbase : attributeBase o "isalnum" X.env (eval o X.env) = eval o X.env := by rfl) (hline : (apos.endLine == pos.line) = true := by rfl) : SE X W own (.Call (.Attribute o "isalnum" apos) [] [] pos) (eM0 isalnumD fo) :=
  se_m0 PySem.F.slot_str_isalnum PySem.F.type_str_isalnum mt_isalnum (fun W σ H Hd Q a s q => ⟨a, rfl, rfl, trivial, PoE.at s q (.bl _)⟩) ho hbase hline
theorem se_isdigit (ho : SB X W own o fo) (hbase : attributeBase o "isdigit" X.env (eval o X.env) = eval o X.env := by rfl) (hline : (apos.endLine == pos.line) = true := by rfl) : SE X W own (.Call (.Attribute o "isdigit" apos) [] [] pos) (eM0 isdigitD fo) :=
  se_m0 PySem.F.slot_str_isdigit PySem.F.type_str_isdigit mt_isdigit (fun W σ H Hd Q a s q => ⟨a, rfl, rfl, trivial, PoE.at s q (.bl _)⟩) ho hbase hline
def startD (a : Str) : D → Rs D
  | .str b => .ok (.bool (Txt.startswith a b))
  | _ => .bad
def endD (a : Str) : D → Rs D
  | .str b => .ok (.bool (Txt.endswith a b))
  | _ => .bad
def findD (a : Str) : D → Rs D
  | .str b => .ok (.int (Txt.find a b))
  | _ => .bad
def sindexD (a : Str) : D → Rs D
  | .str b => match Builtin.Str.occurrences a b 0 a.length 1 with
    | i :: _ => .ok (.int (i : Nat))
    | [] => .bad
  | _ => .bad
theorem se_startswith (ho : SB X W own o fo) (ha : SB X W own e fa) (hs : starEach [e] X.env = [(false, eval e X.env)] := by rfl) (hbase : attributeBase o "startswith" X.env (eval o X.env) = eval o X.env := by rfl) (hline : (apos.endLine == pos.line) = true := by rfl) :
    SE X W own (.Call (.Attribute o "startswith" apos) [e] [] pos) (eM1 startD fo fa) :=
  se_m1 PySem.F.slot_str_startswith PySem.F.type_str_startswith mt_startswith (fun W σ H Hd Q a y d s h q => by
    unfold startD at q
    split at q
    · exact ⟨a, _, rfl, by rw [h.str], PoE.at s q (.bl _)⟩
    · exact q.elim) ho ha hs hbase hline
theorem se_endswith (ho : SB X W own o fo) (ha : SB X W own e fa) (hs : starEach [e] X.env = [(false, eval e X.env)] := by rfl) (hbase : attributeBase o "endswith" X.env (eval o X.env) = eval o X.env := by rfl) (hline : (apos.endLine == pos.line) = true := by rfl) :
    SE X W own (.Call (.Attribute o "endswith" apos) [e] [] pos) (eM1 endD fo fa) :=
  se_m1 PySem.F.slot_str_endswith PySem.F.type_str_endswith mt_endswith (fun W σ H Hd Q a y d s h q => by
    unfold endD at q
    split at q
    · exact ⟨a, _, rfl, by rw [h.str], PoE.at s q (.bl _)⟩
    · exact q.elim) ho ha hs hbase hline
theorem se_find (ho : SB X W own o fo) (ha : SB X W own e fa) (hs : starEach [e] X.env = [(false, eval e X.env)] := by rfl) (hbase : attributeBase o "find" X.env (eval o X.env) = eval o X.env := by rfl) (hline : (apos.endLine == pos.line) = true := by rfl) :
    SE X W own (.Call (.Attribute o "find" apos) [e] [] pos) (eM1 findD fo fa) :=
  se_m1 PySem.F.slot_str_find PySem.F.type_str_find mt_find (fun W σ H Hd Q a y d s h q => by
    unfold findD at q
    split at q
    · exact ⟨a, _, rfl, by rw [h.str], PoE.at s q (.int _)⟩
    · exact q.elim) ho ha hs hbase hline
theorem se_sindex (ho : SB X W own o fo) (ha : SB X W own e fa) (hs : starEach [e] X.env = [(false, eval e X.env)] := by rfl) (hbase : attributeBase o "index" X.env (eval o X.env) = eval o X.env := by rfl) (hline : (apos.endLine == pos.line) = true := by rfl) :
    SE X W own (.Call (.Attribute o "index" apos) [e] [] pos) (eM1 sindexD fo fa) :=
  se_m1 PySem.F.slot_str_index PySem.F.type_str_index mt_sindex (fun W σ H Hd Q a y d s h q => by
    unfold sindexD at q
    split at q
    · split at q
      · exact ⟨a, _, _, _, rfl, by rw [h.str], by assumption, PoE.at s q (.int _)⟩
      · exact q.elim
    · exact q.elim) ho ha hs hbase hline
/-- a list of texts -/
def strsOf : List D → Option (List Str)
  | [] => some []
  | .str b :: ds => (strsOf ds).map (b :: ·)
  | _ => none
theorem strsOf_ok {K : PySem.W.Frag} {H : Hp} : ∀ {ds : List D} {vs : List V} {bs : List Str}, strsOf ds = some bs → DqAll K H vs ds → vs = bs.map V.str
  | [], _, bs, e, .nil => by cases e; rfl
  | .str b :: ds, _, bs, e, .cons a r => by
    unfold strsOf at e
    cases h : strsOf ds with
    | none => rw [h] at e; cases e
    | some cs =>
      rw [h] at e
      cases e
      cases a
      rw [strsOf_ok h r]
      rfl
def joinS (a : Str) (ds : List D) : Rs D := match strsOf ds with
  | some ys => if (ys.map (·.length)).sum + ys.length * a.length ≤ 16777216 then .ok (.str (Txt.join a ys)) else .bad
  | none => .bad
def joinD (a : Str) : D → Rs D
  | .list ds => joinS a ds
  | .tuple ds => joinS a ds
  | _ => .bad
theorem se_join (ho : SB X W own o fo) (ha : SB X W own e fa) (hs : starEach [e] X.env = [(false, eval e X.env)] := by rfl) (hbase : attributeBase o "join" X.env (eval o X.env) = eval o X.env := by rfl) (hline : (apos.endLine == pos.line) = true := by rfl) :
    SE X W own (.Call (.Attribute o "join" apos) [e] [] pos) (eM1 joinD fo fa) :=
  se_m1 PySem.F.slot_str_join PySem.F.type_str_join mt_join (fun W σ H Hd Q a y d s h q => by
    unfold joinD at q
    split at q
    · unfold joinS at q
      split at q
      · rename_i ys hy
        split at q
        · obtain ⟨p, vs, rfl, h1, h2, _⟩ := h.lst s
          exact ⟨a, p, ys, rfl, rfl, .inl (by rw [← strsOf_ok hy h2]; exact h1), by assumption, PoE.at s q (.str _)⟩
        · exact q.elim
      · exact q.elim
    · unfold joinS at q
      split at q
      · rename_i ys hy
        split at q
        · obtain ⟨p, vs, rfl, h1, h2, _⟩ := h.tup s
          exact ⟨a, p, ys, rfl, rfl, .inr (by rw [← strsOf_ok hy h2]; exact h1), by assumption, PoE.at s q (.str _)⟩
        · exact q.elim
      · exact q.elim
    · exact q.elim) ho ha hs hbase hline
end

/-! ### walks -/
section
variable {X : Cx} {W : WX} {own : List Nat} {tg e e2 : Expr} {f f2 : En → Rs D} {p pos : Pos}
/-- the items of a walk whose items stand where they are -/
theorem walks_of {K : PySem.W.Frag} {J : It} {n : Nat} {G : Hp → Prop} {Y : Nat → Hp → V → Hp → Prop} (w : Walk J n G Y) (hstop : ∀ i H, n ≤ i → G H → J.stop i H) {ds : List D} {Hd1 : Hp} (hn : ds.length = n) (hG : ∀ H Hd, Same Hd1 Hd → Same Hd H → G H)
    (hY : ∀ H Hd, Same Hd1 Hd → Same Hd H → ∀ i d, ds[i]? = some d → ∀ x H', Y i H x H' → ∃ Hd', Step H Hd H' Hd' ∧ Dq K Hd' x d) : Walks K J ds Hd1 := fun H Hd u s i =>
  ⟨fun d hd => by
    have hi : i < n := by rw [← hn]; exact (List.getElem?_eq_some_iff.mp hd).1
    exact ⟨w.goes i H hi (hG H Hd u s), fun x H' y => hY H Hd u s i d hd x H' (w.yields i H x H' hi (hG H Hd u s) y)⟩, fun h => hstop i H (by rw [← hn]; exact h) (hG H Hd u s)⟩
theorem DqAll.get' {K : PySem.W.Frag} {H : Hp} {vs : List V} {ds : List D} (h : DqAll K H vs ds) {i : Nat} {d : D} {v : V} (e : ds[i]? = some d) (e' : vs[i]? = some v) : Dq K H v d := by
  obtain ⟨w, h1, h2⟩ := h.get e
  rw [h1] at e'
  cases e'
  exact h2
theorem walks_list {K : PySem.W.Frag} {a : Addr} {vs : List V} {ds : List D} {Hd1 : Hp} (h : SqL K Hd1 a vs) (r : DqAll K Hd1 vs ds) : Walks K (Itl K a) ds Hd1 :=
  walks_of walk_list (fun i H hi q => ⟨vs, q, hi⟩) r.length.symm (fun H Hd u s => Same.seq s (Same.seq u h)) fun H Hd u s i d hd x H' y => by
    obtain ⟨rfl, y⟩ := y
    exact ⟨Hd, .refl s, dq_mono u (r.get' hd y)⟩
theorem walks_tup {K : PySem.W.Frag} {a : Addr} {vs : List V} {ds : List D} {Hd1 : Hp} (h : SqT K Hd1 a vs) (r : DqAll K Hd1 vs ds) : Walks K (Itt K a) ds Hd1 :=
  walks_of walk_tup (fun i H hi q => ⟨vs, q, hi⟩) r.length.symm (fun H Hd u s => sqt_same s (sqt_same u h)) fun H Hd u s i d hd x H' y => by
    obtain ⟨rfl, y⟩ := y
    exact ⟨Hd, .refl s, dq_mono u (r.get' hd y)⟩
def signsD (a : Str) : List D := a.cps.toList.map fun c => .str ⟨#[c]⟩
theorem walks_str {K : PySem.W.Frag} {a : Str} {Hd1 : Hp} : Walks K (Its a) (signsD a) Hd1 :=
  walks_of (Y := fun i H v H' => H' = H ∧ ∃ c, a.cps[i]? = some c ∧ v = .str ⟨#[c]⟩) walk_str (fun i H hi q => hi) (by simp [signsD]) (fun _ _ _ _ => trivial) fun H Hd u s i d hd x H' y => by
    obtain ⟨rfl, c, hc, rfl⟩ := y
    unfold signsD at hd
    rw [List.getElem?_map, Array.getElem?_toList, hc] at hd
    cases hd
    exact ⟨Hd, .refl s, .str _⟩
def rangeD (lo : Int) (n : Nat) : List D := (List.range n).map fun i => .int (lo + (i : Nat))
theorem walks_range {K : PySem.W.Frag} {lo : Int} {n : Nat} {Hd1 : Hp} : Walks K (Itr lo n) (rangeD lo n) Hd1 :=
  walks_of walk_range (fun i H hi q => hi) (by simp [rangeD]) (fun _ _ _ _ => trivial) fun H Hd u s i d hd x H' y => by
    obtain ⟨rfl, rfl⟩ := y
    unfold rangeD at hd
    rw [List.getElem?_map] at hd
    have hi : i < n := by
      rcases Nat.lt_or_ge i n with h | h
      · exact h
      · rw [List.getElem?_eq_none (by simpa using h)] at hd; cases hd
    rw [List.getElem?_range hi] at hd
    cases hd
    exact ⟨Hd, .refl s, .int _⟩
/-- over a list | a tuple | a text -/
def iSeqL : D → Rs (List D) := fun d => match d with | .list ds => .ok ds | _ => .bad
def iSeqT : D → Rs (List D) := fun d => match d with | .tuple ds => .ok ds | _ => .bad
def iSeqS : D → Rs (List D) := fun d => match d with | .str a => .ok (signsD a) | _ => .bad
def eIt (g : D → Rs (List D)) (f : En → Rs D) : En → Rs (List D) := fun ρ => f ρ >>= g
theorem PoI.step {σ : L2.St} {H Hd H1 Hd1 : Hp} {r : Rs (List D)} {Q : It → Hp → Prop} (h : PoI X W σ H Hd r Q) (t : Step H Hd H1 Hd1) : PoI X W σ H1 Hd1 r Q := by
  cases r with
  | ok d => exact fun vs H' Hd' s => h vs H' Hd' (t.trans s)
  | ex c fs => exact fun cls a H' Hd' s => h cls a H' Hd' (t.trans s)
  | bad => exact h
theorem si_list (h : SE X W own e f) : SI X W own tg e (eIt iSeqL f) := by
  obtain ⟨t, p, r⟩ := h.ex
  refine ⟨_, pi_list p, fun H0 Hd0 ρ σ H Hd R Q q => ?_⟩
  refine r _ _ _ _ _ _ R _ ?_
  unfold eIt at q
  cases hf : f ρ with
  | bad => rw [hf] at q; exact q
  | ex c fs => rw [hf] at q; exact q
  | ok d =>
    rw [hf] at q
    intro v H1 Hd1 s1 x
    have q1 : PoI X W σ H1 Hd1 (iSeqL d) Q := PoI.step q s1
    unfold iSeqL at q1
    cases x with
    | lst h r => exact ⟨_, rfl, ⟨_, Same.seq s1.sub h⟩, q1 _ H1 Hd1 (.refl s1.sub) (walks_list h r)⟩
    | _ => exact q1.elim
theorem si_tup (h : SE X W own e f) : SI X W own tg e (eIt iSeqT f) := by
  obtain ⟨t, p, r⟩ := h.ex
  refine ⟨_, pi_tup p, fun H0 Hd0 ρ σ H Hd R Q q => ?_⟩
  refine r _ _ _ _ _ _ R _ ?_
  unfold eIt at q
  cases hf : f ρ with
  | bad => rw [hf] at q; exact q
  | ex c fs => rw [hf] at q; exact q
  | ok d =>
    rw [hf] at q
    intro v H1 Hd1 s1 x
    have q1 : PoI X W σ H1 Hd1 (iSeqT d) Q := PoI.step q s1
    unfold iSeqT at q1
    cases x with
    | tup h r => exact ⟨_, rfl, ⟨_, sqt_same s1.sub h⟩, q1 _ H1 Hd1 (.refl s1.sub) (walks_tup h r)⟩
    | _ => exact q1.elim
theorem si_str (h : SE X W own e f) : SI X W own tg e (eIt iSeqS f) := by
  obtain ⟨t, p, r⟩ := h.ex
  refine ⟨_, pi_str p, fun H0 Hd0 ρ σ H Hd R Q q => ?_⟩
  refine r _ _ _ _ _ _ R _ ?_
  unfold eIt at q
  cases hf : f ρ with
  | bad => rw [hf] at q; exact q
  | ex c fs => rw [hf] at q; exact q
  | ok d =>
    rw [hf] at q
    intro v H1 Hd1 s1 x
    have q1 : PoI X W σ H1 Hd1 (iSeqS d) Q := PoI.step q s1
    unfold iSeqS at q1
    cases x with
    | str a => exact ⟨_, rfl, q1 _ H1 Hd1 (.refl s1.sub) walks_str⟩
    | _ => exact q1.elim
def small62 (i : Int) : Bool := decide (-(2 ^ 62) ≤ i) && decide (i < 2 ^ 62)
theorem small62_iff {i : Int} (h : small62 i = true) : -(2 ^ 62) ≤ i ∧ i < 2 ^ 62 := by
  unfold small62 at h
  simpa using h
def iRange1 (f : En → Rs D) : En → Rs (List D) := fun ρ => f ρ >>= fun d => match d with
  | .int j => if small62 j then .ok (rangeD 0 j.toNat) else .bad
  | _ => .bad
def iRange2 (f g : En → Rs D) : En → Rs (List D) := fun ρ => f ρ >>= fun d => g ρ >>= fun d' => match d, d' with
  | .int i, .int j => if small62 i && small62 j then .ok (rangeD i (j - i).toNat) else .bad
  | _, _ => .bad
theorem si_range1 (h : SE X W own e f) (hm : X.mg "range" = none) (hg : Gl X "range" := by rfl) (hs : starEach [e] X.env = [(false, eval e X.env)] := by rfl) (hs' : starEach [e] X.env = (false, eval e X.env) :: starEach [] X.env := by rfl) : SI X W own tg (.Call (.Name "range" p) [e] [] pos) (iRange1 f) := by
  obtain ⟨t, pp, r⟩ := h.ex
  refine ⟨_, pi_range1 hg hm (pa_cons pp pa_nil hs') hs, fun H0 Hd0 ρ σ H Hd R Q q => ?_⟩
  refine r _ _ _ _ _ _ R _ ?_
  unfold iRange1 at q
  cases hf : f ρ with
  | bad => rw [hf] at q; exact q
  | ex c fs => rw [hf] at q; exact q
  | ok d =>
    rw [hf] at q
    intro v H1 Hd1 s1 x
    cases x with
    | int j =>
      simp only [ok_bind] at q
      split at q
      · rename_i hj
        obtain ⟨h1, h2⟩ := small62_iff hj
        exact ⟨j, rfl, h1, h2, q _ H1 Hd1 s1 walks_range⟩
      · exact q.elim
    | _ => exact q.elim
theorem si_range2 (h : SE X W own e f) (h' : SE X W own e2 f2) (hm : X.mg "range" = none) (hg : Gl X "range" := by rfl) (hs : starEach [e, e2] X.env = [(false, eval e X.env), (false, eval e2 X.env)] := by rfl) (hs2 : starEach [e2] X.env = [(false, eval e2 X.env)] := by rfl)
    (hs' : starEach [e, e2] X.env = (false, eval e X.env) :: starEach [e2] X.env := by rfl) (hs2' : starEach [e2] X.env = (false, eval e2 X.env) :: starEach [] X.env := by rfl) : SI X W own tg (.Call (.Name "range" p) [e, e2] [] pos) (iRange2 f f2) := by
  obtain ⟨t, pp, r⟩ := h.ex
  obtain ⟨t2, pp2, r2⟩ := h'.ex
  refine ⟨_, pi_range2 hg hm (pa_cons pp (pa_cons pp2 pa_nil hs2') hs') hs hs2, fun H0 Hd0 ρ σ H Hd R Q q => ?_⟩
  refine r _ _ _ _ _ _ R _ ?_
  unfold iRange2 at q
  cases hf : f ρ with
  | bad => rw [hf] at q; exact q
  | ex c fs => rw [hf] at q; exact q
  | ok d =>
    rw [hf] at q
    intro v H1 Hd1 s1 x
    refine r2 _ _ _ _ _ _ (R.step s1) _ ?_
    have q1 := PoI.step (X := X) (W := W) q s1
    simp only [ok_bind] at q1
    cases hg : f2 ρ with
    | bad => rw [hg] at q1; exact q1
    | ex c fs => rw [hg] at q1; exact q1
    | ok d' =>
      rw [hg] at q1
      simp only [ok_bind] at q1
      intro w H2 Hd2 s2 y
      cases x with
      | int i =>
        cases y with
        | int j =>
          simp only at q1
          split at q1
          · rename_i hj
            rw [Bool.and_eq_true] at hj
            obtain ⟨h1, h2⟩ := small62_iff hj.1
            obtain ⟨h3, h4⟩ := small62_iff hj.2
            exact ⟨i, j, rfl, ⟨h1, h2, h3, h4⟩, q1 _ H2 Hd2 s2 walks_range⟩
          · exact q1.elim
        | _ => exact q1.elim
      | _ => exact q1.elim
end

/-! ### comprehensions -/
def wipeE (ρ : En) : List Nat → En
  | [] => ρ
  | v :: vs => (wipeE ρ vs).set v none
/-- within a comprehension nothing may be raised -/
def noEx {α : Type} : Rs α → Rs α
  | .ok a => .ok a
  | _ => .bad
@[simp] theorem noEx_ok {α : Type} (a : α) : noEx (.ok a) = .ok a := nrfl rfl
def lcL (tg : D → En → Rs En) (cond : En → Rs Bool) (elt : En → Rs D) (ρ0 : En) : List D → Rs (List D)
  | [] => .ok []
  | d :: ds => noEx (tg d ρ0) >>= fun ρ1 => noEx (cond ρ1) >>= fun b => if b = true then noEx (elt ρ1) >>= fun y => lcL tg cond elt ρ0 ds >>= fun ys => .ok (y :: ys) else lcL tg cond elt ρ0 ds
def eLc (it : En → Rs (List D)) (vs : List Nat) (tg : D → En → Rs En) (cond : En → Rs Bool) (elt : En → Rs D) : En → Rs D := fun ρ => it ρ >>= fun ds =>
  if ds.length ≤ sizeLine then lcL tg cond elt (wipeE ρ vs) ds >>= fun ys => .ok (.list ys) else .bad
def cYes : En → Rs Bool := fun _ => .ok true
/-- the tests of a comprehension -/
structure SIfs (X : Cx) (W : WX) (own : List Nat) (ifs : List Expr) (f : En → Rs Bool) : Prop where
  ex : ∃ t, PTs X ifs t ∧ ∀ H0 Hd0 ρ σ H Hd, Rel X.K H0 Hd0 own ρ σ H Hd → ∀ Q : Bool → Hp → Prop, PoT X W σ H Hd (f ρ) Q → t σ H Q
theorem sifs_nil {X : Cx} {W : WX} {own : List Nat} : SIfs X W own [] cYes := ⟨_, pts_nil, fun H0 Hd0 ρ σ H Hd R Q q => q H Hd (.refl R.st.sub)⟩
theorem sifs_one {X : Cx} {W : WX} {own : List Nat} {c : Expr} {f : En → Rs Bool} (h : SC X W own c f) : SIfs X W own [c] f := let ⟨_, p, r⟩ := h.ex; ⟨_, pts_one p, r⟩
abbrev W0 : WX := fun _ _ _ _ => False
theorem wipe_len (σ : L2.St) (vs : List Nat) : (wipe σ vs).length = σ.length := wipe_length σ vs
theorem wipeE_len (ρ : En) : ∀ vs : List Nat, (wipeE ρ vs).length = ρ.length
  | [] => rfl
  | v :: vs => by unfold wipeE; rw [List.length_set, wipeE_len ρ vs]
theorem wipeE_out {ρ : En} {i : Nat} : ∀ {vs : List Nat}, i ∉ vs → (wipeE ρ vs)[i]? = ρ[i]?
  | [], _ => rfl
  | v :: vs, h => by
    unfold wipeE
    rw [List.getElem?_set_ne (fun z => h (by rw [z]; exact List.mem_cons_self)), wipeE_out fun z => h (List.mem_cons_of_mem _ z)]
theorem wipeE_in {ρ : En} {i : Nat} {d : D} : ∀ {vs : List Nat}, (wipeE ρ vs)[i]? = some (some d) → i ∉ vs
  | [], _ => fun z => nomatch z
  | v :: vs, h => by
    unfold wipeE at h
    intro m
    by_cases z : i = v
    · subst z
      have hl : i < (wipeE ρ vs).length := by simpa using (List.getElem?_eq_some_iff.mp h).1
      rw [List.getElem?_set_self hl] at h
      cases h
    · rw [List.getElem?_set_ne (Ne.symm z)] at h
      rcases List.mem_cons.mp m with m | m
      · exact z m
      · exact wipeE_in h m
def nAnc (own vs : List Nat) : Bool := vs.all fun i => !own.contains (1000 + i)
theorem Rel.wipe {K : PySem.W.Frag} {H0 : Bs} {Hd0 H Hd : Hp} {own : List Nat} {ρ : En} {σ : L2.St} (R : Rel K H0 Hd0 own ρ σ H Hd) (vs : List Nat) (hv : nAnc own vs = true) : Rel K H0 Hd0 own (wipeE ρ vs) (L2.wipe σ vs) H Hd :=
  R.forget (by rw [wipeE_len, wipe_len, R.len]) (fun i d e => by
    have h := wipeE_in e
    rw [wipeE_out h] at e
    exact ⟨e, wipe_out h⟩) fun i m => wipe_out fun z => by
    have := List.all_eq_true.mp hv i z
    rw [List.contains_iff_mem.mpr m] at this
    cases this
theorem wipe_congr {σ σ' : L2.St} {vs ws : List Nat} (hl : σ'.length = σ.length) (h : ∀ j, j ∉ ws → σ'[j]? = (L2.wipe σ vs)[j]?) (hs : ∀ j ∈ ws, j ∈ vs) : L2.wipe σ' vs = L2.wipe σ vs := by
  apply List.ext_getElem?
  intro i
  by_cases m : i ∈ vs
  · have none_at : ∀ {τ : L2.St} {us : List Nat}, i ∈ us → i < τ.length → (L2.wipe τ us)[i]? = some none := by
      intro τ us
      induction us with
      | nil => intro z; cases z
      | cons u us ih =>
        intro m hi
        unfold L2.wipe
        by_cases z : i = u
        · subst z
          rw [List.getElem?_set_self (by rw [wipe_len]; exact hi)]
        · rw [List.getElem?_set_ne (Ne.symm z)]
          rcases List.mem_cons.mp m with m | m
          · exact absurd m z
          · exact ih m hi
    by_cases hi : i < σ.length
    · rw [none_at m (by rw [hl]; exact hi), none_at m hi]
    · rw [List.getElem?_eq_none (by rw [wipe_len, hl]; omega), List.getElem?_eq_none (by rw [wipe_len]; omega)]
  · rw [wipe_out m, wipe_out m, h i fun z => m (hs i z), wipe_out m]
section
variable {X : Cx} {W : WX} {k : Nat} {own own2 ws : List Nat} {elt tg iter : Expr} {ifs : List Expr} {scope : Scope} {ownV : List (Str × Nat)} {it : En → Rs (List D)} {g : D → En → Rs En} {fc : En → Rs Bool} {fe : En → Rs D} {pos : Pos}
abbrev blkX (X : Cx) (scope : Scope) (s : Shared) (H : Hp) (C : Addr) (cl : List (Str × Addr)) (fp : List Addr) : Cx := X.blk s H scope (compEnvC scope cl C X.env) fp
theorem lc_read {wi : TI} {tgt : TG} {tt : TT} {te : TE} (vs : List Nat) (hv : nAnc own vs = true)
    (ri : ∀ H0 Hd0 ρ σ H Hd, Rel X.K H0 Hd0 own ρ σ H Hd → ∀ Q, PoI X W σ H Hd (it ρ) Q → wi σ H Q)
    (rg : ∀ H0 Hd0 ρ σ H Hd, Rel X.K H0 Hd0 own ρ σ H Hd → ∀ v d, Dq X.K Hd v d → ∀ ρ', g d ρ = .ok ρ' → ∀ Q, (∀ σ', Rel X.K H0 Hd0 own2 ρ' σ' H Hd → (∀ j, j ∉ ws → σ'[j]? = σ[j]?) → σ'.length = σ.length → Q σ' H) → tgt v σ H Q) (hws : ∀ j ∈ ws, j ∈ vs)
    (rc : ∀ H0 Hd0 ρ σ H Hd, Rel X.K H0 Hd0 own2 ρ σ H Hd → ∀ Q : Bool → Hp → Prop, (match fc ρ with | .ok b => ∀ H' Hd', Step H Hd H' Hd' → Q b H' | _ => False) → tt σ H Q)
    (re : ∀ H0 Hd0 ρ σ H Hd, Rel X.K H0 Hd0 own2 ρ σ H Hd → ∀ Q : VK, (match fe ρ with | .ok d => ∀ v H' Hd', Step H Hd H' Hd' → Dq X.K Hd' v d → Q v H' | _ => False) → te σ H Q)
    {H0 : Bs} {Hd0 : Hp} {ρ : En} {σ : L2.St} {H Hd : Hp} (R : Rel X.K H0 Hd0 own ρ σ H Hd) {Q : VK} (q : PoM X W σ H Hd (eLc it vs g fc fe ρ) Q) : tLc wi tgt tt te vs σ H Q := by
  refine ri _ _ _ _ _ _ R _ ?_
  unfold eLc at q
  cases hit : it ρ with
  | bad => rw [hit] at q; exact q
  | ex c fs => rw [hit] at q; exact q
  | ok ds =>
    simp only [hit, ok_bind] at q
    split at q
    rotate_left
    · exact q.elim
    rename_i hlen
    intro J H1 Hd1 s1 wk Dl hD
    have q1 := PoM.step q s1
    have hD1 : Hd1 Dl = none := none_of_same s1.sub hD
    refine ⟨fun i m H' => m = ds.length - i ∧ ∃ Hd' acc accD, Step H1 Hd1 H' Hd' ∧ Hd' Dl = none ∧ H' Dl = some (.lst acc) ∧ DqAll X.K Hd' acc accD ∧ acc.length ≤ i ∧ i ≤ ds.length ∧
      PoM X W σ H1 Hd1 (lcL g fc fe (wipeE ρ vs) (ds.drop i) >>= fun ys => .ok (.list (accD ++ ys))) Q, ⟨ds.length, rfl, Hd1, [], [], .own s1.sub hD, hD1, upd_same, .nil, Nat.le_refl _, Nat.zero_le _, by simpa using q1⟩, ?_⟩
    rintro i m H' ⟨rfl, Hd', acc, accD, st, hDd, hDl, dq, hacc, hi, q'⟩
    obtain ⟨hgo, hstop⟩ := wk H' Hd' st.keep st.sub i
    by_cases hlt : i < ds.length
    · obtain ⟨go, yld⟩ := hgo _ (List.getElem?_eq_getElem hlt)
      rw [List.drop_eq_getElem_cons hlt] at q'
      refine .inr ⟨go, fun H' => ∃ Hd' acc accD, Step H1 Hd1 H' Hd' ∧ Hd' Dl = none ∧ H' Dl = some (.lst acc) ∧ DqAll X.K Hd' acc accD ∧ acc.length ≤ i + 1 ∧ i + 1 ≤ ds.length ∧
        PoM X W σ H1 Hd1 (lcL g fc fe (wipeE ρ vs) (ds.drop (i + 1)) >>= fun ys => .ok (.list (accD ++ ys))) Q, fun H' h => ⟨ds.length - (i + 1), by omega, rfl, h⟩, fun x H2 y => ?_⟩
      obtain ⟨Hd2, s2, dx⟩ := yld x H2 y
      have st2 := st.trans s2
      have h2l : H2 Dl = some (.lst acc) := s2.up _ _ hDl
      have h2d : Hd2 Dl = none := by rw [s2.old Dl (by rw [hDl]; simp)]; exact hDd
      have R2 := (((R.step s1).step st).step s2).wipe vs hv
      unfold lcL at q'
      cases hg : g ds[i] (wipeE ρ vs) with
      | bad => simp only [hg] at q'; exact q'.elim
      | ex c fs => simp only [hg] at q'; exact q'.elim
      | ok ρ1 =>
        simp only [hg, noEx_ok, ok_bind] at q'
        refine rg _ _ _ _ _ _ R2 x _ dx ρ1 hg _ fun σ3 R3 ag l3 => ⟨?_, ?_⟩
        · exact wipe_congr (by rw [l3, wipe_len]) ag hws
        · refine rc _ _ _ _ _ _ R3 _ ?_
          cases hc : fc ρ1 with
          | bad => simp only [hc] at q'; exact q'.elim
          | ex c fs => simp only [hc] at q'; exact q'.elim
          | ok b =>
            simp only [hc, noEx_ok, ok_bind] at q'
            intro H3 Hd3 s3
            cases b with
            | false =>
              simp only [Bool.false_eq_true, if_false] at q'
              rw [if_neg (by decide)]
              refine ⟨Hd3, acc, accD, st2.trans s3, ?_, s3.up _ _ h2l, dqAll_mono s3.keep (dqAll_mono s2.keep dq), by omega, hlt, q'⟩
              rw [s3.old Dl (by rw [h2l]; simp)]; exact h2d
            | true =>
              simp only [if_true] at q'
              rw [if_pos rfl]
              refine re _ _ _ _ _ _ (R3.step s3) _ ?_
              cases he : fe ρ1 with
              | bad => simp only [he] at q'; exact q'.elim
              | ex c fs => simp only [he] at q'; exact q'.elim
              | ok yD =>
                simp only [he, noEx_ok, ok_bind, bind_assoc'] at q'
                intro v H4 Hd4 s4 dv
                have s34 := s3.trans s4
                have h4l : H4 Dl = some (.lst acc) := s34.up _ _ h2l
                have h4d : Hd4 Dl = none := by rw [s34.old Dl (by rw [h2l]; simp)]; exact h2d
                have st4 := st2.trans s34
                refine ⟨acc, h4l, by omega, Hd4, acc ++ [v], accD ++ [yD], ⟨fun a o e => ?_, fun a o e => ?_, st4.keep, st4.old⟩, h4d, upd_same, ((dqAll_mono s34.keep (dqAll_mono s2.keep dq)).append (.cons dv .nil)), by simp; omega, hlt, ?_⟩
                · rw [upd_ne (ne_of_none e hD)]; exact st4.up a o e
                · rw [upd_ne (ne_of_none e h4d)]; exact st4.sub a o e
                · simpa [List.append_assoc] using q'
    · refine .inl ⟨hstop (by omega), ?_⟩
      rw [List.drop_eq_nil_of_le (by omega)] at q'
      simp only [lcL, ok_bind, List.append_nil] at q'
      exact q' (.ref Dl) H' Hd' st ⟨Dl, acc, rfl, hD, hDd, hDl, dq⟩
theorem Cxt.blk {W : WX} (C : Cxt X W k) (scope : Scope) (s : Shared) (H : Hp) (Ca : Addr) (cl : List (Str × Addr)) (fp : List Addr) : Cxt (blkX X scope s H Ca cl fp) W0 k :=
  ⟨C.calm, takes0, PassesOwn.never, C.nd, C.room⟩
theorem lc_parts (C : Cxt X W k) (hi : SI X W own tg iter it)
    (hg : ∀ (s : Shared) (H : Hp) (C : Addr) (cl : List (Str × Addr)) (fp : List Addr), Cxt (blkX X scope s H C cl fp) W0 k → SG (blkX X scope s H C cl fp) own tg g own2 ws)
    (hc : ∀ (s : Shared) (H : Hp) (C : Addr) (cl : List (Str × Addr)) (fp : List Addr), Cxt (blkX X scope s H C cl fp) W0 k → SIfs (blkX X scope s H C cl fp) W0 own2 ifs fc)
    (he : ∀ (s : Shared) (H : Hp) (C : Addr) (cl : List (Str × Addr)) (fp : List Addr), Cxt (blkX X scope s H C cl fp) W0 k → SE (blkX X scope s H C cl fp) W0 own2 elt fe)
    (vs : List Nat) (hws : ws.all vs.contains = true) (hv : nAnc own vs = true) :
    ∃ (wi : TI) (tgt : TG) (tt : TT) (te : TE), PI X tg iter wi ∧ (∀ (s : Shared) (H : Hp) (C : Addr) (cl : List (Str × Addr)) (fp : List Addr), PG (blkX X scope s H C cl fp) tg tgt) ∧
      (∀ (s : Shared) (H : Hp) (C : Addr) (cl : List (Str × Addr)) (fp : List Addr), PTs (blkX X scope s H C cl fp) ifs tt) ∧ (∀ (s : Shared) (H : Hp) (C : Addr) (cl : List (Str × Addr)) (fp : List Addr), PE (blkX X scope s H C cl fp) elt te) ∧
      ∀ H0 Hd0 ρ σ H Hd, Rel X.K H0 Hd0 own ρ σ H Hd → ∀ Q : VK, PoM X W σ H Hd (eLc it vs g fc fe ρ) Q → tLc wi tgt tt te vs σ H Q := by
  classical
  obtain ⟨wi, pi, ri⟩ := hi.ex
  have G := fun s H Ca cl fp => (hg s H Ca cl fp (C.blk scope s H Ca cl fp)).ex
  have F := fun s H Ca cl fp => (hc s H Ca cl fp (C.blk scope s H Ca cl fp)).ex
  have E := fun s H Ca cl fp => (he s H Ca cl fp (C.blk scope s H Ca cl fp)).ex
  let tgt : TG := fun v σ H Q => ∀ s H' Ca cl fp, Classical.choose (G s H' Ca cl fp) v σ H Q
  let tt : TT := fun σ H Q => ∀ s H' Ca cl fp, Classical.choose (F s H' Ca cl fp) σ H Q
  let te : TE := fun σ H Q => ∀ s H' Ca cl fp, Classical.choose (E s H' Ca cl fp) σ H Q
  refine ⟨wi, tgt, tt, te, pi, (fun s H Ca cl fp => ?_), (fun s H Ca cl fp => ?_), (fun s H Ca cl fp => ?_), fun H0 Hd0 ρ σ H Hd R Q q => ?_⟩
  · exact ⟨fun pins s' σ H' v u Q I r h => (Classical.choose_spec (G s H Ca cl fp)).1.run pins s' σ H' v u Q I r (h s H Ca cl fp)⟩
  · exact ⟨fun pins s' σ H' Q I h => (Classical.choose_spec (F s H Ca cl fp)).1.run pins s' σ H' Q I (h s H Ca cl fp)⟩
  · exact ⟨fun pins s' σ H' Q I h => (Classical.choose_spec (E s H Ca cl fp)).1.run pins s' σ H' Q I (h s H Ca cl fp)⟩
  · refine lc_read (own := own) (own2 := own2) (ws := ws) (it := it) (g := g) (fc := fc) (fe := fe) _ hv ri (fun H0 Hd0 ρ σ H Hd R v d x ρ' e Q q => ?_) (fun j m => List.contains_iff_mem.mp (List.all_eq_true.mp hws j m)) (fun H0 Hd0 ρ σ H Hd R Q q => ?_) (fun H0 Hd0 ρ σ H Hd R Q q => ?_) R q
    · intro s H' Ca cl fp
      exact (Classical.choose_spec (G s H' Ca cl fp)).2 H0 Hd0 ρ σ H Hd R v d x ρ' e Q q
    · intro s H' Ca cl fp
      refine (Classical.choose_spec (F s H' Ca cl fp)).2 H0 Hd0 ρ σ H Hd R Q ?_
      cases hf : fc ρ with
      | ok b => rw [hf] at q; exact q
      | ex c fs => rw [hf] at q; exact q.elim
      | bad => rw [hf] at q; exact q.elim
    · intro s H' Ca cl fp
      refine (Classical.choose_spec (E s H' Ca cl fp)).2 H0 Hd0 ρ σ H Hd R Q ?_
      cases hf : fe ρ with
      | ok b => rw [hf] at q; exact q
      | ex c fs => rw [hf] at q; exact q.elim
      | bad => rw [hf] at q; exact q.elim
theorem sm_lc (ownV : List (Str × Nat)) (C : Cxt X W k) (hi : SI X W own tg iter it)
    (hg : ∀ (s : Shared) (H : Hp) (C : Addr) (cl : List (Str × Addr)) (fp : List Addr), Cxt (blkX X scope s H C cl fp) W0 k → SG (blkX X scope s H C cl fp) own tg g own2 ws)
    (hc : ∀ (s : Shared) (H : Hp) (C : Addr) (cl : List (Str × Addr)) (fp : List Addr), Cxt (blkX X scope s H C cl fp) W0 k → SIfs (blkX X scope s H C cl fp) W0 own2 ifs fc)
    (he : ∀ (s : Shared) (H : Hp) (C : Addr) (cl : List (Str × Addr)) (fp : List Addr), Cxt (blkX X scope s H C cl fp) W0 k → SE (blkX X scope s H C cl fp) W0 own2 elt fe)
    (ok : blkC X.N X.env.scope scope ownV = true := by first | decide +kernel | rfl) (hws : ws.all (ownV.map (·.2)).contains = true := by rfl) (hs : ∀ x, foldedSetIterable iter X.env x = pure x := by intro _; rfl) (hv : nAnc own (ownV.map (·.2)) = true := by rfl) :
    SM X W own (.ListComp elt [⟨tg, iter, ifs, 0⟩] scope pos) (eLc it (ownV.map (·.2)) g fc fe) := by
  obtain ⟨wi, tgt, tt, te, pi, pg, pt, pe, rd⟩ := lc_parts C hi hg hc he (ownV.map (·.2)) hws hv
  exact ⟨_, pe_lc C.calm C.nd pi (blkOk_by ok) pg pt pe hs, rd⟩
/-- y = [..] on one line, y a local -/
theorem ss_setLc {fl : Md} {L : List Nat} (i : Nat) (ownV : List (Str × Nat)) {y : Str} {py spos : Pos} (C : Cxt X W k) (hi : SI X W own tg iter it)
    (hg : ∀ (s : Shared) (H : Hp) (C : Addr) (cl : List (Str × Addr)) (fp : List Addr), Cxt (blkX X scope s H C cl fp) W0 k → SG (blkX X scope s H C cl fp) own tg g own2 ws)
    (hc : ∀ (s : Shared) (H : Hp) (C : Addr) (cl : List (Str × Addr)) (fp : List Addr), Cxt (blkX X scope s H C cl fp) W0 k → SIfs (blkX X scope s H C cl fp) W0 own2 ifs fc)
    (he : ∀ (s : Shared) (H : Hp) (C : Addr) (cl : List (Str × Addr)) (fp : List Addr), Cxt (blkX X scope s H C cl fp) W0 k → SE (blkX X scope s H C cl fp) W0 own2 elt fe)
    (ok : blkC X.N X.env.scope scope ownV = true := by first | decide +kernel | rfl) (hws : ws.all (ownV.map (·.2)).contains = true := by rfl) (hs : ∀ x, foldedSetIterable iter X.env x = pure x := by intro _; rfl)
    (hy : X.N[i]? = some y := by rfl) (hyl : X.env.scope.names.lookup y = some .local := by rfl)
    (hsw : swapsWith (.ListComp elt [⟨tg, iter, ifs, 0⟩] scope pos) (some (.Name y py)) spos.line X.env = pure true := by exact sw_true rfl rfl rfl (by decide +kernel)) (hv : nAnc own (ownV.map (·.2)) = true := by rfl) (hk : own.contains (1000 + i) = false := by rfl) (hlt : i < 100 := by decide) (hE : okE fl own = true := by rfl) :
    SS X W fl L own (.Assign [.Name y py] (.ListComp elt [⟨tg, iter, ifs, 0⟩] scope pos) spos) (sSet i (eLc it (ownV.map (·.2)) g fc fe)) (i :: drp own i) := by
  obtain ⟨wi, tgt, tt, te, pi, pg, pt, pe, rd⟩ := lc_parts C hi hg hc he (ownV.map (·.2)) hws hv
  refine ⟨_, ps_setLc C.calm C.nd hy hyl hsw pi (blkOk_by ok) pg pt pe hs, fun H0 Hd0 ρ σ H Hd R Dn q => ?_⟩
  refine rd _ _ _ _ _ _ R _ ?_
  unfold sSet at q
  cases he : eLc it (ownV.map (·.2)) g fc fe ρ with
  | ok d => rw [he] at q; exact fun v H' Hd' s x => q _ _ _ (R.setM s x (ncon hk) hlt)
  | ex c fs => rw [he] at q; exact fun cls a H' Hd' s x => exc_of R q s x hE
  | bad => rw [he] at q; exact q
end

/-! ### more statements: lists that change, unpacking, op= -/
section
variable {X : Cx} {W : WX} {fl : Md} {L own own' : List Nat} {e : Expr} {fe : En → Rs D} {pos pos' apos cpos : Pos} {k : Nat}
/-- what an owned name holds -/
theorem own_at {H0 : Bs} {Hd0 H Hd : Hp} {ρ : En} {σ : L2.St} {i : Nat} {ds : List D} (R : Rel X.K H0 Hd0 own ρ σ H Hd) (ho : (own.contains i && decide (i < 100)) = true) (h : ρ[i]? = some (some (.list ds))) :
    ∃ a vs, σ[i]? = some (some (V.ref a)) ∧ H a = some (.lst vs) ∧ Hd a = none ∧ DqAll X.K Hd vs ds := by
  rcases R.ownL h (List.contains_iff_mem.mp (Bool.and_eq_true_iff.mp ho).1) (of_decide_eq_true (Bool.and_eq_true_iff.mp ho).2) with ⟨a, vs, ds', e, h2, h3, h4, h5, h6⟩ | ⟨h1, _⟩
  · cases e; exact ⟨a, vs, h2, h3, h4, h6⟩
  · exact absurd rfl (h1 ds)
/-- the list in slot i -/
def getL (ρ : En) (i : Nat) : Option (List D) := match ρ[i]? with
  | some (some (.list ds)) => some ds
  | _ => none
theorem getL_some {ρ : En} {i : Nat} {ds : List D} (h : getL ρ i = some ds) : ρ[i]? = some (some (.list ds)) := by
  unfold getL at h
  split at h
  · cases h; assumption
  · cases h
/-- x.append(e) -/
def oL (o : Option (List D)) (k : List D → Out) : Out := match o with
  | some ds => k ds
  | none => .bad
def sApp (i : Nat) (fe : En → Rs D) : En → Out := fun ρ => oL (getL ρ i) fun ds => oBind (fe ρ) ρ fun d => if ds.length < sizeLine then .nx (ρ.set i (some (.list (ds ++ [d])))) else .bad
theorem ss_app (i : Nat) {x : Str} (h : SE X W own e fe) (ho : (own.contains i && decide (i < 100)) = true := by rfl) (one : oneC own i = true := by rfl) (hN : X.N[i]? = some x := by rfl) (hv : Vis X.env.scope x := by first | exact Or.inl rfl | exact Or.inr (Or.inl rfl) | exact Or.inr (Or.inr rfl))
    (hd : (x == ("__debug__" : Str)) = false := by rfl) (hcd : (x == ("__classdict__" : Str)) = false := by rfl)
    (hbase : attributeBase (.Name x pos') "append" X.env (eval (.Name x pos') X.env) = eval (.Name x pos') X.env := by rfl)
    (hfew : ((backTo cpos (starEach [e] X.env)).all (fun x => !x.1) && (backToKw cpos (keywordEach [] X.env)).all (fun x => x.1.isSome)
      && decide ([e].length + ([] : List Keyword).length + (if ([] : List Keyword).isEmpty then 0 else 1) < 30)) = true := by rfl)
    (hline : (apos.endLine == cpos.line) = true := by rfl) (hs : starEach [e] X.env = (false, eval e X.env) :: starEach [] X.env := by rfl) (hplain : (backTo cpos (starEach [] X.env)).any (·.1) = false := by rfl)
    (hsw : swapsWith (.Call (.Attribute (.Name x pos') "append" apos) [e] [] cpos) none pos.line X.env = pure false := by rfl) (hE : okE fl own = true := by rfl) :
    SS X W fl L own (.Expr (.Call (.Attribute (.Name x pos') "append" apos) [e] [] cpos) pos) (sApp i fe) own := by
  obtain ⟨t, p, r⟩ := h.ex
  refine ⟨_, ps_expr (pe_bm PySem.F.plainAttrs_list PySem.F.slot_list_append PySem.F.type_list_append (r := rAppend) (fun pins s σ H x xs v us Q I rx rxs h => mt_append pins s σ H x xs v us Q I rx rxs h) (pe_var hN hv hd hcd) (pa_cons p pa_nil hs) hbase hfew hline hs hplain) hsw, fun H0 Hd0 ρ σ H Hd R Dn q => ?_⟩
  unfold sApp oL at q
  cases hg : getL ρ i with
  | none => rw [hg] at q; exact q.elim
  | some ds =>
    rw [hg] at q
    obtain ⟨a, vs, h2, h3, h4, h5⟩ := own_at R ho (getL_some hg)
    refine ⟨.ref a, h2, .inl ⟨rfl, vs, .inl (.inl h3)⟩, ?_⟩
    refine r _ _ _ _ _ _ R _ ?_
    cases he : fe ρ with
    | bad => rw [he] at q; exact q
    | ex c fs => rw [he] at q; exact fun cls a H' Hd' s x => exc_of R q s x hE
    | ok d =>
      rw [he] at q
      simp only [oBind_ok] at q
      intro v H1 Hd1 s1 x
      split at q
      · rename_i hl
        exact ⟨a, vs, v, rfl, rfl, s1.up _ _ h3, by rw [h5.length]; exact hl, q _ _ _ ((R.step s1).mut (List.contains_iff_mem.mp (Bool.and_eq_true_iff.mp ho).1) (of_decide_eq_true (Bool.and_eq_true_iff.mp ho).2) one (getL_some hg) h2 ((dqAll_mono s1.keep h5).append (.cons x .nil)))⟩
      · exact q.elim
/-- x.pop() alone -/
def sPop (i : Nat) : En → Out := fun ρ => oL (getL ρ i) fun ds => if ds = [] then .bad else .nx (ρ.set i (some (.list ds.dropLast)))
theorem _root_.Wm.DqAll.dropLast {K : PySem.W.Frag} {H : Hp} {vs : List V} {ds : List D} (h : DqAll K H vs ds) : DqAll K H vs.dropLast ds.dropLast := by
  rw [List.dropLast_eq_take, List.dropLast_eq_take, h.length]
  exact h.take _
theorem ss_pop (i : Nat) {x : Str} (ho : (own.contains i && decide (i < 100)) = true := by rfl) (one : oneC own i = true := by rfl) (hN : X.N[i]? = some x := by rfl) (hv : Vis X.env.scope x := by first | exact Or.inl rfl | exact Or.inr (Or.inl rfl) | exact Or.inr (Or.inr rfl))
    (hd : (x == ("__debug__" : Str)) = false := by rfl) (hcd : (x == ("__classdict__" : Str)) = false := by rfl)
    (hbase : attributeBase (.Name x pos') "pop" X.env (eval (.Name x pos') X.env) = eval (.Name x pos') X.env := by rfl) (hline : (apos.endLine == cpos.line) = true := by rfl)
    (hsw : swapsWith (.Call (.Attribute (.Name x pos') "pop" apos) [] [] cpos) none pos.line X.env = pure false := by rfl) :
    SS X W fl L own (.Expr (.Call (.Attribute (.Name x pos') "pop" apos) [] [] cpos) pos) (sPop i) own := by
  refine ⟨_, ps_expr (pe_bm0 PySem.F.plainAttrs_list PySem.F.slot_list_pop PySem.F.type_list_pop (r := rPop) (fun pins s σ H x xs v us Q I rx rxs h => mt_pop pins s σ H x xs v us Q I rx rxs h) (pe_var hN hv hd hcd) hbase hline) hsw, fun H0 Hd0 ρ σ H Hd R Dn q => ?_⟩
  unfold sPop oL at q
  cases hg : getL ρ i with
  | none => rw [hg] at q; exact q.elim
  | some ds =>
    rw [hg] at q
    simp only at q
    obtain ⟨a, vs, h2, h3, h4, h5⟩ := own_at R ho (getL_some hg)
    split at q
    · exact q.elim
    · rename_i hne
      have hl := h5.length
      have hpos : 0 < vs.length := by
        rw [hl]
        cases ds with
        | nil => exact absurd rfl hne
        | cons _ _ => simp
      refine ⟨.ref a, h2, .inl ⟨rfl, vs, .inl (.inl h3)⟩, a, vs, vs[vs.length - 1], rfl, rfl, h3, List.getElem?_eq_getElem (by omega), ?_⟩
      exact q _ _ _ (R.mut (List.contains_iff_mem.mp (Bool.and_eq_true_iff.mp ho).1) (of_decide_eq_true (Bool.and_eq_true_iff.mp ho).2) one (getL_some hg) h2 h5.dropLast)
/-- x op= e of what is no list -/
def sAug (i : Nat) (g : D → D → Rs D) (fe : En → Rs D) : En → Out := fun ρ => oBind (eVar i ρ >>= fun x => fe ρ >>= fun y => g x y) ρ fun d => .nx (ρ.set i (some d))
theorem ss_aug (i : Nat) {x : Str} {op : Operator} {r : R2} {g : D → D → Rs D} (hop : OpR X (inplaceOp op) r) (hr : OpS X r g) (h : SE X W own e fe) (hN : X.N.Nodup) (ho : (own.contains i || isObj own i) = false := by rfl) (hi : X.N[i]? = some x := by rfl) (hx : Loc X.env.scope x := by first | exact Or.inl rfl | exact Or.inr rfl)
    (hf : X.fn x = true ∨ X.env.scope.names.lookup x = some .local := by first | exact .inl rfl | exact .inr rfl) (hk : own.contains (1000 + i) = false := by rfl) (hE : okE fl own = true := by rfl) :
    SS X W fl L own (.AugAssign (.Name x pos') op e pos) (sAug i g fe) (drp own i) := by
  obtain ⟨t, p, rr⟩ := h.ex
  refine ⟨_, ps_aug hN hi hx p (ti := r) (fun pins s σ H x y v u Q I rx ry q => hop pins s σ H x y v u Q I rx ry q) hf, fun H0 Hd0 ρ σ H Hd R Dn q => ?_⟩
  unfold sAug eVar at q
  cases hi : ρ[i]? with
  | none => rw [hi] at q; exact q.elim
  | some o =>
    cases o with
    | none => rw [hi] at q; exact q.elim
    | some d =>
      rw [hi] at q
      simp only [ok_bind] at q
      obtain ⟨v, h1, h2⟩ := R.val i d hi (by intro _ h; rw [List.contains_iff_mem.mpr h] at ho; cases ho) (Bool.or_eq_false_iff.mp ho).2
      refine ⟨v, h1, rr _ _ _ _ _ _ R _ ?_⟩
      cases he : fe ρ with
      | bad => rw [he] at q; exact q.elim
      | ex c fs => rw [he] at q; exact fun cls a H' Hd' s x => exc_of R q s x hE
      | ok y =>
        rw [he] at q
        simp only [ok_bind] at q
        intro w H1 Hd1 s1 z
        refine hr W σ H1 Hd1 v w d y s1.sub (.inl (dq_mono s1.keep h2)) (.inl z) _ ?_
        cases hg : g d y with
        | bad => rw [hg] at q; exact q.elim
        | ex c fs => rw [hg] at q; exact fun cls a H' Hd' s x => exc_of (R.step s1) q s x hE
        | ok d2 => rw [hg] at q; exact fun u H2 Hd2 s2 z2 => q _ _ _ (((R.step s1).step s2).set z2 (ncon hk))
/-- a, b, .. = e -/
def sUnp (g : D → En → Rs En) (fe : En → Rs D) : En → Out := fun ρ => oBind (fe ρ) ρ fun d => oStore (g d ρ) .nx
theorem ss_unp {tg : Expr} {g : D → En → Rs En} {vs : List Nat} (h : SE X W own e fe) (hg : SG X own tg g own' vs) (hs : swapsWithSole [tg] e pos.line X.env = pure false := by rfl) (hw : swappedStores [tg] e X.env = pure none := by rfl)
    (h1 : (assignEach [tg] X.env).map (·.2) = [assign tg X.env] := by rfl) (hE : okE fl own = true := by rfl) : SS X W fl L own (.Assign [tg] e pos) (sUnp g fe) own' := by
  obtain ⟨t, p, r⟩ := h.ex
  obtain ⟨t2, p2, r2⟩ := hg.ex
  refine ⟨_, ps_asg p p2 hs hw h1, fun H0 Hd0 ρ σ H Hd R Dn q => ?_⟩
  refine r _ _ _ _ _ _ R _ ?_
  unfold sUnp oStore at q
  cases he : fe ρ with
  | bad => rw [he] at q; exact q
  | ex c fs => rw [he] at q; exact fun cls a H' Hd' s x => exc_of R q s x hE
  | ok d =>
    rw [he] at q
    simp only [oBind_ok] at q
    intro v H1 Hd1 s1 x
    cases hgd : g d ρ with
    | ok ρ' => simp only [hgd] at q; exact r2 _ _ _ _ _ _ (R.step s1) v d x ρ' hgd _ fun σ' R' _ _ => q _ _ _ R'
    | ex c fs => simp only [hgd] at q; exact q.elim
    | bad => simp only [hgd] at q; exact q.elim
end
end Wm

set_option Elab.async false
set_option linter.all false
set_option maxRecDepth 100000
/-! WmEnd: a module's constants, calls without arguments, walks over any row, the law's end. -/
namespace Wm
open PySem PySem.Spec PyProof.Rows L2

abbrev tx (l : List Nat) : D := .str ⟨l.toArray⟩
/-- a constant of the module -/
def Glb (K : PySem.W.Frag) (mg : Str → Option Value) (x : Str) (d : D) : Prop := ∃ u v, mg x = some u ∧ RelV v u ∧ ∀ H, Dq K H v d
theorem Glb.str {K : PySem.W.Frag} {mg : Str → Option Value} {x z : Str} {t : Tok} (h : mg x = some (.str z t)) : Glb K mg x (.str z) := ⟨_, .str z, h, ⟨t, rfl⟩, fun _ => .str z⟩
theorem Glb.int {K : PySem.W.Frag} {mg : Str → Option Value} {x : Str} {i : Int} {t : Tok} (h : mg x = some (.int i t)) : Glb K mg x (.int i) := ⟨_, .int i, h, ⟨t, rfl⟩, fun _ => .int i⟩
/-- texts with their tokens -/
def tokStrs : List Str → List Tok → List Value
  | z :: zs, t :: ts => .str z t :: tokStrs zs ts
  | _, _ => []
theorem vals_tok : ∀ {zs : List Str} {ts : List Tok}, zs.length = ts.length → Vals (zs.map V.str) (tokStrs zs ts)
  | [], [], _ => .nil
  | z :: zs, t :: ts, h => .cons ⟨t, rfl⟩ (vals_tok (by simpa using h))
theorem dq_strs {K : PySem.W.Frag} {H : Hp} : ∀ zs : List Str, DqAll K H (zs.map V.str) (zs.map PyData.str)
  | [] => .nil
  | z :: zs => .cons (.str z) (dq_strs zs)
theorem Glb.strs {K : PySem.W.Frag} {mg : Str → Option Value} {x : Str} {a : Addr} {zs : List Str} {ts : List Tok} {o : Obj} {n : Nat} (h : mg x = some (.ref a)) (l : K.lookup a = some o) (hc : o.cls = .type "tuple") (hd : o.data = .seq (tokStrs zs ts).toArray n) (hl : zs.length = ts.length) (hz : zs.length ≤ sizeLine) :
    Glb K mg x (.tuple (zs.map PyData.str)) := by
  refine ⟨_, .ref a, h, rfl, fun H => .tup (xs := zs.map V.str) (.inr ⟨o, _, n, l, hc, hd, ?_, ?_⟩) (dq_strs zs)⟩
  · rw [List.size_toArray, ← (vals_tok hl).length, List.length_map]; exact hz
  · rw [List.toList_toArray]; exact vals_tok hl
section
variable {X : Cx} {W : WX} {own : List Nat} {k j n : Nat} {x : Str} {p pos : Pos} {tg e : Expr} {f : En → Rs D}
theorem se_g {d : D} (h : Glb X.K X.mg x d) (hg : Gl X x := by rfl) (hdb : (x == ("__debug__" : Str)) = false := by rfl) : SE X W own (.Name x pos) (eC d) := by
  obtain ⟨u, v, hm, r, dq⟩ := h
  exact se_glob hm r dq hg hdb
/-- a call without arguments; what it raises is not followed -/
def eCall0 (g : List D → Rs D) : En → Rs D := fun _ => noEx (g [])
theorem se_call0 {gf : List D → Rs D} (C : Cxt X W k) (F : Cal X.prog X.w X.K X.mg X.base j x false 0 gf) (hj : j ≤ k := by decide) (hg : Gl X x := by rfl) (hdb : (x == ("__debug__" : Str)) = false := by rfl) :
    SE X W own (.Call (.Name x p) [] [] pos) (eCall0 gf) := by
  obtain ⟨f, fd, ps, ok, hm, hk, hb⟩ := F.ex
  refine ⟨_, pe_call0 ok (C.room.mono hj) hg hm hk hb .nil passL hdb, fun H0 Hd0 ρ σ H Hd R Q q => ?_⟩
  unfold eCall0 at q
  refine ⟨rfl, [], Hd, R.st.sub, .nil, ?_⟩
  cases hg : gf [] with
  | ok d => rw [hg] at q; exact q
  | ex c fs => rw [hg] at q; exact q.elim
  | bad => rw [hg] at q; exact q.elim
/-- a for over a list, a tuple or a text -/
theorem PI.or {iter : Expr} {w1 w2 : TI} (h1 : PI X tg iter w1) (h2 : PI X tg iter w2) : PI X tg iter (fun σ H R => w1 σ H R ∨ w2 σ H R) :=
  ⟨fun pins s σ H R I h => h.elim (h1.run pins s σ H R I) (h2.run pins s σ H R I)⟩
def iSeq : D → Rs (List D)
  | .list ds => .ok ds
  | .tuple ds => .ok ds
  | .str a => .ok (signsD a)
  | _ => .bad
theorem si_seq (h : SE X W own e f) : SI X W own tg e (eIt iSeq f) := by
  obtain ⟨w1, p1, r1⟩ := (si_list (tg := tg) h).ex
  obtain ⟨w2, p2, r2⟩ := (si_tup (tg := tg) h).ex
  obtain ⟨w3, p3, r3⟩ := (si_str (tg := tg) h).ex
  refine ⟨_, PI.or p1 (PI.or p2 p3), fun H0 Hd0 ρ σ H Hd R Q q => ?_⟩
  unfold eIt at q
  cases hf : f ρ with
  | bad => rw [hf] at q; exact q.elim
  | ex c fs => exact .inl (r1 _ _ _ _ _ _ R Q (by unfold eIt; rw [hf] at q ⊢; exact q))
  | ok d =>
    rw [hf] at q
    cases d with
    | list ds => exact .inl (r1 _ _ _ _ _ _ R Q (by unfold eIt; rw [hf]; exact q))
    | tuple ds => exact .inr (.inl (r2 _ _ _ _ _ _ R Q (by unfold eIt; rw [hf]; exact q)))
    | str a => exact .inr (.inr (r3 _ _ _ _ _ _ R Q (by unfold eIt; rw [hf]; exact q)))
    | _ => exact q.elim
/-- -e of a number -/
def eNeg (f : En → Rs D) : En → Rs D := fun ρ => f ρ >>= fun d => match d with
  | .int i => .ok (.int (-i))
  | _ => .bad
theorem se_neg (h : SE X W own e f) : SE X W own (.UnaryOp .USub e pos) (eNeg f) := by
  obtain ⟨t, p, r⟩ := h.ex
  refine ⟨_, pe_un un_neg p, fun H0 Hd0 ρ σ H Hd R Q q => ?_⟩
  refine r _ _ _ _ _ _ R _ ?_
  unfold eNeg at q
  cases hf : f ρ with
  | bad => rw [hf] at q; exact q
  | ex c fs => rw [hf] at q; exact q
  | ok d =>
    rw [hf] at q
    intro v H1 Hd1 s1 x
    cases x with
    | int i => exact ⟨i, rfl, q _ H1 Hd1 s1 (.int _)⟩
    | _ => exact q.elim
end
/-! ### a < b < c -/
def eChain (g g' : D → D → Rs D) (fa fb fc : En → Rs D) : En → Rs D := fun ρ => fa ρ >>= fun x => fb ρ >>= fun y => g x y >>= fun z => match z with
  | .bool true => fc ρ >>= fun w => g' y w
  | .bool false => .ok (.bool false)
  | _ => .bad
section
variable {X : Cx} {W : WX} {own : List Nat} {a b c : Expr} {fa fb fc : En → Rs D} {pos : Pos} {op op' : CmpOp} {r r' : R2} {g g' : D → D → Rs D}
theorem run_chain {ta tb tc : TE} (hr : OpS X r g) (hr' : OpS X r' g')
    (ra : ∀ H0 Hd0 ρ σ H Hd, Rel X.K H0 Hd0 own ρ σ H Hd → ∀ Q : VK, PoB X W σ H Hd (fa ρ) Q → ta σ H Q)
    (rb : ∀ H0 Hd0 ρ σ H Hd, Rel X.K H0 Hd0 own ρ σ H Hd → ∀ Q : VK, PoB X W σ H Hd (fb ρ) Q → tb σ H Q)
    (rc : ∀ H0 Hd0 ρ σ H Hd, Rel X.K H0 Hd0 own ρ σ H Hd → ∀ Q : VK, PoB X W σ H Hd (fc ρ) Q → tc σ H Q)
    {H0 : Bs} {Hd0 : Hp} {ρ : En} {σ : L2.St} {H Hd : Hp} (R : Rel X.K H0 Hd0 own ρ σ H Hd) {Q : VK} (q : PoE X W σ H Hd (eChain g g' fa fb fc ρ) Q) : tChain r r' ta tb tc σ H Q := by
  refine ra _ _ _ _ _ _ R _ ?_
  unfold eChain at q
  cases ha : fa ρ with
  | bad => rw [ha] at q; exact q
  | ex c fs => rw [ha] at q; exact q
  | ok d1 =>
    rw [ha] at q
    intro x H1 Hd1 s1 v1
    refine rb _ _ _ _ _ _ (R.step s1) _ ?_
    have q1 := PoE.step q s1
    simp only [ok_bind] at q1
    cases hb : fb ρ with
    | bad => rw [hb] at q1; exact q1
    | ex c fs => rw [hb] at q1; exact q1
    | ok d2 =>
      rw [hb] at q1
      intro y H2 Hd2 s2 v2
      have q2 := PoE.step q1 s2
      simp only [ok_bind] at q2
      refine hr W σ H2 Hd2 x y d1 d2 s2.sub (v1.step s1.sub s2) v2 _ ?_
      cases hg : g d1 d2 with
      | bad => rw [hg] at q2; exact q2
      | ex c fs => rw [hg] at q2; exact q2
      | ok z =>
        rw [hg] at q2
        simp only [ok_bind] at q2
        intro u H3 Hd3 s3 v3
        cases v3 with
        | bl k =>
          refine ⟨k, rfl, ?_⟩
          have q3 := PoE.step q2 s3
          cases k with
          | false => exact PoE.at s3.sub q3 (.bl false)
          | true =>
            simp only at q3
            rw [if_pos rfl]
            refine rc _ _ _ _ _ _ (((R.step s1).step s2).step s3) _ ?_
            cases hc : fc ρ with
            | bad => rw [hc] at q3; exact q3
            | ex c fs => rw [hc] at q3; exact q3
            | ok d4 =>
              rw [hc] at q3
              intro w H4 Hd4 s4 v4
              exact hr' W σ H4 Hd4 y w d2 d4 s4.sub ((v2.step s2.sub s3).step s3.sub s4) v4 Q (PoE.step q3 s4)
        | _ => exact q2.elim
theorem se_chain (ho : OpR X (compareOp op) r) (hr : OpS X r g) (ho' : OpR X (compareOp op') r') (hr' : OpS X r' g') (ha : SB X W own a fa) (hb : SB X W own b fb) (hc : SB X W own c fc) (hm : lastMarks [op, op'] [b, c] = false := by with_unfolding_all rfl) :
    SE X W own (.Compare a [op, op'] [b, c] pos) (eChain g g' fa fb fc) := by
  obtain ⟨ta, pa, ra⟩ := ha.ex
  obtain ⟨tb, pb, rb⟩ := hb.ex
  obtain ⟨tc, pc, rc⟩ := hc.ex
  exact ⟨_, pe_chain ho ho' pa pb pc hm, fun H0 Hd0 ρ σ H Hd R Q q => run_chain hr hr' ra rb rc R q⟩
theorem st_chain (ho : OpR X (compareOp op) r) (hr : OpS X r g) (ho' : OpR X (compareOp op') r') (hr' : OpS X r' g') (ha : SB X W own a fa) (hb : SB X W own b fb) (hc : SB X W own c fc) (hm : lastMarks [op, op'] [b, c] = false := by with_unfolding_all rfl) :
    SC X W own (.Compare a [op, op'] [b, c] pos) (tB (eChain g g' fa fb fc)) := by
  obtain ⟨ta, pa, ra⟩ := ha.ex
  obtain ⟨tb, pb, rb⟩ := hb.ex
  obtain ⟨tc, pc, rc⟩ := hc.ex
  exact ⟨_, pt_chain ho ho' pa pb pc hm, fun H0 Hd0 ρ σ H Hd R Q q => run_chain hr hr' ra rb rc R (PoT.of_asB q)⟩
end
/-! ### x += e -/
section
variable {prog : Program} {w : World} {A : Around} {E : Value → Shared → Prop} {s : Shared}
theorem noI_tuple : typeLookup (.type "tuple") (dunderI "add") = pure none := by rw [typeLookup_type, builtinLookup_eq_fast]; kernel_rfl
theorem iconcat_meets {T id : String} {B : Builtin} {a b : Value} {S : Around → (Result → Shared → Prop) → Shared → Prop} {Q : Value → Shared → Prop} (ha : s.TypeIs a T) (hb : s.TypeIs b T) (hno : typeLookup (.type T) (dunderI "add") = pure none)
    (hfill : fillsNumberSlot (.type T) "add" = pure false) (hseq : seqSlot? (.type T) "__add__" = pure (some (.builtin id))) (slot : Slot T "__add__" id)
    (entry : entryFor table id = some B) (args : argsOk id ⟨[a, b], []⟩) (g : Meets (B ⟨[a, b], []⟩) S) (h : S A (wants Q E) s) : wpAny (model prog w) A (inplaceOp .Add a b) Q E s :=
  wpAny_inplaceOp_concat ha hb hno hfill hseq (call_meets slot ha entry args g h)
theorem icat_tup0 {t b : Addr} {ws : List Value} {Q : Value → Shared → Prop} (ht : IsTup s.heap t ([] : List Value).toArray) (hb : IsTup s.heap b ws.toArray) (h : Q (.ref b) s) : wpAny (model prog w) A (inplaceOp .Add (.ref t) (.ref b)) Q E s := by
  obtain ⟨⟨cls, dd, data, sl⟩, ho, hc, n, hd⟩ := id ht
  obtain ⟨⟨cls2, dd2, data2, sl2⟩, ho2, hc2, n2, hd2⟩ := id hb
  simp only at hc hd hc2 hd2
  subst hc hd hc2 hd2
  exact iconcat_meets ⟨_, ho, rfl⟩ ⟨_, ho2, rfl⟩ noI_tuple noFill_tuple_add seq_tuple_add PySem.F.slot_tuple_add PySem.F.entry_tuple_add (PySem.F.args_tuple_add_2 _ _)
    (tuple_addW0 t b ([] : List Value).toArray ws.toArray n n2 dd dd2 sl sl2 (by simp)) ⟨ho, ho2, h⟩
theorem icat_tup {t b : Addr} {vs ws : List Value} {Q : Value → Shared → Prop} (ht : IsTup s.heap t vs.toArray) (hb : IsTup s.heap b ws.toArray) (hv : vs ≠ [])
    (h1 : ws = [] → Q (.ref t) s) (h2 : ws ≠ [] → Q (.ref s.heap.objs.size) { s with heap := s.heap.push { cls := .type "tuple", data := .seq (vs ++ ws).toArray } })
    (hsz : vs.length + ws.length ≤ sizeLine) : wpAny (model prog w) A (inplaceOp .Add (.ref t) (.ref b)) Q E s := by
  obtain ⟨⟨cls, dd, data, sl⟩, ho, hc, n, hd⟩ := id ht
  obtain ⟨⟨cls2, dd2, data2, sl2⟩, ho2, hc2, n2, hd2⟩ := id hb
  simp only at hc hd hc2 hd2
  subst hc hd hc2 hd2
  have e : vs.toArray ++ ws.toArray = (vs ++ ws).toArray := by simp
  by_cases hw : ws = []
  · exact iconcat_meets ⟨_, ho, rfl⟩ ⟨_, ho2, rfl⟩ noI_tuple noFill_tuple_add seq_tuple_add PySem.F.slot_tuple_add PySem.F.entry_tuple_add (PySem.F.args_tuple_add_2 _ _)
      (tuple_addW1 t b vs.toArray ws.toArray n n2 dd dd2 sl sl2 (by simpa using hv) (by simp [hw])) ⟨ho, ho2, h1 hw⟩
  · refine iconcat_meets ⟨_, ho, rfl⟩ ⟨_, ho2, rfl⟩ noI_tuple noFill_tuple_add seq_tuple_add PySem.F.slot_tuple_add PySem.F.entry_tuple_add (PySem.F.args_tuple_add_2 _ _)
      (tuple_addW2 t b vs.toArray ws.toArray n n2 dd dd2 sl sl2 (by simpa using hv) (by simpa using hw) (by rw [List.size_toArray, List.size_toArray]; exact hsz)) ⟨ho, ho2, ?_⟩
    rw [e]
    exact h2 hw
end
theorem iop_catTup {X : Cx} : OpR X (inplaceOp .Add) (rCatA X.K) := by
  intro pins s σ H x y v u Q I rx ry h
  obtain ⟨a, b, xs, ys, rfl, rfl, ha, hb, hz, q0, q1, q2⟩ := h
  cases rx
  cases ry
  obtain ⟨its, r1, p1, _⟩ := I.tuple ha
  obtain ⟨its2, r2, p2, _⟩ := I.tuple hb
  by_cases hx : xs = []
  · subst hx
    cases r1
    exact icat_tup0 p1 p2 ⟨.ref b, H, I, rfl, q0 rfl⟩
  · refine icat_tup p1 p2 (fun z => hx (r1.nil_iff.mp z)) (fun z => ⟨.ref a, H, I, rfl, q1 hx (r2.nil_iff.mp z)⟩) (fun z => ?_) (by rw [← r1.length, ← r2.length]; exact hz)
    refine ⟨.ref s.heap.objs.size, _, I.laid (t' := s.toks) (o := .tup (xs ++ ys)) (fun b ob q => Heap.get?_push_of_some _ q) (Nat.le_refl _) ?_, rfl, q2 hx (fun w => z (r2.nil_iff.mpr w)) _ (I.hok.fresh (Nat.le_refl _))⟩
    exact ⟨by rw [List.length_append]; exact hz, _, r1.append r2, IsTup.new _ _⟩
def rAddI (K : PySem.W.Frag) : R2 := fun x y H Q => (∃ i j, x = .int i ∧ y = .int j ∧ Q (.int (i + j)) H) ∨ (∃ i j, x = .str i ∧ y = .str j ∧ i.length + j.length ≤ sizeLine ∧ Q (.str (i ++ j)) H) ∨ rCatA K x y H Q
theorem iop_catA {X : Cx} : OpR X (inplaceOp .Add) (rAddI X.K) := iop_add.or (iop_add_str.or iop_catTup)
def addI : D → D → Rs D
  | .int a, .int b => .ok (.int (a + b))
  | .str a, .str b => if a.length + b.length ≤ sizeLine then .ok (.str (a ++ b)) else .bad
  | .tuple a, .tuple b => if a.length + b.length ≤ sizeLine then .ok (.tuple (a ++ b)) else .bad
  | _, _ => .bad
theorem addIS {X : Cx} : OpS X (rAddI X.K) addI := by
  intro W σ H Hd x y dx dy s hx hy Q q
  unfold addI at q
  split at q
  · exact .inl ⟨_, _, hx.int, hy.int, PoE.at s q (.int _)⟩
  · split at q
    · exact .inr (.inl ⟨_, _, hx.str, hy.str, by assumption, PoE.at s q (.str _)⟩)
    · exact q.elim
  · rename_i a b
    split at q
    · rename_i hl
      obtain ⟨p, vs, rfl, h1, h2, h3⟩ := hx.tup s
      obtain ⟨p', ws, rfl, k1, k2, k3⟩ := hy.tup s
      refine .inr (.inr ⟨p, p', vs, ws, rfl, rfl, h1, k1, by rw [h2.length, k2.length]; exact hl, fun e => ?_, fun e e2 => ?_, fun e e2 z hz => PoE.newT s q (h2.append k2) hz⟩)
      · subst e
        cases h2
        exact PoE.at s q (.tup k3 k2)
      · subst e2
        cases k2
        rw [List.append_nil] at q
        exact PoE.at s q (.tup h3 h2)
    · exact q.elim
  · exact q.elim
/-! ### the law -/
/-- the law's own promise: of a list of at most 63 numbers it is True -/
def spL (K : PySem.W.Frag) : Sp := fun vs H Q _ => ∃ (a : Addr) (ns : List Int), vs = [.ref a] ∧ SqL K H a (ns.map V.int) ∧ ns.length ≤ 63 ∧ ∀ H', Q (.bl true) H'
theorem dq_ints {K : PySem.W.Frag} {H : Hp} : ∀ ns : List Int, DqAll K H (ns.map V.int) (ns.map PyData.int)
  | [] => .nil
  | z :: zs => .cons (.int z) (dq_ints zs)
theorem law_of {P : Program} {w : World} {K : PySem.W.Frag} {mg : Str → Option Value} {base : Heap} {k : Nat} {f : Addr} {fd : FuncData} {ps : List Str} {fl : Bool} {g : List D → Rs D} (ok : FnOk P w K mg base (L2.CX P w) k f fd ps (spF K mg fl 1 g)) (h : ∀ ns : List Int, ns.length ≤ 63 → g [.list (ns.map PyData.int)] = .ok (.bool true)) :
    FnOk P w K mg base (L2.CX P w) k f fd ps (spL K) := ok.imp fun vs H Q E ⟨a, ns, e, hs, hl, q⟩ => by
  subst e
  refine ⟨rfl, [.list (ns.map PyData.int)], H, (fun _ _ z => z), .cons (.lst hs (dq_ints ns)) .nil, ?_⟩
  rw [h ns hl]
  cases fl with
  | false =>
    intro v H' Hd' s x
    cases x
    exact q H'
  | true =>
    intro v H' Hd' s x
    cases (show Dq K Hd' v (.bool true) from x)
    exact q H'
theorem no_cx {P : Program} {w : World} {H : Hp} {s : Shared} {e : Value} {s' : Shared} (h : L2.CX P w [] H s (fun _ _ _ => False) e s') : False := by
  obtain ⟨_, _, _, _, _, _, _, _, _, _, _, _, z⟩ := h
  exact z.elim
end Wm

set_option Elab.async false
set_option linter.all false
set_option maxRecDepth 100000
/-! WmOps4: defaults, what never runs, new lists by + and [:], lists that change, walks backwards and by pairs. -/
namespace Wm
open PySem PySem.Spec PyProof.Rows L2

/-! ### defs with defaults -/
structure CalD (P : Program) (w : World) (K : PySem.W.Frag) (mg : Str → Option Value) (base : Heap) (k : Nat) (x : Str) (fl : Bool) (n : Nat) (dds : List D) (g : List D → Rs D) : Prop where
  ex : ∃ (f : Addr) (fd : FuncData) (ps : List Str) (dvs : List V) (ds : List Value), FnOk P w K mg base (L2.CX P w) k f fd ps (spF K mg fl n g) ∧ mg x = some (.ref f) ∧ PySem.W.keepIn K (.ref f) = true ∧ Binds K fd ps ds ∧ Vals dvs ds ∧ ∀ H, DqAll K H dvs dds
/-- as fnok_of, of a def with defaults -/
theorem fnok_ofD {P : Program} {w : World} {K : PySem.W.Frag} {mg : Str → Option Value} {base : Heap} {x qual : Str} {params : Arguments} {bd : List Stmt} {sc : Scope} {dvs : List V} {kws : List (Str × V)} {f : Addr} {fd : FuncData} {N ps : List Str} {k n : Nat} {fl : Bool} {fb : En → Out}
    (F : FunD K x qual params bd sc dvs kws f fd) (S : FnScope N ps sc) (hn : ps.length = n)
    (body : ∀ (cdv : Value) (A : Around) (outer : List Env) (s : Shared) (H : Hp) (E : XK), Cxt (cxOf (L2.CX P w) P w K mg base N qual sc f cdv A outer s H E) (fun cls d _ H => E cls d H) k →
      ∃ own', SSs (cxOf (L2.CX P w) P w K mg base N qual sc f cdv A outer s H E) (fun cls d _ H => E cls d H) (.of fl) [] [] bd fb own') :
    FnOk P w K mg base (L2.CX P w) (k + 1) f fd ps (spF K mg fl n (runF N.length fb)) := by
  refine F.ok S (fun vs H Q E h => by rw [hn]; exact h.1) (fun cdv A outer s H vs Q E hr h => ?_)
  obtain ⟨hl, ds, Hd, sub, dp, q⟩ := h
  have C : Cxt (cxOf (L2.CX P w) P w K mg base N qual sc f cdv A outer s H E) (fun cls d _ H => E cls d H) k :=
    ⟨rfl, takes_of rfl rfl rfl rfl, passes_of rfl, S.nd, hr⟩
  obtain ⟨own', B⟩ := body cdv A outer s H E C
  obtain ⟨t, p, r⟩ := B.ex
  refine ⟨t, p, r ⟨H, fun _ => none⟩ Hd _ _ H Hd (Rel.start (N := N) sub dp) _ ?_⟩
  unfold runF at q
  cases hf : fb (ds.map some ++ List.replicate (N.length - ds.length) none) with
  | nx ρ =>
    rw [hf] at q
    intro σ' H' Hd' R
    cases fl with
    | false => exact q .non H' Hd' R.st .non
    | true => exact q .non H' Hd' R.st .non
  | rt d =>
    rw [hf] at q
    cases fl with
    | false => exact fun v H' Hd' s x => q v H' Hd' s x
    | true => exact fun v H' Hd' s x => q v H' Hd' s x
  | ex c fs ρ =>
    rw [hf] at q
    exact fun cls a σ' H' Hd' R x => q cls a H' Hd' R.st x
  | bk ρ => rw [hf] at q; exact q.elim
  | ct ρ => rw [hf] at q; exact q.elim
  | bad => rw [hf] at q; exact q.elim
  | rx d ρ => rw [hf] at q; exact q.elim
section
variable {P : Program} {w : World} {K : PySem.W.Frag} {mg : Str → Option Value} {base : Heap} {x qual : Str} {params : Arguments} {bd : List Stmt} {sc : Scope} {dvs : List V} {f : Addr} {fd : FuncData} {ps : List Str} {k n : Nat} {fl : Bool} {g : List D → Rs D}
/-- all arguments are given -/
theorem cal_all (F : FunD K x qual params bd sc dvs [] f fd) (ok : FnOk P w K mg base (L2.CX P w) k f fd ps (spF K mg fl n g)) (hm : mg x = some (.ref f)) (hd : dvs ≠ [])
    (h : ∀ (T : Addr) (kV doc pm : Value) (an : Option Addr) (cdv ct : Value) (us its : List Value), us.length = ps.length → its.length = dvs.length →
      ∃ k, bindArgs (PySem.W.fnOf x qual params bd sc (.ref T) kV doc pm an cdv ct) ⟨us, []⟩ = seqItems? (.ref T) >>= k ∧ k (some its.toArray) = pure (ps.zip (us ++ its.drop dvs.length))) : Cal P w K mg base k x fl n g := by
  obtain ⟨ds, h1, h2⟩ := F.binds1 (ps := ps) ps.length dvs.length hd (by simp) h
  rw [List.drop_length] at h1
  cases h1
  exact ⟨f, fd, ps, ok, hm, F.kp, h2⟩
/-- the last ones are left out -/
theorem cal_some (j m : Nat) {dds : List D} (F : FunD K x qual params bd sc dvs [] f fd) (ok : FnOk P w K mg base (L2.CX P w) k f fd ps (spF K mg fl n g)) (hm : mg x = some (.ref f)) (hd : dvs ≠ []) (hn : m + (dvs.length - j) = ps.length) (hq : ∀ H, DqAll K H (dvs.drop j) dds)
    (h : ∀ (T : Addr) (kV doc pm : Value) (an : Option Addr) (cdv ct : Value) (us its : List Value), us.length = m → its.length = dvs.length →
      ∃ k, bindArgs (PySem.W.fnOf x qual params bd sc (.ref T) kV doc pm an cdv ct) ⟨us, []⟩ = seqItems? (.ref T) >>= k ∧ k (some its.toArray) = pure (ps.zip (us ++ its.drop j))) : CalD P w K mg base k x fl n dds g := by
  obtain ⟨ds, h1, h2⟩ := F.binds1 (ps := ps) m j hd hn h
  exact ⟨f, fd, ps, _, ds, ok, hm, F.kp, h2, h1, hq⟩
theorem funD_mk {T : Addr} {o : Obj} {its : List Value} {m : Nat} {oc : Value} {od an : Option Addr} {osl : Array (Option Value)} {kV doc pm cdv ct : Value} (dvs : List V) (l : K.lookup f = some ⟨oc, od, .func (PySem.W.fnOf x qual params bd sc (.ref T) kV doc pm an cdv ct), osl⟩)
    (c : PySem.W.codeIn K cdv qual = true) (k : PySem.W.keepIn K (.ref f) = true) (lT : K.lookup T = some o) (oT : o.data = .seq its.toArray m) (hv : Vals dvs its) (hd : dvs ≠ []) : FunD K x qual params bd sc dvs [] f (PySem.W.fnOf x qual params bd sc (.ref T) kV doc pm an cdv ct) :=
  ⟨⟨oc, od, .ref T, kV, doc, pm, an, cdv, ct, osl, rfl, l, c, .inr ⟨hd, T, o, its, m, rfl, lT, oT, hv⟩, .inl rfl⟩, k⟩
end
section
variable {X : Cx} {W : WX} {own : List Nat} {k j n : Nat} {x : Str} {gf : List D → Rs D} {e : Expr} {es : List Expr} {fa : En → Rs (List D)} {p pos : Pos}
def eCallD (n : Nat) (dds : List D) (g : List D → Rs D) (fa : En → Rs (List D)) : En → Rs D := fun ρ => fa ρ >>= fun ds => if ds.length + dds.length = n then g (ds ++ dds) else .bad
theorem se_callD {dds : List D} (C : Cxt X W k) (F : CalD X.prog X.w X.K X.mg X.base j x false n dds gf) (ha : SA X W own (e :: es) fa) (hj : j ≤ k := by decide) (hg : Gl X x := by rfl) (hdb : (x == ("__debug__" : Str)) = false := by rfl) (he : starEach (e :: es) X.env = (false, eval e X.env) :: starEach es X.env := by rfl) (hpl : (backTo pos (starEach es X.env)).any (·.1) = false := by rfl) :
    SE X W own (.Call (.Name x p) (e :: es) [] pos) (eCallD n dds gf fa) := by
  obtain ⟨f, fd, ps, dvs, dsv, ok, hm, hk, hb, hv, hq⟩ := F.ex
  obtain ⟨ta, pa, ra⟩ := ha.ex
  refine ⟨_, pe_callSD ok (C.room.mono hj) hg hm hk hb hv (fun σ => passAt C.tk σ) pa hdb he hpl, fun H0 Hd0 ρ σ H Hd R Q q => ?_⟩
  refine ra _ _ _ _ _ _ R _ ?_
  unfold eCallD at q
  cases hf : fa ρ with
  | bad => rw [hf] at q; exact q
  | ex c fs => rw [hf] at q; exact q
  | ok ds =>
    simp only [hf, ok_bind] at q
    intro vs H1 Hd1 s1 xs
    by_cases hl : ds.length + dds.length = n
    · rw [if_pos hl] at q
      refine ⟨by rw [List.length_append, xs.length, (hq H).length]; exact hl, ds ++ dds, Hd1, s1.sub, xs.append (hq Hd1), ?_⟩
      have q1 := PoE.step q s1
      cases hg : gf (ds ++ dds) with
      | ok d => rw [hg] at q1; exact q1
      | ex c fs => rw [hg] at q1; exact q1
      | bad => rw [hg] at q1; exact q1
    · rw [if_neg hl] at q; exact q.elim
end

/-! ### what never runs -/
def sBad : En → Out := fun _ => .bad
theorem ss_never {X : Cx} {W : WX} {fl : Md} {L own own' : List Nat} {st : Stmt} : SS X W fl L own st sBad own' := ⟨_, ps_never, fun _ _ _ _ _ _ _ _ q => q⟩

/-! ### new lists by +, [a:b] -/
def OpM (X : Cx) (r : R2) (g : D → D → Rs D) : Prop := ∀ W σ H Hd x y dx dy, Same Hd H → Dv X.K H Hd x dx → Dv X.K H Hd y dy → ∀ Q, PoM X W σ H Hd (g dx dy) Q → r x y H Q
def addL : D → D → Rs D
  | .list a, .list b => if a.length + b.length ≤ sizeLine then .ok (.list (a ++ b)) else .bad
  | _, _ => .bad
theorem addM {X : Cx} : OpM X (rCatL X.K) addL := by
  intro W σ H Hd x y dx dy s hx hy Q q
  unfold addL at q
  split at q
  · rename_i a b
    split at q
    · rename_i hl
      obtain ⟨p, vs, rfl, _, h2, h1⟩ := hx.lst s
      obtain ⟨p', ws, rfl, _, k2, k1⟩ := hy.lst s
      exact ⟨p, p', vs, ws, rfl, rfl, h1, k1, by rw [h2.length, k2.length]; exact hl, fun z hz => PoM.newL s q (h2.append k2) hz⟩
    · exact q.elim
  · exact q.elim
section
variable {X : Cx} {W : WX} {own : List Nat} {a b e : Expr} {fa fb f : En → Rs D} {pos p2 : Pos} {lo hi : Option Expr} {fl fh : En → Rs (Option Int)}
theorem sm_op {op : Operator} {r : R2} {g : D → D → Rs D} (ho : OpR X (binaryOp op) r) (hr : OpM X r g) (ha : SB X W own a fa) (hb : SB X W own b fb) : SM X W own (.BinOp a op b pos) (e2 g fa fb) := by
  obtain ⟨ta, pa, ra⟩ := ha.ex
  obtain ⟨tb, pb, rb⟩ := hb.ex
  refine ⟨_, pe_op ho pa pb, fun H0 Hd0 ρ σ H Hd R Q q => ?_⟩
  refine ra _ _ _ _ _ _ R _ ?_
  unfold e2 at q
  cases ha : fa ρ with
  | bad => rw [ha] at q; exact q
  | ex c fs => rw [ha] at q; exact q
  | ok d1 =>
    rw [ha] at q
    intro x H1 Hd1 s1 v1
    refine rb _ _ _ _ _ _ (R.step s1) _ ?_
    have q1 : PoM X W σ H1 Hd1 (fb ρ >>= fun y => g d1 y) Q := PoM.step q s1
    cases hb : fb ρ with
    | bad => rw [hb] at q1; exact q1
    | ex c fs => rw [hb] at q1; exact q1
    | ok d2 =>
      rw [hb] at q1
      intro y H2 Hd2 s2 v2
      exact hr W σ H2 Hd2 x y d1 d2 s2.sub (v1.step s1.sub s2) v2 Q (PoM.step q1 s2)
def slM : D → Option Int → Option Int → Rs D
  | .list ds, lo, hi => .ok (.list (cutL ds lo hi))
  | _, _, _ => .bad
def eSlM (f : En → Rs D) (lo hi : En → Rs (Option Int)) : En → Rs D := fun ρ => f ρ >>= fun d => lo ρ >>= fun l => hi ρ >>= fun h => slM d l h
theorem sm_slice (he : SB X W own e f) (hl : SO X W own lo fl) (hh : SO X W own hi fh) : SM X W own (.Subscript e (.Slice lo hi none p2) pos) (eSlM f fl fh) := by
  obtain ⟨t, p, r⟩ := he.ex
  obtain ⟨tl, pl, rl⟩ := hl.ex
  obtain ⟨th, ph, rh⟩ := hh.ex
  refine ⟨_, pe_slice sl_list p pl ph, fun H0 Hd0 ρ σ H Hd R Q q => ?_⟩
  refine r _ _ _ _ _ _ R _ ?_
  unfold eSlM at q
  cases hf : f ρ with
  | bad => rw [hf] at q; exact q
  | ex c fs => rw [hf] at q; exact q
  | ok d =>
    rw [hf] at q
    intro x H1 Hd1 s1 v1
    refine rl _ _ _ _ _ _ (R.step s1) _ ?_
    have q1 : PoM X W σ H1 Hd1 (fl ρ >>= fun l => fh ρ >>= fun h => slM d l h) Q := PoM.step q s1
    cases hg : fl ρ with
    | bad => rw [hg] at q1; exact q1
    | ex c fs => rw [hg] at q1; exact q1
    | ok l =>
      rw [hg] at q1
      intro H2 Hd2 s2
      refine rh _ _ _ _ _ _ ((R.step s1).step s2) _ ?_
      have q2 : PoM X W σ H2 Hd2 (fh ρ >>= fun h => slM d l h) Q := PoM.step q1 s2
      cases hk : fh ρ with
      | bad => rw [hk] at q2; exact q2
      | ex c fs => rw [hk] at q2; exact q2
      | ok h =>
        rw [hk] at q2
        intro H3 Hd3 s3
        have q3 : PoM X W σ H3 Hd3 (slM d l h) Q := PoM.step (r := slM d l h) q2 s3
        have v3 := (v1.step s1.sub s2).step s2.sub s3
        unfold slM at q3
        split at q3
        · obtain ⟨p, vs, rfl, h1, h2, _⟩ := v3.lst s3.sub
          exact ⟨p, vs, rfl, h1, fun z hz => PoM.newL s3.sub q3 (dqAll_cut h2 _ _) hz⟩
        · exact q3.elim
/-- list(range(n)) -/
def lrgD : D → Rs D
  | .int n => if n ≤ 100000 ∧ -100000 ≤ n then .ok (.list (rangeD 0 n.toNat)) else .bad
  | _ => .bad
def eLRg (f : En → Rs D) : En → Rs D := fun ρ => f ρ >>= lrgD
theorem dq_range {K : PySem.W.Frag} {H : Hp} (lo : Int) : ∀ (n : Nat), DqAll K H ((List.range n).map fun i => V.int (lo + (i : Nat))) (rangeD lo n) := fun n => by
  unfold rangeD
  generalize List.range n = l
  induction l with
  | nil => exact .nil
  | cons a l ih => exact .cons (.int _) ih
theorem sm_lrg {q1 q2 q3 q4 : Pos} (h : SE X W own e f) (hc : X.calm = true) (hml : X.mg "list" = none) (hmr : X.mg "range" = none) (hgl : Gl X "list" := by rfl) (hgr : Gl X "range" := by rfl)
    (na : starEach [e] X.env = (false, eval e X.env) :: starEach [] X.env := by rfl) (na2 : starEach [.Call (.Name "range" q1) [e] [] q2] X.env = (false, eval (.Call (.Name "range" q1) [e] [] q2) X.env) :: starEach [] X.env := by rfl) :
    SM X W own (.Call (.Name "list" q3) [.Call (.Name "range" q1) [e] [] q2] [] q4) (eLRg f) := by
  obtain ⟨t, p, r⟩ := h.ex
  refine ⟨_, pe_listRg hc hgl hml (prg_1 hgr hmr p na) na2, fun H0 Hd0 ρ σ H Hd R Q q => ?_⟩
  refine r _ _ _ _ _ _ R _ ?_
  unfold eLRg at q
  cases hf : f ρ with
  | bad => rw [hf] at q; exact q
  | ex c fs => rw [hf] at q; exact q
  | ok d =>
    rw [hf] at q
    intro v H1 Hd1 s1 x
    have q1 : PoM X W σ H1 Hd1 (lrgD d) Q := PoM.step (r := lrgD d) q s1
    unfold lrgD at q1
    cases x with
    | int n =>
      simp only at q1
      split at q1
      · rename_i hn
        refine ⟨n, rfl, ?_, fun z hz => ?_⟩
        · exact ⟨by omega, by omega, by omega, by omega, by omega⟩
        · have e : rgV 0 n = (List.range n.toNat).map fun i => V.int (0 + (i : Nat)) := by
            unfold rgV
            rw [show (n - 0).toNat = n.toNat by omega]
          rw [e]
          exact PoM.newL s1.sub q1 (dq_range 0 _) hz
      · exact q1.elim
    | _ => exact q1.elim
end

/-! ### lists that change -/
section
variable {X : Cx} {W : WX} {fl : Md} {L own own' : List Nat} {e ix : Expr} {fe fi : En → Rs D} {pos pos' apos cpos p2 : Pos} {k : Nat}
/-- x.reverse() -/
def sRev (i : Nat) : En → Out := fun ρ => oL (getL ρ i) fun ds => .nx (ρ.set i (some (.list ds.reverse)))
theorem DqAll.reverse {K : PySem.W.Frag} {H : Hp} : ∀ {vs : List V} {ds : List D}, DqAll K H vs ds → DqAll K H vs.reverse ds.reverse
  | _, _, .nil => .nil
  | _, _, .cons a r => by
    rw [List.reverse_cons, List.reverse_cons]
    exact (DqAll.reverse r).append (.cons a .nil)
theorem ss_rev (i : Nat) {x : Str} (ho : (own.contains i && decide (i < 100)) = true := by rfl) (one : oneC own i = true := by rfl) (hN : X.N[i]? = some x := by rfl) (hv : Vis X.env.scope x := by first | exact Or.inl rfl | exact Or.inr (Or.inl rfl) | exact Or.inr (Or.inr rfl))
    (hd : (x == ("__debug__" : Str)) = false := by rfl) (hcd : (x == ("__classdict__" : Str)) = false := by rfl)
    (hbase : attributeBase (.Name x pos') "reverse" X.env (eval (.Name x pos') X.env) = eval (.Name x pos') X.env := by rfl) (hline : (apos.endLine == cpos.line) = true := by rfl)
    (hsw : swapsWith (.Call (.Attribute (.Name x pos') "reverse" apos) [] [] cpos) none pos.line X.env = pure false := by rfl) :
    SS X W fl L own (.Expr (.Call (.Attribute (.Name x pos') "reverse" apos) [] [] cpos) pos) (sRev i) own := by
  refine ⟨_, ps_expr (pe_bm0 PySem.F.plainAttrs_list PySem.F.slot_list_reverse PySem.F.type_list_reverse (r := rReverse) (fun pins s σ H x xs v us Q I rx rxs h => mt_reverse pins s σ H x xs v us Q I rx rxs h) (pe_var hN hv hd hcd) hbase hline) hsw, fun H0 Hd0 ρ σ H Hd R Dn q => ?_⟩
  unfold sRev oL at q
  cases hg : getL ρ i with
  | none => rw [hg] at q; exact q.elim
  | some ds =>
    rw [hg] at q
    obtain ⟨a, vs, h2, h3, h4, h5⟩ := own_at R ho (getL_some hg)
    exact ⟨.ref a, h2, .inl ⟨rfl, vs, .inl (.inl h3)⟩, a, vs, rfl, rfl, h3, q _ _ _ (R.mut (List.contains_iff_mem.mp (Bool.and_eq_true_iff.mp ho).1) (of_decide_eq_true (Bool.and_eq_true_iff.mp ho).2) one (getL_some hg) h2 h5.reverse)⟩
/-- x[i] = e -/
def itK (i : Nat) (ρ : En) (d : D) (ds : List D) : D → Out
  | .int z => (match ixN ds.length z with
    | some j => .nx (ρ.set i (some (.list (ds.set j d))))
    | none => .bad)
  | _ => .bad
def sItm (i : Nat) (fi fe : En → Rs D) : En → Out := fun ρ => oBind (fe ρ) ρ fun d => oL (getL ρ i) fun ds => oBind (fi ρ) ρ (itK i ρ d ds)
theorem ss_itm (i : Nat) {x : Str} (h : SE X W own e fe) (hi : SE X W own ix fi) (ho : (own.contains i && decide (i < 100)) = true := by rfl) (one : oneC own i = true := by rfl) (hN : X.N[i]? = some x := by rfl) (hv : Vis X.env.scope x := by first | exact Or.inl rfl | exact Or.inr (Or.inl rfl) | exact Or.inr (Or.inr rfl))
    (hd : (x == ("__debug__" : Str)) = false := by rfl) (hcd : (x == ("__classdict__" : Str)) = false := by rfl)
    (ha : ∀ v, assign (.Subscript (.Name x pos') ix p2) X.env v = (do
      let ov ← holding [v] (eval (.Name x pos') X.env)
      let iv ← holding [v, ov] (eval ix X.env)
      standAt p2
      holding [v, ov, iv] (setItem ov iv v)
      release [v, ov, iv] []) := by intro _; rfl)
    (hs : swapsWithSole [.Subscript (.Name x pos') ix p2] e pos.line X.env = pure false := by rfl) (hw : swappedStores [.Subscript (.Name x pos') ix p2] e X.env = pure none := by rfl)
    (h1 : (assignEach [.Subscript (.Name x pos') ix p2] X.env).map (·.2) = [assign (.Subscript (.Name x pos') ix p2) X.env] := by rfl) (hE : okE fl own = true := by rfl) :
    SS X W fl L own (.Assign [.Subscript (.Name x pos') ix p2] e pos) (sItm i fi fe) own := by
  obtain ⟨t, p, r⟩ := h.ex
  obtain ⟨ti, pi, ri⟩ := hi.ex
  refine ⟨_, ps_asg p (pg_sub (pe_var hN hv hd hcd) pi set_list ha) hs hw h1, fun H0 Hd0 ρ σ H Hd R Dn q => ?_⟩
  refine r _ _ _ _ _ _ R _ ?_
  unfold sItm at q
  cases he : fe ρ with
  | bad => rw [he] at q; exact q
  | ex c fs => rw [he] at q; exact fun cls a H' Hd' s x => exc_of R q s x hE
  | ok d =>
    rw [he] at q
    simp only [oBind_ok] at q
    intro v H1 Hd1 s1 dv
    unfold oL at q
    cases hg : getL ρ i with
    | none => rw [hg] at q; exact q.elim
    | some ds =>
      rw [hg] at q
      simp only at q
      have R1 := R.step s1
      obtain ⟨a, vs, h2, h3, h4, h5⟩ := own_at R1 ho (getL_some hg)
      refine ⟨.ref a, h2, ?_⟩
      refine ri _ _ _ _ _ _ R1 _ ?_
      cases hz : fi ρ with
      | bad => rw [hz] at q; exact q
      | ex c fs => rw [hz] at q; exact fun cls a H' Hd' s x => exc_of R1 q s x hE
      | ok z =>
        rw [hz] at q
        simp only [oBind_ok] at q
        intro y H2 Hd2 s2 dy
        unfold itK at q
        split at q
        · cases dy
          split at q
          · rename_i j hj
            rw [← h5.length] at hj
            exact ⟨a, vs, _, j, rfl, rfl, s2.up _ _ h3, hj, q _ _ _ ((R1.step s2).mut (List.contains_iff_mem.mp (Bool.and_eq_true_iff.mp ho).1) (of_decide_eq_true (Bool.and_eq_true_iff.mp ho).2) one (getL_some hg) h2 ((dqAll_mono s2.keep h5).set (dq_mono s2.keep dv) j))⟩
          · exact q.elim
        · exact q.elim
end

/-! ### walks backwards, by pairs -/
section
variable {X : Cx} {W : WX} {own : List Nat} {tg e e2 : Expr} {f f2 : En → Rs D} {p pos tpos : Pos} {elts : List Expr} {kk : Nat}
theorem walk_revT {K : PySem.W.Frag} {a : Addr} {xs : List V} : Walk (RT.ItvT K a xs.length) xs.length (fun H => SqT K H a xs) (fun i H x H' => H' = H ∧ xs[xs.length - 1 - i]? = some x) :=
  ⟨fun i _ hi q => ⟨hi, xs, xs[xs.length - 1 - i]'(by omega), q, by simp [show xs.length - 1 - i < xs.length by omega]⟩, fun _ _ => Nat.le_refl _, fun _ _ _ _ _ q y => ⟨y.1, y.2 xs q⟩⟩
theorem rev_get {α : Type} {l : List α} {i : Nat} {d : α} (h : l.reverse[i]? = some d) : i < l.length ∧ l[l.length - 1 - i]? = some d := by
  obtain ⟨hl, _⟩ := List.getElem?_eq_some_iff.mp h
  rw [List.length_reverse] at hl
  rw [List.getElem?_reverse hl] at h
  exact ⟨hl, h⟩
theorem walks_rev {K : PySem.W.Frag} {a : Addr} {vs : List V} {ds : List D} {Hd1 : Hp} (h : SqL K Hd1 a vs) (r : DqAll K Hd1 vs ds) : Walks K (Itv K a vs.length) ds.reverse Hd1 :=
  walks_of walk_rev (fun i H hi q => hi) (by rw [List.length_reverse]; exact r.length.symm) (fun H Hd u s => Same.seq s (Same.seq u h)) fun H Hd u s i d hd x H' y => by
    obtain ⟨rfl, y⟩ := y
    obtain ⟨_, hd⟩ := rev_get hd
    rw [r.length] at y
    exact ⟨Hd, .refl s, dq_mono u (r.get' hd y)⟩
theorem walks_revT {K : PySem.W.Frag} {a : Addr} {vs : List V} {ds : List D} {Hd1 : Hp} (h : SqT K Hd1 a vs) (r : DqAll K Hd1 vs ds) : Walks K (RT.ItvT K a vs.length) ds.reverse Hd1 :=
  walks_of walk_revT (fun i H hi q => hi) (by rw [List.length_reverse]; exact r.length.symm) (fun H Hd u s => sqt_same s (sqt_same u h)) fun H Hd u s i d hd x H' y => by
    obtain ⟨rfl, y⟩ := y
    obtain ⟨_, hd⟩ := rev_get hd
    rw [r.length] at y
    exact ⟨Hd, .refl s, dq_mono u (r.get' hd y)⟩
def iRev : D → Rs (List D)
  | .list ds => .ok ds.reverse
  | .tuple ds => .ok ds.reverse
  | _ => .bad
theorem si_rev (h : SE X W own e f) (hm : X.mg "reversed" = none) (hg : Gl X "reversed" := by rfl) (hs : starEach [e] X.env = (false, eval e X.env) :: starEach [] X.env := by rfl) : SI X W own tg (.Call (.Name "reversed" p) [e] [] pos) (eIt iRev f) := by
  obtain ⟨t, pp, r⟩ := h.ex
  refine ⟨_, RT.pi_revA hg hm pp hs, fun H0 Hd0 ρ σ H Hd R Q q => ?_⟩
  refine r _ _ _ _ _ _ R _ ?_
  unfold eIt at q
  cases hf : f ρ with
  | bad => rw [hf] at q; exact q
  | ex c fs => rw [hf] at q; exact q
  | ok d =>
    rw [hf] at q
    intro v H1 Hd1 s1 x
    have q1 : PoI X W σ H1 Hd1 (iRev d) Q := PoI.step q s1
    unfold iRev at q1
    cases x with
    | lst h r => exact ⟨_, _, rfl, .inl ⟨Same.seq s1.sub h, q1 _ H1 Hd1 (.refl s1.sub) (walks_rev h r)⟩⟩
    | tup h r => exact ⟨_, _, rfl, .inr ⟨sqt_same s1.sub h, q1 _ H1 Hd1 (.refl s1.sub) (walks_revT h r)⟩⟩
    | _ => exact q1.elim
/-- pairs -/
theorem pair_step {K : PySem.W.Frag} {H Hd : Hp} {T : Addr} {x y : V} {a b : D} (s : Same Hd H) (n : H T = none) (hx : Dq K Hd x a) (hy : Dq K Hd y b) : ∃ Hd', Step H Hd (upd H T (.tup [x, y])) Hd' ∧ Dq K Hd' (.ref T) (.tuple [a, b]) := by
  have n2 : Same Hd (upd Hd T (.tup [x, y])) := same_upd (none_of_same s n)
  exact ⟨_, .new s n, .tup (.inl (.inl upd_same)) (.cons (dq_mono n2 hx) (.cons (dq_mono n2 hy) .nil))⟩
def enumFrom : Nat → List D → List D
  | _, [] => []
  | i, d :: ds => .tuple [.int (i : Nat), d] :: enumFrom (i + 1) ds
theorem enum_len : ∀ (i : Nat) (ds : List D), (enumFrom i ds).length = ds.length
  | _, [] => rfl
  | i, d :: ds => by simp [enumFrom, enum_len (i + 1) ds]
theorem enum_get : ∀ {ds : List D} {i j : Nat} {d : D}, (enumFrom i ds)[j]? = some d → ∃ e, ds[j]? = some e ∧ d = .tuple [.int ((i + j : Nat) : Int), e]
  | [], _, _, _, h => by simp [enumFrom] at h
  | e :: ds, i, 0, d, h => by simp [enumFrom] at h; exact ⟨e, rfl, by simp [← h]⟩
  | e :: ds, i, j + 1, d, h => by
    obtain ⟨e', h1, h2⟩ := enum_get (ds := ds) (i := i + 1) (j := j) (by simpa [enumFrom] using h)
    exact ⟨e', by simpa using h1, by rw [h2, show i + 1 + j = i + (j + 1) by omega]⟩
def zipD (a b : List D) : List D := (a.zip b).map fun p => .tuple [p.1, p.2]
def iEnum : D → Rs (List D)
  | .list ds => .ok (enumFrom 0 ds)
  | _ => .bad
theorem walks_enum {K : PySem.W.Frag} {a : Addr} {vs : List V} {ds : List D} {Hd1 : Hp} (h : SqL K Hd1 a vs) (r : DqAll K Hd1 vs ds) : Walks K (Ite K a) (enumFrom 0 ds) Hd1 :=
  walks_of walk_enum (fun i H hi q => ⟨vs, q, hi⟩) (by rw [enum_len]; exact r.length.symm) (fun H Hd u s => Same.seq s (Same.seq u h)) fun H Hd u s i d hd x H' y => by
    obtain ⟨T, x1, y1, rfl, hT, rfl, e1, e2⟩ := y
    obtain ⟨e', he, rfl⟩ := enum_get hd
    cases e1
    rw [Nat.zero_add]
    exact pair_step s hT (.int _) (dq_mono u (r.get' he e2))
theorem si_enum (h : SE X W own e f) (hm : X.mg "enumerate" = none) (hg : Gl X "enumerate" := by rfl) (hs : starEach [e] X.env = [(false, eval e X.env)] := by rfl) (hs' : starEach [e] X.env = (false, eval e X.env) :: starEach [] X.env := by rfl) :
    SI X W own (.Tuple elts kk tpos) (.Call (.Name "enumerate" p) [e] [] pos) (eIt iEnum f) := by
  obtain ⟨t, pp, r⟩ := h.ex
  refine ⟨_, pi_enum hg hm (pa_cons pp pa_nil hs') hs, fun H0 Hd0 ρ σ H Hd R Q q => ?_⟩
  refine r _ _ _ _ _ _ R _ ?_
  unfold eIt at q
  cases hf : f ρ with
  | bad => rw [hf] at q; exact q
  | ex c fs => rw [hf] at q; exact q
  | ok d =>
    rw [hf] at q
    intro v H1 Hd1 s1 x
    have q1 : PoI X W σ H1 Hd1 (iEnum d) Q := PoI.step q s1
    unfold iEnum at q1
    cases x with
    | lst h r => exact ⟨_, _, rfl, Same.seq s1.sub h, q1 _ H1 Hd1 (.refl s1.sub) (walks_enum h r)⟩
    | _ => exact q1.elim
end
end Wm

set_option Elab.async false
set_option linter.all false
set_option maxRecDepth 100000
/-! WmOps5: xs[a:b:c] of lists. -/
namespace Wm
open PySem PySem.Spec PyProof.Rows L2
def pickL {α : Type} (ds : List α) (lo hi st : Option Int) : List α :=
  (sliceRange (sliceBounds lo hi st ds.length).1 (sliceBounds lo hi st ds.length).2.1 (sliceBounds lo hi st ds.length).2.2).filterMap (ds[·]?)
theorem pick_len {α : Type} (ds : List α) : ∀ idx : List Nat, (idx.filterMap (ds[·]?)).length = (idx.filter (fun i => decide (i < ds.length))).length
  | [] => rfl
  | i :: idx => by
    have ih := pick_len ds idx
    by_cases h : i < ds.length
    · rw [List.filterMap_cons_some (b := ds[i]) (by simp [h]), List.filter_cons_of_pos (by simpa using h), List.length_cons, List.length_cons, ih]
    · rw [List.filterMap_cons_none (by simp; omega), List.filter_cons_of_neg (by simpa using h), ih]
theorem pickL_len {α : Type} (ds : List α) (lo hi st : Option Int) : (pickL ds lo hi st).length ≤ ds.length := by
  have h := slicePick_size_le (List.replicate ds.length Value.none).toArray lo hi st
  unfold slicePick at h
  simp only [List.size_toArray, List.length_replicate, List.getElem?_toArray] at h
  rw [pick_len, List.length_replicate] at h
  unfold pickL
  rw [pick_len]
  exact h
theorem pickL_mem {α : Type} {ds : List α} {lo hi st : Option Int} {x : α} (h : x ∈ pickL ds lo hi st) : x ∈ ds := by
  unfold pickL at h
  obtain ⟨i, _, hi⟩ := List.mem_filterMap.mp h
  exact List.mem_of_getElem? hi
theorem pickL_map {α β : Type} (f : α → β) (ds : List α) (lo hi st : Option Int) : pickL (ds.map f) lo hi st = (pickL ds lo hi st).map f := by
  unfold pickL
  rw [List.length_map, List.map_filterMap]
  congr 1
  funext i
  simp
theorem dqAll_pick {K : PySem.W.Frag} {H : Hp} {vs : List V} {ds : List D} (h : DqAll K H vs ds) : ∀ idx : List Nat, DqAll K H (idx.filterMap (vs[·]?)) (idx.filterMap (ds[·]?))
  | [] => .nil
  | i :: idx => by
    have ih := dqAll_pick h idx
    have hl := h.length
    cases hd : ds[i]? with
    | none =>
      have : vs[i]? = none := by rw [List.getElem?_eq_none_iff] at hd ⊢; omega
      rw [List.filterMap_cons_none hd, List.filterMap_cons_none this]
      exact ih
    | some d =>
      obtain ⟨v, e1, e2⟩ := h.get hd
      rw [List.filterMap_cons_some hd, List.filterMap_cons_some e1]
      exact .cons e2 ih
theorem vals_pick {vs : List V} {us : List Value} (h : Vals vs us) : ∀ idx : List Nat, Vals (idx.filterMap (vs[·]?)) (idx.filterMap (us[·]?))
  | [] => .nil
  | i :: idx => by
    have ih := vals_pick h idx
    have get : ∀ {vs : List V} {us : List Value}, Vals vs us → ∀ i : Nat, (vs[i]? = none ∧ us[i]? = none) ∨ ∃ v u, vs[i]? = some v ∧ us[i]? = some u ∧ RelV v u := by
      intro vs us h
      induction h with
      | nil => intro i; exact .inl ⟨rfl, rfl⟩
      | cons a r ih =>
        intro i
        cases i with
        | zero => exact .inr ⟨_, _, rfl, rfl, a⟩
        | succ i => simpa using ih i
    rcases get h i with ⟨e1, e2⟩ | ⟨v, u, e1, e2, r⟩
    · rw [List.filterMap_cons_none e1, List.filterMap_cons_none e2]; exact ih
    · rw [List.filterMap_cons_some e1, List.filterMap_cons_some e2]; exact .cons r ih
/-- xs[a:b:c], c a number -/
def tStL (K : PySem.W.Frag) (c : Int) (te : TE) (tl th : TO) : TE := fun σ H Q => te σ H fun x H1 => tl σ H1 fun lo H2 => th σ H2 fun hi H3 => ∃ a xs, x = .ref a ∧ SqL K H3 a xs ∧ ∀ p, H3 p = none → Q (.ref p) (upd H3 p (.lst (pickL xs lo hi (some c))))
section
variable {X : Cx} {W : WX} {own : List Nat} {e : Expr} {te : TE} {lo hi : Option Expr} {tl th : TO} {pos p1 p2 p3 : Pos} {c : Int} {k : Nat}
theorem pe_stL (he : PE X e te) (hl : PO X lo tl) (hu : PO X hi th) (hc : c ≠ 0) : PE X (.Subscript e (.Slice lo hi (some (.Constant (.int c) k p1)) p3) pos) (tStL X.K c te tl th) := by
  refine ⟨fun pins s σ H Q I h => ?_⟩
  refine Subscript_ (thn (he.run pins s σ H _ I h) fun v s1 ⟨x, H1, I1, r1, q1⟩ => ?_)
  have hst : PO X (some (.Constant (.int c) k p1)) (tPart (tC (.int c))) := po_some pe_int
  refine wpAny_Slice (thn (hl.run pins s1 σ H1 _ I1 q1) fun vl s2 ⟨l, H2, I2, pl, q2⟩ => thn (hu.run pins s2 σ H2 _ I2 q2) fun vu s3 ⟨u, H3, I3, pu, q3⟩ => ?_)
  obtain ⟨a, xs, ex, hx, q⟩ := q3
  subst ex
  cases r1
  refine thn (hst.run pins s3 σ H3 (fun o H4 => o = some c ∧ H4 = H3) I3 ⟨c, rfl, rfl, rfl⟩) fun vs s4 ⟨o, H4, I4, ps, eo, e4⟩ => ?_
  subst eo e4
  have I5 : Inv X pins σ H4 { s4 with heap := s4.heap.push { cls := .type "slice", data := .fields #[vl, vu, vs] } } := I4.kept (t' := s4.toks) fun b ob q => Heap.get?_push_of_some _ q
  obtain ⟨its, r, ht, hz⟩ := I5.list hx
  have hlen := r.length
  show wpAny (model X.prog X.w) X.A (subscriptTail e (.Slice lo hi (some (.Constant (.int c) k p1)) p3) (.ref a) (.ref s4.heap.objs.size)) (EP X pins σ Q) X.xe { s4 with heap := s4.heap.push { cls := .type "slice", data := .fields #[vl, vu, vs] } }
  refine tail_any (ops := [.ref a, .ref s4.heap.objs.size]) ht.isList.typeIs (PySem.slot_list_getitem.lookup) ?_ (by with_unfolding_all rfl)
  refine wpAny_getItem_list_slice ht.isList (Heap.IsSliceOf.new _ vl vu vs) pl pu ps (fun z => hc (by cases z; rfl)) ?_ (by rw [List.size_toArray]; omega)
  have e1 : slicePick its.toArray l u (some c) = (pickL its l u (some c)).toArray := by
    unfold slicePick pickL
    simp
  rw [e1]
  refine ⟨.ref _, _, I5.laid (t' := s4.toks) (o := .lst (pickL xs l u (some c))) (fun b ob q => Heap.get?_push_of_some _ q) (Nat.le_refl _) ?_, rfl, q _ (I5.hok.fresh (Nat.le_refl _))⟩
  refine ⟨Nat.le_trans (pickL_len _ _ _ _) hz, _, 0, ?_, Heap.get?_push_size _ rfl⟩
  unfold pickL
  rw [hlen]
  exact vals_pick r _
def stD (c : Int) : D → Option Int → Option Int → Rs D
  | .list ds, lo, hi => .ok (.list (pickL ds lo hi (some c)))
  | _, _, _ => .bad
def eSt (c : Int) (f : En → Rs D) (lo hi : En → Rs (Option Int)) : En → Rs D := fun ρ => f ρ >>= fun d => lo ρ >>= fun l => hi ρ >>= fun h => stD c d l h
theorem sm_st {f : En → Rs D} {fl fh : En → Rs (Option Int)} (he : SB X W own e f) (hl : SO X W own lo fl) (hh : SO X W own hi fh) (hc : c ≠ 0 := by decide) : SM X W own (.Subscript e (.Slice lo hi (some (.Constant (.int c) k p1)) p3) pos) (eSt c f fl fh) := by
  obtain ⟨t, p, r⟩ := he.ex
  obtain ⟨tl, pl, rl⟩ := hl.ex
  obtain ⟨th, ph, rh⟩ := hh.ex
  refine ⟨_, pe_stL p pl ph hc, fun H0 Hd0 ρ σ H Hd R Q q => ?_⟩
  refine r _ _ _ _ _ _ R _ ?_
  unfold eSt at q
  cases hf : f ρ with
  | bad => rw [hf] at q; exact q
  | ex c fs => rw [hf] at q; exact q
  | ok d =>
    rw [hf] at q
    intro x H1 Hd1 s1 v1
    refine rl _ _ _ _ _ _ (R.step s1) _ ?_
    have q1 : PoM X W σ H1 Hd1 (fl ρ >>= fun l => fh ρ >>= fun h => stD c d l h) Q := PoM.step q s1
    cases hg : fl ρ with
    | bad => rw [hg] at q1; exact q1
    | ex c fs => rw [hg] at q1; exact q1
    | ok l =>
      rw [hg] at q1
      intro H2 Hd2 s2
      refine rh _ _ _ _ _ _ ((R.step s1).step s2) _ ?_
      have q2 : PoM X W σ H2 Hd2 (fh ρ >>= fun h => stD c d l h) Q := PoM.step q1 s2
      cases hk : fh ρ with
      | bad => rw [hk] at q2; exact q2
      | ex c fs => rw [hk] at q2; exact q2
      | ok h =>
        rw [hk] at q2
        intro H3 Hd3 s3
        have q3 : PoM X W σ H3 Hd3 (stD c d l h) Q := PoM.step (r := stD c d l h) q2 s3
        have v3 := (v1.step s1.sub s2).step s2.sub s3
        unfold stD at q3
        split at q3
        · obtain ⟨p, vs, rfl, _, h2, h1⟩ := v3.lst s3.sub
          refine ⟨p, vs, rfl, h1, fun z hz => PoM.newL s3.sub q3 ?_ hz⟩
          unfold pickL
          rw [h2.length]
          exact dqAll_pick h2 _
        · exact q3.elim
end
end Wm

set_option Elab.async false
set_option linter.all false
set_option maxRecDepth 100000
/-! WmSim: how the layer's functions are reckoned: rewriting rules. -/
namespace Wm
open PySem PySem.Spec PyProof.Rows L2


/-! ### the order of reckoning: the first part first; what comes behind is held back -/
section
variable (ρ : En) (d : D) (ds : List D) (c : Str) (fs : List (Str × D))
/-- statements -/
@[simp] theorem at_sSeq (f g : En → Out) : sSeq f g ρ = oSeq (f ρ) g := nrfl rfl
@[simp] theorem oSeq_nx (g : En → Out) : oSeq (.nx ρ) g = g ρ := nrfl rfl
@[simp] theorem oSeq_rt (g : En → Out) : oSeq (.rt d) g = .rt d := nrfl rfl
@[simp] theorem oSeq_ex (g : En → Out) : oSeq (.ex c fs ρ) g = .ex c fs ρ := nrfl rfl
@[simp] theorem oSeq_bk (g : En → Out) : oSeq (.bk ρ) g = .bk ρ := nrfl rfl
@[simp] theorem oSeq_ct (g : En → Out) : oSeq (.ct ρ) g = .ct ρ := nrfl rfl
@[simp] theorem oSeq_rx' (g : En → Out) : oSeq (.rx d ρ) g = .rx d ρ := nrfl rfl
@[simp] theorem oLoop_nx (k : En → Out) : oLoop (.nx ρ) k = k ρ := nrfl rfl
@[simp] theorem oLoop_ct (k : En → Out) : oLoop (.ct ρ) k = k ρ := nrfl rfl
@[simp] theorem oLoop_bk (k : En → Out) : oLoop (.bk ρ) k = .nx ρ := nrfl rfl
@[simp] theorem oLoop_rt (k : En → Out) : oLoop (.rt d) k = .rt d := nrfl rfl
@[simp] theorem oLoop_ex (k : En → Out) : oLoop (.ex c fs ρ) k = .ex c fs ρ := nrfl rfl
@[simp] theorem oLoop_rx (k : En → Out) : oLoop (.rx d ρ) k = .rx d ρ := nrfl rfl
@[simp] theorem oStore_ok (k : En → Out) : oStore (.ok ρ) k = k ρ := nrfl rfl
@[simp] theorem at_sNx : sNx ρ = .nx ρ := nrfl rfl
@[simp] theorem at_sBk : sBk ρ = .bk ρ := nrfl rfl
@[simp] theorem at_sCt : sCt ρ = .ct ρ := nrfl rfl
def oSet (i : Nat) (ρ : En) (r : Rs D) : Out := oBind r ρ fun d => .nx (ρ.set i (some d))
@[simp] theorem at_sSet (i : Nat) (f : En → Rs D) : sSet i f ρ = oSet i ρ (f ρ) := nrfl rfl
@[simp] theorem oSet_ok (i : Nat) : oSet i ρ (.ok d) = .nx (ρ.set i (some d)) := nrfl rfl
@[simp] theorem oSet_ex (i : Nat) : oSet i ρ (.ex c fs) = .ex c fs ρ := nrfl rfl
def oExpr (ρ : En) (r : Rs D) : Out := oBind r ρ fun _ => .nx ρ
@[simp] theorem at_sExpr (f : En → Rs D) : sExpr f ρ = oExpr ρ (f ρ) := nrfl rfl
@[simp] theorem oExpr_ok : oExpr ρ (.ok d) = .nx ρ := nrfl rfl
@[simp] theorem oExpr_ex : oExpr ρ (.ex c fs) = .ex c fs ρ := nrfl rfl
def oRet (ρ : En) (r : Rs D) : Out := oBind r ρ fun d => .rt d
@[simp] theorem at_sRet (f : En → Rs D) : sRet f ρ = oRet ρ (f ρ) := nrfl rfl
@[simp] theorem oRet_ok : oRet ρ (.ok d) = .rt d := nrfl rfl
@[simp] theorem oRet_ex : oRet ρ (.ex c fs) = .ex c fs ρ := nrfl rfl
@[simp] theorem at_sRetN : sRetN ρ = .rt .none := nrfl rfl
def oIf (r : Rs Bool) (f g : En → Out) (ρ : En) : Out := oBindB r ρ fun b => if b = true then f ρ else g ρ
@[simp] theorem at_sIf (c : En → Rs Bool) (f g : En → Out) : sIf c f g ρ = oIf (c ρ) f g ρ := nrfl rfl
@[simp] theorem oIf_ok (b : Bool) (f g : En → Out) : oIf (.ok b) f g ρ = if b = true then f ρ else g ρ := nrfl rfl
@[simp] theorem oIf_ex (f g : En → Out) : oIf (.ex c fs) f g ρ = .ex c fs ρ := nrfl rfl
def oFor (r : Rs (List D)) (tg : D → En → Rs En) (b : En → Out) (ρ : En) : Out := oItems r ρ fun ds => forL tg b ds ρ
@[simp] theorem at_sFor (it : En → Rs (List D)) (tg : D → En → Rs En) (b : En → Out) : sFor it tg b ρ = oFor (it ρ) tg b ρ := nrfl rfl
@[simp] theorem oFor_ok (tg : D → En → Rs En) (b : En → Out) : oFor (.ok ds) tg b ρ = forL tg b ds ρ := nrfl rfl
def oUnp (g : D → En → Rs En) (ρ : En) (r : Rs D) : Out := oBind r ρ fun d => oStore (g d ρ) .nx
@[simp] theorem at_sUnp (g : D → En → Rs En) (f : En → Rs D) : sUnp g f ρ = oUnp g ρ (f ρ) := nrfl rfl
@[simp] theorem oUnp_ok (g : D → En → Rs En) : oUnp g ρ (.ok d) = oStore (g d ρ) .nx := nrfl rfl
@[simp] theorem at_sAug (i : Nat) (g : D → D → Rs D) (f : En → Rs D) : sAug i g f ρ = oSet i ρ (e2 g (eVar i) f ρ) := nrfl rfl
def oApp (i : Nat) (o : Option (List D)) (r : Rs D) (ρ : En) : Out := oL o fun ds => oBind r ρ fun d => if ds.length < sizeLine then .nx (ρ.set i (some (.list (ds ++ [d])))) else .bad
@[simp] theorem at_sApp (i : Nat) (f : En → Rs D) : sApp i f ρ = oApp i (getL ρ i) (f ρ) ρ := nrfl rfl
@[simp] theorem oApp_ok (i : Nat) : oApp i (some ds) (.ok d) ρ = if ds.length < 16777216 then .nx (ρ.set i (some (.list (ds ++ [d])))) else .bad := by
  unfold oApp oL; simp only [oBind_ok, sizeLine_eq]
def oPop (i : Nat) (o : Option (List D)) (ρ : En) : Out := oL o fun ds => if ds = [] then .bad else .nx (ρ.set i (some (.list ds.dropLast)))
@[simp] theorem at_sPop (i : Nat) : sPop i ρ = oPop i (getL ρ i) ρ := nrfl rfl
@[simp] theorem oPop_ok (i : Nat) : oPop i (some ds) ρ = if ds = [] then .bad else .nx (ρ.set i (some (.list ds.dropLast))) := nrfl rfl
/-- expressions -/
@[simp] theorem at_eC : eC d ρ = .ok d := nrfl rfl
def k2 (g : D → D → Rs D) (r : Rs D) (h : En → Rs D) (ρ : En) : Rs D := r >>= fun x => h ρ >>= fun y => g x y
def k2' (g : D → D → Rs D) (x : D) (r : Rs D) : Rs D := r >>= g x
@[simp] theorem at_e2 (g : D → D → Rs D) (f h : En → Rs D) : e2 g f h ρ = k2 g (f ρ) h ρ := nrfl rfl
@[simp] theorem k2_ok (g : D → D → Rs D) (h : En → Rs D) : k2 g (.ok d) h ρ = k2' g d (h ρ) := nrfl rfl
@[simp] theorem k2_ex (g : D → D → Rs D) (h : En → Rs D) : k2 g (.ex c fs) h ρ = .ex c fs := nrfl rfl
@[simp] theorem k2'_ok (g : D → D → Rs D) (x y : D) : k2' g x (.ok y) = g x y := nrfl rfl
@[simp] theorem k2'_ex (g : D → D → Rs D) (x : D) : k2' g x (.ex c fs) = .ex c fs := nrfl rfl
@[simp] theorem at_eBlt (g : List D → Rs D) (f : En → Rs (List D)) : eBlt g f ρ = f ρ >>= g := nrfl rfl
@[simp] theorem at_aNil : aNil ρ = .ok [] := nrfl rfl
def kCons (r : Rs D) (g : En → Rs (List D)) (ρ : En) : Rs (List D) := r >>= fun d => g ρ >>= fun ds => .ok (d :: ds)
def kCons' (d : D) (r : Rs (List D)) : Rs (List D) := r >>= fun ds => .ok (d :: ds)
@[simp] theorem at_aCons (f : En → Rs D) (g : En → Rs (List D)) : aCons f g ρ = kCons (f ρ) g ρ := nrfl rfl
@[simp] theorem kCons_ok (g : En → Rs (List D)) : kCons (.ok d) g ρ = kCons' d (g ρ) := nrfl rfl
@[simp] theorem kCons_ex (g : En → Rs (List D)) : kCons (.ex c fs) g ρ = .ex c fs := nrfl rfl
@[simp] theorem kCons'_ok : kCons' d (.ok ds) = .ok (d :: ds) := nrfl rfl
@[simp] theorem kCons'_ex : kCons' d (.ex c fs) = .ex c fs := nrfl rfl
@[simp] theorem at_eM0 (g : Str → Rs D) (f : En → Rs D) : eM0 g f ρ = f ρ >>= onS g := nrfl rfl
@[simp] theorem onS_str (g : Str → Rs D) (a : Str) : onS g (.str a) = g a := nrfl rfl
def kM1 (g : Str → D → Rs D) (r : Rs D) (h : En → Rs D) (ρ : En) : Rs D := r >>= onS fun a => h ρ >>= g a
@[simp] theorem at_eM1 (g : Str → D → Rs D) (f h : En → Rs D) : eM1 g f h ρ = kM1 g (f ρ) h ρ := nrfl rfl
@[simp] theorem kM1_ok (g : Str → D → Rs D) (a : Str) (h : En → Rs D) : kM1 g (.ok (.str a)) h ρ = h ρ >>= g a := nrfl rfl
@[simp] theorem at_tB (f : En → Rs D) : tB f ρ = asB (f ρ) := nrfl rfl
@[simp] theorem at_eIsi (n : String) (f : En → Rs D) : eIsi n f ρ = f ρ >>= isiD n := nrfl rfl
def kAn (r : Rs Bool) (g : En → Rs Bool) (ρ : En) : Rs Bool := r >>= fun c => if c = true then g ρ else .ok false
def kOr (r : Rs Bool) (g : En → Rs Bool) (ρ : En) : Rs Bool := r >>= fun c => if c = true then .ok true else g ρ
def kNo (r : Rs Bool) : Rs Bool := r >>= fun c => .ok (!c)
@[simp] theorem at_tAn (f g : En → Rs Bool) : tAn f g ρ = kAn (f ρ) g ρ := nrfl rfl
@[simp] theorem at_tOr (f g : En → Rs Bool) : tOr' f g ρ = kOr (f ρ) g ρ := nrfl rfl
@[simp] theorem at_tNo (f : En → Rs Bool) : tNo f ρ = kNo (f ρ) := nrfl rfl
@[simp] theorem kAn_ok (b : Bool) (g : En → Rs Bool) : kAn (.ok b) g ρ = if b = true then g ρ else .ok false := nrfl rfl
@[simp] theorem kOr_ok (b : Bool) (g : En → Rs Bool) : kOr (.ok b) g ρ = if b = true then .ok true else g ρ := nrfl rfl
@[simp] theorem kNo_ok (b : Bool) : kNo (.ok b) = .ok (!b) := nrfl rfl
def anK (g : En → Rs D) (ρ : En) (r : Rs D) : Rs D := r >>= fun d => match d with
  | .bool true => g ρ
  | .bool false => .ok (.bool false)
  | _ => .bad
def orK (g : En → Rs D) (ρ : En) (r : Rs D) : Rs D := r >>= fun d => match d with
  | .bool true => .ok (.bool true)
  | .bool false => g ρ
  | _ => .bad
@[simp] theorem at_eAn (f g : En → Rs D) : eAn f g ρ = anK g ρ (f ρ) := by
  unfold eAn anK; cases f ρ with
  | ok d => cases d <;> first | rfl | (rename_i b; cases b <;> rfl)
  | _ => rfl
@[simp] theorem at_eOr (f g : En → Rs D) : eOr f g ρ = orK g ρ (f ρ) := by
  unfold eOr orK; cases f ρ with
  | ok d => cases d <;> first | rfl | (rename_i b; cases b <;> rfl)
  | _ => rfl
@[simp] theorem anK_b (g : En → Rs D) (b : Bool) : anK g ρ (.ok (.bool b)) = if b = true then g ρ else .ok (.bool false) := by cases b <;> rfl
@[simp] theorem orK_b (g : En → Rs D) (b : Bool) : orK g ρ (.ok (.bool b)) = if b = true then .ok (.bool true) else g ρ := by cases b <;> rfl
def noK : D → Rs D
  | .bool c => .ok (.bool (!c))
  | _ => .bad
@[simp] theorem at_eNo (f : En → Rs D) : eNo f ρ = f ρ >>= noK := by
  unfold eNo; cases f ρ with
  | ok d => cases d <;> rfl
  | _ => rfl
@[simp] theorem noK_b (b : Bool) : noK (.bool b) = .ok (.bool !b) := nrfl rfl
def ifK (r : Rs Bool) (f g : En → Rs D) (ρ : En) : Rs D := r >>= fun b => if b = true then f ρ else g ρ
@[simp] theorem at_eIf (c : En → Rs Bool) (f g : En → Rs D) : eIf c f g ρ = ifK (c ρ) f g ρ := nrfl rfl
@[simp] theorem ifK_ok (b : Bool) (f g : En → Rs D) : ifK (.ok b) f g ρ = if b = true then f ρ else g ρ := nrfl rfl
def kTup (ds : List D) : Rs D := if ds.length ≤ 16777216 then .ok (.tuple ds) else .bad
def kLst (ds : List D) : Rs D := if ds.length ≤ 16777216 then .ok (.list ds) else .bad
@[simp] theorem at_eTup (g : En → Rs (List D)) : eTup g ρ = g ρ >>= kTup := by unfold eTup kTup; simp only [sizeLine_eq]
@[simp] theorem at_eLst (g : En → Rs (List D)) : eLst g ρ = g ρ >>= kLst := by unfold eLst kLst; simp only [sizeLine_eq]
@[simp] theorem kTup_ok : kTup ds = if ds.length ≤ 16777216 then .ok (.tuple ds) else .bad := nrfl rfl
@[simp] theorem kLst_ok : kLst ds = if ds.length ≤ 16777216 then .ok (.list ds) else .bad := nrfl rfl
def kCall (n : Nat) (g : List D → Rs D) (ds : List D) : Rs D := if ds.length = n then g ds else .bad
@[simp] theorem at_eCall (n : Nat) (g : List D → Rs D) (f : En → Rs (List D)) : eCall n g f ρ = f ρ >>= kCall n g := nrfl rfl
@[simp] theorem kCall_ok (n : Nat) (g : List D → Rs D) : kCall n g ds = if ds.length = n then g ds else .bad := nrfl rfl
@[simp] theorem at_eCall0 (g : List D → Rs D) : eCall0 g ρ = noEx (g []) := nrfl rfl
@[simp] theorem at_oNo : oNo ρ = .ok none := nrfl rfl
def soK : D → Rs (Option Int)
  | .int i => .ok (some i)
  | _ => .bad
@[simp] theorem at_oSo (f : En → Rs D) : oSo f ρ = f ρ >>= soK := by
  unfold oSo; cases f ρ with
  | ok d => cases d <;> rfl
  | _ => rfl
@[simp] theorem soK_i (i : Int) : soK (.int i) = .ok (some i) := nrfl rfl
def slK (r : Rs D) (lo hi : En → Rs (Option Int)) (ρ : En) : Rs D := r >>= fun d => lo ρ >>= fun l => hi ρ >>= fun h => slD d l h
def slK' (d : D) (r : Rs (Option Int)) (hi : En → Rs (Option Int)) (ρ : En) : Rs D := r >>= fun l => hi ρ >>= fun h => slD d l h
def slK'' (d : D) (l : Option Int) (r : Rs (Option Int)) : Rs D := r >>= fun h => slD d l h
@[simp] theorem at_eSl (f : En → Rs D) (lo hi : En → Rs (Option Int)) : eSl f lo hi ρ = slK (f ρ) lo hi ρ := nrfl rfl
@[simp] theorem slK_ok (lo hi : En → Rs (Option Int)) : slK (.ok d) lo hi ρ = slK' d (lo ρ) hi ρ := nrfl rfl
@[simp] theorem slK'_ok (l : Option Int) (hi : En → Rs (Option Int)) : slK' d (.ok l) hi ρ = slK'' d l (hi ρ) := nrfl rfl
@[simp] theorem slK''_ok (l h : Option Int) : slK'' d l (.ok h) = slD d l h := nrfl rfl
def negK : D → Rs D
  | .int i => .ok (.int (-i))
  | _ => .bad
@[simp] theorem at_eNeg (f : En → Rs D) : eNeg f ρ = f ρ >>= negK := by
  unfold eNeg; cases f ρ with
  | ok d => cases d <;> rfl
  | _ => rfl
@[simp] theorem negK_i (i : Int) : negK (.int i) = .ok (.int (-i)) := nrfl rfl
def ch1 (g g' : D → D → Rs D) (r : Rs D) (fb fc : En → Rs D) (ρ : En) : Rs D := r >>= fun x => fb ρ >>= fun y => g x y >>= fun z => match z with
  | .bool true => fc ρ >>= fun w => g' y w
  | .bool false => .ok (.bool false)
  | _ => .bad
def ch2 (g g' : D → D → Rs D) (x : D) (r : Rs D) (fc : En → Rs D) (ρ : En) : Rs D := r >>= fun y => g x y >>= fun z => match z with
  | .bool true => fc ρ >>= fun w => g' y w
  | .bool false => .ok (.bool false)
  | _ => .bad
def ch3 (g' : D → D → Rs D) (y : D) (r : Rs D) (fc : En → Rs D) (ρ : En) : Rs D := r >>= fun z => match z with
  | .bool true => fc ρ >>= fun w => g' y w
  | .bool false => .ok (.bool false)
  | _ => .bad
@[simp] theorem at_eChain (g g' : D → D → Rs D) (fa fb fc : En → Rs D) : eChain g g' fa fb fc ρ = ch1 g g' (fa ρ) fb fc ρ := nrfl rfl
@[simp] theorem ch1_ok (g g' : D → D → Rs D) (fb fc : En → Rs D) : ch1 g g' (.ok d) fb fc ρ = ch2 g g' d (fb ρ) fc ρ := nrfl rfl
@[simp] theorem ch2_ok (g g' : D → D → Rs D) (x : D) (fc : En → Rs D) : ch2 g g' x (.ok d) fc ρ = ch3 g' d (g x d) fc ρ := nrfl rfl
@[simp] theorem ch3_ok (g' : D → D → Rs D) (b : Bool) (fc : En → Rs D) : ch3 g' d (.ok (.bool b)) fc ρ = if b = true then k2' g' d (fc ρ) else .ok (.bool false) := by cases b <;> rfl
@[simp] theorem at_eIt (g : D → Rs (List D)) (f : En → Rs D) : eIt g f ρ = f ρ >>= g := nrfl rfl
@[simp] theorem iSeq_l : iSeq (.list ds) = .ok ds := nrfl rfl
@[simp] theorem iSeq_t : iSeq (.tuple ds) = .ok ds := nrfl rfl
@[simp] theorem iSeq_s (a : List Nat) : iSeq (tx a) = .ok (a.map fun c => tx [c]) := nrfl rfl
def rgK : D → Rs (List D)
  | .int j => if small62 j then .ok (rangeD 0 j.toNat) else .bad
  | _ => .bad
@[simp] theorem at_iRange1 (f : En → Rs D) : iRange1 f ρ = f ρ >>= rgK := by
  unfold iRange1; cases f ρ with
  | ok d => cases d <;> rfl
  | _ => rfl
theorem rgK_i (j : Int) (h : small62 j = true) : rgK (.int j) = .ok (rangeD 0 j.toNat) := by
  show (if small62 j = true then Rs.ok (rangeD 0 j.toNat) else .bad) = _
  rw [if_pos h]
def lcK (r : Rs (List D)) (vs : List Nat) (tg : D → En → Rs En) (cond : En → Rs Bool) (elt : En → Rs D) (ρ : En) : Rs D := r >>= fun ds => if ds.length ≤ sizeLine then lcL tg cond elt (wipeE ρ vs) ds >>= fun ys => .ok (.list ys) else .bad
def mkL (r : Rs (List D)) : Rs D := r >>= fun ys => .ok (.list ys)
@[simp] theorem mkL_ok : mkL (.ok ds) = .ok (.list ds) := nrfl rfl
@[simp] theorem at_eLc (it : En → Rs (List D)) (vs : List Nat) (tg : D → En → Rs En) (cond : En → Rs Bool) (elt : En → Rs D) : eLc it vs tg cond elt ρ = lcK (it ρ) vs tg cond elt ρ := nrfl rfl
@[simp] theorem lcK_ok (vs : List Nat) (tg : D → En → Rs En) (cond : En → Rs Bool) (elt : En → Rs D) : lcK (.ok ds) vs tg cond elt ρ = if ds.length ≤ 16777216 then mkL (lcL tg cond elt (wipeE ρ vs) ds) else .bad := by
  unfold lcK mkL; simp only [ok_bind, sizeLine_eq]
@[simp] theorem at_cYes : cYes ρ = .ok true := nrfl rfl
@[simp] theorem at_gNm (i : Nat) : gNm i d ρ = .ok (ρ.set i (some d)) := nrfl rfl
@[simp] theorem at_gTp (n : Nat) (gs : List D → En → Rs En) : gTp n gs (.tuple ds) ρ = if ds.length = n then gs ds ρ else .bad := nrfl rfl
@[simp] theorem at_gsNil : gsNil [] ρ = .ok ρ := nrfl rfl
def gsK (r : Rs En) (gs : List D → En → Rs En) (ds : List D) : Rs En := r >>= fun ρ' => gs ds ρ'
@[simp] theorem at_gsCons (g : D → En → Rs En) (gs : List D → En → Rs En) : gsCons g gs (d :: ds) ρ = gsK (g d ρ) gs ds := nrfl rfl
@[simp] theorem gsK_ok (gs : List D → En → Rs En) : gsK (.ok ρ) gs ds = gs ds ρ := nrfl rfl
end
@[simp] theorem eVar_0 (d : D) (ρ : En) : eVar 0 (some d :: ρ) = .ok d := nrfl rfl
theorem eVar_succ (i : Nat) (o : Option D) (ρ : En) : eVar (i + 1) (o :: ρ) = eVar i ρ := rfl
@[simp] theorem eVar_1 (o : Option D) (ρ : En) : eVar 1 (o :: ρ) = eVar 0 ρ := nrfl rfl
@[simp] theorem eVar_2 (o : Option D) (ρ : En) : eVar 2 (o :: ρ) = eVar 1 ρ := nrfl rfl
@[simp] theorem eVar_3 (o : Option D) (ρ : En) : eVar 3 (o :: ρ) = eVar 2 ρ := nrfl rfl
@[simp] theorem eVar_4 (o : Option D) (ρ : En) : eVar 4 (o :: ρ) = eVar 3 ρ := nrfl rfl
@[simp] theorem eVar_5 (o : Option D) (ρ : En) : eVar 5 (o :: ρ) = eVar 4 ρ := nrfl rfl
@[simp] theorem eVar_6 (o : Option D) (ρ : En) : eVar 6 (o :: ρ) = eVar 5 ρ := nrfl rfl
@[simp] theorem eVar_7 (o : Option D) (ρ : En) : eVar 7 (o :: ρ) = eVar 6 ρ := nrfl rfl
@[simp] theorem eVar_8 (o : Option D) (ρ : En) : eVar 8 (o :: ρ) = eVar 7 ρ := nrfl rfl
@[simp] theorem eVar_9 (o : Option D) (ρ : En) : eVar 9 (o :: ρ) = eVar 8 ρ := nrfl rfl
@[simp] theorem eVar_10 (o : Option D) (ρ : En) : eVar 10 (o :: ρ) = eVar 9 ρ := nrfl rfl
@[simp] theorem eVar_11 (o : Option D) (ρ : En) : eVar 11 (o :: ρ) = eVar 10 ρ := nrfl rfl
@[simp] theorem eVar_12 (o : Option D) (ρ : En) : eVar 12 (o :: ρ) = eVar 11 ρ := nrfl rfl
@[simp] theorem eVar_13 (o : Option D) (ρ : En) : eVar 13 (o :: ρ) = eVar 12 ρ := nrfl rfl
@[simp] theorem eVar_14 (o : Option D) (ρ : En) : eVar 14 (o :: ρ) = eVar 13 ρ := nrfl rfl
@[simp] theorem eVar_15 (o : Option D) (ρ : En) : eVar 15 (o :: ρ) = eVar 14 ρ := nrfl rfl
@[simp] theorem eVar_16 (o : Option D) (ρ : En) : eVar 16 (o :: ρ) = eVar 15 ρ := nrfl rfl
@[simp] theorem eVar_17 (o : Option D) (ρ : En) : eVar 17 (o :: ρ) = eVar 16 ρ := nrfl rfl
@[simp] theorem eVar_18 (o : Option D) (ρ : En) : eVar 18 (o :: ρ) = eVar 17 ρ := nrfl rfl
@[simp] theorem eVar_19 (o : Option D) (ρ : En) : eVar 19 (o :: ρ) = eVar 18 ρ := nrfl rfl
@[simp] theorem eVar_20 (o : Option D) (ρ : En) : eVar 20 (o :: ρ) = eVar 19 ρ := nrfl rfl
theorem getL_at (ρ : En) (i : Nat) (ds : List D) (h : ρ[i]? = some (some (.list ds))) : getL ρ i = some ds := by unfold getL; rw [h]
@[simp] theorem getL_0 (ds : List D) (ρ : En) : getL (some (.list ds) :: ρ) 0 = some ds := nrfl rfl
@[simp] theorem getL_succ (i : Nat) (o : Option D) (ρ : En) : getL (o :: ρ) (i + 1) = getL ρ i := nrfl rfl
/-! ### operations -/
@[simp] theorem str_len (l : List Nat) : Str.length ⟨l.toArray⟩ = l.length := by simp [Str.length]
@[simp] theorem str_app (a b : List Nat) : (⟨a.toArray⟩ : Str) ++ ⟨b.toArray⟩ = ⟨(a ++ b).toArray⟩ := by
  show Str.mk (a.toArray ++ b.toArray) = _
  simp
@[simp] theorem str_eq (a b : List Nat) : ((⟨a.toArray⟩ : Str) = ⟨b.toArray⟩) = (a = b) := by
  apply propext
  constructor
  · intro h
    have h2 := congrArg (fun s : Str => s.cps.toList) h
    simpa using h2
  · intro h; rw [h]
section
@[simp] theorem addD_i (a b : Int) : addD (.int a) (.int b) = .ok (.int (a + b)) := nrfl rfl
@[simp] theorem addD_s (a b : List Nat) : addD (tx a) (tx b) = if a.length + b.length ≤ 16777216 then .ok (tx (a ++ b)) else .bad := by
  unfold addD tx; simp only [str_len, str_app, sizeLine_eq]
@[simp] theorem addD_t (a b : List D) : addD (.tuple a) (.tuple b) = if a.length + b.length ≤ 16777216 then .ok (.tuple (a ++ b)) else .bad := by
  unfold addD; simp only [sizeLine_eq]
@[simp] theorem addD_l (a b : List D) : addD (.list a) (.list b) = if a.length + b.length ≤ 16777216 then .ok (.list (a ++ b)) else .bad := by
  unfold addD; simp only [sizeLine_eq]
@[simp] theorem addD_b (a : Int) (b : Bool) : addD (.int a) (.bool b) = .ok (.int (a + b2i b)) := nrfl rfl
@[simp] theorem addI_i (a b : Int) : addI (.int a) (.int b) = .ok (.int (a + b)) := nrfl rfl
@[simp] theorem addI_s (a b : List Nat) : addI (tx a) (tx b) = if a.length + b.length ≤ 16777216 then .ok (tx (a ++ b)) else .bad := by
  unfold addI tx; simp only [str_len, str_app, sizeLine_eq]
@[simp] theorem addI_t (a b : List D) : addI (.tuple a) (.tuple b) = if a.length + b.length ≤ 16777216 then .ok (.tuple (a ++ b)) else .bad := by
  unfold addI; simp only [sizeLine_eq]
@[simp] theorem subD_i (a b : Int) : subD (.int a) (.int b) = .ok (.int (a - b)) := nrfl rfl
@[simp] theorem mulD_i (a b : Int) : mulD (.int a) (.int b) = if big a || big b then .ok (.int (a * b)) else .bad := nrfl rfl
@[simp] theorem fdivD_i (a b : Int) : fdivD (.int a) (.int b) = if b ≠ 0 ∧ b.natAbs < 1073741824 then .ok (.int (a.fdiv b)) else .bad := nrfl rfl
@[simp] theorem modD_i (a b : Int) : modD (.int a) (.int b) = if b ≠ 0 then .ok (.int (a.fmod b)) else .bad := nrfl rfl
@[simp] theorem powD_i (a b : Int) : powD (.int a) (.int b) = if 0 ≤ b ∧ b ≤ 1000000 ∧ a.natAbs < 2 ^ 64 then .ok (.int (a ^ b.toNat)) else .bad := nrfl rfl
@[simp] theorem eqD_i (a b : Int) : eqD (.int a) (.int b) = .ok (.bool (decide (a = b))) := nrfl rfl
@[simp] theorem eqD_s (a b : List Nat) : eqD (tx a) (tx b) = .ok (.bool (decide (a = b))) := by
  unfold eqD eqB tx; simp only [str_eq]
@[simp] theorem eqD_b (a b : Bool) : eqD (.bool a) (.bool b) = .ok (.bool (decide (a = b))) := nrfl rfl
@[simp] theorem neD_i (a b : Int) : neD (.int a) (.int b) = .ok (.bool (!decide (a = b))) := nrfl rfl
@[simp] theorem neD_s (a b : List Nat) : neD (tx a) (tx b) = .ok (.bool (!decide (a = b))) := by
  unfold neD eqB tx; simp only [str_eq]
@[simp] theorem neD_b (a b : Bool) : neD (.bool a) (.bool b) = .ok (.bool (!decide (a = b))) := nrfl rfl
@[simp] theorem eqD_nn : eqD .none .none = .ok (.bool true) := nrfl rfl
@[simp] theorem eqD_ns (a : Str) : eqD .none (.str a) = .ok (.bool false) := nrfl rfl
@[simp] theorem eqD_sn (a : Str) : eqD (.str a) .none = .ok (.bool false) := nrfl rfl
@[simp] theorem neD_nn : neD .none .none = .ok (.bool false) := nrfl rfl
@[simp] theorem neD_ns (a : Str) : neD .none (.str a) = .ok (.bool true) := nrfl rfl
@[simp] theorem neD_sn (a : Str) : neD (.str a) .none = .ok (.bool true) := nrfl rfl
@[simp] theorem cmpD_i (p : Int → Int → Bool) (a b : Int) : cmpD p (.int a) (.int b) = .ok (.bool (p a b)) := nrfl rfl
@[simp] theorem isD_n (d : D) : isD d .none = .ok (.bool (nonD d)) := by cases d <;> rfl
@[simp] theorem isntD_n (d : D) : isntD d .none = .ok (.bool (!nonD d)) := by cases d <;> rfl
@[simp] theorem isD_b (a b : Bool) : isD (.bool a) (.bool b) = .ok (.bool (decide (a = b))) := nrfl rfl
@[simp] theorem isntD_b (a b : Bool) : isntD (.bool a) (.bool b) = .ok (.bool (!decide (a = b))) := nrfl rfl
@[simp] theorem nonD_none : nonD .none = true := nrfl rfl
@[simp] theorem nonD_s (a : Str) : nonD (.str a) = false := nrfl rfl
@[simp] theorem nonD_i (a : Int) : nonD (.int a) = false := nrfl rfl
@[simp] theorem nonD_b (a : Bool) : nonD (.bool a) = false := nrfl rfl
@[simp] theorem nonD_t (a : List D) : nonD (.tuple a) = false := nrfl rfl
@[simp] theorem nonD_l (a : List D) : nonD (.list a) = false := nrfl rfl
@[simp] theorem asB_b (b : Bool) : asB (.ok (.bool b)) = .ok b := nrfl rfl
@[simp] theorem asB_bad : asB .bad = .bad := nrfl rfl
@[simp] theorem asB_ex (c : Str) (fs : List (Str × D)) : asB (.ex c fs) = .ex c fs := nrfl rfl
@[simp] theorem lenD_l (ds : List D) : lenD [.list ds] = .ok (.int ds.length) := nrfl rfl
@[simp] theorem lenD_t (ds : List D) : lenD [.tuple ds] = .ok (.int ds.length) := nrfl rfl
@[simp] theorem lenD_s (a : List Nat) : lenD [tx a] = if a.length ≤ 16777216 then .ok (.int a.length) else .bad := by
  unfold lenD tx; simp only [str_len, sizeLine_eq]
@[simp] theorem intD_i (i : Int) : intD [.int i] = .ok (.int i) := nrfl rfl
@[simp] theorem intD_b (b : Bool) : intD [.bool b] = .ok (.int (if b then 1 else 0)) := nrfl rfl
@[simp] theorem ordD_s (c : Nat) : ordD [tx [c]] = .ok (.int c) := nrfl rfl
@[simp] theorem minD_i (i j : Int) : minD [.int i, .int j] = .ok (.int (if j < i then j else i)) := nrfl rfl
@[simp] theorem maxD_i (i j : Int) : maxD [.int i, .int j] = .ok (.int (if j > i then j else i)) := nrfl rfl
@[simp] theorem tupD_l (ds : List D) : tupD [.list ds] = .ok (.tuple ds) := nrfl rfl
@[simp] theorem tupD_t (ds : List D) : tupD [.tuple ds] = .ok (.tuple ds) := nrfl rfl
@[simp] theorem listD_l (ds : List D) : listD [.list ds] = .ok (.list ds) := nrfl rfl
@[simp] theorem listD_t (ds : List D) : listD [.tuple ds] = .ok (.list ds) := nrfl rfl
@[simp] theorem divmodD_i (i j : Int) : divmodD [.int i, .int j] = if 0 < j ∧ j < 1073741824 then .ok (.tuple [.int (i / j), .int (i % j)]) else .bad := nrfl rfl
@[simp] theorem ixD_l (ds : List D) (i : Int) : ixD (.list ds) (.int i) = match atI ds i with | some d => .ok d | none => .bad := nrfl rfl
@[simp] theorem ixD_t (ds : List D) (i : Int) : ixD (.tuple ds) (.int i) = match atI ds i with | some d => .ok d | none => .bad := nrfl rfl
@[simp] theorem ixD_s (a : List Nat) (i : Int) : ixD (tx a) (.int i) = if a.length ≤ 16777216 then match atI a i with | some c => .ok (tx [c]) | none => .bad else .bad := by
  show (if Str.length ⟨a.toArray⟩ ≤ sizeLine then _ else _) = _
  (rw [str_len, sizeLine_eq]) <;> rfl
@[simp] theorem slD_l (ds : List D) (lo hi : Option Int) : slD (.list ds) lo hi = .ok (.list (cutL ds lo hi)) := nrfl rfl
@[simp] theorem slD_t (ds : List D) (lo hi : Option Int) : slD (.tuple ds) lo hi = .ok (.tuple (cutL ds lo hi)) := nrfl rfl
theorem cutS_cutL (a : List Nat) (lo hi : Option Int) : cutS ⟨a.toArray⟩ lo hi = ⟨(cutL a lo hi).toArray⟩ := by
  unfold cutS cutL
  simp only [str_len]
@[simp] theorem slD_s (a : List Nat) (lo hi : Option Int) : slD (tx a) lo hi = if a.length ≤ 16777216 then .ok (tx (cutL a lo hi)) else .bad := by
  unfold slD tx; simp only [str_len, sizeLine_eq, cutS_cutL]
theorem sIx_lit (n k : Nat) : HT.sIx n 0 (some (k : Int)) = min k n := HT.sIx_nat n 0 k
theorem cutL_to {α : Type} (l : List α) (n : Nat) : cutL l none (some (n : Int)) = l.take n := by
  unfold cutL
  rw [HT.sIx_none, HT.sIx_nat]
  simp [List.take_eq_take_iff]
theorem cutL_from {α : Type} (l : List α) (n : Nat) : cutL l (some (n : Int)) none = l.drop n := by
  unfold cutL
  rw [HT.sIx_none, HT.sIx_nat]
  rcases Nat.le_total n l.length with h | h
  · rw [Nat.min_eq_left h, List.take_of_length_le (by simp)]
  · rw [Nat.min_eq_right h, List.drop_eq_nil_of_le h, List.drop_eq_nil_of_le (Nat.le_refl _)]; simp
theorem cutL_mid {α : Type} (l : List α) (a b : Nat) : cutL l (some (a : Int)) (some (b : Int)) = (l.take b).drop a := by
  unfold cutL
  rw [HT.sIx_nat, HT.sIx_nat, ← List.drop_take]
  apply List.ext_getElem?
  intro i
  rw [List.getElem?_drop, List.getElem?_drop, List.getElem?_take, List.getElem?_take]
  by_cases h : a ≤ l.length
  · rw [Nat.min_eq_left h]
    by_cases h2 : b ≤ l.length
    · rw [Nat.min_eq_left h2]
    · rw [Nat.min_eq_right (by omega)]
      by_cases h3 : a + i < l.length
      · rw [if_pos h3, if_pos (by omega)]
      · rw [if_neg h3]
        split
        · rw [List.getElem?_eq_none (by omega)]
        · rfl
  · rw [Nat.min_eq_right (by omega)]
    rw [List.getElem?_eq_none (by omega : l.length ≤ l.length + i), List.getElem?_eq_none (by omega : l.length ≤ a + i)]
    simp
@[simp] theorem cutL_to' {α : Type} (l : List α) (n : Nat) : cutL l none (some (no_index (OfNat.ofNat n : Int))) = l.take (OfNat.ofNat n) := cutL_to l n
@[simp] theorem cutL_from' {α : Type} (l : List α) (n : Nat) : cutL l (some (no_index (OfNat.ofNat n : Int))) none = l.drop (OfNat.ofNat n) := cutL_from l n
@[simp] theorem cutL_from1 {α : Type} (l : List α) : cutL l (some 1) none = l.drop 1 := cutL_from l 1
@[simp] theorem cutL_to1 {α : Type} (l : List α) : cutL l none (some 1) = l.take 1 := cutL_to l 1
@[simp] theorem cutL_all {α : Type} (l : List α) : cutL l none none = l := by
  unfold cutL; rw [HT.sIx_none, HT.sIx_none]; simp
theorem atI_n {α : Type} (l : List α) (n : Nat) : atI l (n : Int) = l[n]? := by
  unfold atI ixN
  by_cases h : n < l.length
  · rw [if_pos (by omega), if_pos (by omega)]; simp
  · rw [if_pos (by omega), if_neg (by omega)]; simp; omega
@[simp] theorem atI_0 {α : Type} (l : List α) : atI l 0 = l[0]? := atI_n l 0
@[simp] theorem atI_1 {α : Type} (l : List α) : atI l 1 = l[1]? := atI_n l 1
@[simp] theorem atI_lit {α : Type} (l : List α) (n : Nat) : atI l (no_index (OfNat.ofNat n : Int)) = l[(OfNat.ofNat n : Nat)]? := atI_n l n
@[simp] theorem atI_m1 {α : Type} (l : List α) : atI l (-1) = l.getLast? := by
  cases h : l.getLast? with
  | none =>
    rw [List.getLast?_eq_none_iff] at h
    subst h; rfl
  | some x =>
    obtain ⟨ys, e⟩ := List.getLast?_eq_some_iff.mp h
    subst e
    exact atI_last ys x
/-! ### texts -/
theorem inStr_one (c : Nat) (l : List Nat) : inStr ⟨#[c]⟩ ⟨l.toArray⟩ = decide (c ∈ l) := rfl
@[simp] theorem inD_s (c : Nat) (l : List Nat) : inD (tx [c]) (tx l) = .ok (.bool (decide (c ∈ l))) := nrfl rfl
@[simp] theorem notInD_s (c : Nat) (l : List Nat) : notInD (tx [c]) (tx l) = .ok (.bool (!decide (c ∈ l))) := nrfl rfl
theorem lowerD_s (l : List Nat) (h : ∀ c ∈ l, c < 128) (hl : l.length ≤ 5592405) : lowerD ⟨l.toArray⟩ = .ok (tx (l.map lo1)) := by
  unfold lowerD
  rw [str_len, if_pos hl, lower_ascii (by simpa using h)]
  simp
theorem upperD_s (l : List Nat) (h : ∀ c ∈ l, c < 128) (hl : l.length ≤ 5592405) : upperD ⟨l.toArray⟩ = .ok (tx (l.map up1)) := by
  unfold upperD
  rw [str_len, if_pos hl, upper_ascii (by simpa using h)]
  simp
/-- letters and figures -/
def alnum (c : Nat) : Bool := (decide (48 ≤ c) && decide (c ≤ 57)) || (decide (65 ≤ c) && decide (c ≤ 90)) || (decide (97 ≤ c) && decide (c ≤ 122))
theorem isAlnum_ascii : ∀ c, c < 128 → Unicode.isAlnum c = alnum c := by decide +kernel
theorem isalnum_one (c : Nat) (h : c < 128) : Txt.isalnum ⟨#[c]⟩ = alnum c := by
  have e : Txt.isalnum ⟨#[c]⟩ = Unicode.isAlnum c := by
    unfold Txt.isalnum
    simp [Str.length]
  rw [e, isAlnum_ascii c h]
/-- where a sign stands first -/
theorem occ_one (l : List Nat) (c : Nat) : Builtin.Str.occurrences ⟨l.toArray⟩ ⟨#[c]⟩ 0 l.length 1 = match l.idxOf? c with | some i => [i] | none => [] := by
  have hlen : (Str.length ⟨l.toArray⟩) = l.length := str_len l
  have at_ : ∀ i, PySem.StrLaws.At ⟨l.toArray⟩ ⟨#[c]⟩ (Str.length ⟨l.toArray⟩) i ↔ l[i]? = some c := fun i => by
    have h := PySem.StrLaws.subAt_one ⟨l.toArray⟩ c i
    simpa [PySem.StrLaws.At] using h
  have h := PySem.StrLaws.occ_head ⟨l.toArray⟩ ⟨#[c]⟩ 1 (Nat.le_refl 1)
  rw [hlen] at h
  rw [hlen] at at_
  rcases h with ⟨h1, h2⟩ | ⟨i, r, h1, h2, h3⟩
  · have e : l.idxOf? c = none := by
      rw [List.idxOf?_eq_none_iff]
      intro m
      obtain ⟨i, hi⟩ := List.mem_iff_getElem?.mp m
      exact h2 i ((at_ i).mpr hi)
    rw [h1, e]
  · have hl := PySem.StrLaws.occ_length_le ⟨l.toArray⟩ ⟨#[c]⟩ 0 l.length 1
    rw [h1] at hl ⊢
    have hr : r = [] := by
      cases r with
      | nil => rfl
      | cons a r => simp at hl
    subst hr
    have hi := (at_ i).mp h2
    have e : l.idxOf? c = some i := by
      unfold List.idxOf?
      rw [List.findIdx?_eq_some_iff_getElem]
      obtain ⟨hlt, hg⟩ := List.getElem?_eq_some_iff.mp hi
      refine ⟨hlt, by simp [hg], fun j hj => ?_⟩
      have := h3 j hj
      rw [at_ j] at this
      simp only [beq_iff_eq]
      intro z
      exact this (by rw [List.getElem?_eq_getElem (by omega), z])
    rw [e]
theorem findD_one (l : List Nat) (c : Nat) : findD ⟨l.toArray⟩ (tx [c]) = .ok (.int (match l.idxOf? c with | some i => (i : Int) | none => -1)) := by
  unfold findD Txt.find
  have e : (Str.length ⟨l.toArray⟩) = l.length := str_len l
  simp only [e]
  rw [occ_one]
  cases l.idxOf? c <;> rfl
theorem sindexD_one (l : List Nat) (c : Nat) {i : Nat} (h : l.idxOf? c = some i) : sindexD ⟨l.toArray⟩ (tx [c]) = .ok (.int (i : Nat)) := by
  unfold sindexD
  have e : (Str.length ⟨l.toArray⟩) = l.length := str_len l
  simp only [e]
  rw [occ_one, h]
end
end Wm

set_option Elab.async false
set_option linter.all false
set_option maxRecDepth 100000
/-! WmSim4: rewriting rules for WmOps4. -/
namespace Wm
open PySem PySem.Spec PyProof.Rows L2
section
variable (ρ : En) (d : D) (ds : List D) (c : Str) (fs : List (Str × D))
def kCallD (n : Nat) (dds : List D) (g : List D → Rs D) (ds : List D) : Rs D := if ds.length + dds.length = n then g (ds ++ dds) else .bad
@[simp] theorem at_eCallD (n : Nat) (dds : List D) (g : List D → Rs D) (f : En → Rs (List D)) : eCallD n dds g f ρ = f ρ >>= kCallD n dds g := nrfl rfl
@[simp] theorem kCallD_ok (n : Nat) (dds : List D) (g : List D → Rs D) : kCallD n dds g ds = if ds.length + dds.length = n then g (ds ++ dds) else .bad := nrfl rfl
@[simp] theorem at_sBad : sBad ρ = .bad := nrfl rfl
@[simp] theorem addL_l (a b : List D) : addL (.list a) (.list b) = if a.length + b.length ≤ 16777216 then .ok (.list (a ++ b)) else .bad := by
  unfold addL; simp only [sizeLine_eq]
def slMK (r : Rs D) (lo hi : En → Rs (Option Int)) (ρ : En) : Rs D := r >>= fun d => lo ρ >>= fun l => hi ρ >>= fun h => slM d l h
def slMK' (d : D) (r : Rs (Option Int)) (hi : En → Rs (Option Int)) (ρ : En) : Rs D := r >>= fun l => hi ρ >>= fun h => slM d l h
def slMK'' (d : D) (l : Option Int) (r : Rs (Option Int)) : Rs D := r >>= fun h => slM d l h
@[simp] theorem at_eSlM (f : En → Rs D) (lo hi : En → Rs (Option Int)) : eSlM f lo hi ρ = slMK (f ρ) lo hi ρ := nrfl rfl
@[simp] theorem slMK_ok (lo hi : En → Rs (Option Int)) : slMK (.ok d) lo hi ρ = slMK' d (lo ρ) hi ρ := nrfl rfl
@[simp] theorem slMK'_ok (l : Option Int) (hi : En → Rs (Option Int)) : slMK' d (.ok l) hi ρ = slMK'' d l (hi ρ) := nrfl rfl
@[simp] theorem slMK''_ok (l h : Option Int) : slMK'' d l (.ok h) = slM d l h := nrfl rfl
@[simp] theorem slM_l (lo hi : Option Int) : slM (.list ds) lo hi = .ok (.list (cutL ds lo hi)) := nrfl rfl
def oRevK (i : Nat) (o : Option (List D)) (ρ : En) : Out := oL o fun ds => .nx (ρ.set i (some (.list ds.reverse)))
@[simp] theorem at_sRev (i : Nat) : sRev i ρ = oRevK i (getL ρ i) ρ := nrfl rfl
@[simp] theorem oRevK_ok (i : Nat) : oRevK i (some ds) ρ = .nx (ρ.set i (some (.list ds.reverse))) := nrfl rfl
def oItm (i : Nat) (r : Rs D) (fi : En → Rs D) (ρ : En) : Out := oBind r ρ fun d => oL (getL ρ i) fun ds => oBind (fi ρ) ρ (itK i ρ d ds)
def oItm' (i : Nat) (d : D) (o : Option (List D)) (fi : En → Rs D) (ρ : En) : Out := oL o fun ds => oBind (fi ρ) ρ (itK i ρ d ds)
def oItm'' (i : Nat) (d : D) (ds : List D) (r : Rs D) (ρ : En) : Out := oBind r ρ (itK i ρ d ds)
def setI {α : Type} (l : List α) (z : Int) (d : α) : Option (List α) := match ixN l.length z with
  | some j => some (l.set j d)
  | none => none
@[simp] theorem at_sItm (i : Nat) (fi fe : En → Rs D) : sItm i fi fe ρ = oItm i (fe ρ) fi ρ := nrfl rfl
@[simp] theorem oItm_ok (i : Nat) (fi : En → Rs D) : oItm i (.ok d) fi ρ = oItm' i d (getL ρ i) fi ρ := nrfl rfl
@[simp] theorem oItm'_ok (i : Nat) (fi : En → Rs D) : oItm' i d (some ds) fi ρ = oItm'' i d ds (fi ρ) ρ := nrfl rfl
@[simp] theorem oItm''_ok (i : Nat) (z : Int) : oItm'' i d ds (.ok (.int z)) ρ = match setI ds z d with | some es => .nx (ρ.set i (some (.list es))) | none => .bad := by
  show (match ixN ds.length z with | some j => _ | none => _) = _
  unfold setI
  cases ixN ds.length z <;> rfl
@[simp] theorem iRev_l : iRev (.list ds) = .ok ds.reverse := nrfl rfl
@[simp] theorem iRev_t : iRev (.tuple ds) = .ok ds.reverse := nrfl rfl
@[simp] theorem iEnum_l : iEnum (.list ds) = .ok (enumFrom 0 ds) := nrfl rfl
@[simp] theorem at_eLRg (f : En → Rs D) : eLRg f ρ = f ρ >>= lrgD := nrfl rfl
@[simp] theorem lrgD_i (n : Int) : lrgD (.int n) = if n ≤ 100000 ∧ -100000 ≤ n then .ok (.list (rangeD 0 n.toNat)) else .bad := nrfl rfl
@[simp] theorem mulD_l (a : List D) (k : Int) : mulD (.list a) (.int k) = if -1000 ≤ k ∧ k ≤ 100000 ∧ a.length * k.toNat ≤ 16777216 then .ok (.list (List.replicate k.toNat a).flatten) else .bad := nrfl rfl
def stK (c : Int) (r : Rs D) (lo hi : En → Rs (Option Int)) (ρ : En) : Rs D := r >>= fun d => lo ρ >>= fun l => hi ρ >>= fun h => stD c d l h
def stK' (c : Int) (d : D) (r : Rs (Option Int)) (hi : En → Rs (Option Int)) (ρ : En) : Rs D := r >>= fun l => hi ρ >>= fun h => stD c d l h
def stK'' (c : Int) (d : D) (l : Option Int) (r : Rs (Option Int)) : Rs D := r >>= fun h => stD c d l h
@[simp] theorem at_eSt (c : Int) (f : En → Rs D) (lo hi : En → Rs (Option Int)) : eSt c f lo hi ρ = stK c (f ρ) lo hi ρ := nrfl rfl
@[simp] theorem stK_ok (c : Int) (lo hi : En → Rs (Option Int)) : stK c (.ok d) lo hi ρ = stK' c d (lo ρ) hi ρ := nrfl rfl
@[simp] theorem stK'_ok (c : Int) (l : Option Int) (hi : En → Rs (Option Int)) : stK' c d (.ok l) hi ρ = stK'' c d l (hi ρ) := nrfl rfl
@[simp] theorem stK''_ok (c : Int) (l h : Option Int) : stK'' c d l (.ok h) = stD c d l h := nrfl rfl
@[simp] theorem stD_l (c : Int) (lo hi : Option Int) : stD c (.list ds) lo hi = .ok (.list (pickL ds lo hi (some c))) := nrfl rfl
end
end Wm

set_option Elab.async false
set_option linter.all false
set_option maxRecDepth 100000
/-! WmLib: loops and places, for the mathematics. -/
namespace Wm
open PySem PySem.Spec PyProof.Rows L2
theorem atI_mem {α : Type} {l : List α} {i : Int} (h0 : 0 ≤ i) (h1 : i < l.length) : ∃ x, atI l i = some x ∧ x ∈ l ∧ l[i.toNat]? = some x := by
  obtain ⟨n, rfl⟩ : ∃ n : Nat, i = (n : Int) := ⟨i.toNat, by omega⟩
  have hl : n < l.length := by omega
  refine ⟨l[n], ?_, List.getElem_mem hl, by simp [hl]⟩
  rw [atI_n]
  simp [hl]
theorem fmod_range (a : Int) {b : Int} (h : 0 < b) : 0 ≤ a.fmod b ∧ a.fmod b < b := by
  rw [Int.fmod_eq_emod_of_nonneg _ (by omega)]
  exact ⟨Int.emod_nonneg _ (by omega), Int.emod_lt_of_pos _ h⟩
theorem fdiv_nonneg {a b : Int} (h : 0 ≤ a) (h' : 0 < b) : 0 ≤ a.fdiv b := by
  rw [Int.fdiv_eq_ediv_of_nonneg _ (by omega)]
  exact Int.ediv_nonneg h (by omega)
/-- a loop that goes through -/
theorem forL_go {tg : D → En → Rs En} {body : En → Out} (P : En → Prop) : ∀ {ds : List D} {ρ : En}, P ρ → (∀ d ∈ ds, ∀ ρ, P ρ → ∃ ρ1 ρ2, tg d ρ = .ok ρ1 ∧ (body ρ1 = .nx ρ2 ∨ body ρ1 = .ct ρ2) ∧ P ρ2) → ∃ ρ', forL tg body ds ρ = .nx ρ' ∧ P ρ'
  | [], ρ, h, _ => ⟨ρ, rfl, h⟩
  | d :: ds, ρ, h, hs => by
    obtain ⟨ρ1, ρ2, h1, h2, h3⟩ := hs d List.mem_cons_self ρ h
    obtain ⟨ρ', h4, h5⟩ := forL_go P (ds := ds) h3 fun d' hd => hs d' (List.mem_cons_of_mem _ hd)
    refine ⟨ρ', ?_, h5⟩
    show oStore (tg d ρ) _ = _
    rw [h1, oStore_ok]
    rcases h2 with h2 | h2
    · rw [h2, oLoop_nx, h4]
    · rw [h2, oLoop_ct, h4]
@[simp] theorem forL_nil (tg : D → En → Rs En) (body : En → Out) (ρ : En) : forL tg body [] ρ = .nx ρ := nrfl rfl
theorem forL_cons (tg : D → En → Rs En) (body : En → Out) (d : D) (ds : List D) (ρ : En) : forL tg body (d :: ds) ρ = oStore (tg d ρ) fun ρ1 => oLoop (body ρ1) (forL tg body ds) := nrfl rfl
theorem forL_name (i : Nat) (body : En → Out) (d : D) (ds : List D) (ρ : En) : forL (gNm i) body (d :: ds) ρ = oLoop (body (ρ.set i (some d))) (forL (gNm i) body ds) := nrfl rfl
/-- what came of a reckoning -/
def isStr (r : Rs D) (l : List Nat) : Bool := match r with
  | .ok (.str s) => s.cps.toList == l
  | _ => false
theorem isStr_eq {r : Rs D} {l : List Nat} (h : isStr r l = true) : r = .ok (tx l) := by
  unfold isStr at h
  split at h
  · rename_i s
    have e : s.cps.toList = l := by simpa using h
    subst e
    simp [tx]
  · cases h
def runK (o : Out) : Rs D := match o with
  | .nx _ => .ok .none
  | .rt d => .ok d
  | .ex c fs _ => .ex c fs
  | _ => .bad
theorem runF_eq (n : Nat) (f : En → Out) (ds : List D) : runF n f ds = runK (f (ds.map some ++ List.replicate (n - ds.length) none)) := rfl
@[simp] theorem runK_nx (ρ : En) : runK (.nx ρ) = .ok .none := nrfl rfl
@[simp] theorem runK_rt (d : D) : runK (.rt d) = .ok d := nrfl rfl
@[simp] theorem runK_ex (c : Str) (fs : List (Str × D)) (ρ : En) : runK (.ex c fs ρ) = .ex c fs := nrfl rfl
def tyK (T : String) (t : String) : Option Bool := kitB t T
theorem kit_str_str : kitB "str" "str" = some true := by decide +kernel
theorem kit_none_str : kitB "NoneType" "str" = some false := by decide +kernel
@[simp] theorem isiD_str_s (a : Str) : isiD "str" (.str a) = .ok (.bool true) := by
  unfold isiD
  rw [show tyD (.str a) = "str" from rfl, kit_str_str]
@[simp] theorem isiD_str_n : isiD "str" .none = .ok (.bool false) := by
  unfold isiD
  rw [show tyD .none = "NoneType" from rfl, kit_none_str]
/-! ### joined, repeated -/
def joinL (s : List Nat) : List (List Nat) → List Nat
  | [] => []
  | [x] => x
  | x :: y :: r => x ++ s ++ joinL s (y :: r)
theorem strJoin_tx (s : List Nat) : ∀ ls : List (List Nat), Str.join ⟨s.toArray⟩ (ls.map fun l => ⟨l.toArray⟩) = ⟨(joinL s ls).toArray⟩
  | [] => rfl
  | [x] => rfl
  | x :: y :: r => by
    have ih := strJoin_tx s (y :: r)
    show Str.mk _ ++ Str.mk _ ++ Str.join _ ((y :: r).map fun l => ⟨l.toArray⟩) = _
    rw [ih]
    apply Str.ext'
    simp [Str.cps_append, joinL]
theorem joinL_nil : ∀ ls : List (List Nat), joinL [] ls = ls.flatten
  | [] => rfl
  | [x] => by simp [joinL]
  | x :: y :: r => by rw [joinL, joinL_nil (y :: r)]; simp
theorem strsOf_tx : ∀ ls : List (List Nat), strsOf (ls.map tx) = some (ls.map fun l => ⟨l.toArray⟩)
  | [] => rfl
  | x :: r => by
    show (strsOf (r.map tx)).map _ = _
    rw [strsOf_tx r]
    rfl
theorem joinS_tx (s : List Nat) (ls : List (List Nat)) (h : (ls.map List.length).sum + ls.length * s.length ≤ 16777216) : joinS ⟨s.toArray⟩ (ls.map tx) = .ok (tx (joinL s ls)) := by
  unfold joinS
  rw [strsOf_tx]
  simp only
  rw [if_pos]
  · rw [show Txt.join ⟨s.toArray⟩ (ls.map fun l => ⟨l.toArray⟩) = Str.join ⟨s.toArray⟩ (ls.map fun l => ⟨l.toArray⟩) from StrLaws.glued_eq_join _ _, strJoin_tx]
  · rw [List.map_map, List.length_map]
    have e : ((fun x => Str.length x) ∘ fun l : List Nat => Str.mk l.toArray) = List.length := by funext l; simp [Str.length]
    rw [e]
    simpa [Str.length] using h
theorem sum_ones : ∀ l : List Nat, ((l.map fun c => [c]).map List.length).sum = l.length
  | [] => rfl
  | c :: l => by
    have := sum_ones l
    simp only [List.map_cons, List.sum_cons, List.length_cons, List.length_nil, this]
    omega
theorem joinD_signs (l : List Nat) (h : l.length ≤ 16777216) : joinD ⟨#[]⟩ (.list (l.map fun c => tx [c])) = .ok (tx l) := by
  have := joinS_tx [] (l.map fun c => [c]) (by rw [sum_ones]; simp; omega)
  rw [List.map_map, joinL_nil] at this
  have e : ∀ l : List Nat, (l.map fun c => [c]).flatten = l := fun l => by
    induction l with
    | nil => rfl
    | cons c l ih => show c :: (l.map fun c => [c]).flatten = _; rw [ih]
  rw [e] at this
  exact this
theorem mulD_s (a : List Nat) (k : Int) (h : a.length * k.toNat ≤ 16777216) (h1 : k ≤ 16777216) (h2 : -1000 ≤ k) : mulD (tx a) (.int k) = .ok (tx (List.replicate k.toNat a).flatten) := by
  show (if _ then _ else _) = _
  have hl : Str.length ⟨a.toArray⟩ = a.length := by simp [Str.length]
  rw [if_pos (by rw [hl]; exact ⟨h, h1, h2⟩)]
  unfold Txt.mul
  by_cases c : k < 1
  · rw [if_pos c, show k.toNat = 0 by omega]; rfl
  · rw [if_neg c]
    by_cases c2 : (k == 1 || Str.length ⟨a.toArray⟩ == 0) = true
    · rw [if_pos c2]
      rw [hl] at c2
      simp at c2
      rcases c2 with rfl | rfl
      · simp
      · simp
    · rw [if_neg c2]
      have f0 : ∀ (m : Nat) (acc : Array Nat), List.foldl (fun x1 x2 => x1 ++ x2) acc (List.replicate m a.toArray) = (acc.toList ++ (List.replicate m a).flatten).toArray := by
        intro m
        induction m with
        | zero => intro acc; simp
        | succ m ih => intro acc; rw [List.replicate_succ, List.foldl_cons, ih]; simp [List.replicate_succ]
      rw [f0]
      simp
@[simp] theorem mulD_t (a : List D) (k : Int) : mulD (.tuple a) (.int k) = if -1000 ≤ k ∧ k ≤ 1000 ∧ a.length ≤ 1000 then .ok (.tuple (List.replicate k.toNat a).flatten) else .bad := nrfl rfl
/-! ### comprehensions -/
@[simp] theorem wipeE_nil (ρ : En) : wipeE ρ [] = ρ := nrfl rfl
@[simp] theorem wipeE_cons (ρ : En) (v : Nat) (vs : List Nat) : wipeE ρ (v :: vs) = (wipeE ρ vs).set v none := nrfl rfl
theorem lcL_nil (tg : D → En → Rs En) (cond : En → Rs Bool) (elt : En → Rs D) (ρ0 : En) : lcL tg cond elt ρ0 [] = .ok [] := rfl
theorem lcL_cons (tg : D → En → Rs En) (cond : En → Rs Bool) (elt : En → Rs D) (ρ0 : En) (d : D) (ds : List D) : lcL tg cond elt ρ0 (d :: ds) = (noEx (tg d ρ0) >>= fun ρ1 => noEx (cond ρ1) >>= fun b => if b = true then noEx (elt ρ1) >>= fun y => lcL tg cond elt ρ0 ds >>= fun ys => .ok (y :: ys) else lcL tg cond elt ρ0 ds) := rfl
theorem lcL_map {α : Type} {tg : D → En → Rs En} {cond : En → Rs Bool} {elt : En → Rs D} {ρ0 : En} (h : α → D) (g : α → D) : ∀ {xs : List α}, (∀ x ∈ xs, ∃ ρ1, tg (h x) ρ0 = .ok ρ1 ∧ cond ρ1 = .ok true ∧ elt ρ1 = .ok (g x)) → lcL tg cond elt ρ0 (xs.map h) = .ok (xs.map g)
  | [], _ => rfl
  | x :: xs, hs => by
    obtain ⟨ρ1, h1, h2, h3⟩ := hs x List.mem_cons_self
    rw [List.map_cons, lcL_cons, h1, noEx_ok, ok_bind, h2, noEx_ok, ok_bind, if_pos rfl, h3, noEx_ok, ok_bind, lcL_map h g fun z hz => hs z (List.mem_cons_of_mem _ hz)]
    rfl
theorem lcL_filter {α : Type} {tg : D → En → Rs En} {cond : En → Rs Bool} {elt : En → Rs D} {ρ0 : En} (h : α → D) (p : α → Bool) (g : α → D) : ∀ {xs : List α}, (∀ x ∈ xs, ∃ ρ1, tg (h x) ρ0 = .ok ρ1 ∧ cond ρ1 = .ok (p x) ∧ (p x = true → elt ρ1 = .ok (g x))) → lcL tg cond elt ρ0 (xs.map h) = .ok ((xs.filter p).map g)
  | [], _ => rfl
  | x :: xs, hs => by
    obtain ⟨ρ1, h1, h2, h3⟩ := hs x List.mem_cons_self
    rw [List.map_cons, lcL_cons, h1, noEx_ok, ok_bind, h2, noEx_ok, ok_bind, List.filter_cons]
    have ih := lcL_filter (xs := xs) h p g fun z hz => hs z (List.mem_cons_of_mem _ hz)
    cases hp : p x with
    | true => rw [if_pos rfl, if_pos rfl, h3 hp, noEx_ok, ok_bind, ih]; rfl
    | false => rw [if_neg (by simp), if_neg (by simp), ih]
/-! ### while -/
@[simp] theorem at_sWhile (c : En → Rs Bool) (b : En → Out) (ρ : En) : sWhile c b ρ = whileL c b fuelW ρ := nrfl rfl
theorem whileL_t {c : En → Rs Bool} {b : En → Out} {n : Nat} {ρ : En} (h : c ρ = .ok true) : whileL c b (n + 1) ρ = oLoop (b ρ) (whileL c b n) := by
  show oBindB (c ρ) ρ _ = _
  rw [h]
  rfl
theorem whileL_f {c : En → Rs Bool} {b : En → Out} {n : Nat} {ρ : En} (h : c ρ = .ok false) : whileL c b (n + 1) ρ = .nx ρ := by
  show oBindB (c ρ) ρ _ = _
  rw [h]
  rfl
theorem atI_mid {α : Type} (p : List α) (c : α) (r : List α) : atI (p ++ c :: r) (p.length : Int) = some c := by
  rw [atI_n]; simp
theorem cutL_mid' {α : Type} (l : List α) (a b : Nat) (x y : Int) (hx : x = a) (hy : y = b) : cutL l (some x) (some y) = (l.take b).drop a := by
  subst hx hy; exact cutL_mid l a b
theorem take_mid {α : Type} (p : List α) (r : List α) (k : Nat) : (p ++ r).take (p.length + k) = p ++ r.take k := by
  rw [List.take_append, List.take_of_length_le (by omega), Nat.add_sub_cancel_left]
@[simp] theorem cutL_lits {α : Type} (l : List α) (a b : Nat) : cutL l (some (no_index (OfNat.ofNat a : Int))) (some (no_index (OfNat.ofNat b : Int))) = (l.take (OfNat.ofNat b)).drop (OfNat.ofNat a) := cutL_mid l a b
@[simp] theorem cutL_1lit {α : Type} (l : List α) (b : Nat) : cutL l (some 1) (some (no_index (OfNat.ofNat b : Int))) = (l.take (OfNat.ofNat b)).drop 1 := cutL_mid l 1 b
theorem forL_append {tg : D → En → Rs En} {body : En → Out} : ∀ {a : List D} {c : List D} {ρ ρ' : En}, forL tg body a ρ = .nx ρ' → (∀ d ∈ a, ∀ ρ, ∃ ρ1, tg d ρ = .ok ρ1) → (∀ ρ ρ1, body ρ ≠ .bk ρ1) → forL tg body (a ++ c) ρ = forL tg body c ρ'
  | [], c, ρ, ρ', h, _, _ => by cases h; rfl
  | d :: a, c, ρ, ρ', h, ht, hb => by
    obtain ⟨ρ1, e1⟩ := ht d List.mem_cons_self ρ
    rw [List.cons_append, forL_cons, e1, oStore_ok]
    rw [forL_cons, e1, oStore_ok] at h
    cases hbd : body ρ1 with
    | nx ρ2 => rw [hbd, oLoop_nx] at h; rw [oLoop_nx]; exact forL_append h (fun z hz => ht z (List.mem_cons_of_mem _ hz)) hb
    | ct ρ2 => rw [hbd, oLoop_ct] at h; rw [oLoop_ct]; exact forL_append h (fun z hz => ht z (List.mem_cons_of_mem _ hz)) hb
    | bk ρ2 => exact absurd hbd (hb _ _)
    | rt d => rw [hbd] at h; cases h
    | ex c fs ρ2 => rw [hbd] at h; cases h
    | bad => rw [hbd] at h; cases h
    | rx d ρ2 => rw [hbd] at h; cases h
/-- one turn more at the end -/
theorem forL_snoc {i : Nat} {body : En → Out} : ∀ {a : List D} {d : D} {ρ ρ' : En}, forL (gNm i) body a ρ = .nx ρ' → (∀ ρ ρ1, body ρ ≠ .bk ρ1) → forL (gNm i) body (a ++ [d]) ρ = oLoop (body (ρ'.set i (some d))) .nx := fun h hb => by
  rw [forL_append h (fun _ _ _ => ⟨_, rfl⟩) hb, forL_name]
  rfl
theorem kit_tup : kitB "tuple" "tuple" = some true := by decide +kernel
theorem kit_bool : kitB "bool" "bool" = some true := by decide +kernel
@[simp] theorem isiD_tup (a : List D) : isiD "tuple" (.tuple a) = .ok (.bool true) := by
  unfold isiD
  rw [show tyD (.tuple a) = "tuple" from rfl, kit_tup]
@[simp] theorem isiD_bool (a : Bool) : isiD "bool" (.bool a) = .ok (.bool true) := by
  unfold isiD
  rw [show tyD (.bool a) = "bool" from rfl, kit_bool]
theorem rangeD_succ (lo : Int) (n : Nat) : rangeD lo (n + 1) = rangeD lo n ++ [.int (lo + n)] := by
  unfold rangeD
  rw [List.range_succ]
  simp
@[simp] theorem get0 {α : Type} (a : α) (l : List α) : (a :: l)[0]? = some a := rfl
@[simp] theorem get1 {α : Type} (a b : α) (l : List α) : (a :: b :: l)[1]? = some b := rfl
@[simp] theorem get2 {α : Type} (a b c : α) (l : List α) : (a :: b :: c :: l)[2]? = some c := rfl
@[simp] theorem get3 {α : Type} (a b c d : α) (l : List α) : (a :: b :: c :: d :: l)[3]? = some d := rfl
@[simp] theorem get4 {α : Type} (a b c d e : α) (l : List α) : (a :: b :: c :: d :: e :: l)[4]? = some e := rfl
@[simp] theorem get5 {α : Type} (a b c d e f : α) (l : List α) : (a :: b :: c :: d :: e :: f :: l)[5]? = some f := rfl
@[simp] theorem get6 {α : Type} (a b c d e f g : α) (l : List α) : (a :: b :: c :: d :: e :: f :: g :: l)[6]? = some g := rfl
theorem rangeD_cons (lo : Int) (n : Nat) : rangeD lo (n + 1) = .int lo :: rangeD (lo + 1) n := by
  unfold rangeD
  rw [List.range_succ_eq_map, List.map_cons, List.map_map]
  congr 1
  · simp
  · apply List.map_congr_left
    intro i _
    simp
    omega
theorem kit_int_bool : kitB "int" "bool" = some false := by decide +kernel
theorem kit_int_int : kitB "int" "int" = some true := by decide +kernel
@[simp] theorem isiD_int_bool (a : Int) : isiD "bool" (.int a) = .ok (.bool false) := by
  unfold isiD
  rw [show tyD (.int a) = "int" from rfl, kit_int_bool]
@[simp] theorem isiD_int_int (a : Int) : isiD "int" (.int a) = .ok (.bool true) := by
  unfold isiD
  rw [show tyD (.int a) = "int" from rfl, kit_int_int]
end Wm

set_option Elab.async false
set_option linter.all false
set_option maxRecDepth 100000
/-! WmEq: == of lists and tuples. -/
namespace Wm
open PySem PySem.Spec PyProof.Rows L2
def eqR (d e : D) : Rs D := if SeqAt.shaped d && SeqAt.shaped e then .ok (.bool (PyData.eqv d e)) else .bad
def neR (d e : D) : Rs D := if SeqAt.shaped d && SeqAt.shaped e then .ok (.bool !(PyData.eqv d e)) else .bad
theorem eqD_R (d e : D) (h : eqB d e = if SeqAt.shaped d && SeqAt.shaped e then some (PyData.eqv d e) else none) : eqD d e = eqR d e := by
  unfold eqD eqR; rw [h]
  by_cases c : (SeqAt.shaped d && SeqAt.shaped e) = true
  · rw [if_pos c, if_pos c]
  · rw [if_neg c, if_neg c]
theorem neD_R (d e : D) (h : eqB d e = if SeqAt.shaped d && SeqAt.shaped e then some (PyData.eqv d e) else none) : neD d e = neR d e := by
  unfold neD neR; rw [h]
  by_cases c : (SeqAt.shaped d && SeqAt.shaped e) = true
  · rw [if_pos c, if_pos c]
  · rw [if_neg c, if_neg c]
@[simp] theorem eqD_tt (xs ys : List D) : eqD (.tuple xs) (.tuple ys) = eqR (.tuple xs) (.tuple ys) := eqD_R _ _ rfl
@[simp] theorem eqD_ll (xs ys : List D) : eqD (.list xs) (.list ys) = eqR (.list xs) (.list ys) := eqD_R _ _ rfl
@[simp] theorem neD_tt (xs ys : List D) : neD (.tuple xs) (.tuple ys) = neR (.tuple xs) (.tuple ys) := neD_R _ _ rfl
@[simp] theorem neD_ll (xs ys : List D) : neD (.list xs) (.list ys) = neR (.list xs) (.list ys) := neD_R _ _ rfl
@[simp] theorem eqD_tn (xs : List D) : eqD (.tuple xs) .none = eqR (.tuple xs) .none := eqD_R _ _ rfl
@[simp] theorem eqD_nt (xs : List D) : eqD .none (.tuple xs) = eqR .none (.tuple xs) := eqD_R _ _ rfl
@[simp] theorem neD_tn (xs : List D) : neD (.tuple xs) .none = neR (.tuple xs) .none := neD_R _ _ rfl
@[simp] theorem neD_nt (xs : List D) : neD .none (.tuple xs) = neR .none (.tuple xs) := neD_R _ _ rfl
@[simp] theorem eqD_ln (xs : List D) : eqD (.list xs) .none = eqR (.list xs) .none := eqD_R _ _ rfl
@[simp] theorem eqD_nl (xs : List D) : eqD .none (.list xs) = eqR .none (.list xs) := eqD_R _ _ rfl
/-- what may stand in a comparison: depth at most k, texts of signs -/
def shp (k : Nat) (d : D) : Prop := d.canLay0 = true ∧ d.depth ≤ k
def shpAll (k : Nat) (ds : List D) : Prop := PyData.canLayAll0 ds = true ∧ PyData.depthAll ds ≤ k
theorem shp_shaped {k : Nat} {d : D} (h : shp k d) (hk : k ≤ 64 := by decide) : SeqAt.shaped d = true := by
  unfold SeqAt.shaped
  rw [h.1, decide_eq_true (Nat.le_trans h.2 hk)]; rfl
theorem eqR_ok {k j : Nat} {d e : D} (h : shp k d) (h' : shp j e) (hk : k ≤ 64 := by decide) (hj : j ≤ 64 := by decide) : eqR d e = .ok (.bool (PyData.eqv d e)) := by
  unfold eqR
  rw [shp_shaped h hk, shp_shaped h' hj]; rfl
theorem neR_ok {k j : Nat} {d e : D} (h : shp k d) (h' : shp j e) (hk : k ≤ 64 := by decide) (hj : j ≤ 64 := by decide) : neR d e = .ok (.bool !(PyData.eqv d e)) := by
  unfold neR
  rw [shp_shaped h hk, shp_shaped h' hj]; rfl
theorem shp_none {k : Nat} : shp k .none := ⟨rfl, Nat.zero_le _⟩
theorem shp_bool {k : Nat} {b : Bool} : shp k (.bool b) := ⟨rfl, Nat.zero_le _⟩
theorem shp_int {k : Nat} {b : Int} : shp k (.int b) := ⟨rfl, Nat.zero_le _⟩
theorem shp_tuple {k : Nat} {ds : List D} (h : shpAll k ds) : shp (k + 1) (.tuple ds) := ⟨by rw [PyData.canLay0]; exact h.1, by rw [PyData.depth]; exact Nat.succ_le_succ h.2⟩
theorem shp_list {k : Nat} {ds : List D} (h : shpAll k ds) : shp (k + 1) (.list ds) := ⟨by rw [PyData.canLay0]; exact h.1, by rw [PyData.depth]; exact Nat.succ_le_succ h.2⟩
theorem shpAll_nil {k : Nat} : shpAll k [] := ⟨rfl, Nat.zero_le _⟩
theorem shpAll_cons {k : Nat} {d : D} {ds : List D} (h : shp k d) (h' : shpAll k ds) : shpAll k (d :: ds) := ⟨by rw [PyData.canLayAll0, h.1, h'.1]; rfl, by rw [PyData.depthAll]; exact Nat.max_le.mpr ⟨h.2, h'.2⟩⟩
theorem shpAll_of {k : Nat} : ∀ {ds : List D}, (∀ d ∈ ds, shp k d) → shpAll k ds
  | [], _ => shpAll_nil
  | d :: ds, h => shpAll_cons (h d List.mem_cons_self) (shpAll_of fun z hz => h z (List.mem_cons_of_mem _ hz))
theorem shp_tx {k : Nat} {l : List Nat} (h : ∀ c ∈ l, c < 128) : shp k (tx l) := by
  refine ⟨?_, Nat.zero_le _⟩
  rw [PyData.canLay0]
  show (l.toArray).all (· < 0x110000) = true
  rw [List.all_toArray, List.all_eq_true]
  intro c hc
  have := h c hc
  exact decide_eq_true (by omega)
theorem shpAll_txs {k : Nat} {ls : List (List Nat)} (h : ∀ l ∈ ls, ∀ c ∈ l, c < 128) : shpAll k (ls.map tx) := shpAll_of fun d hd => by
  obtain ⟨l, hl, rfl⟩ := List.mem_map.mp hd
  exact shp_tx (h l hl)
theorem eqv_tx (a b : List Nat) : PyData.eqv (tx a) (tx b) = decide (a = b) := by
  show ((⟨a.toArray⟩ : Str) == ⟨b.toArray⟩) = _
  rw [Bool.eq_iff_iff]
  simp
theorem eqvAll_txs : ∀ a b : List (List Nat), PyData.eqvAll (a.map tx) (b.map tx) = decide (a = b)
  | [], [] => rfl
  | [], _ :: _ => rfl
  | _ :: _, [] => rfl
  | x :: xs, y :: ys => by
    show (PyData.eqv (tx x) (tx y) && PyData.eqvAll (xs.map tx) (ys.map tx)) = _
    rw [eqv_tx, eqvAll_txs xs ys]
    simp
theorem eqvAll_nil_cons (x : D) (xs : List D) : PyData.eqvAll [] (x :: xs) = false := rfl
theorem eqvAll_cons_nil (x : D) (xs : List D) : PyData.eqvAll (x :: xs) [] = false := rfl
/-- == [] -/
theorem eqD_nil {k : Nat} {ds : List D} (h : shpAll k ds) (hk : k ≤ 63 := by decide) : eqD (.list ds) (.list []) = .ok (.bool ds.isEmpty) := by
  rw [eqD_ll, eqR_ok (shp_list h) (shp_list (shpAll_nil (k := k))) (by omega) (by omega)]
  cases ds <;> rfl
theorem neD_nil {k : Nat} {ds : List D} (h : shpAll k ds) (hk : k ≤ 63 := by decide) : neD (.list ds) (.list []) = .ok (.bool !ds.isEmpty) := by
  rw [neD_ll, neR_ok (shp_list h) (shp_list (shpAll_nil (k := k))) (by omega) (by omega)]
  cases ds <;> rfl
mutual
theorem eqv_refl : ∀ d : D, d.canLay0 = true → PyData.eqv d d = true
  | .none, _ => rfl
  | .bool b, _ => by show (b == b) = true; simp
  | .int b, _ => by show (b == b) = true; simp
  | .str b, _ => by show (b == b) = true; simp
  | .list ds, h => by rw [PyData.canLay0] at h; show PyData.eqvAll ds ds = true; exact eqvAll_refl ds h
  | .tuple ds, h => by rw [PyData.canLay0] at h; show PyData.eqvAll ds ds = true; exact eqvAll_refl ds h
  | .dict ds, h => by rw [PyData.canLay0] at h; cases h
theorem eqvAll_refl : ∀ ds : List D, PyData.canLayAll0 ds = true → PyData.eqvAll ds ds = true
  | [], _ => rfl
  | d :: ds, h => by
    rw [PyData.canLayAll0, Bool.and_eq_true] at h
    show (PyData.eqv d d && PyData.eqvAll ds ds) = true
    rw [eqv_refl d h.1, eqvAll_refl ds h.2]
    rfl
end
theorem eqR_refl {k : Nat} {d : D} (h : shp k d) (hk : k ≤ 64 := by decide) : eqR d d = .ok (.bool true) := by
  rw [eqR_ok h h hk hk, eqv_refl d h.1]
theorem neR_refl {k : Nat} {d : D} (h : shp k d) (hk : k ≤ 64 := by decide) : neR d d = .ok (.bool false) := by
  rw [neR_ok h h hk hk, eqv_refl d h.1]; rfl
end Wm

set_option Elab.async false
set_option linter.all false
set_option maxRecDepth 100000
set_option maxHeartbeats 4000000
namespace Wp
open PySem PySem.Spec PyProof.Rows L2 Wm
def k_SIXTEEN : D := (tx [48, 49, 50, 51, 52, 53, 54, 55, 56, 57, 97, 98, 99, 100, 101, 102])
def f_pair_of : En → Out :=
  (sSeq (sUnp (gTp 2 (gsCons (gNm 1) (gsCons (gNm 2) gsNil))) (eBlt divmodD (aCons (eBlt ordD (aCons (eVar 0) aNil)) (aCons (eC (.int 16)) aNil))))
    (sRet (e2 addD (e2 addD (eC (tx [126])) (e2 ixD (eC k_SIXTEEN) (eVar 1))) (e2 ixD (eC k_SIXTEEN) (eVar 2)))))
def g_pair_of : List D → Rs D := runF 3 f_pair_of
def k_PLAIN : D := (tx [97, 98, 99, 100, 101, 102, 103, 104, 105, 106, 107, 108, 109, 110, 111, 112, 113, 114, 115, 116, 117, 118, 119, 120, 121, 122, 65, 66, 67, 68, 69, 70, 71, 72, 73, 74, 75, 76, 77, 78, 79, 80, 81, 82, 83, 84, 85, 86, 87, 88, 89, 90, 48, 49, 50, 51, 52, 53, 54, 55, 56, 57, 45, 95, 46])
def b_written_1 : En → Out :=
  (sIf (tB (e2 inD (eVar 2) (eC k_PLAIN)))
      (sAug 1 addI (eVar 2))
      (sAug 1 addI (eCall 1 g_pair_of (aCons (eVar 2) aNil))))
def f_written : En → Out :=
  (sSeq (sSet 1 (eC (tx [])))
    (sSeq (sFor (eIt iSeq (eVar 0)) (gNm 2)
      b_written_1)
    (sRet (eVar 1))))
def g_written : List D → Rs D := runF 3 f_written
def f__law_cell_at : En → Out :=
  (sSeq (sIf (tB (e2 ltD (eVar 1) (eBlt lenD (aCons (eVar 0) aNil))))
      (sRet (e2 ixD (eVar 0) (eVar 1)))
      sNx)
    (sRet (eC (.int 0))))
def g__law_cell_at : List D → Rs D := runF 2 f__law_cell_at
def f__law_table : En → Out :=
  (sSeq (sSet 0 (eC (tx [32, 33, 34, 35, 36, 38, 39, 40, 41, 42, 43, 44, 45, 46, 47, 48, 49, 50, 51, 52, 53, 54, 55, 56, 57, 58, 59, 60, 61, 62, 63, 64, 65, 66, 67, 68, 69, 70, 71, 72, 73, 74, 75, 76, 77, 78, 79, 80, 81, 82, 83, 84, 85, 86, 87, 88, 89, 90, 91, 92, 93, 94, 95, 96])))
    (sRet (e2 addD (eVar 0) (eC (tx [97, 98, 99, 100, 101, 102, 103, 104, 105, 106, 107, 108, 109, 110, 111, 112, 113, 114, 115, 116, 117, 118, 119, 120, 121, 122, 123, 124, 125, 126])))))
def g__law_table : List D → Rs D := runF 1 f__law_table
def f__law_hex : En → Out :=
  (sSeq (sSet 1 (eM1 sindexD (eCall0 g__law_table) (eVar 0)))
    (sSeq (sSet 2 (e2 addD (e2 addD (eC (.int 32)) (eVar 1)) (eBlt intD (aCons (e2 gtD (eVar 1) (eC (.int 4))) aNil))))
    (sRet (e2 addD (e2 ixD (eC (tx [48, 49, 50, 51, 52, 53, 54, 55, 56, 57, 97, 98, 99, 100, 101, 102])) (e2 fdivD (eVar 2) (eC (.int 16)))) (e2 ixD (eC (tx [48, 49, 50, 51, 52, 53, 54, 55, 56, 57, 97, 98, 99, 100, 101, 102])) (e2 modD (eVar 2) (eC (.int 16))))))))
def g__law_hex : List D → Rs D := runF 3 f__law_hex
def f__law_plain : En → Out :=
  (sRet (eOr (eM0 isalnumD (eVar 0)) (e2 inD (eVar 0) (eC (tx [45, 95, 46])))))
def g__law_plain : List D → Rs D := runF 1 f__law_plain
def b__law_written_1 : En → Out :=
  (sIf (tB (eCall 1 g__law_plain (aCons (eVar 2) aNil)))
      (sSet 1 (e2 addD (eVar 1) (eVar 2)))
      (sSet 1 (e2 addD (e2 addD (eVar 1) (eC (tx [126]))) (eCall 1 g__law_hex (aCons (eVar 2) aNil)))))
def f__law_written : En → Out :=
  (sSeq (sSet 1 (eC (tx [])))
    (sSeq (sFor (eIt iSeq (eVar 0)) (gNm 2)
      b__law_written_1)
    (sRet (eVar 1))))
def g__law_written : List D → Rs D := runF 3 f__law_written
end Wp

set_option Elab.async false
set_option linter.all false
set_option maxRecDepth 100000
set_option maxHeartbeats 4000000
namespace Wp
open PySem PySem.Spec PyProof.Rows L2 Wm
/-! ### the signs -/
def T : List Nat := [32, 33, 34, 35, 36, 38, 39, 40, 41, 42, 43, 44, 45, 46, 47, 48, 49, 50, 51, 52, 53, 54, 55, 56, 57, 58, 59, 60, 61, 62, 63, 64, 65, 66, 67, 68, 69, 70, 71, 72, 73, 74, 75, 76, 77, 78, 79, 80, 81, 82, 83, 84, 85, 86, 87, 88, 89, 90, 91, 92, 93, 94, 95, 96, 97, 98, 99, 100, 101, 102, 103, 104, 105, 106, 107, 108, 109, 110, 111, 112, 113, 114, 115, 116, 117, 118, 119, 120, 121, 122, 123, 124, 125, 126]
def X16 : List Nat := [48, 49, 50, 51, 52, 53, 54, 55, 56, 57, 97, 98, 99, 100, 101, 102]
def dg (n : Nat) : Nat := if n < 10 then 48 + n else 87 + n
theorem table_ok : g__law_table [] = .ok (tx T) := isStr_eq (by decide +kernel)
theorem T128 : ∀ c ∈ T, c < 128 := by decide
theorem hex_all : T.all (fun c => isStr (g__law_hex [tx [c]]) [dg (c / 16), dg (c % 16)]) = true := by decide +kernel
theorem hex_ok {c : Nat} (h : c ∈ T) : g__law_hex [tx [c]] = .ok (tx [dg (c / 16), dg (c % 16)]) := isStr_eq (List.all_eq_true.mp hex_all c h)
theorem pair_all : T.all (fun c => isStr (g_pair_of [tx [c]]) [126, dg (c / 16), dg (c % 16)]) = true := by decide +kernel
theorem pair_ok {c : Nat} (h : c ∈ T) : g_pair_of [tx [c]] = .ok (tx [126, dg (c / 16), dg (c % 16)]) := isStr_eq (List.all_eq_true.mp pair_all c h)

theorem lT : T.length = 94 := by decide
/-! ### plain signs, texts written -/
def pln (c : Nat) : Bool := alnum c || decide (c ∈ [45, 95, 46])
def enc (c : Nat) : List Nat := if pln c = true then [c] else [126, dg (c / 16), dg (c % 16)]
def wr (l : List Nat) : List Nat := l.flatMap enc
theorem plain_all : ∀ c, c < 128 → decide (c ∈ [97, 98, 99, 100, 101, 102, 103, 104, 105, 106, 107, 108, 109, 110, 111, 112, 113, 114, 115, 116, 117, 118, 119, 120, 121, 122, 65, 66, 67, 68, 69, 70, 71, 72, 73, 74, 75, 76, 77, 78, 79, 80, 81, 82, 83, 84, 85, 86, 87, 88, 89, 90, 48, 49, 50, 51, 52, 53, 54, 55, 56, 57, 45, 95, 46]) = pln c := by decide +kernel
theorem inD_plain {c : Nat} (h : c < 128) : inD (tx [c]) k_PLAIN = .ok (.bool (pln c)) := by
  unfold k_PLAIN
  rw [inD_s, plain_all c h]
theorem len_enc (c : Nat) : (enc c).length ≤ 3 := by
  unfold enc; split <;> simp
theorem len_wr : ∀ l : List Nat, (wr l).length ≤ 3 * l.length
  | [] => by simp [wr]
  | c :: l => by
    have := len_wr l
    have := len_enc c
    unfold wr at *
    simp only [List.flatMap_cons, List.length_append, List.length_cons]
    omega
theorem wr_cons (c : Nat) (l : List Nat) : wr (c :: l) = enc c ++ wr l := by simp [wr]
theorem wr_append (a b : List Nat) : wr (a ++ b) = wr a ++ wr b := by simp [wr]
theorem wr_nil : wr [] = [] := rfl
theorem written_turn (t : Option D) (acc : List Nat) (c : Nat) (h : c ∈ T) (hl : acc.length ≤ 16000000) : b_written_1 [t, some (tx acc), some (tx [c])] = .nx [t, some (tx (acc ++ enc c)), some (tx [c])] := by
  unfold b_written_1
  simp [inD_plain (T128 c h), pair_ok h, enc]
  cases pln c <;> simp <;> (rw [if_pos (by omega)]) <;> simp
theorem written_loop (t : Option D) : ∀ (l acc : List Nat) (o : Option D), (∀ c ∈ l, c ∈ T) → acc.length + 3 * l.length ≤ 16000000 →
    ∃ o', forL (gNm 2) b_written_1 (l.map fun c => tx [c]) [t, some (tx acc), o] = .nx [t, some (tx (acc ++ wr l)), o']
  | [], acc, o, _, _ => ⟨o, by simp [wr]⟩
  | c :: l, acc, o, h, hl => by
    have e := len_enc c
    simp only [List.length_cons] at hl
    obtain ⟨o', ih⟩ := written_loop t l (acc ++ enc c) (some (tx [c])) (fun z hz => h z (List.mem_cons_of_mem _ hz)) (by simp; omega)
    refine ⟨o', ?_⟩
    rw [List.map_cons, forL_name]
    simp only [List.set_cons_succ, List.set_cons_zero, written_turn t acc c (h c List.mem_cons_self) (by omega), oLoop_nx, ih, wr_cons, List.append_assoc]
theorem written_ok (l : List Nat) (h : ∀ c ∈ l, c ∈ T) (hl : l.length ≤ 5000000) : g_written [tx l] = .ok (tx (wr l)) := by
  obtain ⟨o', e⟩ := written_loop (some (tx l)) l [] none h (by simp; omega)
  unfold g_written f_written
  rw [runF_eq]
  simp
  simp at e
  rw [e]
  simp
/-! ### the law's own -/
theorem lplain_ok (c : Nat) (h : c < 128) : g__law_plain [tx [c]] = .ok (.bool (pln c)) := by
  unfold g__law_plain f__law_plain
  rw [runF_eq]
  simp [isalnumD, isalnum_one c h, pln]
  cases alnum c <;> simp
theorem lwritten_turn (t : Option D) (acc : List Nat) (c : Nat) (h : c ∈ T) (hl : acc.length ≤ 16000000) : b__law_written_1 [t, some (tx acc), some (tx [c])] = .nx [t, some (tx (acc ++ enc c)), some (tx [c])] := by
  unfold b__law_written_1
  simp [lplain_ok c (T128 c h), enc]
  cases pln c <;> simp (disch := omega) [if_pos, hex_ok h]
theorem lwritten_loop (t : Option D) : ∀ (l acc : List Nat) (o : Option D), (∀ c ∈ l, c ∈ T) → acc.length + 3 * l.length ≤ 16000000 →
    ∃ o', forL (gNm 2) b__law_written_1 (l.map fun c => tx [c]) [t, some (tx acc), o] = .nx [t, some (tx (acc ++ wr l)), o']
  | [], acc, o, _, _ => ⟨o, by simp [wr]⟩
  | c :: l, acc, o, h, hl => by
    have e := len_enc c
    simp only [List.length_cons] at hl
    obtain ⟨o', ih⟩ := lwritten_loop t l (acc ++ enc c) (some (tx [c])) (fun z hz => h z (List.mem_cons_of_mem _ hz)) (by simp; omega)
    refine ⟨o', ?_⟩
    rw [List.map_cons, forL_name]
    simp only [List.set_cons_succ, List.set_cons_zero, lwritten_turn t acc c (h c List.mem_cons_self) (by omega), oLoop_nx, ih, wr_cons, List.append_assoc]
theorem lwritten_ok (l : List Nat) (h : ∀ c ∈ l, c ∈ T) (hl : l.length ≤ 5000000) : g__law_written [tx l] = .ok (tx (wr l)) := by
  obtain ⟨o', e⟩ := lwritten_loop (some (tx l)) l [] none h (by simp; omega)
  unfold g__law_written f__law_written
  rw [runF_eq]
  simp
  simp at e
  rw [e]
  simp
/-! ### the script's cells -/
def cell (ns : List Int) (k : Nat) : Int := ns.getD k 0
theorem cell_ok (ns : List Int) (k : Nat) : g__law_cell_at [.list (ns.map PyData.int), .int k] = .ok (.int (cell ns k)) := by
  unfold g__law_cell_at f__law_cell_at
  rw [runF_eq]
  by_cases h : k < ns.length
  · simp [h, atI_n, cell]
  · simp [h, cell]
end Wp

set_option Elab.async false
set_option linter.all false
set_option maxRecDepth 100000
set_option maxHeartbeats 4000000
namespace Wp
open PySem PySem.Spec PyProof.Rows L2 Wm
def b_left_of_1 : En → Out :=
  (sIf (tB (e2 eqD (eVar 3) (eC (tx [46, 46]))))
      (sIf (tAn (tB (e2 neD (eVar 2) (eLst aNil))) (tB (e2 neD (e2 ixD (eVar 2) (eNeg (eC (.int 1)))) (eC (tx [46, 46])))))
      (sPop 2)
      (sIf (tNo (tB (eVar 1)))
      (sApp 2 (eVar 3))
      sNx))
      (sIf (tB (e2 neD (eVar 3) (eC (tx [46]))))
      (sApp 2 (eVar 3))
      sNx))
def f_left_of : En → Out :=
  (sSeq (sSet 2 (eLst aNil))
    (sSeq (sFor (eIt iSeq (eVar 0)) (gNm 3)
      b_left_of_1)
    (sRet (eBlt tupD (aCons (eVar 2) aNil)))))
def g_left_of : List D → Rs D := runF 4 f_left_of
def k_DOTS : D := (.tuple [(tx [46]), (tx [46, 46])])
def t_gone_1 : En → Out :=
  (sSeq (sIf (tB (eVar 1))
      (sRet (eTup (aCons (eC (.bool true)) (aCons (eTup aNil) (aCons (eC (.bool true)) aNil)))))
      sNx)
    (sRet (eTup (aCons (eC (.bool false)) (aCons (eTup (aCons (eC (tx [46])) aNil)) (aCons (eC (.bool true)) aNil))))))
def t_gone_2 : En → Out :=
  (sSeq (sIf (tB (e2 neD (eVar 4) (eTup aNil)))
      (sRet (eTup (aCons (eVar 1) (aCons (eVar 4) (aCons (eOr (eVar 3) (e2 inD (e2 ixD (eVar 2) (eNeg (eC (.int 1)))) (eC k_DOTS))) aNil)))))
      sNx)
    t_gone_1)
def t_gone_3 : En → Out :=
  (sSeq (sSet 4 (eCall 2 g_left_of (aCons (eVar 2) (aCons (eVar 1) aNil))))
    t_gone_2)
def t_gone_4 : En → Out :=
  (sSeq (sIf (tB (e2 eqD (eVar 2) (eTup aNil)))
      (sRet (eVar 0))
      sNx)
    t_gone_3)
def f_gone : En → Out :=
  (sSeq (sUnp (gTp 3 (gsCons (gNm 1) (gsCons (gNm 2) (gsCons (gNm 3) gsNil)))) (eVar 0))
    t_gone_4)
def g_gone : List D → Rs D := runF 5 f_gone
def b__law_text_1 : En → Out :=
  (sSeq (sSet 3 (e2 addD (eVar 3) (e2 ixD (eVar 2) (e2 modD (e2 addD (eVar 4) (e2 mulD (e2 mulD (eC (.int 31)) (eVar 5)) (eVar 5))) (eC (.int 94))))))
    (sSet 4 (e2 fdivD (eVar 4) (eC (.int 94)))))
def t__law_text_2 : En → Out :=
  (sSeq (sFor (iRange1 (e2 addD (eC (.int 1)) (e2 modD (eVar 0) (eVar 1)))) (gNm 5)
      b__law_text_1)
    (sRet (eVar 3)))
def t__law_text_3 : En → Out :=
  (sSeq (sSet 4 (e2 fdivD (eVar 0) (eVar 1)))
    t__law_text_2)
def t__law_text_4 : En → Out :=
  (sSeq (sSet 3 (eC (tx [])))
    t__law_text_3)
def t__law_text_5 : En → Out :=
  (sSeq (sSet 2 (e2 addD (eVar 2) (eC (tx [97, 98, 99, 100, 101, 102, 103, 104, 105, 106, 107, 108, 109, 110, 111, 112, 113, 114, 115, 116, 117, 118, 119, 120, 121, 122, 123, 124, 125, 126]))))
    t__law_text_4)
def f__law_text : En → Out :=
  (sSeq (sSet 2 (eC (tx [32, 33, 34, 35, 36, 38, 39, 40, 41, 42, 43, 44, 45, 46, 47, 48, 49, 50, 51, 52, 53, 54, 55, 56, 57, 58, 59, 60, 61, 62, 63, 64, 65, 66, 67, 68, 69, 70, 71, 72, 73, 74, 75, 76, 77, 78, 79, 80, 81, 82, 83, 84, 85, 86, 87, 88, 89, 90, 91, 92, 93, 94, 95, 96])))
    t__law_text_5)
def g__law_text : List D → Rs D := runF 6 f__law_text
def t__law_step_1 : En → Out :=
  (sSeq (sIf (tB (e2 ltD (e2 modD (eVar 0) (eC (.int 8))) (eC (.int 6))))
      (sRet (e2 mulD (e2 ixD (eC (tx [97, 98, 99])) (e2 modD (eVar 1) (eC (.int 3)))) (e2 addD (eC (.int 1)) (e2 modD (e2 fdivD (eVar 1) (eC (.int 3))) (eC (.int 2))))))
      sNx)
    (sRet (eCall 2 g__law_text (aCons (eVar 1) (aCons (eC (.int 9)) aNil)))))
def t__law_step_2 : En → Out :=
  (sSeq (sIf (tB (e2 eqD (e2 modD (eVar 0) (eC (.int 8))) (eC (.int 3))))
      (sRet (e2 ixD (eLst (aCons (eC (tx [46, 46, 46])) (aCons (eC (tx [46, 97])) (aCons (eC (tx [46, 46, 98])) (aCons (eC (tx [97, 46])) (aCons (eC (tx [45])) (aCons (eC (tx [126])) (aCons (eC (tx [97, 47, 98])) (aCons (eC (tx [58])) aNil))))))))) (e2 modD (eVar 1) (eC (.int 8)))))
      sNx)
    t__law_step_1)
def t__law_step_3 : En → Out :=
  (sSeq (sIf (tB (e2 eqD (e2 modD (eVar 0) (eC (.int 8))) (eC (.int 2))))
      (sRet (eC (tx [46])))
      sNx)
    t__law_step_2)
def t__law_step_4 : En → Out :=
  (sSeq (sIf (tB (e2 ltD (e2 modD (eVar 0) (eC (.int 8))) (eC (.int 2))))
      (sRet (eC (tx [46, 46])))
      sNx)
    t__law_step_3)
def f__law_step : En → Out :=
  (sSeq (sSet 1 (e2 fdivD (eVar 0) (eC (.int 8))))
    t__law_step_4)
def g__law_step : List D → Rs D := runF 2 f__law_step
def f__law_same_way : En → Out :=
  (sSeq (sIf (tOr' (tNo (tB (eIsi "tuple" (eVar 0)))) (tOr' (tB (e2 neD (eBlt lenD (aCons (eVar 0) aNil)) (eC (.int 3)))) (tNo (tB (eIsi "bool" (e2 ixD (eVar 0) (eC (.int 0))))))))
      (sRet (eC (.bool false)))
      sNx)
    (sSeq (sIf (tOr' (tNo (tB (eIsi "tuple" (e2 ixD (eVar 0) (eC (.int 1)))))) (tNo (tB (eIsi "bool" (e2 ixD (eVar 0) (eC (.int 2)))))))
      (sRet (eC (.bool false)))
      sNx)
    (sRet (eAn (e2 eqD (eLc (eIt iSeq (e2 ixD (eVar 0) (eC (.int 1)))) [2] (gNm 2) (tNo (tB (eIsi "str" (eVar 2)))) (eVar 2)) (eLst aNil)) (e2 eqD (eVar 0) (eVar 1))))))
def g__law_same_way : List D → Rs D := runF 3 f__law_same_way
def b__law_gone_1 : En → Out :=
  (sIf (tB (e2 eqD (eVar 6) (eC (tx [46, 46]))))
      (sSet 5 (e2 addD (eVar 5) (eC (.int 1))))
      (sIf (tAn (tB (e2 neD (eVar 6) (eC (tx [46])))) (tB (e2 gtD (eVar 5) (eC (.int 0)))))
      (sSet 5 (e2 subD (eVar 5) (eC (.int 1))))
      (sIf (tB (e2 neD (eVar 6) (eC (tx [46]))))
      (sApp 4 (eVar 6))
      sNx)))
def t__law_gone_2 : En → Out :=
  (sSeq (sIf (tB (e2 eqD (eVar 4) (eLst aNil)))
      (sRet (eTup (aCons (eVar 1) (aCons (eIf (tB (eVar 1)) (eTup aNil) (eTup (aCons (eC (tx [46])) aNil))) (aCons (eC (.bool true)) aNil)))))
      sNx)
    (sRet (eTup (aCons (eVar 1) (aCons (eBlt tupD (aCons (eVar 4) aNil)) (aCons (eOr (eVar 3) (e2 inD (e2 ixD (eVar 2) (eNeg (eC (.int 1)))) (eTup (aCons (eC (tx [46])) (aCons (eC (tx [46, 46])) aNil))))) aNil))))))
def t__law_gone_3 : En → Out :=
  (sSeq (sIf (tB (e2 eqD (eVar 2) (eTup aNil)))
      (sRet (eVar 0))
      sNx)
    t__law_gone_2)
def t__law_gone_4 : En → Out :=
  (sSeq (sIf (tNo (tB (eVar 1)))
      (sSet 4 (e2 addL (e2 mulD (eLst (aCons (eC (tx [46, 46])) aNil)) (eVar 5)) (eVar 4)))
      sNx)
    t__law_gone_3)
def t__law_gone_5 : En → Out :=
  (sSeq (sRev 4)
    t__law_gone_4)
def t__law_gone_6 : En → Out :=
  (sSeq (sFor (eIt iRev (eVar 2)) (gNm 6)
      b__law_gone_1)
    t__law_gone_5)
def t__law_gone_7 : En → Out :=
  (sSeq (sSet 5 (eC (.int 0)))
    t__law_gone_6)
def t__law_gone_8 : En → Out :=
  (sSeq (sSet 4 (eLst aNil))
    t__law_gone_7)
def f__law_gone : En → Out :=
  (sSeq (sUnp (gTp 3 (gsCons (gNm 1) (gsCons (gNm 2) (gsCons (gNm 3) gsNil)))) (eVar 0))
    t__law_gone_8)
def g__law_gone : List D → Rs D := runF 7 f__law_gone
end Wp

set_option Elab.async false
set_option linter.all false
set_option maxRecDepth 100000
set_option maxHeartbeats 4000000
namespace Wp
open PySem PySem.Spec PyProof.Rows L2 Wm
def f_holder : En → Out :=
  (sSeq (sUnp (gTp 3 (gsCons (gNm 1) (gsCons (gNm 2) (gsCons (gNm 3) gsNil)))) (eCall 1 g_gone (aCons (eVar 0) aNil)))
    (sSeq (sIf (tB (eVar 3))
      (sRet (eVar 2))
      sNx)
    (sRet (eSl (eVar 2) oNo (oSo (eNeg (eC (.int 1))))))))
def g_holder : List D → Rs D := runF 4 f_holder
def f__law_holder : En → Out :=
  (sSeq (sUnp (gTp 3 (gsCons (gNm 1) (gsCons (gNm 2) (gsCons (gNm 3) gsNil)))) (eCall 1 g__law_gone (aCons (eVar 0) aNil)))
    (sSeq (sIf (tB (eVar 3))
      (sRet (eVar 2))
      sNx)
    (sRet (eSl (eVar 2) oNo (oSo (e2 subD (eBlt lenD (aCons (eVar 2) aNil)) (eC (.int 1))))))))
def g__law_holder : List D → Rs D := runF 4 f__law_holder
end Wp

set_option Elab.async false
set_option linter.all false
set_option maxRecDepth 100000
set_option maxHeartbeats 4000000
namespace Wp
open PySem PySem.Spec PyProof.Rows L2 Wm
abbrev Tx := List Nat
def one : Tx := [46]
def two : Tx := [46, 46]
/-! ### the plain law of ways -/
def lstep (r : Bool) (f : List Tx) (s : Tx) : List Tx :=
  if s = two then (if f ≠ [] ∧ f.getLast? ≠ some two then f.dropLast else if r = true then f else f ++ [s]) else if s ≠ one then f ++ [s] else f
def leftF (r : Bool) (ss : List Tx) : List Tx := ss.foldl (lstep r) []
/-- from the last one back: what is left, the steps up that found none -/
def back : List Tx → List Tx × Nat
  | [] => ([], 0)
  | s :: ss => if s = two then ((back ss).1, (back ss).2 + 1) else if s = one then back ss else if 0 < (back ss).2 then ((back ss).1, (back ss).2 - 1) else (s :: (back ss).1, 0)
def Free (g : List Tx) : Prop := ∀ s ∈ g, s ≠ one ∧ s ≠ two
theorem back_free : ∀ ss, Free (back ss).1
  | [] => by simp [back, Free]
  | s :: ss => by
    have ih := back_free ss
    unfold back
    split
    · exact ih
    · split
      · exact ih
      · split
        · exact ih
        · rename_i h1 h2 _
          intro z hz
          rcases List.mem_cons.mp hz with rfl | hz
          · exact ⟨h2, h1⟩
          · exact ih z hz
def dots (r : Bool) (k : Nat) : List Tx := if r = true then [] else List.replicate k two
theorem last_dots (r : Bool) (k : Nat) : ¬ (dots r k ≠ [] ∧ (dots r k).getLast? ≠ some two) := by
  unfold dots
  cases r with
  | true => simp
  | false =>
    cases k with
    | zero => simp
    | succ k =>
      rw [List.getLast?_eq_some_getLast (by simp)]
      simp
theorem dots_succ (r : Bool) (k : Nat) : (if r = true then dots r k else dots r k ++ [two]) = dots r (k + 1) := by
  unfold dots
  cases r with
  | true => simp
  | false => simp [List.replicate_succ']
theorem fold_back (r : Bool) : ∀ (ss : List Tx) (k : Nat) (g : List Tx), Free g →
    ss.foldl (lstep r) (dots r k ++ g) = if (back ss).2 ≤ g.length then dots r k ++ g.take (g.length - (back ss).2) ++ (back ss).1 else dots r (k + ((back ss).2 - g.length)) ++ (back ss).1
  | [], k, g, _ => by simp [back]
  | s :: ss, k, g, hg => by
    rw [List.foldl_cons]
    by_cases h2 : s = two
    · have eb : back (s :: ss) = ((back ss).1, (back ss).2 + 1) := by rw [back, if_pos h2]
      rw [eb]
      rcases List.eq_nil_or_concat g with rfl | ⟨g', z, rfl⟩
      · have e : lstep r (dots r k ++ []) s = dots r (k + 1) ++ [] := by
          unfold lstep
          rw [if_pos h2, List.append_nil, if_neg (last_dots r k), h2, dots_succ, List.append_nil]
        rw [e, fold_back r ss (k + 1) [] (by simp [Free])]
        have : k + 1 + (back ss).2 = k + ((back ss).2 + 1) := by omega
        by_cases c : (back ss).2 = 0
        · simp [c]
        · simp [c, this]
      · have hz := hg z (by simp)
        have e : lstep r (dots r k ++ (g'.concat z)) s = dots r k ++ g' := by
          unfold lstep
          rw [if_pos h2, if_pos]
          · rw [List.concat_eq_append, ← List.append_assoc, List.dropLast_concat]
          · rw [List.concat_eq_append, ← List.append_assoc, List.getLast?_concat]
            exact ⟨by simp, by simpa using hz.2⟩
        rw [e, fold_back r ss k g' (fun s hs => hg s (by simp [hs]))]
        simp only [List.concat_eq_append, List.length_append, List.length_cons, List.length_nil]
        by_cases c : (back ss).2 ≤ g'.length
        · rw [if_pos c, if_pos (by omega)]
          have : g'.length + (0 + 1) - ((back ss).2 + 1) = g'.length - (back ss).2 := by omega
          rw [this, List.take_append_of_le_length (by omega)]
        · rw [if_neg c, if_neg (by omega)]
          have : (back ss).2 + 1 - (g'.length + (0 + 1)) = (back ss).2 - g'.length := by omega
          rw [this]
    · by_cases h1 : s = one
      · have eb : back (s :: ss) = back ss := by rw [back, if_neg h2, if_pos h1]
        have e : lstep r (dots r k ++ g) s = dots r k ++ g := by
          unfold lstep
          rw [if_neg h2, if_neg (by simpa using h1)]
        rw [eb, e, fold_back r ss k g hg]
      · have e : lstep r (dots r k ++ g) s = dots r k ++ (g ++ [s]) := by
          unfold lstep
          rw [if_neg h2, if_pos h1, List.append_assoc]
        rw [e, fold_back r ss k (g ++ [s]) (fun z hz => by
          rcases List.mem_append.mp hz with m | m
          · exact hg z m
          · rw [List.mem_singleton.mp m]; exact ⟨h1, h2⟩)]
        by_cases c0 : 0 < (back ss).2
        · have eb : back (s :: ss) = ((back ss).1, (back ss).2 - 1) := by rw [back, if_neg h2, if_neg h1, if_pos c0]
          rw [eb]
          simp only [List.length_append, List.length_cons, List.length_nil]
          by_cases c : (back ss).2 ≤ g.length + 1
          · rw [if_pos (by omega), if_pos (by omega)]
            have : g.length + (0 + 1) - (back ss).2 = g.length - ((back ss).2 - 1) := by omega
            rw [this, List.take_append_of_le_length (by omega)]
          · rw [if_neg (by omega), if_neg (by omega)]
            have : (back ss).2 - (g.length + (0 + 1)) = (back ss).2 - 1 - g.length := by omega
            rw [this]
        · have eb : back (s :: ss) = (s :: (back ss).1, 0) := by rw [back, if_neg h2, if_neg h1, if_neg c0]
          rw [eb]
          have c : (back ss).2 = 0 := by omega
          rw [c]
          simp
          rw [List.take_of_length_le (by simp)]
          simp
theorem left_back (r : Bool) (ss : List Tx) : leftF r ss = dots r (back ss).2 ++ (back ss).1 := by
  have h := fold_back r ss 0 [] (by simp [Free])
  have e : dots r 0 ++ ([] : List Tx) = [] := by unfold dots; cases r <;> rfl
  rw [e] at h
  unfold leftF
  rw [h]
  by_cases c : (back ss).2 = 0
  · have e' : dots r 0 = [] := by unfold dots; cases r <;> rfl
    simp [c, e']
  · simp [c]
theorem back_of_free : ∀ {g : List Tx}, Free g → back g = (g, 0)
  | [], _ => rfl
  | s :: g, h => by
    have ih := back_of_free (g := g) fun z hz => h z (List.mem_cons_of_mem _ hz)
    have hs := h s List.mem_cons_self
    rw [back, if_neg hs.2, if_neg hs.1, ih]
    rfl
theorem back_dots (g : List Tx) (h : Free g) : ∀ k, back (List.replicate k two ++ g) = (g, k)
  | 0 => back_of_free h
  | k + 1 => by
    rw [List.replicate_succ, List.cons_append, back, if_pos rfl, back_dots g h k]
theorem left_left (r : Bool) (ss : List Tx) : leftF r (leftF r ss) = leftF r ss := by
  have hf := back_free ss
  rw [left_back r ss, left_back]
  generalize (back ss).1 = g at hf
  generalize (back ss).2 = k
  cases r with
  | true => simp only [dots, if_true, List.nil_append]; rw [back_of_free hf]
  | false => simp only [dots, Bool.false_eq_true, if_false]; rw [back_dots g hf k]
def isdot (s : Tx) : Bool := decide (s = one) || decide (s = two)
structure Way where
  r : Bool
  s : List Tx
  e : Bool
def Way.d (w : Way) : D := .tuple [.bool w.r, .tuple (w.s.map tx), .bool w.e]
def lastdot (s : List Tx) : Bool := match s.getLast? with | some z => isdot z | none => false
def gone (w : Way) : Way := if w.s = [] then w else if leftF w.r w.s ≠ [] then ⟨w.r, leftF w.r w.s, w.e || lastdot w.s⟩ else if w.r = true then ⟨true, [], true⟩ else ⟨false, [one], true⟩
theorem back_last {ss : List Tx} {z : Tx} (h : ss.getLast? = some z) (hz : isdot z = false) : (back ss).1 ≠ [] := by
  induction ss with
  | nil => simp at h
  | cons s ss ih =>
    cases ss with
    | nil =>
      simp at h
      subst h
      unfold isdot at hz
      simp at hz
      simp [back, hz]
    | cons y ys =>
      have := ih (by simpa using h)
      rw [back]
      split
      · exact this
      · split
        · exact this
        · split
          · exact this
          · simp
theorem gone_gone (w : Way) : gone (gone w) = gone w := by
  by_cases h0 : w.s = []
  · have : gone w = w := by unfold gone; rw [if_pos h0]
    rw [this, this]
  · by_cases h1 : leftF w.r w.s = []
    · by_cases h2 : w.r = true
      · have : gone w = ⟨true, [], true⟩ := by unfold gone; rw [if_neg h0, if_neg (by simpa using h1), if_pos h2]
        rw [this]; rfl
      · have : gone w = ⟨false, [one], true⟩ := by unfold gone; rw [if_neg h0, if_neg (by simpa using h1), if_neg h2]
        rw [this]; rfl
    · have e : gone w = ⟨w.r, leftF w.r w.s, w.e || lastdot w.s⟩ := by unfold gone; rw [if_neg h0, if_pos h1]
      rw [e]
      unfold gone
      simp only
      rw [if_neg h1, left_left, if_pos h1]
      congr 1
      cases hl : lastdot (leftF w.r w.s) with
      | false => simp
      | true =>
        have : lastdot w.s = true := by
          cases hs : w.s.getLast? with
          | none => rw [List.getLast?_eq_none_iff] at hs; exact absurd hs h0
          | some z =>
            unfold lastdot
            rw [hs]
            cases hz : isdot z with
            | true => exact hz
            | false =>
              exfalso
              have hb := back_last hs hz
              have hf := back_free w.s
              rw [left_back] at hl
              obtain ⟨g', y, ey⟩ := List.eq_nil_or_concat (back w.s).1 |>.resolve_left hb
              rw [List.concat_eq_append] at ey
              have hy := hf y (by rw [ey]; simp)
              rw [ey, ← List.append_assoc] at hl
              unfold lastdot at hl
              rw [List.getLast?_concat] at hl
              unfold isdot at hl
              simp [hy.1, hy.2] at hl
        rw [this]; simp
end Wp

set_option Elab.async false
set_option linter.all false
set_option maxRecDepth 100000
set_option maxHeartbeats 4000000
namespace Wp
open PySem PySem.Spec PyProof.Rows L2 Wm
/-! ### the walk of ways -/
/-- texts as the laws use them: of signs, not too many of them, not too long -/
def okT (l : Tx) : Prop := (∀ c ∈ l, c < 128) ∧ l.length ≤ 1000
def okS (s : List Tx) : Prop := (∀ l ∈ s, okT l) ∧ s.length ≤ 900
theorem shS {k : Nat} {s : List Tx} (h : ∀ l ∈ s, okT l) : shpAll k (s.map tx) := shpAll_txs fun l hl => (h l hl).1
theorem neD_list_nil {s : List Tx} (h : ∀ l ∈ s, okT l) : neD (.list (s.map tx)) (.list []) = .ok (.bool (decide (s ≠ []))) := by
  rw [neD_nil (k := 0) (shS h)]
  cases s <;> simp
theorem eqD_list_nil {s : List Tx} (h : ∀ l ∈ s, okT l) : eqD (.list (s.map tx)) (.list []) = .ok (.bool (decide (s = []))) := by
  rw [eqD_nil (k := 0) (shS h)]
  cases s <;> simp
theorem eqD_tup {a b : List Tx} (h : ∀ l ∈ a, okT l) (h' : ∀ l ∈ b, okT l) : eqD (.tuple (a.map tx)) (.tuple (b.map tx)) = .ok (.bool (decide (a = b))) := by
  rw [eqD_tt, eqR_ok (k := 1) (j := 1) (shp_tuple (shS h)) (shp_tuple (shS h'))]
  show Rs.ok (PyData.bool (PyData.eqvAll _ _)) = _
  rw [eqvAll_txs]
theorem neD_tup {a b : List Tx} (h : ∀ l ∈ a, okT l) (h' : ∀ l ∈ b, okT l) : neD (.tuple (a.map tx)) (.tuple (b.map tx)) = .ok (.bool !(decide (a = b))) := by
  rw [neD_tt, neR_ok (k := 1) (j := 1) (shp_tuple (shS h)) (shp_tuple (shS h'))]
  show Rs.ok (PyData.bool !(PyData.eqvAll _ _)) = _
  rw [eqvAll_txs]
theorem last_map (s : List Tx) : (s.map tx).getLast? = s.getLast?.map tx := by simp
theorem lstep_ok (r : Bool) (f : List Tx) (s : Tx) (hf : ∀ l ∈ f, okT l) (hs : okT s) : ∀ l ∈ lstep r f s, okT l := by
  unfold lstep
  split
  · split
    · exact fun l hl => hf l ((List.dropLast_sublist _).subset hl)
    · split
      · exact hf
      · exact fun l hl => by
          rcases List.mem_append.mp hl with m | m
          · exact hf l m
          · rw [List.mem_singleton.mp m]; exact hs
  · split
    · exact fun l hl => by
        rcases List.mem_append.mp hl with m | m
        · exact hf l m
        · rw [List.mem_singleton.mp m]; exact hs
    · exact hf
theorem lstep_len (r : Bool) (f : List Tx) (s : Tx) : (lstep r f s).length ≤ f.length + 1 := by
  unfold lstep
  split
  · split
    · simp; omega
    · split <;> simp
  · split <;> simp
theorem left_turn (t : Option D) (r : Bool) (f : List Tx) (s : Tx) (hf : ∀ l ∈ f, okT l) (hl : f.length ≤ 100000) : b_left_of_1 [t, some (.bool r), some (.list (f.map tx)), some (tx s)] = .nx [t, some (.bool r), some (.list ((lstep r f s).map tx)), some (tx s)] := by
  have e0 := neD_list_nil hf
  unfold b_left_of_1 lstep one two
  by_cases h2 : s = [46, 46]
  · subst h2
    rcases List.eq_nil_or_concat f with rfl | ⟨g, z, rfl⟩
    · simp at e0
      cases r <;> simp (disch := omega) [e0, if_pos]
    · simp at e0 hl
      by_cases hz : z = [46, 46]
      · subst hz
        cases r <;> simp (disch := omega) [e0, if_pos]
      · simp [e0, hz]
  · by_cases h1 : s = [46]
    · subst h1; simp
    · simp (disch := omega) [h1, h2, if_pos]
theorem left_loop (t : Option D) (r : Bool) : ∀ (ss f : List Tx) (o : Option D), (∀ l ∈ ss, okT l) → (∀ l ∈ f, okT l) → f.length + ss.length ≤ 100000 → ∃ o', forL (gNm 3) b_left_of_1 (ss.map tx) [t, some (.bool r), some (.list (f.map tx)), o] = .nx [t, some (.bool r), some (.list ((ss.foldl (lstep r) f).map tx)), o']
  | [], f, o, _, _, _ => ⟨o, rfl⟩
  | s :: ss, f, o, h, hf, hl => by
    simp only [List.length_cons] at hl
    have hs := h s List.mem_cons_self
    have e := lstep_len r f s
    obtain ⟨o', ih⟩ := left_loop t r ss (lstep r f s) (some (tx s)) (fun l hl => h l (List.mem_cons_of_mem _ hl)) (lstep_ok r f s hf hs) (by omega)
    refine ⟨o', ?_⟩
    rw [List.map_cons, forL_name]
    simp only [List.set_cons_succ, List.set_cons_zero, left_turn t r f s hf (by omega), oLoop_nx, ih, List.foldl_cons]
theorem left_ok (r : Bool) (ss : List Tx) (h : okS ss) : g_left_of [.tuple (ss.map tx), .bool r] = .ok (.tuple ((leftF r ss).map tx)) := by
  obtain ⟨o', e⟩ := left_loop (some (.tuple (ss.map tx))) r ss [] none h.1 (by simp) (by have := h.2; simp; omega)
  unfold g_left_of f_left_of
  rw [runF_eq]
  simp at e ⊢
  rw [e]
  simp [leftF]
theorem foldl_ok (r : Bool) : ∀ (ss f : List Tx), (∀ l ∈ ss, okT l) → (∀ l ∈ f, okT l) → (∀ l ∈ ss.foldl (lstep r) f, okT l) ∧ (ss.foldl (lstep r) f).length ≤ f.length + ss.length
  | [], f, _, hf => ⟨hf, by simp⟩
  | s :: ss, f, h, hf => by
    have := foldl_ok r ss (lstep r f s) (fun l hl => h l (List.mem_cons_of_mem _ hl)) (lstep_ok r f s hf (h s List.mem_cons_self))
    have e := lstep_len r f s
    rw [List.foldl_cons]
    exact ⟨this.1, by simp only [List.length_cons]; omega⟩
theorem left_okS {r : Bool} {ss : List Tx} (h : okS ss) : okS (leftF r ss) := by
  have := foldl_ok r ss [] h.1 (by simp)
  have h2 := h.2
  exact ⟨this.1, by unfold leftF; simp at this; omega⟩
theorem inDots (s : Tx) : inD (tx s) k_DOTS = .ok (.bool (isdot s)) := by
  have e : ∀ a : List Nat, ((⟨a.toArray⟩ : Str) == ⟨s.toArray⟩) = decide (s = a) := fun a => by
    by_cases h : s = a
    · subst h; simp
    · rw [decide_eq_false h]
      apply beq_eq_false_iff_ne.mpr
      intro z
      apply h
      have := congrArg (fun x => x.cps.toList) z
      simpa using this.symm
  have : inB (tx s) k_DOTS = some (isdot s) := by
    show some (((⟨[46].toArray⟩ : Str) == ⟨s.toArray⟩) || (((⟨[46, 46].toArray⟩ : Str) == ⟨s.toArray⟩) || false)) = _
    rw [e, e, Bool.or_false]
    rfl
  unfold inD
  rw [this]
theorem okT_one : okT one := by unfold okT one; decide
theorem gone_ok (w : Way) (h : okS w.s) : g_gone [w.d] = .ok (gone w).d := by
  have h1 := left_ok w.r w.s h
  have hl := left_okS (r := w.r) h
  have e1 := eqD_tup (b := []) h.1 (by simp)
  have e2 := neD_tup (b := []) hl.1 (by simp)
  have l1 := h.2
  have l2 := hl.2
  unfold g_gone f_gone
  rw [runF_eq]
  unfold gone Way.d
  obtain ⟨r, s, e⟩ := w
  simp only at *
  unfold t_gone_4 t_gone_3 t_gone_2 t_gone_1
  by_cases h0 : s = []
  · subst h0
    simp at e1
    simp [e1]
  · simp [h0] at e1
    obtain ⟨p, z, ep⟩ := (List.eq_nil_or_concat s).resolve_left h0
    rw [List.concat_eq_append] at ep
    have hz := inDots z
    by_cases h2 : leftF r s = []
    · rw [h2] at h1 e2
      simp at h1 e2
      cases r <;> simp [e1, h1, e2, h0, h2, one]
    · simp [h2] at e2
      have hlast : (s.map tx).getLast? = some (tx z) := by rw [ep]; simp
      have hld : lastdot s = isdot z := by unfold lastdot; rw [ep, List.getLast?_concat]
      cases e <;> simp [e1, h1, e2, h0, h2, hlast, hz, hld]
/-! ### as the law goes -/
def bstep (st : List Tx × Nat) (s : Tx) : List Tx × Nat := if s = two then (st.1, st.2 + 1) else if s = one then st else if 0 < st.2 then (st.1, st.2 - 1) else (st.1 ++ [s], st.2)
theorem bstep_back (ss : List Tx) : ss.reverse.foldl bstep ([], 0) = ((back ss).1.reverse, (back ss).2) := by
  induction ss with
  | nil => rfl
  | cons s ss ih =>
    rw [List.reverse_cons, List.foldl_append, ih]
    show bstep _ s = _
    unfold bstep
    rw [back]
    by_cases h2 : s = two
    · simp [h2]
    · by_cases h1 : s = one
      · subst h1; simp [h2]
      · by_cases h0 : 0 < (back ss).2
        · simp [h2, h1, h0]
        · have : (back ss).2 = 0 := by omega
          simp [h2, h1, h0, this]
theorem lgone_turn (x0 x1 x2 x3 : Option D) (l : List Tx) (u : Nat) (s : Tx) (hl : l.length ≤ 100000) :
    b__law_gone_1 [x0, x1, x2, x3, some (.list (l.map tx)), some (.int u), some (tx s)] = .nx [x0, x1, x2, x3, some (.list ((bstep (l, u) s).1.map tx)), some (.int (bstep (l, u) s).2), some (tx s)] := by
  unfold b__law_gone_1 bstep one two
  by_cases h2 : s = [46, 46]
  · subst h2; simp
  · by_cases h1 : s = [46]
    · subst h1; simp
    · by_cases h0 : 0 < u
      · have e : ((u - 1 : Nat) : Int) = (u : Int) - 1 := by omega
        simp [h1, h2, h0, e]
      · have : u = 0 := by omega
        subst this
        simp (disch := omega) [h1, h2, if_pos]
theorem lgone_loop (x0 x1 x2 x3 : Option D) : ∀ (ss l : List Tx) (u : Nat) (o : Option D), l.length + ss.length ≤ 100000 → ∃ o', forL (gNm 6) b__law_gone_1 (ss.map tx) [x0, x1, x2, x3, some (.list (l.map tx)), some (.int u), o] =
    .nx [x0, x1, x2, x3, some (.list ((ss.foldl bstep (l, u)).1.map tx)), some (.int (ss.foldl bstep (l, u)).2), o']
  | [], l, u, o, _ => ⟨o, rfl⟩
  | s :: ss, l, u, o, hl => by
    simp only [List.length_cons] at hl
    have hb : (bstep (l, u) s).1.length ≤ l.length + 1 := by
      unfold bstep; split <;> (try split) <;> (try split) <;> simp
    obtain ⟨o', ih⟩ := lgone_loop x0 x1 x2 x3 ss (bstep (l, u) s).1 (bstep (l, u) s).2 (some (tx s)) (by omega)
    refine ⟨o', ?_⟩
    rw [List.map_cons, forL_name]
    simp only [List.set_cons_succ, List.set_cons_zero, lgone_turn x0 x1 x2 x3 l u s (by omega), oLoop_nx, ih, List.foldl_cons]
theorem flat_rep {α : Type} (x : α) : ∀ n : Nat, (List.replicate n [x]).flatten = List.replicate n x
  | 0 => rfl
  | n + 1 => by rw [List.replicate_succ, List.flatten_cons, flat_rep x n]; rfl
theorem back_len : ∀ ss : List Tx, (back ss).1.length + (back ss).2 ≤ ss.length
  | [] => by simp [back]
  | s :: ss => by
    have := back_len ss
    rw [back]
    split
    · simp; omega
    · split
      · simp; omega
      · split
        · simp; omega
        · simp; omega
theorem back_okT {ss : List Tx} (h : ∀ l ∈ ss, okT l) : ∀ l ∈ (back ss).1, okT l := by
  induction ss with
  | nil => simp [back]
  | cons s ss ih =>
    have ih := ih fun l hl => h l (List.mem_cons_of_mem _ hl)
    rw [back]
    split
    · exact ih
    · split
      · exact ih
      · split
        · exact ih
        · intro l hl
          rcases List.mem_cons.mp hl with rfl | hl
          · exact h _ List.mem_cons_self
          · exact ih l hl
theorem inDots' (s : Tx) : inD (tx s) (.tuple [tx [46], tx [46, 46]]) = .ok (.bool (isdot s)) := inDots s
theorem lgone_tail (w : Way) (h : okS w.s) (l : List Tx) (hl : l = leftF w.r w.s) (o5 o6 : Option D) : runK (t__law_gone_3 [some w.d, some (.bool w.r), some (.tuple (w.s.map tx)), some (.bool w.e), some (.list (l.map tx)), o5, o6]) = .ok (gone w).d := by
  have hl' := left_okS (r := w.r) h
  rw [← hl] at hl'
  have e1 := eqD_tup (b := []) h.1 (by simp)
  have e2 := eqD_list_nil hl'.1
  have l1 := h.2
  have l2 := hl'.2
  unfold gone
  rw [← hl]
  unfold Way.d
  obtain ⟨r, s, e⟩ := w
  simp only at *
  unfold t__law_gone_3 t__law_gone_2
  by_cases h0 : s = []
  · subst h0
    simp at e1
    simp [e1]
  · simp [h0] at e1
    obtain ⟨p, z, ep⟩ := (List.eq_nil_or_concat s).resolve_left h0
    rw [List.concat_eq_append] at ep
    have hz := inDots' z
    by_cases h2 : l = []
    · rw [h2] at e2
      simp at e2
      cases r <;> simp [e1, e2, h0, h2, one]
    · simp [h2] at e2
      have hlast : (s.map tx).getLast? = some (tx z) := by rw [ep]; simp
      have hld : lastdot s = isdot z := by unfold lastdot; rw [ep, List.getLast?_concat]
      cases e <;> simp [e1, e2, h0, h2, hlast, hz, hld]
theorem lgone_ok (w : Way) (h : okS w.s) : g__law_gone [w.d] = .ok (gone w).d := by
  have l1 := h.2
  obtain ⟨o', hloop⟩ := lgone_loop (some w.d) (some (.bool w.r)) (some (.tuple (w.s.map tx))) (some (.bool w.e)) w.s.reverse [] 0 none (by simp; omega)
  rw [bstep_back, List.map_reverse] at hloop
  simp only at hloop
  have hb := back_len w.s
  have ht := lgone_tail w h (leftF w.r w.s) rfl (some (.int (back w.s).2)) o'
  rw [left_back] at ht
  unfold g__law_gone f__law_gone
  rw [runF_eq]
  have hd : w.d = .tuple [.bool w.r, .tuple (w.s.map tx), .bool w.e] := rfl
  rw [hd] at ht hloop ⊢
  simp
  unfold t__law_gone_8 t__law_gone_7 t__law_gone_6
  simp at hloop ⊢
  rw [hloop]
  unfold t__law_gone_5 t__law_gone_4
  cases hr : w.r with
  | true =>
    rw [hr] at ht
    simp [dots] at ht
    simp
    exact ht
  | false =>
    rw [hr] at ht
    simp [dots] at ht
    simp (disch := omega) [if_pos, flat_rep]
    exact ht
end Wp

set_option Elab.async false
set_option linter.all false
set_option maxRecDepth 100000
set_option maxHeartbeats 4000000
namespace Wp
open PySem PySem.Spec PyProof.Rows L2 Wm
/-! ### texts and steps by cells -/
theorem text_turn (x0 x1 : Option D) (acc : List Nat) (n k : Int) (hl : acc.length ≤ 100000) (hk : big k = true) : ∃ c ∈ T, b__law_text_1 [x0, x1, some (tx T), some (tx acc), some (.int n), some (.int k)] = .nx [x0, x1, some (tx T), some (tx (acc ++ [c])), some (.int (n.fdiv 94)), some (.int k)] := by
  obtain ⟨e, h⟩ := (show _ ∧ _ from ⟨(fmod_range (n + 31 * k * k) (b := 94) (by decide)).1, (fmod_range (n + 31 * k * k) (b := 94) (by decide)).2⟩)
  obtain ⟨s, es, hs, _⟩ := atI_mem (l := T) e (by rw [lT]; exact h)
  have b31 : big 31 = true := by decide
  refine ⟨s, hs, ?_⟩
  unfold b__law_text_1
  simp (disch := omega) [b31, hk, lT, es, if_pos]
theorem text_loop (x0 x1 : Option D) : ∀ (j : Nat) (lo : Int) (acc : List Nat) (o : Option D) (n : Int), 0 ≤ lo → lo + j ≤ 10000 → acc.length + j ≤ 10000 → (∀ c ∈ acc, c ∈ T) → ∃ m n' o', forL (gNm 5) b__law_text_1 (rangeD lo j) [x0, x1, some (tx T), some (tx acc), some (.int n), o] = .nx [x0, x1, some (tx T), some (tx m), some (.int n'), o'] ∧ (∀ c ∈ m, c ∈ T) ∧ m.length = acc.length + j
  | 0, lo, acc, o, n, _, _, _, ha => ⟨acc, n, o, rfl, ha, rfl⟩
  | j + 1, lo, acc, o, n, h0, hj, hl, ha => by
    obtain ⟨c, hc, ht⟩ := text_turn x0 x1 acc n lo (by omega) (by unfold big; simp; omega)
    obtain ⟨m, n', o', h1, h2, h3⟩ := text_loop x0 x1 j (lo + 1) (acc ++ [c]) (some (.int lo)) (n.fdiv 94) (by omega) (by omega) (by simp; omega) (fun z hz => by
      rcases List.mem_append.mp hz with m | m
      · exact ha z m
      · rw [List.mem_singleton.mp m]; exact hc)
    refine ⟨m, n', o', ?_, h2, by rw [h3]; simp; omega⟩
    rw [rangeD_cons, forL_name]
    show oLoop (b__law_text_1 [x0, x1, some (tx T), some (tx acc), some (.int n), some (.int lo)]) _ = _
    rw [ht, oLoop_nx, h1]
theorem text_ok (c m : Int) (h0 : 0 < m) (h1 : m ≤ 1000) : ∃ l, g__law_text [.int c, .int m] = .ok (tx l) ∧ (∀ x ∈ l, x ∈ T) ∧ 0 < l.length ∧ (l.length : Int) = 1 + c.fmod m := by
  obtain ⟨r0, r1⟩ := fmod_range c h0
  obtain ⟨acc, n', o', e1, e2, e3⟩ := text_loop (some (.int c)) (some (.int m)) (1 + c.fmod m).toNat 0 [] none (c.fdiv m) (by omega) (by omega) (by simp; omega) (by simp)
  simp at e3
  refine ⟨acc, ?_, e2, by omega, by omega⟩
  unfold g__law_text f__law_text t__law_text_5 t__law_text_4 t__law_text_3 t__law_text_2
  rw [runF_eq]
  have hs : small62 (1 + c.fmod m) = true := by unfold small62; simp; omega
  have hm : m ≠ 0 := by omega
  have hm2 : m.natAbs < 1073741824 := by omega
  have eT : ([32, 33, 34, 35, 36, 38, 39, 40, 41, 42, 43, 44, 45, 46, 47, 48, 49, 50, 51, 52, 53, 54, 55, 56, 57, 58, 59, 60, 61, 62, 63, 64, 65, 66, 67, 68, 69, 70, 71, 72, 73, 74, 75, 76, 77, 78, 79, 80, 81, 82, 83, 84, 85, 86, 87, 88, 89, 90, 91, 92, 93, 94, 95, 96, 97, 98, 99, 100, 101, 102, 103, 104, 105, 106, 107, 108, 109, 110, 111, 112, 113, 114, 115, 116, 117, 118, 119, 120, 121, 122, 123, 124, 125, 126] : List Nat) = T := rfl
  simp [hm, hm2, hs, eT, rgK]
  rw [e1]
  simp
theorem in_okT {l : Tx} (h : ∀ x ∈ l, x ∈ T) (hl : l.length ≤ 1000) : okT l := ⟨fun c hc => T128 c (h c hc), hl⟩
/-- a text of signs, one at least -/
def okN (l : Tx) : Prop := (∀ c ∈ l, c ∈ T) ∧ l ≠ [] ∧ l.length ≤ 1000
theorem okN.t {l : Tx} (h : okN l) : okT l := in_okT h.1 h.2.2
theorem step_okN (c : Int) : ∃ l, g__law_step [.int c] = .ok (tx l) ∧ okN l := by
  obtain ⟨i0, i1⟩ := fmod_range (c.fdiv 8) (b := 8) (by decide)
  obtain ⟨x3, ex3, hx3, _⟩ := atI_mem (l := [tx [46, 46, 46], tx [46, 97], tx [46, 46, 98], tx [97, 46], tx [45], tx [126], tx [97, 47, 98], tx [58]]) i0 i1
  have g3 : ∃ l, x3 = tx l ∧ okN l := by
    simp only [List.mem_cons, List.not_mem_nil, or_false] at hx3
    rcases hx3 with h | h | h | h | h | h | h | h <;> exact ⟨_, h, by unfold okN; decide⟩
  obtain ⟨l3, rfl, g3⟩ := g3
  obtain ⟨j0, j1⟩ := fmod_range (c.fdiv 8) (b := 3) (by decide)
  obtain ⟨x1, ex1, hx1, _⟩ := atI_mem (l := [97, 98, 99]) j0 j1
  obtain ⟨k0, k1⟩ := fmod_range ((c.fdiv 8).fdiv 3) (b := 2) (by decide)
  have em := mulD_s [x1] (1 + ((c.fdiv 8).fdiv 3).fmod 2) (by simp; omega) (by omega) (by omega)
  obtain ⟨l4, e4, h4, h40, h4l⟩ := text_ok (c.fdiv 8) 9 (by decide) (by decide)
  have h49 := fmod_range (c.fdiv 8) (b := 9) (by decide)
  unfold g__law_step f__law_step t__law_step_4 t__law_step_3 t__law_step_2 t__law_step_1
  rw [runF_eq]
  simp
  by_cases c1 : c.fmod 8 < 2
  · exact ⟨[46, 46], by simp [c1], by unfold okN; decide⟩
  by_cases c2 : c.fmod 8 = 2
  · exact ⟨[46], by simp [c2], by unfold okN; decide⟩
  by_cases c3 : c.fmod 8 = 3
  · exact ⟨l3, by simp [c3, ex3], g3⟩
  by_cases c4 : c.fmod 8 < 6
  · refine ⟨_, by simp [c1, c2, c3, c4, ex1, em]; rfl, ?_, ?_, ?_⟩
    · intro z hz
      rw [List.mem_replicate] at hz
      rw [hz.2]
      exact (show ∀ x ∈ [97, 98, 99], x ∈ T by decide) x1 hx1
    · intro z
      have := congrArg List.length z
      simp at this
      omega
    · simp; omega
  · exact ⟨l4, by simp [c1, c2, c3, c4, e4], h4, by intro z; subst z; simp at h40, by omega⟩
/-! ### ways that are alike -/
theorem shp_way {w : Way} (h : okS w.s) : shp 2 w.d := shp_tuple (shpAll_cons shp_bool (shpAll_cons (shp_tuple (shS h.1)) (shpAll_cons shp_bool shpAll_nil)))
theorem eqv_way (w : Way) : PyData.eqv w.d w.d = true := by
  show ((w.r == w.r) && (PyData.eqvAll (w.s.map tx) (w.s.map tx) && ((w.e == w.e) && true))) = true
  rw [eqvAll_txs]
  simp
theorem comp_str (x0 x1 : Option D) (s : List Tx) : lcL (gNm 2) (tNo (tB (eIsi "str" (eVar 2)))) (eVar 2) [x0, x1, none] (s.map tx) = .ok [] := by
  have := lcL_filter (tg := gNm 2) (cond := tNo (tB (eIsi "str" (eVar 2)))) (elt := eVar 2) (ρ0 := [x0, x1, none]) tx (fun _ => false) tx (xs := s) fun x _ => ⟨_, rfl, by simp, fun z => nomatch z⟩
  rw [this]
  simp
theorem same_ok (w : Way) (h : okS w.s) : g__law_same_way [w.d, w.d] = .ok (.bool true) := by
  have e := eqR_ok (shp_way h) (shp_way h)
  rw [eqv_way] at e
  have l := h.2
  have e0 : eqR (.list []) (.list []) = .ok (.bool true) := by rw [eqR_ok (k := 1) (j := 1) (shp_list shpAll_nil) (shp_list shpAll_nil)]; rfl
  have hc := comp_str (some w.d) (some w.d) w.s
  have hd : w.d = .tuple [.bool w.r, .tuple (w.s.map tx), .bool w.e] := rfl
  unfold g__law_same_way f__law_same_way
  rw [runF_eq]
  rw [hd] at e hc ⊢
  simp (disch := omega) [if_pos, hc, e0, e]
theorem gone_okS (w : Way) (h : okS w.s) : okS (gone w).s := by
  unfold gone
  split
  · exact h
  · split
    · exact left_okS h
    · split
      · exact ⟨by simp, by simp⟩
      · exact ⟨by simp; exact okT_one, by simp⟩
theorem gone_r (w : Way) : (gone w).r = w.r := by
  unfold gone
  split
  · rfl
  · split
    · rfl
    · split <;> simp_all
theorem gone_nodot {w : Way} (h : w.r = true) : ∀ z ∈ (gone w).s, isdot z = false := by
  unfold gone
  split
  · rename_i h0; rw [h0]; simp
  · split
    · rename_i h1 h2
      intro z hz
      simp only at hz
      rw [left_back, h] at hz
      simp [dots] at hz
      have := back_free w.s z hz
      unfold isdot
      simp [this.1, this.2]
    · simp [h]
theorem take_okS {S : List Tx} (h : okS S) (n : Nat) : okS (S.take n) := ⟨fun l hl => h.1 l (List.mem_of_mem_take hl), by have := h.2; simp; omega⟩
/-- loops that hold something -/
theorem loop_all {i : Nat} {body : En → Out} (P : En → Prop) (ds : List D) (ρ : En) (h0 : P ρ) (h : ∀ d ∈ ds, ∀ ρ, P ρ → ∃ ρ2, body (ρ.set i (some d)) = .nx ρ2 ∧ P ρ2) : ∃ ρ', forL (gNm i) body ds ρ = .nx ρ' ∧ P ρ' :=
  forL_go P h0 fun d hd ρ hρ => by
    obtain ⟨ρ2, h1, h2⟩ := h d hd ρ hρ
    exact ⟨_, ρ2, rfl, .inl h1, h2⟩
/-- the step by a cell -/
noncomputable def stp (c : Int) : Tx := Classical.choose (step_okN c)
theorem stp_ok (c : Int) : g__law_step [.int c] = .ok (tx (stp c)) := (Classical.choose_spec (step_okN c)).1
theorem stp_okN (c : Int) : okN (stp c) := (Classical.choose_spec (step_okN c)).2
theorem stp_okT (c : Int) : okT (stp c) := (stp_okN c).t
theorem okT_take {l : Tx} (h : okT l) (n : Nat) : okT (l.take n) := ⟨fun c hc => h.1 c (List.mem_of_mem_take hc), by have := h.2; simp; omega⟩
theorem rep_map {α β : Type} (f : α → β) (l : List α) : ∀ n : Nat, (List.replicate n (l.map f)).flatten = ((List.replicate n l).flatten).map f
  | 0 => rfl
  | n + 1 => by rw [List.replicate_succ, List.replicate_succ, List.flatten_cons, List.flatten_cons, List.map_append, rep_map f l n]
theorem okS_stretch {S : List Tx} (h : okS S) : okS (((List.replicate 8 (S.map fun l => l.take 5)).flatten).take 400) := ⟨fun l hl => by
  obtain ⟨m, h1, h2⟩ := List.mem_flatten.mp (List.mem_of_mem_take hl)
  rw [List.mem_replicate] at h1
  rw [h1.2] at h2
  obtain ⟨z, hz, rfl⟩ := List.mem_map.mp h2
  exact okT_take (h.1 z hz) 5, by simp; omega⟩
theorem fdiv2 (n : Nat) : ((n : Int).fdiv 2) = ((n / 2 : Nat) : Int) := by
  rw [Int.fdiv_eq_ediv_of_nonneg _ (by decide)]; omega
/-- the places at which the laws of ways cut -/
theorem places (n : Nat) : ∀ d ∈ ([PyData.int n, PyData.int ((n : Int).fdiv 2)] ++ rangeD 0 ((min n 13 : Nat) : Int).toNat), ∃ m : Nat, d = .int m ∧ m ≤ n := fun d hd => by
  rcases List.mem_append.mp hd with h | h
  · simp only [List.mem_cons, List.not_mem_nil, or_false] at h
    rcases h with rfl | rfl
    · exact ⟨n, rfl, Nat.le_refl _⟩
    · exact ⟨n / 2, by rw [fdiv2], by omega⟩
  · unfold rangeD at h
    obtain ⟨i, hi, rfl⟩ := List.mem_map.mp h
    rw [List.mem_range] at hi
    exact ⟨i, by simp, by omega⟩
/-! ### holders -/
def hold (w : Way) : List Tx := if (gone w).e = true then (gone w).s else (gone w).s.dropLast
theorem hold_okS (w : Way) (h : okS w.s) : okS (hold w) := by
  have hg := gone_okS w h
  unfold hold
  split
  · exact hg
  · exact ⟨fun l hl => hg.1 l ((List.dropLast_sublist _).subset hl), by have := hg.2; simp; omega⟩
theorem gone_ends (w : Way) (h : w.s = [] → w.e = true) : (gone w).s = [] → (gone w).e = true := by
  unfold gone
  split
  · exact h
  · split
    · intro h1; simp_all
    · split <;> simp
theorem cut_m1 {α : Type} (s : List α) : cutL s none (some (-1)) = s.dropLast := by
  unfold cutL
  rw [HT.sIx_none]
  have e : HT.sIx s.length s.length (some (-1)) = s.length - 1 := by
    unfold HT.sIx
    simp
    omega
  rw [e, List.dropLast_eq_take]
  simp
theorem holder_ok (w : Way) (h : okS w.s) : g_holder [w.d] = .ok (.tuple ((hold w).map tx)) := by
  have h1 := gone_ok w h
  have hd : (gone w).d = .tuple [.bool (gone w).r, .tuple ((gone w).s.map tx), .bool (gone w).e] := rfl
  rw [hd] at h1
  unfold g_holder f_holder
  rw [runF_eq]
  unfold hold
  cases he : (gone w).e with
  | true => rw [he] at h1; simp [h1]
  | false => rw [he] at h1; simp [h1, cut_m1]
theorem lholder_ok (w : Way) (h : okS w.s) (hne : w.s = [] → w.e = true) : g__law_holder [w.d] = .ok (.tuple ((hold w).map tx)) := by
  have h1 := lgone_ok w h
  have hd : (gone w).d = .tuple [.bool (gone w).r, .tuple ((gone w).s.map tx), .bool (gone w).e] := rfl
  rw [hd] at h1
  have hend := gone_ends w hne
  unfold g__law_holder f__law_holder
  rw [runF_eq]
  unfold hold
  cases he : (gone w).e with
  | true => rw [he] at h1; simp [h1]
  | false =>
    rw [he] at h1
    have h0 : (gone w).s ≠ [] := fun z => by rw [hend z] at he; cases he
    have hpos : 0 < (gone w).s.length := List.length_pos_iff.mpr h0
    have ec : ((gone w).s.length : Int) - 1 = (((gone w).s.length - 1 : Nat) : Int) := by omega
    simp [h1, ec, cutL_to]
    rw [List.dropLast_eq_take, List.length_map]
end Wp

set_option Elab.async false
set_option linter.all false
set_option maxRecDepth 100000
set_option maxHeartbeats 4000000
namespace Wp
open PySem PySem.Spec PyProof.Rows L2 Wm
def f_is_whole : En → Out :=
  (sRet (e2 neD (e2 ixD (eVar 0) (eC (.int 0))) (eC (tx []))))
def g_is_whole : List D → Rs D := runF 1 f_is_whole
def f_way_behind : En → Out :=
  (sSeq (sIf (tB (e2 ixD (eVar 1) (eC (.int 0))))
      (sRet (eVar 1))
      sNx)
    (sSeq (sIf (tB (e2 eqD (e2 ixD (eVar 1) (eC (.int 1))) (eTup aNil)))
      (sRet (eVar 0))
      sNx)
    (sRet (eTup (aCons (eC (.bool true)) (aCons (e2 addD (eCall 1 g_holder (aCons (eVar 0) aNil)) (e2 ixD (eVar 1) (eC (.int 1)))) (aCons (e2 ixD (eVar 1) (eC (.int 2))) aNil)))))))
def g_way_behind : List D → Rs D := runF 2 f_way_behind
def t_resolved_1 : En → Out :=
  (sSeq (sIf (tB (e2 eqD (eVar 2) (eC (tx []))))
      (sSet 2 (e2 ixD (eVar 0) (eC (.int 0))))
      sNx)
    (sRet (eTup (aCons (eVar 2) (aCons (eVar 3) (aCons (eVar 4) (aCons (eCall 1 g_gone (aCons (eCall 2 g_way_behind (aCons (e2 ixD (eVar 0) (eC (.int 3))) (aCons (eVar 5) aNil))) aNil)) (aCons (eVar 6) (aCons (eVar 7) aNil)))))))))
def t_resolved_2 : En → Out :=
  (sSeq (sIf (tAn (tB (e2 eqD (eVar 2) (eC (tx [])))) (tB (e2 isD (eVar 3) (eC .none))))
      (sSeq (sSet 3 (e2 ixD (eVar 0) (eC (.int 1))))
    (sSet 4 (e2 ixD (eVar 0) (eC (.int 2)))))
      sNx)
    t_resolved_1)
def t_resolved_3 : En → Out :=
  (sSeq (sIf (tAn (tNo (tB (e2 ixD (eVar 5) (eC (.int 0))))) (tAn (tB (e2 eqD (e2 ixD (eVar 5) (eC (.int 1))) (eTup aNil))) (tB (e2 isD (eVar 6) (eC .none)))))
      (sSet 6 (e2 ixD (eVar 0) (eC (.int 4))))
      sNx)
    t_resolved_2)
def t_resolved_4 : En → Out :=
  (sSeq (sUnp (gTp 6 (gsCons (gNm 2) (gsCons (gNm 3) (gsCons (gNm 4) (gsCons (gNm 5) (gsCons (gNm 6) (gsCons (gNm 7) gsNil))))))) (eVar 1))
    t_resolved_3)
def f_resolved : En → Out :=
  (sSeq (sIf (tNo (tB (eCall 1 g_is_whole (aCons (eVar 0) aNil))))
      sBad
      sNx)
    t_resolved_4)
def g_resolved : List D → Rs D := runF 8 f_resolved
def b__law_same_pairs_1 : En → Out :=
  (sSeq (sIf (tOr' (tNo (tB (eIsi "tuple" (eVar 1)))) (tOr' (tB (e2 neD (eBlt lenD (aCons (eVar 1) aNil)) (eC (.int 2)))) (tNo (tB (eIsi "str" (e2 ixD (eVar 1) (eC (.int 0))))))))
      (sRet (eC (.bool false)))
      sNx)
    (sIf (tAn (tB (e2 isntD (e2 ixD (eVar 1) (eC (.int 1))) (eC .none))) (tNo (tB (eIsi "str" (e2 ixD (eVar 1) (eC (.int 1)))))))
      (sRet (eC (.bool false)))
      sNx))
def f__law_same_pairs : En → Out :=
  (sSeq (sIf (tB (e2 isD (eVar 0) (eC .none)))
      (sRet (eC (.bool true)))
      sNx)
    (sSeq (sIf (tNo (tB (eIsi "tuple" (eVar 0))))
      (sRet (eC (.bool false)))
      sNx)
    (sSeq (sFor (eIt iSeq (eVar 0)) (gNm 1)
      b__law_same_pairs_1)
    (sRet (eC (.bool true))))))
def g__law_same_pairs : List D → Rs D := runF 2 f__law_same_pairs
def b__law_same_1 : En → Out :=
  (sIf (tAn (tB (e2 isntD (eVar 2) (eC .none))) (tNo (tB (eIsi "str" (eVar 2)))))
      (sRet (eC (.bool false)))
      sNx)
def f__law_same : En → Out :=
  (sSeq (sIf (tOr' (tNo (tB (eIsi "tuple" (eVar 0)))) (tOr' (tB (e2 neD (eBlt lenD (aCons (eVar 0) aNil)) (eC (.int 6)))) (tNo (tB (eIsi "str" (e2 ixD (eVar 0) (eC (.int 0))))))))
      (sRet (eC (.bool false)))
      sNx)
    (sSeq (sIf (tAn (tB (e2 isntD (e2 ixD (eVar 0) (eC (.int 2))) (eC .none))) (tOr' (tB (eIsi "bool" (e2 ixD (eVar 0) (eC (.int 2))))) (tNo (tB (eIsi "int" (e2 ixD (eVar 0) (eC (.int 2))))))))
      (sRet (eC (.bool false)))
      sNx)
    (sSeq (sFor (eIt iSeq (eLst (aCons (e2 ixD (eVar 0) (eC (.int 1))) (aCons (e2 ixD (eVar 0) (eC (.int 5))) aNil)))) (gNm 2)
      b__law_same_1)
    (sRet (eAn (eCall 2 g__law_same_way (aCons (e2 ixD (eVar 0) (eC (.int 3))) (aCons (e2 ixD (eVar 1) (eC (.int 3))) aNil))) (eAn (eCall 1 g__law_same_pairs (aCons (e2 ixD (eVar 0) (eC (.int 4))) aNil)) (e2 eqD (eVar 0) (eVar 1))))))))
def g__law_same : List D → Rs D := runF 3 f__law_same
def b__law_scheme_1 : En → Out :=
  (sSeq (sSet 3 (e2 fdivD (eVar 3) (eC (.int 8))))
    (sSet 2 (e2 addD (eVar 2) (e2 ixD (e2 addD (eVar 1) (eC (tx [48, 49, 50, 51, 52, 53, 54, 55, 56, 57]))) (e2 modD (e2 addD (eVar 3) (e2 mulD (eC (.int 7)) (eVar 4))) (eC (.int 62)))))))
def t__law_scheme_2 : En → Out :=
  (sSeq (sFor (iRange1 (e2 modD (eVar 3) (eC (.int 8)))) (gNm 4)
      b__law_scheme_1)
    (sRet (eVar 2)))
def t__law_scheme_3 : En → Out :=
  (sSeq (sSet 3 (e2 fdivD (eVar 0) (eC (.int 52))))
    t__law_scheme_2)
def t__law_scheme_4 : En → Out :=
  (sSeq (sSet 2 (e2 ixD (eVar 1) (e2 modD (eVar 0) (eC (.int 52)))))
    t__law_scheme_3)
def f__law_scheme : En → Out :=
  (sSeq (sSet 1 (eC (tx [97, 98, 99, 100, 101, 102, 103, 104, 105, 106, 107, 108, 109, 110, 111, 112, 113, 114, 115, 116, 117, 118, 119, 120, 121, 122, 65, 66, 67, 68, 69, 70, 71, 72, 73, 74, 75, 76, 77, 78, 79, 80, 81, 82, 83, 84, 85, 86, 87, 88, 89, 90])))
    t__law_scheme_4)
def g__law_scheme : List D → Rs D := runF 5 f__law_scheme
def b__law_question_1 : En → Out :=
  (sSeq (sSet 3 (e2 addD (e2 fdivD (eVar 0) (eC (.int 12))) (e2 mulD (eC (.int 71)) (eVar 2))))
    (sSeq (sSet 4 (eC .none))
    (sSeq (sIf (tB (e2 gtD (e2 modD (e2 fdivD (eVar 3) (eC (.int 3))) (eC (.int 3))) (eC (.int 0))))
      (sSet 4 (eSl (eCall 2 g__law_text (aCons (e2 fdivD (eVar 3) (eC (.int 9))) (aCons (eC (.int 6)) aNil))) (oSo (e2 subD (e2 modD (e2 fdivD (eVar 3) (eC (.int 3))) (eC (.int 3))) (eC (.int 1)))) oNo))
      sNx)
    (sApp 1 (eTup (aCons (eCall 2 g__law_text (aCons (eVar 3) (aCons (eC (.int 5)) aNil))) (aCons (eVar 4) aNil)))))))
def f__law_question : En → Out :=
  (sSeq (sIf (tB (e2 eqD (e2 modD (eVar 0) (eC (.int 3))) (eC (.int 0))))
      (sRet (eC .none))
      sNx)
    (sSeq (sSet 1 (eLst aNil))
    (sSeq (sFor (iRange1 (e2 modD (e2 fdivD (eVar 0) (eC (.int 3))) (eC (.int 4)))) (gNm 2)
      b__law_question_1)
    (sRet (eBlt tupD (aCons (eVar 1) aNil))))))
def g__law_question : List D → Rs D := runF 5 f__law_question
def f__law_mark : En → Out :=
  (sSeq (sIf (tB (e2 eqD (e2 modD (eVar 0) (eC (.int 3))) (eC (.int 0))))
      (sRet (eC .none))
      sNx)
    (sRet (eSl (eCall 2 g__law_text (aCons (e2 fdivD (eVar 0) (eC (.int 3))) (aCons (eC (.int 7)) aNil))) (oSo (e2 subD (e2 modD (eVar 0) (eC (.int 3))) (eC (.int 1)))) oNo)))
def g__law_mark : List D → Rs D := runF 1 f__law_mark
def f__law_way : En → Out :=
  (sSeq (sSet 3 (eBlt tupD (aCons (eLc (eIt iSeq (eVar 0)) [4] (gNm 4) cYes (eCall 1 g__law_step (aCons (eVar 4) aNil))) aNil)))
    (sSeq (sIf (tB (e2 eqD (eVar 3) (eTup aNil)))
      (sRet (eTup (aCons (eVar 1) (aCons (eTup aNil) (aCons (eVar 1) aNil)))))
      sNx)
    (sRet (eTup (aCons (eVar 1) (aCons (eVar 3) (aCons (eVar 2) aNil)))))))
def g__law_way : List D → Rs D := runF 5 f__law_way
def t__law_address_1 : En → Out :=
  (sSeq (sSet 10 (eCall 1 g__law_question (aCons (eCall 2 g__law_cell_at (aCons (eVar 0) (aCons (e2 addD (eVar 1) (eC (.int 2))) aNil))) aNil)))
    (sRet (eTup (aCons (eVar 5) (aCons (eVar 6) (aCons (eVar 7) (aCons (eVar 9) (aCons (eVar 10) (aCons (eCall 1 g__law_mark (aCons (eCall 2 g__law_cell_at (aCons (eVar 0) (aCons (e2 addD (eVar 1) (eC (.int 3))) aNil))) aNil)) aNil)))))))))
def t__law_address_2 : En → Out :=
  (sSeq (sSet 9 (eCall 3 g__law_way (aCons (eVar 3) (aCons (eVar 8) (aCons (e2 eqD (e2 modD (e2 fdivD (eVar 4) (eC (.int 48))) (eC (.int 2))) (eC (.int 1))) aNil)))))
    t__law_address_1)
def t__law_address_3 : En → Out :=
  (sSeq (sSet 8 (eOr (e2 neD (eVar 5) (eC (tx []))) (eOr (e2 isntD (eVar 6) (eC .none)) (e2 eqD (e2 modD (e2 fdivD (eVar 4) (eC (.int 24))) (eC (.int 2))) (eC (.int 1))))))
    t__law_address_2)
def t__law_address_4 : En → Out :=
  (sSeq (sIf (tB (e2 gtD (e2 modD (e2 fdivD (eVar 4) (eC (.int 4))) (eC (.int 3))) (eC (.int 0))))
      (sSeq (sSet 6 (eCall 2 g__law_text (aCons (eCall 2 g__law_cell_at (aCons (eVar 0) (aCons (e2 addD (eVar 1) (eC (.int 1))) aNil))) (aCons (eC (.int 12)) aNil))))
    (sIf (tB (e2 eqD (e2 modD (e2 fdivD (eVar 4) (eC (.int 12))) (eC (.int 2))) (eC (.int 1))))
      (sSet 7 (e2 modD (e2 fdivD (eCall 2 g__law_cell_at (aCons (eVar 0) (aCons (e2 addD (eVar 1) (eC (.int 1))) aNil))) (eC (.int 7))) (eC (.int 65536))))
      sNx))
      sNx)
    t__law_address_3)
def t__law_address_5 : En → Out :=
  (sSeq (sIf (tOr' (tB (eVar 2)) (tB (e2 eqD (e2 modD (eVar 4) (eC (.int 4))) (eC (.int 0)))))
      (sSet 5 (eCall 1 g__law_scheme (aCons (e2 fdivD (eVar 4) (eC (.int 64))) aNil)))
      sNx)
    t__law_address_4)
def t__law_address_6 : En → Out :=
  (sSeq (sSet 7 (eC .none))
    t__law_address_5)
def t__law_address_7 : En → Out :=
  (sSeq (sSet 6 (eC .none))
    t__law_address_6)
def t__law_address_8 : En → Out :=
  (sSeq (sSet 5 (eC (tx [])))
    t__law_address_7)
def f__law_address : En → Out :=
  (sSeq (sSet 4 (eCall 2 g__law_cell_at (aCons (eVar 0) (aCons (eVar 1) aNil))))
    t__law_address_8)
def g__law_address : List D → Rs D := runF 11 f__law_address
def t__law_resolved_1 : En → Out :=
  (sSeq (sIf (tB (e2 isD (eVar 6) (eC .none)))
      (sSet 6 (e2 ixD (eVar 0) (eC (.int 4))))
      sNx)
    (sRet (e2 addD (eSl (eVar 0) oNo (oSo (eC (.int 3)))) (eTup (aCons (eCall 1 g__law_gone (aCons (e2 ixD (eVar 0) (eC (.int 3))) aNil)) (aCons (eVar 6) (aCons (eVar 7) aNil)))))))
def t__law_resolved_2 : En → Out :=
  (sSeq (sIf (tB (e2 neD (e2 ixD (eVar 5) (eC (.int 1))) (eTup aNil)))
      (sSeq (sSet 8 (eTup (aCons (eC (.bool true)) (aCons (e2 addD (eCall 1 g__law_holder (aCons (e2 ixD (eVar 0) (eC (.int 3))) aNil)) (e2 ixD (eVar 5) (eC (.int 1)))) (aCons (e2 ixD (eVar 5) (eC (.int 2))) aNil)))))
    (sRet (e2 addD (eSl (eVar 0) oNo (oSo (eC (.int 3)))) (eTup (aCons (eCall 1 g__law_gone (aCons (eVar 8) aNil)) (aCons (eVar 6) (aCons (eVar 7) aNil)))))))
      sNx)
    t__law_resolved_1)
def t__law_resolved_3 : En → Out :=
  (sSeq (sIf (tB (e2 ixD (eVar 5) (eC (.int 0))))
      (sRet (e2 addD (eSl (eVar 0) oNo (oSo (eC (.int 3)))) (eTup (aCons (eCall 1 g__law_gone (aCons (eVar 5) aNil)) (aCons (eVar 6) (aCons (eVar 7) aNil))))))
      sNx)
    t__law_resolved_2)
def t__law_resolved_4 : En → Out :=
  (sSeq (sIf (tB (e2 isntD (eVar 3) (eC .none)))
      (sRet (eTup (aCons (e2 ixD (eVar 0) (eC (.int 0))) (aCons (eVar 3) (aCons (eVar 4) (aCons (eCall 1 g__law_gone (aCons (eVar 5) aNil)) (aCons (eVar 6) (aCons (eVar 7) aNil))))))))
      sNx)
    t__law_resolved_3)
def t__law_resolved_5 : En → Out :=
  (sSeq (sIf (tB (e2 neD (eVar 2) (eC (tx []))))
      (sRet (eTup (aCons (eVar 2) (aCons (eVar 3) (aCons (eVar 4) (aCons (eCall 1 g__law_gone (aCons (eVar 5) aNil)) (aCons (eVar 6) (aCons (eVar 7) aNil))))))))
      sNx)
    t__law_resolved_4)
def f__law_resolved : En → Out :=
  (sSeq (sUnp (gTp 6 (gsCons (gNm 2) (gsCons (gNm 3) (gsCons (gNm 4) (gsCons (gNm 5) (gsCons (gNm 6) (gsCons (gNm 7) gsNil))))))) (eVar 1))
    t__law_resolved_5)
def g__law_resolved : List D → Rs D := runF 9 f__law_resolved
end Wp

set_option Elab.async false
set_option linter.all false
set_option maxRecDepth 100000
set_option maxHeartbeats 4000000
namespace Wp
open PySem PySem.Spec PyProof.Rows L2 Wm
/-! ### addresses as data -/
def oT : Option Tx → D
  | some l => tx l
  | none => .none
def oI : Option Int → D
  | some i => .int i
  | none => .none
def pD (p : Tx × Option Tx) : D := .tuple [tx p.1, oT p.2]
def qD : Option (List (Tx × Option Tx)) → D
  | some l => .tuple (l.map pD)
  | none => .none
structure Adr where
  sc : Tx
  ho : Option Tx
  dr : Option Int
  w : Way
  q : Option (List (Tx × Option Tx))
  m : Option Tx
def Adr.d (a : Adr) : D := .tuple [tx a.sc, oT a.ho, oI a.dr, a.w.d, qD a.q, oT a.m]
@[simp] theorem nonD_oT (o : Option Tx) : nonD (oT o) = o.isNone := by cases o <;> rfl
@[simp] theorem nonD_oI (o : Option Int) : nonD (oI o) = o.isNone := by cases o <;> rfl
@[simp] theorem nonD_qD (o : Option (List (Tx × Option Tx))) : nonD (qD o) = o.isNone := by cases o <;> rfl
def okO : Option Tx → Prop
  | some l => okT l
  | none => True
def okP (p : Tx × Option Tx) : Prop := okT p.1 ∧ okO p.2
def okQ : Option (List (Tx × Option Tx)) → Prop
  | some l => (∀ p ∈ l, okP p) ∧ l.length ≤ 1000
  | none => True
structure okA (a : Adr) : Prop where
  sc : okT a.sc
  ho : okO a.ho
  w : okS a.w.s
  q : okQ a.q
  m : okO a.m
/-- rooted where it has to be; ends unlike rooted are of ways with steps -/
structure Inv (a : Adr) : Prop where
  root : a.sc ≠ [] ∨ a.ho ≠ none → a.w.r = true
  ends : a.w.s = [] → a.w.e = a.w.r
/-! ### resolved -/
def behind (old w : Way) : Way := if w.r = true then w else if w.s = [] then old else ⟨true, hold old ++ w.s, w.e⟩
def resv (b a : Adr) : Adr where
  sc := if a.sc = [] then b.sc else a.sc
  ho := if a.sc = [] ∧ a.ho = none then b.ho else a.ho
  dr := if a.sc = [] ∧ a.ho = none then b.dr else a.dr
  w := gone (behind b.w a.w)
  q := if a.w.r = false ∧ a.w.s = [] ∧ a.q = none then b.q else a.q
  m := a.m
theorem gone_len (w : Way) : (gone w).s.length ≤ w.s.length + 1 := by
  unfold gone
  split
  · omega
  · split
    · simp only
      rw [left_back]
      have := back_len w.s
      unfold dots
      split <;> simp <;> omega
    · split <;> simp
theorem hold_len (w : Way) : (hold w).length ≤ w.s.length + 1 := by
  have := gone_len w
  unfold hold
  split
  · exact this
  · simp; omega
theorem behind_okS {old w : Way} (h : okS old.s) (h' : okS w.s) (hl : old.s.length + w.s.length ≤ 890) : okS (behind old w).s := by
  unfold behind
  split
  · exact h'
  · split
    · exact h
    · have := hold_len old
      refine ⟨fun l hl => ?_, by simp; omega⟩
      rcases List.mem_append.mp hl with m | m
      · exact (hold_okS old h).1 l m
      · exact h'.1 l m
theorem behind_ok (old w : Way) (h : okS old.s) (h' : okS w.s) (hl : old.s.length + w.s.length ≤ 890) : g_way_behind [old.d, w.d] = .ok (behind old w).d := by
  have h1 := holder_ok old h
  have e1 := eqD_tup (b := []) h'.1 (by simp)
  have hd : w.d = .tuple [.bool w.r, .tuple (w.s.map tx), .bool w.e] := rfl
  have hh := hold_len old
  unfold g_way_behind f_way_behind behind
  rw [runF_eq]
  obtain ⟨r, s, e⟩ := w
  simp only at *
  rw [hd]
  have hod : ∃ od, od = old.d := ⟨_, rfl⟩
  obtain ⟨od, eod⟩ := hod
  rw [← eod] at h1 ⊢
  cases r with
  | true => simp [Way.d]
  | false =>
    by_cases h0 : s = []
    · subst h0
      simp at e1
      simp [e1, eod]
    · simp [h0] at e1
      simp (disch := omega) [e1, h0, h1, if_pos, Way.d]
theorem whole_ok (a : Adr) : g_is_whole [a.d] = .ok (.bool (decide (a.sc ≠ []))) := by
  unfold g_is_whole f_is_whole
  rw [runF_eq]
  simp [Adr.d]
theorem resolved_ok (b a : Adr) (hb : okA b) (ha : okA a) (hw : b.sc ≠ []) (hl : b.w.s.length + a.w.s.length ≤ 890) : g_resolved [b.d, a.d] = .ok (resv b a).d := by
  have h1 := whole_ok b
  have h2 := behind_ok b.w a.w hb.w ha.w hl
  have h3 := gone_ok (behind b.w a.w) (behind_okS hb.w ha.w hl)
  have e1 := eqD_tup (b := []) ha.w.1 (by simp)
  have hbd : b.d = .tuple [tx b.sc, oT b.ho, oI b.dr, b.w.d, qD b.q, oT b.m] := rfl
  have had : a.d = .tuple [tx a.sc, oT a.ho, oI a.dr, a.w.d, qD a.q, oT a.m] := rfl
  have hwd : a.w.d = .tuple [.bool a.w.r, .tuple (a.w.s.map tx), .bool a.w.e] := rfl
  have bne : decide (b.sc ≠ []) = true := by simpa using hw
  rw [bne] at h1
  obtain ⟨bd, ebd⟩ : ∃ bd, bd = b.w.d := ⟨_, rfl⟩
  obtain ⟨ad, ead⟩ : ∃ ad, ad = a.w.d := ⟨_, rfl⟩
  rw [← ebd, ← ead] at h2
  rw [← ebd] at hbd
  rw [← ead] at had
  rw [hbd] at h1
  unfold g_resolved f_resolved t_resolved_4 t_resolved_3 t_resolved_2 t_resolved_1
  rw [runF_eq, hbd, had]
  have key : ∀ (q : Option (List (Tx × Option Tx))) (sc : Tx) (ho : Option Tx) (dr : Option Int), runK (oRet [some (.tuple [tx b.sc, oT b.ho, oI b.dr, bd, qD b.q, oT b.m]), some (.tuple [tx a.sc, oT a.ho, oI a.dr, ad, qD a.q, oT a.m]), some (tx sc), some (oT ho), some (oI dr), some ad, some (qD q), some (oT a.m)]
      (eTup (aCons (eVar 2) (aCons (eVar 3) (aCons (eVar 4) (aCons (eCall 1 g_gone (aCons (eCall 2 g_way_behind (aCons (e2 ixD (eVar 0) (eC (.int 3))) (aCons (eVar 5) aNil))) aNil)) (aCons (eVar 6) (aCons (eVar 7) aNil)))))) [some (.tuple [tx b.sc, oT b.ho, oI b.dr, bd, qD b.q, oT b.m]), some (.tuple [tx a.sc, oT a.ho, oI a.dr, ad, qD a.q, oT a.m]), some (tx sc), some (oT ho), some (oI dr), some ad, some (qD q), some (oT a.m)])) = .ok (.tuple [tx sc, oT ho, oI dr, (gone (behind b.w a.w)).d, qD q, oT a.m]) := by
    intro q sc ho dr
    simp [h2, h3]
  have i0 : ixD ad (.int 0) = .ok (.bool a.w.r) := by rw [ead]; rfl
  have i1 : ixD ad (.int 1) = .ok (.tuple (a.w.s.map tx)) := by rw [ead]; rfl
  clear ead had
  unfold Adr.d resv
  simp only
  generalize a.w.s = s at *
  generalize a.w.r = r at *
  generalize (gone (behind b.w a.w)).d = gd at *
  generalize a.ho = ho at *
  generalize a.q = q at *
  generalize a.sc = sc at *
  generalize a.dr = dr at *
  generalize a.m = m at *
  have e1' : eqD (.tuple (s.map tx)) (.tuple []) = .ok (.bool (decide (s = []))) := e1
  rw [eqD_tt] at e1'
  by_cases c1 : sc = [] <;> by_cases c2 : s = [] <;> cases r <;> cases ho <;> cases q <;> simp [h1, c1, c2, i0, i1] at e1' key ⊢ <;> simp [c1, c2, i0, i1, e1', key]
end Wp

set_option Elab.async false
set_option linter.all false
set_option maxRecDepth 100000
set_option maxHeartbeats 4000000
namespace Wp
open PySem PySem.Spec PyProof.Rows L2 Wm
theorem lresolved_ok (b a : Adr) (hb : okA b) (ha : okA a) (hw : b.sc ≠ []) (hl : b.w.s.length + a.w.s.length ≤ 890) (ib : Inv b) (ia : Inv a) : g__law_resolved [b.d, a.d] = .ok (resv b a).d := by
  have br : b.w.r = true := ib.root (.inl hw)
  have hne : b.w.s = [] → b.w.e = true := fun h => by rw [ib.ends h, br]
  have h1 := lgone_ok a.w ha.w
  have h2 := lgone_ok b.w hb.w
  have h3 := lholder_ok b.w hb.w hne
  have h4 := lgone_ok (behind b.w a.w) (behind_okS hb.w ha.w hl)
  have e1 := neD_tup (b := []) ha.w.1 (by simp)
  have hh := hold_len b.w
  have i2 : ixD a.w.d (.int 2) = .ok (.bool a.w.e) := rfl
  have hbd : b.d = .tuple [tx b.sc, oT b.ho, oI b.dr, b.w.d, qD b.q, oT b.m] := rfl
  have had : a.d = .tuple [tx a.sc, oT a.ho, oI a.dr, a.w.d, qD a.q, oT a.m] := rfl
  obtain ⟨bd, ebd⟩ : ∃ bd, bd = b.w.d := ⟨_, rfl⟩
  obtain ⟨ad, ead⟩ : ∃ ad, ad = a.w.d := ⟨_, rfl⟩
  rw [← ebd] at hbd h2 h3
  rw [← ead] at had h1 i2
  have i0 : ixD ad (.int 0) = .ok (.bool a.w.r) := by rw [ead]; rfl
  have i1 : ixD ad (.int 1) = .ok (.tuple (a.w.s.map tx)) := by rw [ead]; rfl
  have hbeh : a.w.r = false → a.w.s ≠ [] → behind b.w a.w = ⟨true, hold b.w ++ a.w.s, a.w.e⟩ := fun h1 h2 => by unfold behind; rw [if_neg (by simp [h1]), if_neg h2]
  have hbeh2 : a.w.r = true → behind b.w a.w = a.w := fun h1 => by unfold behind; rw [if_pos h1]
  have hbeh3 : a.w.r = false → a.w.s = [] → behind b.w a.w = b.w := fun h1 h2 => by unfold behind; rw [if_neg (by simp [h1]), if_pos h2]
  have hroot := ia.root
  have ls := ha.w.2
  have lb := hb.w.2
  unfold g__law_resolved f__law_resolved t__law_resolved_5 t__law_resolved_4 t__law_resolved_3 t__law_resolved_2 t__law_resolved_1
  rw [runF_eq, hbd, had]
  unfold Adr.d resv
  simp only
  have e1' : neD (.tuple (a.w.s.map tx)) (.tuple []) = .ok (.bool !(decide (a.w.s = []))) := e1
  rw [neD_tt] at e1'
  by_cases c3 : a.w.r = true
  · rw [hbeh2 c3]
    by_cases c1 : a.sc = []
    · cases c4 : a.ho with
      | none => simp [c1, c3, c4, h1, i0]
      | some h => simp [c1, c3, c4, h1, i0]
    · simp [c1, c3, h1, i0]
  · have c3' : a.w.r = false := by simpa using c3
    have c1 : a.sc = [] := by
      by_cases z : a.sc = []
      · exact z
      · exact absurd (hroot (.inl z)) c3
    have c4 : a.ho = none := by
      cases z : a.ho with
      | none => rfl
      | some x => exact absurd (hroot (.inr (by rw [z]; simp))) c3
    by_cases c2 : a.w.s = []
    · rw [hbeh3 c3' c2]
      cases c5 : a.q with
      | none => simp [c1, c2, c3', c4, c5, h2, i0, i1] at e1' ⊢; simp [e1', h2, c5]
      | some h => simp [c1, c2, c3', c4, c5, h2, i0, i1] at e1' ⊢; simp [e1', h2, c5]
    · have hb4 := hbeh c3' c2
      rw [hb4] at h4 ⊢
      simp [Way.d] at h4
      simp [c1, c2, c3', c4, i0, i1] at e1' ⊢
      simp (disch := omega) [e1', h3, h4, i1, i2, if_pos, c2, Way.d]
end Wp

set_option Elab.async false
set_option linter.all false
set_option maxRecDepth 100000
set_option maxHeartbeats 4000000
namespace Wp
open PySem PySem.Spec PyProof.Rows L2 Wm
theorem shp_oT {k : Nat} {o : Option Tx} (h : okO o) : shp k (oT o) := by
  cases o with
  | none => exact shp_none
  | some l => exact shp_tx h.1
theorem shp_oI {k : Nat} {o : Option Int} : shp k (oI o) := by
  cases o with
  | none => exact shp_none
  | some l => exact shp_int
theorem shp_pD {p : Tx × Option Tx} (h : okP p) : shp 1 (pD p) := shp_tuple (shpAll_cons (shp_tx h.1.1) (shpAll_cons (shp_oT h.2) shpAll_nil))
theorem shp_up {k j : Nat} {d : D} (h : shp k d) (hj : k ≤ j) : shp j d := ⟨h.1, Nat.le_trans h.2 hj⟩
theorem shp_qD {q : Option (List (Tx × Option Tx))} (h : okQ q) : shp 2 (qD q) := by
  cases q with
  | none => exact shp_none
  | some l => exact shp_tuple (shpAll_of fun d hd => by
      obtain ⟨p, hp, rfl⟩ := List.mem_map.mp hd
      exact shp_pD (h.1 p hp))
theorem shp_adr {a : Adr} (h : okA a) : shp 3 a.d :=
  shp_tuple (shpAll_cons (shp_tx h.sc.1) (shpAll_cons (shp_oT h.ho) (shpAll_cons shp_oI (shpAll_cons (shp_way h.w) (shpAll_cons (shp_qD h.q) (shpAll_cons (shp_oT h.m) shpAll_nil))))))
theorem pairs_loop (t : Option D) : ∀ (l : List (Tx × Option Tx)) (o : Option D), ∃ o', forL (gNm 1) b__law_same_pairs_1 (l.map pD) [t, o] = .nx [t, o']
  | [], o => ⟨o, rfl⟩
  | p :: l, o => by
    obtain ⟨o', ih⟩ := pairs_loop t l (some (pD p))
    refine ⟨o', ?_⟩
    rw [List.map_cons, forL_name]
    have e : b__law_same_pairs_1 [t, some (pD p)] = .nx [t, some (pD p)] := by
      obtain ⟨a, v⟩ := p
      unfold b__law_same_pairs_1 pD
      cases v with
      | none => simp [oT]
      | some v => simp [oT]
    simp only [List.set_cons_succ, List.set_cons_zero, e, oLoop_nx, ih]
theorem same_pairs_ok (q : Option (List (Tx × Option Tx))) : g__law_same_pairs [qD q] = .ok (.bool true) := by
  unfold g__law_same_pairs f__law_same_pairs
  rw [runF_eq]
  cases q with
  | none => simp [qD]
  | some l =>
    obtain ⟨o', e⟩ := pairs_loop (some (.tuple (l.map pD))) l none
    simp [qD]
    rw [e]
    simp
theorem same_adr (a : Adr) (h : okA a) : g__law_same [a.d, a.d] = .ok (.bool true) := by
  have e := eqR_refl (shp_adr h)
  have h1 := same_ok a.w h.w
  have h2 := same_pairs_ok a.q
  have hd : a.d = .tuple [tx a.sc, oT a.ho, oI a.dr, a.w.d, qD a.q, oT a.m] := rfl
  rw [hd] at e ⊢
  have ht : ∀ (x0 x1 : Option D) (o : Option Tx), b__law_same_1 [x0, x1, some (oT o)] = .nx [x0, x1, some (oT o)] := fun x0 x1 o => by
    unfold b__law_same_1
    cases o <;> simp [oT]
  generalize a.w.d = wd at *
  generalize a.q = q at *
  generalize a.ho = ho at *
  generalize a.m = m at *
  unfold g__law_same f__law_same
  rw [runF_eq]
  cases hdr : a.dr with
  | none =>
    rw [hdr] at e
    simp [oI] at e ⊢
    rw [forL_name]
    simp [ht]
    rw [forL_name]
    simp [ht, h1, h2, e]
  | some x =>
    rw [hdr] at e
    simp [oI] at e ⊢
    rw [forL_name]
    simp [ht]
    rw [forL_name]
    simp [ht, h1, h2, e]
theorem resv_okA {b a : Adr} (hb : okA b) (ha : okA a) (hl : b.w.s.length + a.w.s.length ≤ 890) : okA (resv b a) where
  sc := by unfold resv; simp only; split; exact hb.sc; exact ha.sc
  ho := by unfold resv; simp only; split; exact hb.ho; exact ha.ho
  w := gone_okS _ (behind_okS hb.w ha.w hl)
  q := by unfold resv; simp only; split; exact hb.q; exact ha.q
  m := ha.m
end Wp

set_option Elab.async false
set_option linter.all false
set_option maxRecDepth 100000
set_option maxHeartbeats 4000000
namespace Wp
open PySem PySem.Spec PyProof.Rows L2 Wm
/-! ### addresses by cells -/
theorem cutL_fromI {α : Type} (l : List α) {i : Int} (h : 0 ≤ i) : cutL l (some i) none = l.drop i.toNat := by
  obtain ⟨n, rfl⟩ : ∃ n : Nat, i = n := ⟨i.toNat, by omega⟩
  rw [cutL_from]; simp
def LET : List Nat := [97, 98, 99, 100, 101, 102, 103, 104, 105, 106, 107, 108, 109, 110, 111, 112, 113, 114, 115, 116, 117, 118, 119, 120, 121, 122, 65, 66, 67, 68, 69, 70, 71, 72, 73, 74, 75, 76, 77, 78, 79, 80, 81, 82, 83, 84, 85, 86, 87, 88, 89, 90]
def LEF : List Nat := LET ++ [48, 49, 50, 51, 52, 53, 54, 55, 56, 57]
theorem lLET : LET.length = 52 := by decide
theorem lLEF : LEF.length = 62 := by decide
/-- a scheme's text -/
def okSch (l : Tx) : Prop := ∃ c r, l = c :: r ∧ c ∈ LET ∧ (∀ x ∈ r, x ∈ LEF) ∧ r.length ≤ 7
theorem scheme_turn (x0 : Option D) (acc : List Nat) (n k : Int) (hl : acc.length ≤ 100) (hk : big k = true) : ∃ c ∈ LEF, b__law_scheme_1 [x0, some (tx LET), some (tx acc), some (.int n), some (.int k)] = .nx [x0, some (tx LET), some (tx (acc ++ [c])), some (.int (n.fdiv 8)), some (.int k)] := by
  obtain ⟨e, h⟩ := fmod_range (n.fdiv 8 + 7 * k) (b := 62) (by decide)
  obtain ⟨s, es, hs, _⟩ := atI_mem (l := LEF) e (by rw [lLEF]; exact h)
  have b7 : big 7 = true := by decide
  refine ⟨s, hs, ?_⟩
  unfold LEF at es
  unfold b__law_scheme_1
  simp (disch := omega) [b7, lLET, es, if_pos]
theorem scheme_loop (x0 : Option D) : ∀ (j : Nat) (lo : Int) (acc : List Nat) (o : Option D) (n : Int), 0 ≤ lo → lo + j ≤ 50 → acc.length + j ≤ 50 → ∃ m n' o', forL (gNm 4) b__law_scheme_1 (rangeD lo j) [x0, some (tx LET), some (tx acc), some (.int n), o] = .nx [x0, some (tx LET), some (tx (acc ++ m)), some (.int n'), o'] ∧ (∀ c ∈ m, c ∈ LEF) ∧ m.length = j
  | 0, lo, acc, o, n, _, _, _ => ⟨[], n, o, by rw [List.append_nil]; rfl, by simp, rfl⟩
  | j + 1, lo, acc, o, n, h0, hj, hl => by
    obtain ⟨c, hc, ht⟩ := scheme_turn x0 acc n lo (by omega) (by unfold big; simp; omega)
    obtain ⟨m, n', o', h1, h2, h3⟩ := scheme_loop x0 j (lo + 1) (acc ++ [c]) (some (.int lo)) (n.fdiv 8) (by omega) (by omega) (by simp; omega)
    refine ⟨c :: m, n', o', ?_, fun z hz => ?_, by simp [h3]⟩
    · rw [rangeD_cons, forL_name]
      show oLoop (b__law_scheme_1 [x0, some (tx LET), some (tx acc), some (.int n), some (.int lo)]) _ = _
      rw [ht, oLoop_nx, h1, List.append_assoc]
      rfl
    · rcases List.mem_cons.mp hz with rfl | m
      · exact hc
      · exact h2 z m
theorem scheme_ok (c : Int) : ∃ l, g__law_scheme [.int c] = .ok (tx l) ∧ okSch l := by
  obtain ⟨i0, i1⟩ := fmod_range c (b := 52) (by decide)
  obtain ⟨a, ea, ha, _⟩ := atI_mem (l := LET) i0 (by rw [lLET]; exact i1)
  obtain ⟨j0, j1⟩ := fmod_range (c.fdiv 52) (b := 8) (by decide)
  obtain ⟨m, n', o', e1, e2, e3⟩ := scheme_loop (some (.int c)) ((c.fdiv 52).fmod 8).toNat 0 [a] none (c.fdiv 52) (by omega) (by omega) (by simp; omega)
  refine ⟨a :: m, ?_, a, m, rfl, ha, e2, by omega⟩
  have hs : small62 ((c.fdiv 52).fmod 8) = true := by unfold small62; simp; omega
  unfold LET at ea e1
  unfold g__law_scheme f__law_scheme t__law_scheme_4 t__law_scheme_3 t__law_scheme_2
  rw [runF_eq]
  simp [ea, hs, rgK]
  rw [e1]
  simp
theorem LEF128 : ∀ c ∈ LEF, c < 128 := by decide
theorem LET128 : ∀ c ∈ LET, c < 128 := by decide
theorem okSch.t {l : Tx} (h : okSch l) : okT l := by
  obtain ⟨c, r, rfl, h1, h2, h3⟩ := h
  refine ⟨fun z hz => ?_, by simp; omega⟩
  rcases List.mem_cons.mp hz with rfl | m
  · exact LET128 _ h1
  · exact LEF128 _ (h2 z m)
theorem okSch.ne {l : Tx} (h : okSch l) : l ≠ [] := by
  obtain ⟨c, r, rfl, _⟩ := h; simp
/-- what stands in a question, a mark -/
def okV (l : Tx) : Prop := (∀ c ∈ l, c ∈ T) ∧ l.length ≤ 1000
def okVo : Option Tx → Prop
  | some l => okV l
  | none => True
theorem drop_okV {l : Tx} (h : ∀ c ∈ l, c ∈ T) (hl : l.length ≤ 1000) (n : Nat) : okV (l.drop n) := ⟨fun c hc => h c (List.mem_of_mem_drop hc), by simp; omega⟩
theorem mark_ok (c : Int) : ∃ m, g__law_mark [.int c] = .ok (oT m) ∧ okVo m := by
  obtain ⟨l, el, h1, h2, h3⟩ := text_ok (c.fdiv 3) 7 (by decide) (by decide)
  obtain ⟨i0, i1⟩ := fmod_range (c.fdiv 3) (b := 7) (by decide)
  obtain ⟨j0, j1⟩ := fmod_range c (b := 3) (by decide)
  unfold g__law_mark f__law_mark
  rw [runF_eq]
  by_cases c0 : c.fmod 3 = 0
  · exact ⟨none, by simp [c0, oT], trivial⟩
  · refine ⟨some (l.drop (c.fmod 3 - 1).toNat), ?_, drop_okV h1 (by omega) _⟩
    simp (disch := omega) [c0, el, if_pos, cutL_fromI, oT]
def okPr (p : Tx × Option Tx) : Prop := okN p.1 ∧ okVo p.2
theorem question_turn (x0 c : Int) (l : List (Tx × Option Tx)) (k : Int) (hl : l.length ≤ 1000) (hk : big k = true) (o3 o4 : Option D) : ∃ p p3 p4, okPr p ∧ b__law_question_1 [some (.int c), some (.list (l.map pD)), some (.int k), o3, o4] = .nx [some (.int c), some (.list ((l ++ [p]).map pD)), some (.int k), p3, p4] := by
  generalize hn : c.fdiv 12 + 71 * k = n
  obtain ⟨a, ea, a1, a2, a3⟩ := text_ok n 5 (by decide) (by decide)
  obtain ⟨i0, i1⟩ := fmod_range n (b := 5) (by decide)
  obtain ⟨v, ev, v1, v2, v3⟩ := text_ok (n.fdiv 9) 6 (by decide) (by decide)
  obtain ⟨k0, k1⟩ := fmod_range (n.fdiv 9) (b := 6) (by decide)
  obtain ⟨j0, j1⟩ := fmod_range (n.fdiv 3) (b := 3) (by decide)
  have b71 : big 71 = true := by decide
  have han : okN a := ⟨a1, by intro z; subst z; simp at a2, by omega⟩
  unfold b__law_question_1
  by_cases c0 : 0 < (n.fdiv 3).fmod 3
  · refine ⟨(a, some (v.drop ((n.fdiv 3).fmod 3 - 1).toNat)), some (.int n), some (tx (v.drop ((n.fdiv 3).fmod 3 - 1).toNat)), ⟨han, drop_okV v1 (by omega) _⟩, ?_⟩
    simp (disch := omega) [b71, hn, c0, ea, ev, if_pos, cutL_fromI, pD, oT]
  · refine ⟨(a, none), some (.int n), some .none, ⟨han, trivial⟩, ?_⟩
    simp (disch := omega) [b71, hn, c0, ea, if_pos, pD, oT]
end Wp

set_option Elab.async false
set_option linter.all false
set_option maxRecDepth 100000
set_option maxHeartbeats 4000000
namespace Wp
open PySem PySem.Spec PyProof.Rows L2 Wm
theorem question_loop (c : Int) : ∀ (j : Nat) (lo : Int) (l : List (Tx × Option Tx)) (o2 o3 o4 : Option D), 0 ≤ lo → lo + j ≤ 50 → l.length + j ≤ 50 → (∀ p ∈ l, okPr p) → ∃ (m : List (Tx × Option Tx)) (p2 p3 p4 : Option D), forL (gNm 2) b__law_question_1 (rangeD lo j) [some (.int c), some (.list (l.map pD)), o2, o3, o4] = .nx [some (.int c), some (.list (m.map pD)), p2, p3, p4] ∧ (∀ p ∈ m, okPr p) ∧ m.length = l.length + j
  | 0, lo, l, o2, o3, o4, _, _, _, h => ⟨l, o2, o3, o4, rfl, h, rfl⟩
  | j + 1, lo, l, o2, o3, o4, h0, hj, hl, h => by
    obtain ⟨p, p3, p4, hp, ht⟩ := question_turn 0 c l lo (by omega) (by unfold big; simp; omega) o3 o4
    obtain ⟨m, q2, q3, q4, h1, h2, h3⟩ := question_loop c j (lo + 1) (l ++ [p]) (some (.int lo)) p3 p4 (by omega) (by omega) (by simp; omega) (fun z hz => by
      rcases List.mem_append.mp hz with m | m
      · exact h z m
      · rw [List.mem_singleton.mp m]; exact hp)
    refine ⟨m, q2, q3, q4, ?_, h2, by rw [h3]; simp; omega⟩
    rw [rangeD_cons, forL_name]
    show oLoop (b__law_question_1 [some (.int c), some (.list (l.map pD)), some (.int lo), o3, o4]) _ = _
    rw [ht, oLoop_nx, h1]
def okQu : Option (List (Tx × Option Tx)) → Prop
  | some l => (∀ p ∈ l, okPr p) ∧ l.length ≤ 3
  | none => True
theorem question_ok (c : Int) : ∃ q, g__law_question [.int c] = .ok (qD q) ∧ okQu q := by
  obtain ⟨j0, j1⟩ := fmod_range (c.fdiv 3) (b := 4) (by decide)
  unfold g__law_question f__law_question
  rw [runF_eq]
  by_cases c0 : c.fmod 3 = 0
  · exact ⟨none, by simp [c0, qD], trivial⟩
  · obtain ⟨m, p2, p3, p4, e1, e2, e3⟩ := question_loop c ((c.fdiv 3).fmod 4).toNat 0 [] none none none (by omega) (by omega) (by simp; omega) (by simp)
    simp at e3
    refine ⟨some m, ?_, e2, by omega⟩
    have hs : small62 ((c.fdiv 3).fmod 4) = true := by unfold small62; simp; omega
    simp at e1
    simp [c0, hs, rgK]
    rw [e1]
    simp [qD]
theorem okV.t {l : Tx} (h : okV l) : okT l := in_okT h.1 h.2
theorem okVo.t {o : Option Tx} (h : okVo o) : okO o := by
  cases o with
  | none => trivial
  | some l => exact okV.t h
theorem okQu.t {q : Option (List (Tx × Option Tx))} (h : okQu q) : okQ q := by
  cases q with
  | none => trivial
  | some l => exact ⟨fun p hp => ⟨(h.1 p hp).1.t, okVo.t (h.1 p hp).2⟩, by have := h.2; omega⟩
/-- the way by cells -/
noncomputable def wayOf (cs : List Int) (r e : Bool) : Way := ⟨r, cs.map stp, if cs = [] then r else e⟩
theorem steps_okS {cs : List Int} (h : cs.length ≤ 400) : okS (cs.map stp) := ⟨fun l hl => by
  obtain ⟨c, _, rfl⟩ := List.mem_map.mp hl
  exact stp_okT c, by simp; omega⟩
theorem way_ok (cs : List Int) (r e : Bool) (h : cs.length ≤ 400) : g__law_way [.list (cs.map PyData.int), .bool r, .bool e] = .ok (wayOf cs r e).d := by
  have elc : lcL (gNm 4) cYes (eCall 1 g__law_step (aCons (eVar 4) aNil)) [some (.list (cs.map PyData.int)), some (.bool r), some (.bool e), none, none] (cs.map PyData.int) = .ok ((cs.map stp).map tx) := by
    rw [List.map_map]
    apply lcL_map
    intro c hc
    refine ⟨_, rfl, rfl, ?_⟩
    simp [stp_ok c]
  have hS := steps_okS h
  have e1 := eqD_tup (b := []) hS.1 (by simp)
  have e1' : eqR (.tuple ((cs.map stp).map tx)) (.tuple []) = .ok (.bool (decide (cs = []))) := by
    have : eqD (.tuple ((cs.map stp).map tx)) (.tuple []) = .ok (.bool (decide (cs.map stp = []))) := e1
    rw [eqD_tt] at this
    rw [this]
    cases cs <;> simp
  unfold g__law_way f__law_way wayOf Way.d
  rw [runF_eq]
  simp only [List.map_map] at elc e1'
  by_cases c0 : cs = []
  · subst c0
    simp at e1'
    simp [e1', lcL_nil]
  · simp [c0] at e1'
    simp (disch := omega) [elc, e1', c0, if_pos]
/-- what an address by cells is like -/
structure okG (a : Adr) (n : Nat) : Prop where
  sc : a.sc = [] ∨ okSch a.sc
  ho : ∀ h, a.ho = some h → okN h ∧ h.length ≤ 12
  dr : ∀ x, a.dr = some x → 0 ≤ x ∧ x < 65536 ∧ a.ho ≠ none
  w : ∃ cs : List Int, a.w.s = cs.map stp ∧ cs.length ≤ n
  q : okQu a.q
  m : okVo a.m
  inv : Inv a
theorem okG.a {a : Adr} {n : Nat} (h : okG a n) (hn : n ≤ 400) : okA a where
  sc := by
    rcases h.sc with e | e
    · rw [e]; exact ⟨by simp, by simp⟩
    · exact e.t
  ho := by
    cases e : a.ho with
    | none => trivial
    | some x => exact (h.ho x e).1.t
  w := by
    obtain ⟨cs, e, hl⟩ := h.w
    rw [e]; exact steps_okS (by omega)
  q := h.q.t
  m := h.m.t
theorem okG.len {a : Adr} {n : Nat} (h : okG a n) : a.w.s.length ≤ n := by
  obtain ⟨cs, e, hl⟩ := h.w
  rw [e]; simpa using hl
theorem address_ok (ns : List Int) (f : Nat) (wh : Bool) (cs : List Int) (h : cs.length ≤ 100) : ∃ a, g__law_address [.list (ns.map PyData.int), .int f, .bool wh, .list (cs.map PyData.int)] = .ok a.d ∧ okG a cs.length ∧ (wh = true → a.sc ≠ []) := by
  have hc0 := cell_ok ns f
  have hc1 : g__law_cell_at [.list (ns.map PyData.int), .int ((f : Int) + 1)] = .ok (.int (cell ns (f + 1))) := cell_ok ns (f + 1)
  have hc2 : g__law_cell_at [.list (ns.map PyData.int), .int ((f : Int) + 2)] = .ok (.int (cell ns (f + 2))) := cell_ok ns (f + 2)
  have hc3 : g__law_cell_at [.list (ns.map PyData.int), .int ((f : Int) + 3)] = .ok (.int (cell ns (f + 3))) := cell_ok ns (f + 3)
  generalize cell ns f = hd at hc0
  generalize cell ns (f + 1) = c1 at hc1
  generalize cell ns (f + 2) = c2 at hc2
  generalize cell ns (f + 3) = c3 at hc3
  obtain ⟨sc, esc, hsc⟩ := scheme_ok (hd.fdiv 64)
  obtain ⟨ho, eho, ho1, ho2, ho3⟩ := text_ok c1 12 (by decide) (by decide)
  obtain ⟨h120, h121⟩ := fmod_range c1 (b := 12) (by decide)
  obtain ⟨d0, d1⟩ := fmod_range (c1.fdiv 7) (b := 65536) (by decide)
  obtain ⟨q, eq, hq⟩ := question_ok c2
  obtain ⟨m, em, hm⟩ := mark_ok c3
  have hoN : okN ho := ⟨ho1, by intro z; subst z; simp at ho2, by omega⟩
  have fin : ∀ (S : Tx) (H : Option Tx) (Dr : Option Int), (S = [] ∨ okSch S) → (∀ h, H = some h → okN h ∧ h.length ≤ 12) → (∀ x, Dr = some x → 0 ≤ x ∧ x < 65536 ∧ H ≠ none) → (wh = true → S ≠ []) →
      ∃ a, runK (t__law_address_3 [some (.list (ns.map PyData.int)), some (.int f), some (.bool wh), some (.list (cs.map PyData.int)), some (.int hd), some (tx S), some (oT H), some (oI Dr), none, none, none]) = .ok a.d ∧ okG a cs.length ∧ (wh = true → a.sc ≠ []) := by
    intro S H Dr h1 h2 h3 h4
    let r : Bool := decide (S ≠ []) || (!H.isNone || decide ((hd.fdiv 24).fmod 2 = 1))
    have hw := way_ok cs r (decide ((hd.fdiv 48).fmod 2 = 1)) (by omega)
    refine ⟨⟨S, H, Dr, wayOf cs r (decide ((hd.fdiv 48).fmod 2 = 1)), q, m⟩, ?_, ⟨h1, h2, h3, ⟨cs, rfl, Nat.le_refl _⟩, hq, hm, ⟨?_, ?_⟩⟩, h4⟩
    · unfold t__law_address_3 t__law_address_2 t__law_address_1 Adr.d
      by_cases k1 : S = [] <;> cases H <;> by_cases k2 : (hd.fdiv 24).fmod 2 = 1 <;> simp [r, k1, k2] at hw ⊢ <;> simp [hw, hc2, hc3, eq, em, k1, k2]
    · intro hx
      show r = true
      simp only [r]
      rcases hx with hx | hx
      · have : decide (S ≠ []) = true := by simpa using hx
        rw [this]; rfl
      · have hx' : H ≠ none := hx
        cases H with
        | none => exact absurd rfl hx'
        | some x => simp
    · intro hx
      have : cs = [] := by
        have hx' : cs.map stp = [] := hx
        simpa using hx'
      show (if cs = [] then r else _) = r
      rw [if_pos this]
  unfold g__law_address f__law_address t__law_address_8 t__law_address_7 t__law_address_6 t__law_address_5 t__law_address_4
  rw [runF_eq]
  by_cases k1 : wh = true ∨ hd.fmod 4 = 0
  · by_cases k2 : 0 < (hd.fdiv 4).fmod 3
    · by_cases k3 : (hd.fdiv 12).fmod 2 = 1
      · obtain ⟨a, e, ha⟩ := fin sc (some ho) (some ((c1.fdiv 7).fmod 65536)) (.inr hsc) (fun h hh => by cases hh; exact ⟨hoN, by omega⟩) (fun x hx => by cases hx; exact ⟨d0, d1, by simp⟩) (fun _ => hsc.ne)
        refine ⟨a, ?_, ha⟩
        rw [← e]
        cases wh <;> simp at k1 <;> simp [hc0, hc1, esc, eho, k1, k2, k3, oT, oI]
      · obtain ⟨a, e, ha⟩ := fin sc (some ho) none (.inr hsc) (fun h hh => by cases hh; exact ⟨hoN, by omega⟩) (fun x hx => by cases hx) (fun _ => hsc.ne)
        refine ⟨a, ?_, ha⟩
        rw [← e]
        cases wh <;> simp at k1 <;> simp [hc0, hc1, esc, eho, k1, k2, k3, oT, oI]
    · obtain ⟨a, e, ha⟩ := fin sc none none (.inr hsc) (fun h hh => by cases hh) (fun x hx => by cases hx) (fun _ => hsc.ne)
      refine ⟨a, ?_, ha⟩
      rw [← e]
      cases wh <;> simp at k1 <;> simp [hc0, esc, k1, k2, oT, oI]
  · have kw : wh = false := by
      cases wh with
      | true => exact absurd (.inl rfl) k1
      | false => rfl
    have k1' : ¬ hd.fmod 4 = 0 := fun z => k1 (.inr z)
    subst kw
    by_cases k2 : 0 < (hd.fdiv 4).fmod 3
    · by_cases k3 : (hd.fdiv 12).fmod 2 = 1
      · obtain ⟨a, e, ha⟩ := fin [] (some ho) (some ((c1.fdiv 7).fmod 65536)) (.inl rfl) (fun h hh => by cases hh; exact ⟨hoN, by omega⟩) (fun x hx => by cases hx; exact ⟨d0, d1, by simp⟩) (fun z => nomatch z)
        refine ⟨a, ?_, ha⟩
        rw [← e]
        simp [hc0, hc1, eho, k1', k2, k3, oT, oI]
      · obtain ⟨a, e, ha⟩ := fin [] (some ho) none (.inl rfl) (fun h hh => by cases hh; exact ⟨hoN, by omega⟩) (fun x hx => by cases hx) (fun z => nomatch z)
        refine ⟨a, ?_, ha⟩
        rw [← e]
        simp [hc0, hc1, eho, k1', k2, k3, oT, oI]
    · obtain ⟨a, e, ha⟩ := fin [] none none (.inl rfl) (fun h hh => by cases hh) (fun x hx => by cases hx) (fun z => nomatch z)
      refine ⟨a, ?_, ha⟩
      rw [← e]
      simp [hc0, k1', k2, oT, oI]
end Wp

set_option Elab.async false
set_option linter.all false
set_option maxRecDepth 100000
set_option maxHeartbeats 4000000
namespace Wp
open PySem PySem.Spec PyProof.Rows L2 Wm
def k_LEFT_OUT : D := (.int 37)
def k_SIGNS : D := (tx [32, 33, 34, 35, 36, 38, 39, 40, 41, 42, 43, 44, 45, 46, 47, 48, 49, 50, 51, 52, 53, 54, 55, 56, 57, 58, 59, 60, 61, 62, 63, 64, 65, 66, 67, 68, 69, 70, 71, 72, 73, 74, 75, 76, 77, 78, 79, 80, 81, 82, 83, 84, 85, 86, 87, 88, 89, 90, 91, 92, 93, 94, 95, 96, 97, 98, 99, 100, 101, 102, 103, 104, 105, 106, 107, 108, 109, 110, 111, 112, 113, 114, 115, 116, 117, 118, 119, 120, 121, 122, 123, 124, 125, 126])
def t_sign_of_1 : En → Out :=
  (sSeq (sIf (tOr' (tB (e2 ltD (eBlt minD (aCons (eVar 1) (aCons (eVar 2) aNil))) (eC (.int 0)))) (tOr' (tB (e2 eqD (eVar 3) (eC k_LEFT_OUT))) (tNo (tB (eChain leD leD (eC (.int 32)) (eVar 3) (eC (.int 126)))))))
      (sRet (eC .none))
      sNx)
    (sRet (e2 ixD (eC k_SIGNS) (e2 subD (e2 subD (eVar 3) (eC (.int 32))) (eBlt intD (aCons (e2 gtD (eVar 3) (eC k_LEFT_OUT)) aNil))))))
def t_sign_of_2 : En → Out :=
  (sSeq (sSet 3 (e2 addD (e2 mulD (eC (.int 16)) (eVar 1)) (eVar 2)))
    t_sign_of_1)
def t_sign_of_3 : En → Out :=
  (sSeq (sSet 2 (eM1 findD (eC k_SIXTEEN) (eM0 lowerD (e2 ixD (eVar 0) (eC (.int 1))))))
    t_sign_of_2)
def t_sign_of_4 : En → Out :=
  (sSeq (sSet 1 (eM1 findD (eC k_SIXTEEN) (eM0 lowerD (e2 ixD (eVar 0) (eC (.int 0))))))
    t_sign_of_3)
def f_sign_of : En → Out :=
  (sSeq (sIf (tB (e2 neD (eBlt lenD (aCons (eVar 0) aNil)) (eC (.int 2))))
      (sRet (eC .none))
      sNx)
    t_sign_of_4)
def g_sign_of : List D → Rs D := runF 4 f_sign_of
def b_undone_1 : En → Out :=
  (sSeq (sSet 4 (e2 ixD (eVar 0) (eVar 3)))
    (sSeq (sAug 3 addI (eC (.int 1)))
    (sSeq (sIf (tB (e2 eqD (eVar 4) (eC (tx [126]))))
      (sSeq (sSet 4 (eCall 1 g_sign_of (aCons (eSl (eVar 0) (oSo (eVar 3)) (oSo (e2 addD (eVar 3) (eC (.int 2))))) aNil)))
    (sSeq (sAug 3 addI (eC (.int 2)))
    (sIf (tB (e2 isD (eVar 4) (eC .none)))
      (sRet (eC .none))
      sNx)))
      (sIf (tAn (tB (e2 notInD (eVar 4) (eC k_PLAIN))) (tB (e2 notInD (eVar 4) (eVar 1))))
      (sRet (eC .none))
      sNx))
    (sAug 2 addI (eVar 4)))))
def f_undone : En → Out :=
  (sSeq (sSet 2 (eC (tx [])))
    (sSeq (sSet 3 (eC (.int 0)))
    (sSeq (sWhile (tB (e2 ltD (eVar 3) (eBlt lenD (aCons (eVar 0) aNil))))
      b_undone_1)
    (sRet (eVar 2)))))
def g_undone : List D → Rs D := runF 5 f_undone
def t__law_due_1 : En → Out :=
  (sSeq (sSet 2 (e2 addD (eVar 2) (eVar 5)))
    (sSet 3 (e2 addD (eVar 3) (eVar 4))))
def t__law_due_2 : En → Out :=
  (sSeq (sIf (tB (e2 eqD (eVar 5) (eC (tx [126]))))
      (sSeq (sSet 4 (eC (.int 3)))
    (sSeq (sSet 6 (eLc (eIt iSeq (eCall0 g__law_table)) [7] (gNm 7) (tB (e2 eqD (eCall 1 g__law_hex (aCons (eVar 7) aNil)) (eM0 lowerD (eSl (eVar 0) (oSo (e2 addD (eVar 3) (eC (.int 1)))) (oSo (e2 addD (eVar 3) (eC (.int 3)))))))) (eVar 7)))
    (sSeq (sIf (tB (e2 eqD (eVar 6) (eLst aNil)))
      (sRet (eC .none))
      sNx)
    (sSet 5 (e2 ixD (eVar 6) (eC (.int 0)))))))
      (sIf (tAn (tNo (tB (eCall 1 g__law_plain (aCons (eVar 5) aNil)))) (tB (e2 notInD (eVar 5) (eVar 1))))
      (sRet (eC .none))
      sNx))
    t__law_due_1)
def t__law_due_3 : En → Out :=
  (sSeq (sSet 5 (e2 ixD (eVar 0) (eVar 3)))
    t__law_due_2)
def b__law_due_4 : En → Out :=
  (sSeq (sSet 4 (eC (.int 1)))
    t__law_due_3)
def f__law_due : En → Out :=
  (sSeq (sSet 2 (eC (tx [])))
    (sSeq (sSet 3 (eC (.int 0)))
    (sSeq (sWhile (tB (e2 ltD (eVar 3) (eBlt lenD (aCons (eVar 0) aNil))))
      b__law_due_4)
    (sRet (eVar 2)))))
def g__law_due : List D → Rs D := runF 8 f__law_due
end Wp

set_option Elab.async false
set_option linter.all false
set_option maxRecDepth 100000
set_option maxHeartbeats 4000000
namespace Wp
open PySem PySem.Spec PyProof.Rows L2 Wm
/-- the number of a figure to the base 16 -/
def hx (c : Nat) : Int := match X16.idxOf? (lo1 c) with | some i => (i : Int) | none => -1
theorem hx_range : ∀ c, c < 128 → -1 ≤ hx c ∧ hx c < 16 := by decide
def signF (h l : Int) : D :=
  if min h l < 0 ∨ 16 * h + l = 37 ∨ ¬ (32 ≤ 16 * h + l ∧ 16 * h + l ≤ 126) then .none else tx [(16 * h + l).toNat]
theorem T_at : ∀ n : Nat, n < 127 → 32 ≤ n → n ≠ 37 → atI T ((n : Int) - 32 - (if (37 : Int) < n then 1 else 0)) = some n := by decide
theorem sign_of_ok (a b : Nat) (ha : a < 128) (hb : b < 128) : g_sign_of [tx [a, b]] = .ok (signF (hx a) (hx b)) := by
  have h1 := hx_range a ha
  have h2 := hx_range b hb
  have e1 : findD ⟨[48, 49, 50, 51, 52, 53, 54, 55, 56, 57, 97, 98, 99, 100, 101, 102].toArray⟩ (tx [lo1 a]) = .ok (.int (hx a)) := findD_one _ _
  have e2 : findD ⟨[48, 49, 50, 51, 52, 53, 54, 55, 56, 57, 97, 98, 99, 100, 101, 102].toArray⟩ (tx [lo1 b]) = .ok (.int (hx b)) := findD_one _ _
  generalize hx a = h at *
  generalize hx b = l at *
  have b16 : big 16 = true := by decide
  have eT : k_SIGNS = tx T := rfl
  have lT : T.length = 94 := by decide
  unfold g_sign_of f_sign_of t_sign_of_4 t_sign_of_3 t_sign_of_2 t_sign_of_1
  rw [runF_eq]
  simp [lowerD_s, ha, hb, k_SIXTEEN, b16, k_LEFT_OUT, eT, e1, e2, lT]
  have em : (if l < h then l else h) = min h l := by omega
  rw [em]
  unfold signF
  by_cases c1 : min h l < 0
  · simp [c1]
  · by_cases c2 : 16 * h + l = 37
    · simp [c1, c2]
    · by_cases c3 : 32 ≤ 16 * h + l
      · by_cases c4 : 16 * h + l ≤ 126
        · have hT := T_at (16 * h + l).toNat (by omega) (by omega) (by omega)
          rw [Int.toNat_of_nonneg (by omega)] at hT
          simp [c1, c2, c3, c4, hT, lT]
        · simp [c1, c2, c3, c4]
      · simp [c1, c2, c3]
/-! ### the sign that is due -/
def hit (x y s : Nat) : Bool := decide (dg (s / 16) = x) && decide (dg (s % 16) = y)
def dueF (x y : Nat) : D := match T.find? (hit x y) with | some s => tx [s] | none => .none
/-- the two tell the same -/
theorem lo_dg : ∀ c, c < 128 → hx c = -1 ∨ (0 ≤ hx c ∧ lo1 c = dg (hx c).toNat) := by decide
theorem dg_in : ∀ x, x < 16 → dg x ∈ X16 := by decide
theorem T16 : ∀ c ∈ T, c / 16 < 16 ∧ c % 16 < 16 := by decide
theorem both16 : ∀ h, h < 16 → ∀ l, l < 16 → T.find? (hit (dg h) (dg l)) = if 16 * h + l = 37 ∨ ¬ (32 ≤ 16 * h + l ∧ 16 * h + l ≤ 126) then none else some (16 * h + l) := by decide +kernel
theorem no_hx {c : Nat} (h : hx c = -1) : lo1 c ∉ X16 := by
  unfold hx at h
  intro m
  split at h
  · omega
  · rename_i e
    rw [List.idxOf?_eq_none_iff] at e
    exact e m
theorem same (a b : Nat) (ha : a < 128) (hb : b < 128) : dueF (lo1 a) (lo1 b) = signF (hx a) (hx b) := by
  have none1 : ∀ x y, (x ∉ X16 ∨ y ∉ X16) → T.find? (hit x y) = none := fun x y hxy => by
    rw [List.find?_eq_none]
    intro s hs
    obtain ⟨k1, k2⟩ := T16 s hs
    unfold hit
    simp only [Bool.and_eq_true, decide_eq_true_eq]
    rintro ⟨z1, z2⟩
    rcases hxy with h | h
    · exact h (z1 ▸ dg_in _ k1)
    · exact h (z2 ▸ dg_in _ k2)
  unfold dueF
  rcases lo_dg a ha with h1 | ⟨h1, e1⟩
  · rw [none1 _ _ (.inl (no_hx h1)), h1]
    unfold signF
    have := hx_range b hb
    rw [if_pos (.inl (by omega))]
  · rcases lo_dg b hb with h2 | ⟨h2, e2⟩
    · rw [none1 _ _ (.inr (no_hx h2)), h2]
      unfold signF
      rw [if_pos (.inl (by omega))]
    · have r1 := hx_range a ha
      have r2 := hx_range b hb
      rw [e1, e2, both16 _ (by omega) _ (by omega)]
      generalize hx a = h at *
      generalize hx b = l at *
      unfold signF
      by_cases c : 16 * h + l = 37 ∨ ¬ (32 ≤ 16 * h + l ∧ 16 * h + l ≤ 126)
      · rw [if_pos (by omega), if_pos (.inr c)]
      · rw [if_neg (by omega), if_neg (by omega)]
        have : 16 * h.toNat + l.toNat = (16 * h + l).toNat := by omega
        rw [this]
theorem back_all : ∀ c ∈ T, hx (dg (c / 16)) = (c / 16 : Nat) ∧ hx (dg (c % 16)) = (c % 16 : Nat) ∧ hx (up1 (dg (c / 16))) = (c / 16 : Nat) ∧ hx (up1 (dg (c % 16))) = (c % 16 : Nat) ∧ dg (c / 16) < 128 ∧ dg (c % 16) < 128 ∧ up1 (dg (c / 16)) < 128 ∧ up1 (dg (c % 16)) < 128 ∧ c ≠ 37 ∧ 32 ≤ c ∧ c ≤ 126 := by decide
theorem signF_back {c : Nat} (h : c ∈ T) : signF (c / 16 : Nat) (c % 16 : Nat) = tx [c] := by
  obtain ⟨_, _, _, _, _, _, _, _, h1, h2, h3⟩ := back_all c h
  unfold signF
  rw [if_neg (by omega)]
  have : (16 * ((c / 16 : Nat) : Int) + ((c % 16 : Nat) : Int)).toNat = c := by omega
  rw [this]

/-! ### texts undone -/
def sgn (a b : Nat) : Option Nat := T.find? (hit (lo1 a) (lo1 b))
theorem signF_sgn (a b : Nat) (ha : a < 128) (hb : b < 128) : signF (hx a) (hx b) = match sgn a b with | some s => tx [s] | none => .none := (same a b ha hb).symm
theorem sgn_T {a b s : Nat} (h : sgn a b = some s) : s ∈ T := List.mem_of_find?_eq_some h
def und (fr : List Nat) : List Nat → Option (List Nat)
  | [] => some []
  | c :: r => if c = 126 then (match r with
      | a :: b :: r' => (match sgn a b with
        | some s => (und fr r').map (s :: ·)
        | none => none)
      | _ => none)
    else if pln c = true ∨ c ∈ fr then (und fr r).map (c :: ·) else none
theorem und_pair (fr : List Nat) (a b : Nat) (r : List Nat) : und fr (126 :: a :: b :: r) = match sgn a b with | some s => (und fr r).map (s :: ·) | none => none := by rw [und, if_pos rfl]
theorem und_sign (fr : List Nat) {c : Nat} (h : c ≠ 126) (r : List Nat) : und fr (c :: r) = if pln c = true ∨ c ∈ fr then (und fr r).map (c :: ·) else none := by
  rcases r with _ | ⟨a, _ | ⟨b, r⟩⟩ <;> simp [und, h]
def oD : Option (List Nat) → D
  | some l => tx l
  | none => .none
theorem sign_short (l : List Nat) (h : l.length ≤ 2) (h2 : l.length ≠ 2) : g_sign_of [tx l] = .ok .none := by
  unfold g_sign_of f_sign_of
  rw [runF_eq]
  have : ((l.length : Nat) : Int) ≠ 2 := by omega
  simp (disch := omega) [if_pos, this]
theorem cut_two (p : List Nat) (c : Nat) (r : List Nat) : cutL (p ++ c :: r) (some ((p.length : Int) + 1)) (some ((p.length : Int) + 1 + 2)) = r.take 2 := by
  rw [cutL_mid' _ (p.length + 1) (p.length + 3) _ _ (by omega) (by omega), take_mid]
  simp
theorem turn_pair {p r fr acc : List Nat} {a b : Nat} {o : Option D} (ha : a < 128) (hb : b < 128) (hp : p.length ≤ 100000) (hr : r.length ≤ 100000) (hacc : acc.length ≤ 100000) :
    b_undone_1 [some (tx (p ++ 126 :: a :: b :: r)), some (tx fr), some (tx acc), some (.int p.length), o] = match sgn a b with
      | some s => .nx [some (tx (p ++ 126 :: a :: b :: r)), some (tx fr), some (tx (acc ++ [s])), some (.int (p.length + 1 + 2)), some (tx [s])]
      | none => .rt .none := by
  have h1 := atI_mid p 126 (a :: b :: r)
  have h2 := cut_two p 126 (a :: b :: r)
  have h3 := sign_of_ok a b ha hb
  rw [signF_sgn a b ha hb] at h3
  unfold b_undone_1
  cases e : sgn a b with
  | none =>
    rw [e] at h3
    simp (disch := omega) [if_pos, h1, h2, h3]
  | some s =>
    rw [e] at h3
    simp (disch := omega) [if_pos, h1, h2, h3]
theorem turn_end {p r fr acc : List Nat} {o : Option D} (h : r.length < 2) (hp : p.length ≤ 100000) :
    b_undone_1 [some (tx (p ++ 126 :: r)), some (tx fr), some (tx acc), some (.int p.length), o] = .rt .none := by
  have h1 := atI_mid p 126 r
  have h2 := cut_two p 126 r
  rw [List.take_of_length_le (by omega)] at h2
  have h3 := sign_short r (by omega) (by omega)
  unfold b_undone_1
  simp (disch := omega) [if_pos, h1, h2, h3]
theorem turn_sign {p r fr acc : List Nat} {c : Nat} {o : Option D} (hc : c < 128) (h : c ≠ 126) (hp : p.length ≤ 100000) (hr : r.length ≤ 100000) (hacc : acc.length ≤ 100000) :
    b_undone_1 [some (tx (p ++ c :: r)), some (tx fr), some (tx acc), some (.int p.length), o] = if pln c = true ∨ c ∈ fr then .nx [some (tx (p ++ c :: r)), some (tx fr), some (tx (acc ++ [c])), some (.int (p.length + 1)), some (tx [c])] else .rt .none := by
  have h1 := atI_mid p c r
  have h4 : notInD (tx [c]) k_PLAIN = .ok (.bool (!pln c)) := by
    unfold k_PLAIN
    rw [notInD_s, plain_all c hc]
  unfold b_undone_1
  cases e : pln c <;> by_cases e2 : c ∈ fr <;> simp (disch := omega) [if_pos, h1, h, h4, e, e2]
def wcond : En → Rs Bool := tB (e2 ltD (eVar 3) (eBlt lenD (aCons (eVar 0) aNil)))
theorem wcond_ok (l : List Nat) (x1 x2 o : Option D) (k : Nat) (hl : l.length ≤ 1000000) : wcond [some (tx l), x1, x2, some (.int k), o] = .ok (decide (k < l.length)) := by
  unfold wcond
  simp (disch := omega) [if_pos]
theorem undone_loop (fr : List Nat) : ∀ (n : Nat) (r p acc : List Nat) (o : Option D), r.length < n → (∀ c ∈ r, c < 128) → p.length + r.length ≤ 100000 → acc.length + r.length ≤ 100000 →
    runK (oSeq (whileL wcond b_undone_1 n [some (tx (p ++ r)), some (tx fr), some (tx acc), some (.int p.length), o]) (sRet (eVar 2))) = .ok (oD ((und fr r).map (acc ++ ·)))
  | 0, r, p, acc, o, h, _, _, _ => absurd h (by omega)
  | n + 1, [], p, acc, o, _, _, hp, _ => by
    rw [whileL_f (by rw [wcond_ok _ _ _ _ _ (by simp at hp ⊢; omega)]; simp)]
    simp [und, oD]
  | n + 1, c :: r, p, acc, o, h, hc, hp, ha => by
    simp only [List.length_cons] at h hp ha
    rw [whileL_t (by rw [wcond_ok _ _ _ _ _ (by simp; omega)]; simp)]
    have hc0 := hc c List.mem_cons_self
    by_cases e : c = 126
    · subst e
      match r, h, hc, hp, ha with
      | [], h, hc, hp, ha => rw [turn_end (by simp) (by omega)]; simp [und, oD]
      | [a], h, hc, hp, ha => rw [turn_end (by simp) (by omega)]; simp [und, oD]
      | a :: b :: r, h, hc, hp, ha =>
        simp only [List.length_cons] at h hp ha
        rw [turn_pair (hc a (by simp)) (hc b (by simp)) (by omega) (by omega) (by omega)]
        rw [und_pair]
        cases es : sgn a b with
        | none => simp [oD]
        | some s =>
          have ih := undone_loop fr n r (p ++ [126, a, b]) (acc ++ [s]) (some (tx [s])) (by omega) (fun z hz => hc z (by simp [hz])) (by simp; omega) (by simp; omega)
          have e1 : p ++ [126, a, b] ++ r = p ++ 126 :: a :: b :: r := by simp
          have e2 : (((p ++ [126, a, b]).length : Nat) : Int) = (p.length : Int) + 1 + 2 := by simp; omega
          rw [e1, e2] at ih
          simp only [oLoop_nx]
          rw [ih, Option.map_map]
          congr 2
          cases und fr r <;> simp
    · rw [turn_sign hc0 e (by omega) (by omega) (by omega)]
      rw [und_sign fr e]
      by_cases e2 : pln c = true ∨ c ∈ fr
      · rw [if_pos e2, if_pos e2]
        have ih := undone_loop fr n r (p ++ [c]) (acc ++ [c]) (some (tx [c])) (by omega) (fun z hz => hc z (by simp [hz])) (by simp; omega) (by simp; omega)
        have e1 : p ++ [c] ++ r = p ++ c :: r := by simp
        have e3 : (((p ++ [c]).length : Nat) : Int) = (p.length : Int) + 1 := by simp
        rw [e1, e3] at ih
        simp only [oLoop_nx]
        rw [ih, Option.map_map]
        congr 2
        cases und fr r <;> simp
      · rw [if_neg e2, if_neg e2]
        simp [oD]
theorem undone_ok (l fr : List Nat) (h : ∀ c ∈ l, c < 128) (hl : l.length ≤ 10000) : g_undone [tx l, tx fr] = .ok (oD (und fr l)) := by
  have := undone_loop fr fuelW l [] [] none (by unfold fuelW; omega) h (by simp; omega) (by simp; omega)
  have e : (und fr l).map (([] : List Nat) ++ ·) = und fr l := by cases und fr l <;> simp
  rw [e] at this
  unfold g_undone f_undone
  rw [runF_eq]
  simp
  exact this
/-! ### as the law undoes -/
theorem T_ne37 : ∀ c ∈ T, c ≠ 37 := by decide
def pr2 (q : List Nat) (s : Nat) : Bool := decide ([dg (s / 16), dg (s % 16)] = q.map lo1)
theorem pr2_hit (a b s : Nat) : pr2 [a, b] s = hit (lo1 a) (lo1 b) s := by unfold pr2 hit; simp
theorem pr2_short {q : List Nat} (h : q.length < 2) (s : Nat) : pr2 q s = false := by
  unfold pr2
  rcases q with _ | ⟨a, _ | ⟨b, q⟩⟩
  · rfl
  · simp
  · simp at h; omega
theorem cut_two' (p : List Nat) (c : Nat) (r : List Nat) : cutL (p ++ c :: r) (some ((p.length : Int) + 1)) (some ((p.length : Int) + 3)) = r.take 2 := by
  have := cut_two p c r
  rw [show (p.length : Int) + 3 = (p.length : Int) + 1 + 2 by omega]; exact this
def dcomp : En → Rs Bool := tB (e2 eqD (eCall 1 g__law_hex (aCons (eVar 7) aNil)) (eM0 lowerD (eSl (eVar 0) (oSo (e2 addD (eVar 3) (eC (.int 1)))) (oSo (e2 addD (eVar 3) (eC (.int 3)))))))
theorem due_comp (p r : List Nat) (x1 x2 x4 x5 x6 : Option D) (hr : ∀ c ∈ r, c < 128) (hp : p.length + r.length ≤ 200000) :
    lcL (gNm 7) dcomp (eVar 7) [some (tx (p ++ 126 :: r)), x1, x2, some (.int p.length), x4, x5, x6, none] (T.map fun c => tx [c]) = .ok ((T.filter (pr2 (r.take 2))).map fun c => tx [c]) := by
  apply lcL_filter
  intro s hs
  refine ⟨_, rfl, ?_, fun _ => rfl⟩
  have h2 := cut_two' p 126 r
  have h3 : ∀ c ∈ r.take 2, c < 128 := fun c hc => hr c (List.mem_of_mem_take hc)
  have h4 := lowerD_s (r.take 2) h3 (by simp; omega)
  unfold dcomp pr2
  simp (disch := omega) [if_pos, h2, h4, hex_ok hs]
theorem due_pair {p r fr acc : List Nat} (x4 x5 x6 x7 : Option D) (hr : ∀ c ∈ r, c < 128) (hp : p.length ≤ 100000) (hr' : r.length ≤ 100000) (hacc : acc.length ≤ 100000) :
    b__law_due_4 [some (tx (p ++ 126 :: r)), some (tx fr), some (tx acc), some (.int p.length), x4, x5, x6, x7] = match T.find? (pr2 (r.take 2)) with
      | some s => .nx [some (tx (p ++ 126 :: r)), some (tx fr), some (tx (acc ++ [s])), some (.int (p.length + 3)), some (.int 3), some (tx [s]), some (.list ((T.filter (pr2 (r.take 2))).map fun c => tx [c])), x7]
      | none => .rt .none := by
  have h1 := atI_mid p 126 r
  have h2 := due_comp p r (some (tx fr)) (some (tx acc)) (some (.int 3)) (some (tx [126])) x6 hr (by omega)
  unfold dcomp at h2
  have h3 : eqD (.list ((T.filter (pr2 (r.take 2))).map fun c => tx [c])) (.list []) = .ok (.bool ((T.filter (pr2 (r.take 2))).map fun c => tx [c]).isEmpty) :=
    eqD_nil (k := 0) (shpAll_of fun d hd => by
      obtain ⟨c, hc, rfl⟩ := List.mem_map.mp hd
      exact shp_tx (fun z hz => by rw [List.mem_singleton.mp hz]; exact T128 c (List.mem_filter.mp hc).1))
  have h4 : (T.filter (pr2 (r.take 2))).head? = T.find? (pr2 (r.take 2)) := List.head?_filter
  unfold b__law_due_4 t__law_due_3 t__law_due_2 t__law_due_1
  generalize T.filter (pr2 (r.take 2)) = F at h2 h3 h4
  rw [← h4]
  simp (disch := omega) [if_pos, h1, table_ok, lT, h2]
  cases F with
  | nil => simp at h3; simp [h3]
  | cons s F =>
    simp at h3
    simp (disch := omega) [h3, if_pos]
theorem due_sign {p r fr acc : List Nat} {c : Nat} (x4 x5 x6 x7 : Option D) (hc : c < 128) (h : c ≠ 126) (hp : p.length ≤ 100000) (hr' : r.length ≤ 100000) (hacc : acc.length ≤ 100000) :
    b__law_due_4 [some (tx (p ++ c :: r)), some (tx fr), some (tx acc), some (.int p.length), x4, x5, x6, x7] = if pln c = true ∨ c ∈ fr then .nx [some (tx (p ++ c :: r)), some (tx fr), some (tx (acc ++ [c])), some (.int (p.length + 1)), some (.int 1), some (tx [c]), x6, x7] else .rt .none := by
  have h1 := atI_mid p c r
  unfold b__law_due_4 t__law_due_3 t__law_due_2 t__law_due_1
  cases e : pln c <;> by_cases e2 : c ∈ fr <;> simp (disch := omega) [if_pos, h1, h, lplain_ok c hc, e, e2]
theorem due_loop (fr : List Nat) : ∀ (n : Nat) (r p acc : List Nat) (x4 x5 x6 x7 : Option D), r.length < n → (∀ c ∈ r, c < 128) → p.length + r.length ≤ 100000 → acc.length + r.length ≤ 100000 →
    runK (oSeq (whileL wcond b__law_due_4 n [some (tx (p ++ r)), some (tx fr), some (tx acc), some (.int p.length), x4, x5, x6, x7]) (sRet (eVar 2))) = .ok (oD ((und fr r).map (acc ++ ·)))
  | 0, r, p, acc, x4, x5, x6, x7, h, _, _, _ => absurd h (by omega)
  | n + 1, [], p, acc, x4, x5, x6, x7, _, _, hp, _ => by
    have hw : wcond [some (tx (p ++ [])), some (tx fr), some (tx acc), some (.int p.length), x4, x5, x6, x7] = .ok false := by
      unfold wcond
      simp at hp
      simp (disch := omega) [if_pos]
    rw [whileL_f hw]
    simp [und, oD]
  | n + 1, c :: r, p, acc, x4, x5, x6, x7, h, hc, hp, ha => by
    simp only [List.length_cons] at h hp ha
    have hw : wcond [some (tx (p ++ c :: r)), some (tx fr), some (tx acc), some (.int p.length), x4, x5, x6, x7] = .ok true := by
      unfold wcond
      simp (disch := omega) [if_pos]
      omega
    rw [whileL_t hw]
    have hc0 := hc c List.mem_cons_self
    by_cases e : c = 126
    · subst e
      rw [due_pair x4 x5 x6 x7 (fun z hz => hc z (List.mem_cons_of_mem _ hz)) (by omega) (by omega) (by omega)]
      match r, h, hc, hp, ha with
      | [], h, hc, hp, ha =>
        rw [List.find?_eq_none.mpr fun s _ => by rw [pr2_short (by simp)]; simp]
        simp [und, oD]
      | [a], h, hc, hp, ha =>
        rw [List.find?_eq_none.mpr fun s _ => by rw [pr2_short (by simp)]; simp]
        simp [und, oD]
      | a :: b :: r, h, hc, hp, ha =>
        simp only [List.length_cons] at h hp ha
        have ef : T.find? (pr2 ((a :: b :: r).take 2)) = sgn a b := by
          unfold sgn
          congr 1
          funext s
          exact pr2_hit a b s
        rw [und_pair, ef]
        cases es : sgn a b with
        | none => simp [oD]
        | some s =>
          have ih := due_loop fr n r (p ++ [126, a, b]) (acc ++ [s]) (some (.int 3)) (some (tx [s])) (some (.list ((T.filter (pr2 ((a :: b :: r).take 2))).map fun c => tx [c]))) x7 (by omega) (fun z hz => hc z (by simp [hz])) (by simp; omega) (by simp; omega)
          have e1 : p ++ [126, a, b] ++ r = p ++ 126 :: a :: b :: r := by simp
          have e2 : (((p ++ [126, a, b]).length : Nat) : Int) = (p.length : Int) + 3 := by simp
          rw [e1, e2] at ih
          simp only [oLoop_nx]
          rw [ih, Option.map_map]
          congr 2
          cases und fr r <;> simp
    · rw [due_sign x4 x5 x6 x7 hc0 e (by omega) (by omega) (by omega)]
      rw [und_sign fr e]
      by_cases e2 : pln c = true ∨ c ∈ fr
      · rw [if_pos e2, if_pos e2]
        have ih := due_loop fr n r (p ++ [c]) (acc ++ [c]) (some (.int 1)) (some (tx [c])) x6 x7 (by omega) (fun z hz => hc z (by simp [hz])) (by simp; omega) (by simp; omega)
        have e1 : p ++ [c] ++ r = p ++ c :: r := by simp
        have e3 : (((p ++ [c]).length : Nat) : Int) = (p.length : Int) + 1 := by simp
        rw [e1, e3] at ih
        simp only [oLoop_nx]
        rw [ih, Option.map_map]
        congr 2
        cases und fr r <;> simp
      · rw [if_neg e2, if_neg e2]
        simp [oD]
theorem ldue_ok (l fr : List Nat) (h : ∀ c ∈ l, c < 128) (hl : l.length ≤ 10000) : g__law_due [tx l, tx fr] = .ok (oD (und fr l)) := by
  have := due_loop fr fuelW l [] [] none none none none (by unfold fuelW; omega) h (by simp; omega) (by simp; omega)
  have e : (und fr l).map (([] : List Nat) ++ ·) = und fr l := by cases und fr l <;> simp
  rw [e] at this
  unfold g__law_due f__law_due
  rw [runF_eq]
  simp
  exact this
end Wp

set_option Elab.async false
set_option linter.all false
set_option maxRecDepth 100000
set_option maxHeartbeats 4000000
namespace Wp
open PySem PySem.Spec PyProof.Rows L2 Wm
theorem sgn_back {c : Nat} (h : c ∈ T) : sgn (dg (c / 16)) (dg (c % 16)) = some c := by
  obtain ⟨k1, k2, _, _, k5, k6, _⟩ := back_all c h
  have e := signF_sgn _ _ k5 k6
  rw [k1, k2, signF_back h] at e
  cases hs : sgn (dg (c / 16)) (dg (c % 16)) with
  | none => rw [hs] at e; cases e
  | some s =>
    rw [hs] at e
    have : tx [c] = tx [s] := e
    simp at this
    rw [this]
theorem und_enc (fr : List Nat) {c : Nat} (h : c ∈ T) (r : List Nat) : und fr (enc c ++ r) = (und fr r).map (c :: ·) := by
  unfold enc
  cases e : pln c with
  | true =>
    have : c ≠ 126 := by
      intro z; subst z; revert e; decide
    rw [if_pos rfl]
    show und fr (c :: r) = _
    rw [und_sign fr this, if_pos (.inl e)]
  | false =>
    rw [if_neg (by simp)]
    show und fr (126 :: _ :: _ :: r) = _
    rw [und_pair, sgn_back h]
theorem und_wr_app (fr : List Nat) : ∀ (l : List Nat), (∀ c ∈ l, c ∈ T) → ∀ r, und fr (wr l ++ r) = (und fr r).map (l ++ ·)
  | [], _, r => by simp [wr]
  | c :: l, h, r => by
    rw [wr_cons, List.append_assoc, und_enc fr (h c List.mem_cons_self), und_wr_app fr l (fun z hz => h z (List.mem_cons_of_mem _ hz)), Option.map_map]
    rfl
theorem und_nil (fr : List Nat) : und fr [] = some [] := by simp [und]
theorem und_wr (fr l : List Nat) (h : ∀ c ∈ l, c ∈ T) : und fr (wr l) = some l := by
  have := und_wr_app fr l h []
  rw [List.append_nil, und_nil] at this
  simpa using this
theorem enc_T : ∀ c ∈ T, ∀ x ∈ enc c, x ∈ T := by decide
theorem wr_T {l : List Nat} (h : ∀ c ∈ l, c ∈ T) : ∀ x ∈ wr l, x ∈ T := fun x hx => by
  obtain ⟨c, hc, hx⟩ := List.mem_flatMap.mp hx
  exact enc_T c (h c hc) x hx
theorem in128 {l : List Nat} (h : ∀ c ∈ l, c ∈ T) : ∀ x ∈ l, x < 128 := fun x hx => T128 x (h x hx)
/-- a sign by a cell -/
def sg (c : Int) : Nat := (atI T (c.fmod 94)).getD 0
theorem sg_ok (c : Int) : atI T (c.fmod 94) = some (sg c) ∧ sg c ∈ T := by
  obtain ⟨i0, i1⟩ := fmod_range c (b := 94) (by decide)
  obtain ⟨s, es, hs, _⟩ := atI_mem (l := T) i0 (by rw [lT]; exact i1)
  unfold sg
  rw [es]
  exact ⟨rfl, hs⟩
end Wp

set_option Elab.async false
set_option linter.all false
set_option maxRecDepth 100000
set_option maxHeartbeats 4000000
namespace Wp
open PySem PySem.Spec PyProof.Rows L2 Wm
def f_plain : En → Out :=
  (sSeq (sUnp (gTp 6 (gsCons (gNm 1) (gsCons (gNm 2) (gsCons (gNm 3) (gsCons (gNm 4) (gsCons (gNm 5) (gsCons (gNm 6) gsNil))))))) (eVar 0))
    (sSeq (sIf (tB (e2 isntD (eVar 2) (eC .none)))
      (sSet 2 (eM0 lowerD (eVar 2)))
      sNx)
    (sRet (eTup (aCons (eM0 lowerD (eVar 1)) (aCons (eVar 2) (aCons (eVar 3) (aCons (eCall 1 g_gone (aCons (eVar 4) aNil)) (aCons (eVar 5) (aCons (eVar 6) aNil))))))))))
def g_plain : List D → Rs D := runF 7 f_plain
def b__law_small_1 : En → Out :=
  (sSeq (sIf (tB (e2 inD (eVar 3) (eVar 1)))
      (sSet 3 (e2 ixD (eC (tx [97, 98, 99, 100, 101, 102, 103, 104, 105, 106, 107, 108, 109, 110, 111, 112, 113, 114, 115, 116, 117, 118, 119, 120, 121, 122])) (eM1 findD (eVar 1) (eVar 3))))
      sNx)
    (sSet 2 (e2 addD (eVar 2) (eVar 3))))
def f__law_small : En → Out :=
  (sSeq (sSet 1 (eC (tx [65, 66, 67, 68, 69, 70, 71, 72, 73, 74, 75, 76, 77, 78, 79, 80, 81, 82, 83, 84, 85, 86, 87, 88, 89, 90])))
    (sSeq (sSet 2 (eC (tx [])))
    (sSeq (sFor (eIt iSeq (eVar 0)) (gNm 3)
      b__law_small_1)
    (sRet (eVar 2)))))
def g__law_small : List D → Rs D := runF 4 f__law_small
def f_a_law_plain : En → Out :=
  (sSeq (sSet 1 (e2 ixD (eVar 0) (eC (.int 1))))
    (sSeq (sIf (tB (e2 isntD (eVar 1) (eC .none)))
      (sSet 1 (eCall 1 g__law_small (aCons (eVar 1) aNil)))
      sNx)
    (sRet (e2 addD (eTup (aCons (eCall 1 g__law_small (aCons (e2 ixD (eVar 0) (eC (.int 0))) aNil)) (aCons (eVar 1) (aCons (e2 ixD (eVar 0) (eC (.int 2))) (aCons (eCall 1 g__law_gone (aCons (e2 ixD (eVar 0) (eC (.int 3))) aNil)) aNil))))) (eSl (eVar 0) (oSo (eC (.int 4))) oNo)))))
def g_a_law_plain : List D → Rs D := runF 2 f_a_law_plain
end Wp

set_option Elab.async false
set_option linter.all false
set_option maxRecDepth 100000
set_option maxHeartbeats 4000000
namespace Wp
open PySem PySem.Spec PyProof.Rows L2 Wm
def b_shared_1 : En → Out :=
  (sAug 2 addI (eC (.int 1)))
def f_shared : En → Out :=
  (sSeq (sSet 2 (eC (.int 0)))
    (sSeq (sWhile (tAn (tB (e2 ltD (eVar 2) (eBlt minD (aCons (eBlt lenD (aCons (eVar 0) aNil)) (aCons (eBlt lenD (aCons (eVar 1) aNil)) aNil))))) (tB (e2 eqD (e2 ixD (eVar 0) (eVar 2)) (e2 ixD (eVar 1) (eVar 2)))))
      b_shared_1)
    (sRet (eVar 2))))
def g_shared : List D → Rs D := runF 3 f_shared
def t_way_between_1 : En → Out :=
  (sSeq (sIf (tB (e2 eqD (eVar 5) (eTup aNil)))
      (sSet 5 (eTup (aCons (eC (tx [46])) aNil)))
      sNx)
    (sRet (eTup (aCons (eC (.bool false)) (aCons (eVar 5) (aCons (e2 ixD (eVar 1) (eC (.int 2))) aNil))))))
def t_way_between_2 : En → Out :=
  (sSeq (sIf (tNo (tB (e2 ixD (eVar 1) (eC (.int 2)))))
      (sAug 5 addI (eSl (e2 ixD (eVar 1) (eC (.int 1))) (oSo (eNeg (eC (.int 1)))) oNo))
      sNx)
    t_way_between_1)
def t_way_between_3 : En → Out :=
  (sSeq (sSet 5 (e2 addD (e2 mulD (eTup (aCons (eC (tx [46, 46])) aNil)) (e2 subD (eBlt lenD (aCons (eVar 2) aNil)) (eVar 4))) (eSl (eVar 3) (oSo (eVar 4)) oNo)))
    t_way_between_2)
def t_way_between_4 : En → Out :=
  (sSeq (sSet 4 (eCall 2 g_shared (aCons (eVar 2) (aCons (eVar 3) aNil))))
    t_way_between_3)
def t_way_between_5 : En → Out :=
  (sSeq (sSet 3 (eCall 1 g_holder (aCons (eVar 1) aNil)))
    t_way_between_4)
def f_way_between : En → Out :=
  (sSeq (sSet 2 (eCall 1 g_holder (aCons (eVar 0) aNil)))
    t_way_between_5)
def g_way_between : List D → Rs D := runF 6 f_way_between
def t_relative_1 : En → Out :=
  (sSeq (sIf (tB (e2 eqD (eVar 4) (e2 ixD (eVar 0) (eC (.int 4)))))
      (sSet 4 (eC .none))
      sNx)
    (sRet (eTup (aCons (eC (tx [])) (aCons (eC .none) (aCons (eC .none) (aCons (eTup (aCons (eC (.bool false)) (aCons (eTup aNil) (aCons (eC (.bool false)) aNil)))) (aCons (eVar 4) (aCons (e2 ixD (eVar 1) (eC (.int 5))) aNil)))))))))
def t_relative_2 : En → Out :=
  (sSeq (sIf (tOr' (tB (e2 neD (eVar 2) (eVar 3))) (tAn (tB (e2 isD (eVar 4) (eC .none))) (tB (e2 isntD (e2 ixD (eVar 0) (eC (.int 4))) (eC .none)))))
      (sRet (eTup (aCons (eC (tx [])) (aCons (eC .none) (aCons (eC .none) (aCons (eCall 2 g_way_between (aCons (eVar 2) (aCons (eVar 3) aNil))) (aCons (eVar 4) (aCons (e2 ixD (eVar 1) (eC (.int 5))) aNil))))))))
      sNx)
    t_relative_1)
def t_relative_3 : En → Out :=
  (sSeq (sSet 4 (e2 ixD (eVar 1) (eC (.int 4))))
    t_relative_2)
def t_relative_4 : En → Out :=
  (sSeq (sIf (tB (e2 neD (eSl (eVar 0) (oSo (eC (.int 1))) (oSo (eC (.int 3)))) (eSl (eVar 1) (oSo (eC (.int 1))) (oSo (eC (.int 3))))))
      (sRet (e2 addD (e2 addD (e2 addD (eTup (aCons (eC (tx [])) aNil)) (eSl (eVar 1) (oSo (eC (.int 1))) (oSo (eC (.int 3))))) (eTup (aCons (eVar 3) aNil))) (eSl (eVar 1) (oSo (eC (.int 4))) oNo)))
      sNx)
    t_relative_3)
def t_relative_5 : En → Out :=
  (sSeq (sIf (tOr' (tB (e2 neD (e2 ixD (eVar 0) (eC (.int 0))) (e2 ixD (eVar 1) (eC (.int 0))))) (tAn (tB (e2 isntD (e2 ixD (eVar 0) (eC (.int 1))) (eC .none))) (tB (e2 isD (e2 ixD (eVar 1) (eC (.int 1))) (eC .none)))))
      (sRet (e2 addD (e2 addD (eSl (eVar 1) oNo (oSo (eC (.int 3)))) (eTup (aCons (eVar 3) aNil))) (eSl (eVar 1) (oSo (eC (.int 4))) oNo)))
      sNx)
    t_relative_4)
def t_relative_6 : En → Out :=
  (sSeq (sSet 3 (eCall 1 g_gone (aCons (e2 ixD (eVar 1) (eC (.int 3))) aNil)))
    t_relative_5)
def t_relative_7 : En → Out :=
  (sSeq (sSet 2 (eCall 1 g_gone (aCons (e2 ixD (eVar 0) (eC (.int 3))) aNil)))
    t_relative_6)
def f_relative : En → Out :=
  (sSeq (sIf (tOr' (tNo (tB (eCall 1 g_is_whole (aCons (eVar 0) aNil)))) (tNo (tB (eCall 1 g_is_whole (aCons (eVar 1) aNil)))))
      sBad
      sNx)
    t_relative_7)
def g_relative : List D → Rs D := runF 5 f_relative
def t__law_pair_1 : En → Out :=
  (sSeq (sIf (tB (e2 eqD (e2 modD (e2 fdivD (eVar 3) (eC (.int 256))) (eC (.int 4))) (eC (.int 1))))
      (sSet 2 (e2 addD (eSl (eVar 2) oNo (oSo (eC (.int 4)))) (eTup (aCons (eC .none) (aCons (e2 ixD (eVar 2) (eC (.int 5))) aNil)))))
      sNx)
    (sRet (eTup (aCons (eVar 1) (aCons (eVar 2) aNil)))))
def t__law_pair_2 : En → Out :=
  (sSeq (sIf (tB (e2 eqD (e2 modD (e2 fdivD (eVar 3) (eC (.int 64))) (eC (.int 4))) (eC (.int 1))))
      (sSet 2 (e2 addD (eSl (eVar 2) oNo (oSo (eC (.int 4)))) (eTup (aCons (e2 ixD (eVar 1) (eC (.int 4))) (aCons (e2 ixD (eVar 2) (eC (.int 5))) aNil)))))
      sNx)
    t__law_pair_1)
def t__law_pair_3 : En → Out :=
  (sSeq (sIf (tB (e2 eqD (e2 modD (e2 fdivD (eVar 3) (eC (.int 8))) (eC (.int 3))) (eC (.int 2))))
      (sSet 2 (e2 addD (e2 addD (eSl (eVar 2) oNo (oSo (eC (.int 3)))) (eTup (aCons (e2 ixD (eVar 1) (eC (.int 3))) aNil))) (eSl (eVar 2) (oSo (eC (.int 4))) oNo)))
      sNx)
    t__law_pair_2)
def t__law_pair_4 : En → Out :=
  (sSeq (sIf (tB (e2 eqD (e2 modD (e2 fdivD (eVar 3) (eC (.int 8))) (eC (.int 3))) (eC (.int 1))))
      (sSeq (sSet 4 (e2 modD (e2 fdivD (eVar 3) (eC (.int 24))) (e2 addD (eBlt lenD (aCons (e2 ixD (e2 ixD (eVar 1) (eC (.int 3))) (eC (.int 1))) aNil)) (eC (.int 1)))))
    (sSeq (sSet 5 (e2 addD (eSl (e2 ixD (e2 ixD (eVar 1) (eC (.int 3))) (eC (.int 1))) oNo (oSo (eVar 4))) (e2 ixD (e2 ixD (eVar 2) (eC (.int 3))) (eC (.int 1)))))
    (sSet 2 (e2 addD (e2 addD (eSl (eVar 2) oNo (oSo (eC (.int 3)))) (eTup (aCons (eTup (aCons (eC (.bool true)) (aCons (eVar 5) (aCons (eOr (e2 ixD (e2 ixD (eVar 2) (eC (.int 3))) (eC (.int 2))) (e2 eqD (eVar 5) (eTup aNil))) aNil)))) aNil))) (eSl (eVar 2) (oSo (eC (.int 4))) oNo)))))
      sNx)
    t__law_pair_3)
def t__law_pair_5 : En → Out :=
  (sSeq (sIf (tB (e2 ltD (e2 modD (eVar 3) (eC (.int 8))) (eC (.int 5))))
      (sSet 2 (e2 addD (eSl (eVar 1) oNo (oSo (eC (.int 3)))) (eSl (eVar 2) (oSo (eC (.int 3))) oNo)))
      sNx)
    t__law_pair_4)
def t__law_pair_6 : En → Out :=
  (sSeq (sSet 3 (eCall 2 g__law_cell_at (aCons (eVar 0) (aCons (eC (.int 8)) aNil))))
    t__law_pair_5)
def t__law_pair_7 : En → Out :=
  (sSeq (sSet 2 (eCall 4 g__law_address (aCons (eVar 0) (aCons (eC (.int 4)) (aCons (eC (.bool true)) (aCons (eSt 2 (eVar 0) (oSo (eC (.int 10))) (oSo (eC (.int 69)))) aNil))))))
    t__law_pair_6)
def f__law_pair : En → Out :=
  (sSeq (sSet 1 (eCall 4 g__law_address (aCons (eVar 0) (aCons (eC (.int 0)) (aCons (eC (.bool true)) (aCons (eSt 2 (eVar 0) (oSo (eC (.int 9))) (oSo (eC (.int 69)))) aNil))))))
    t__law_pair_7)
def g__law_pair : List D → Rs D := runF 6 f__law_pair
def f__law_longer : En → Out :=
  (sSeq (sUnp (gTp 3 (gsCons (gNm 1) (gsCons (gNm 2) (gsCons (gNm 3) gsNil)))) (e2 ixD (eVar 0) (eC (.int 3))))
    (sSeq (sSet 2 (eSl (e2 mulD (eBlt tupD (aCons (eLc (eIt iSeq (eVar 2)) [4] (gNm 4) cYes (eSl (eVar 4) oNo (oSo (eC (.int 5))))) aNil)) (eC (.int 8))) oNo (oSo (eC (.int 180)))))
    (sRet (e2 addD (e2 addD (eSl (eVar 0) oNo (oSo (eC (.int 3)))) (eTup (aCons (eTup (aCons (eVar 1) (aCons (eVar 2) (aCons (eVar 3) aNil)))) aNil))) (eSl (eVar 0) (oSo (eC (.int 4))) oNo)))))
def g__law_longer : List D → Rs D := runF 5 f__law_longer
def t__law_near_1 : En → Out :=
  (sSeq (sIf (tB (e2 eqD (eVar 2) (eC (.int 4))))
      (sRet (e2 addD (e2 addD (eSl (eVar 0) oNo (oSo (eC (.int 1)))) (eTup (aCons (eC .none) (aCons (eC .none) aNil)))) (eSl (eVar 0) (oSo (eC (.int 3))) oNo)))
      sNx)
    (sRet (eVar 1)))
def t__law_near_2 : En → Out :=
  (sSeq (sIf (tAn (tB (e2 eqD (eVar 2) (eC (.int 3)))) (tB (e2 isntD (e2 ixD (eVar 0) (eC (.int 1))) (eC .none))))
      (sRet (e2 addD (e2 addD (eSl (eVar 0) oNo (oSo (eC (.int 2)))) (eTup (aCons (e2 ixD (eLst (aCons (eC (.int 0)) (aCons (eC .none) aNil))) (eBlt intD (aCons (e2 eqD (e2 ixD (eVar 0) (eC (.int 2))) (eC (.int 0))) aNil))) aNil))) (eSl (eVar 0) (oSo (eC (.int 3))) oNo)))
      sNx)
    t__law_near_1)
def t__law_near_3 : En → Out :=
  (sSeq (sIf (tAn (tB (e2 eqD (eVar 2) (eC (.int 2)))) (tB (e2 isntD (e2 ixD (eVar 0) (eC (.int 1))) (eC .none))))
      (sRet (e2 addD (e2 addD (eSl (eVar 0) oNo (oSo (eC (.int 1)))) (eTup (aCons (e2 addD (e2 ixD (eVar 0) (eC (.int 1))) (eC (tx [104]))) aNil))) (eSl (eVar 0) (oSo (eC (.int 2))) oNo)))
      sNx)
    t__law_near_2)
def f__law_near : En → Out :=
  (sSeq (sIf (tB (e2 eqD (eVar 2) (eC (.int 1))))
      (sRet (e2 addD (eSl (eVar 1) oNo (oSo (eC (.int 1)))) (eSl (eVar 0) (oSo (eC (.int 1))) oNo)))
      sNx)
    t__law_near_3)
def g__law_near : List D → Rs D := runF 3 f__law_near
end Wp

set_option Elab.async false
set_option linter.all false
set_option maxRecDepth 100000
/-! WmEq2: in, among texts. -/
namespace Wm
open PySem PySem.Spec PyProof.Rows L2
theorem str_beq (a s : List Nat) : ((⟨a.toArray⟩ : Str) == ⟨s.toArray⟩) = decide (s = a) := by
  rw [Bool.eq_iff_iff]
  simp
  exact eq_comm
theorem eqF_tx (a s : List Nat) : eqF (tx a) (tx s) = decide (s = a) := str_beq a s
theorem any_txs (s : List Nat) : ∀ L : List (List Nat), ((L.map tx).any fun e => eqF e (tx s)) = decide (s ∈ L)
  | [] => rfl
  | a :: L => by
    rw [List.map_cons, List.any_cons, eqF_tx, any_txs s L]
    rw [Bool.eq_iff_iff]; simp
theorem flat_txs : ∀ L : List (List Nat), (L.map tx).all flatD = true
  | [] => rfl
  | a :: L => by rw [List.map_cons, List.all_cons, flat_txs L]; rfl
theorem inB_t (s : List Nat) (L : List (List Nat)) : inB (tx s) (.tuple (L.map tx)) = some (decide (s ∈ L)) := by
  show (if flatD (tx s) && (L.map tx).all flatD then some ((L.map tx).any fun e => eqF e (tx s)) else none) = _
  rw [flat_txs, any_txs]; rfl
theorem inB_l (s : List Nat) (L : List (List Nat)) : inB (tx s) (.list (L.map tx)) = some (decide (s ∈ L)) := by
  show (if flatD (tx s) && (L.map tx).all flatD then some ((L.map tx).any fun e => eqF e (tx s)) else _) = _
  rw [flat_txs, any_txs]; rfl
theorem inD_txt (s : List Nat) (L : List (List Nat)) {ds : List D} (h : ds = L.map tx := by rfl) : inD (tx s) (.tuple ds) = .ok (.bool (decide (s ∈ L))) := by
  subst h; unfold inD; rw [inB_t]
theorem inD_txl (s : List Nat) (L : List (List Nat)) {ds : List D} (h : ds = L.map tx := by rfl) : inD (tx s) (.list ds) = .ok (.bool (decide (s ∈ L))) := by
  subst h; unfold inD; rw [inB_l]
theorem notInD_txt (s : List Nat) (L : List (List Nat)) {ds : List D} (h : ds = L.map tx := by rfl) : notInD (tx s) (.tuple ds) = .ok (.bool (!decide (s ∈ L))) := by
  subst h; unfold notInD; rw [inB_t]
theorem notInD_txl (s : List Nat) (L : List (List Nat)) {ds : List D} (h : ds = L.map tx := by rfl) : notInD (tx s) (.list ds) = .ok (.bool (!decide (s ∈ L))) := by
  subst h; unfold notInD; rw [inB_l]
/-- literal ones -/
@[simp] theorem inD_t0 (s : List Nat) : inD (tx s) (.tuple []) = .ok (.bool false) := by rw [inD_txt s []]; simp
@[simp] theorem inD_l0 (s : List Nat) : inD (tx s) (.list []) = .ok (.bool false) := by rw [inD_txl s []]; simp
@[simp] theorem inD_t1 (s a : List Nat) : inD (tx s) (.tuple [tx a]) = .ok (.bool (decide (s = a))) := by rw [inD_txt s [a]]; simp
@[simp] theorem inD_t2 (s a b : List Nat) : inD (tx s) (.tuple [tx a, tx b]) = .ok (.bool (decide (s = a ∨ s = b))) := by rw [inD_txt s [a, b]]; simp
@[simp] theorem inD_t3 (s a b c : List Nat) : inD (tx s) (.tuple [tx a, tx b, tx c]) = .ok (.bool (decide (s = a ∨ s = b ∨ s = c))) := by rw [inD_txt s [a, b, c]]; simp
@[simp] theorem inD_t4 (s a b c d : List Nat) : inD (tx s) (.tuple [tx a, tx b, tx c, tx d]) = .ok (.bool (decide (s = a ∨ s = b ∨ s = c ∨ s = d))) := by rw [inD_txt s [a, b, c, d]]; simp
@[simp] theorem inD_txt' (s : List Nat) (L : List (List Nat)) : inD (tx s) (.tuple (L.map tx)) = .ok (.bool (decide (s ∈ L))) := inD_txt s L
@[simp] theorem inD_txl' (s : List Nat) (L : List (List Nat)) : inD (tx s) (.list (L.map tx)) = .ok (.bool (decide (s ∈ L))) := inD_txl s L
@[simp] theorem notInD_txt' (s : List Nat) (L : List (List Nat)) : notInD (tx s) (.tuple (L.map tx)) = .ok (.bool (!decide (s ∈ L))) := notInD_txt s L
@[simp] theorem notInD_txl' (s : List Nat) (L : List (List Nat)) : notInD (tx s) (.list (L.map tx)) = .ok (.bool (!decide (s ∈ L))) := notInD_txl s L
theorem atI_map {α β : Type} (f : α → β) (l : List α) (i : Int) : atI (l.map f) i = (atI l i).map f := by
  unfold atI
  rw [List.length_map]
  cases ixN l.length i with
  | none => rfl
  | some j => simp
/-- a comprehension that only sieves -/
theorem lcL_sieve {i : Nat} {cond : En → Rs Bool} {elt : En → Rs D} {ρ0 : En} {xs : List (List Nat)} (p : List Nat → Bool) (h : ∀ x ∈ xs, cond (ρ0.set i (some (tx x))) = .ok (p x)) (he : ∀ x ∈ xs, elt (ρ0.set i (some (tx x))) = .ok (tx x)) : lcL (gNm i) cond elt ρ0 (xs.map tx) = .ok ((xs.filter p).map tx) :=
  lcL_filter tx p tx fun x hx => ⟨_, rfl, h x hx, fun _ => he x hx⟩
end Wm

set_option Elab.async false
set_option linter.all false
set_option maxRecDepth 100000
/-! WmOps6: x.pop(i), a, b = e, f. -/
namespace Wm
open PySem PySem.Spec PyProof.Rows L2
theorem _root_.Wm.DqAll.erase {K : PySem.W.Frag} {H : Hp} : ∀ {vs : List V} {ds : List D} (i : Nat), DqAll K H vs ds → DqAll K H (vs.eraseIdx i) (ds.eraseIdx i)
  | _, _, _, .nil => .nil
  | _, _, 0, .cons _ r => r
  | _, _, i + 1, .cons a r => .cons a (DqAll.erase i r)
section
variable {X : Cx} {W : WX} {fl : Md} {L own own' : List Nat} {e : Expr} {fe : En → Rs D} {pos pos' apos cpos : Pos} {k : Nat}
/-- x.pop(e) alone -/
def popK (i : Nat) (ρ : En) (ds : List D) : D → Out
  | .int z => (match ixN ds.length z with
    | some j => if ds.length ≤ 16777216 then .nx (ρ.set i (some (.list (ds.eraseIdx j)))) else .bad
    | none => .bad)
  | _ => .bad
def sPopI (i : Nat) (fe : En → Rs D) : En → Out := fun ρ => oL (getL ρ i) fun ds => oBind (fe ρ) ρ (popK i ρ ds)
theorem ss_popI (i : Nat) {x : Str} (h : SE X W own e fe) (ho : (own.contains i && decide (i < 100)) = true := by rfl) (one : oneC own i = true := by rfl) (hN : X.N[i]? = some x := by rfl) (hv : Vis X.env.scope x := by first | exact Or.inl rfl | exact Or.inr (Or.inl rfl) | exact Or.inr (Or.inr rfl))
    (hd : (x == ("__debug__" : Str)) = false := by rfl) (hcd : (x == ("__classdict__" : Str)) = false := by rfl)
    (hbase : attributeBase (.Name x pos') "pop" X.env (eval (.Name x pos') X.env) = eval (.Name x pos') X.env := by rfl)
    (hfew : ((backTo cpos (starEach [e] X.env)).all (fun x => !x.1) && (backToKw cpos (keywordEach [] X.env)).all (fun x => x.1.isSome)
      && decide ([e].length + ([] : List Keyword).length + (if ([] : List Keyword).isEmpty then 0 else 1) < 30)) = true := by rfl)
    (hline : (apos.endLine == cpos.line) = true := by rfl) (hs : starEach [e] X.env = (false, eval e X.env) :: starEach [] X.env := by rfl) (hplain : (backTo cpos (starEach [] X.env)).any (·.1) = false := by rfl)
    (hsw : swapsWith (.Call (.Attribute (.Name x pos') "pop" apos) [e] [] cpos) none pos.line X.env = pure false := by rfl) (hE : okE fl own = true := by rfl) :
    SS X W fl L own (.Expr (.Call (.Attribute (.Name x pos') "pop" apos) [e] [] cpos) pos) (sPopI i fe) own := by
  obtain ⟨t, p, r⟩ := h.ex
  refine ⟨_, ps_expr (pe_bm PySem.F.plainAttrs_list PySem.F.slot_list_pop PySem.F.type_list_pop (r := rPopAt) (fun pins s σ H x xs v us Q I rx rxs h => mt_popAt pins s σ H x xs v us Q I rx rxs h) (pe_var hN hv hd hcd) (pa_cons p pa_nil hs) hbase hfew hline hs hplain) hsw, fun H0 Hd0 ρ σ H Hd R Dn q => ?_⟩
  unfold sPopI oL at q
  cases hg : getL ρ i with
  | none => rw [hg] at q; exact q.elim
  | some ds =>
    rw [hg] at q
    obtain ⟨a, vs, h2, h3, h4, h5⟩ := own_at R ho (getL_some hg)
    refine ⟨.ref a, h2, .inl ⟨rfl, vs, .inl (.inl h3)⟩, ?_⟩
    refine r _ _ _ _ _ _ R _ ?_
    cases he : fe ρ with
    | bad => rw [he] at q; exact q
    | ex c fs => rw [he] at q; exact fun cls a H' Hd' s x => exc_of R q s x hE
    | ok d =>
      rw [he] at q
      simp only [oBind_ok] at q
      intro v H1 Hd1 s1 x
      unfold popK at q
      split at q
      · cases x
        split at q
        · rename_i j hj
          split at q
          · rename_i hl
            rw [← h5.length] at hj hl
            obtain ⟨k1, k2, k3, k4⟩ := ixN_seq hj
            exact ⟨a, vs, _, j, vs[j], rfl, rfl, s1.up _ _ h3, by omega, by omega, k1, List.getElem?_eq_getElem k2, q _ _ _ ((R.step s1).mut (List.contains_iff_mem.mp (Bool.and_eq_true_iff.mp ho).1) (of_decide_eq_true (Bool.and_eq_true_iff.mp ho).2) one (getL_some hg) h2 ((dqAll_mono s1.keep h5).erase j))⟩
          · exact q.elim
        · exact q.elim
      · exact q.elim
end
section
variable (ρ : En) (d : D) (ds : List D)
def oPopI (i : Nat) (o : Option (List D)) (r : Rs D) (ρ : En) : Out := oL o fun ds => oBind r ρ (popK i ρ ds)
@[simp] theorem at_sPopI (i : Nat) (f : En → Rs D) : sPopI i f ρ = oPopI i (getL ρ i) (f ρ) ρ := nrfl rfl
@[simp] theorem oPopI_ok (i : Nat) (z : Int) : oPopI i (some ds) (.ok (.int z)) ρ = match ixN ds.length z with
    | some j => if ds.length ≤ 16777216 then .nx (ρ.set i (some (.list (ds.eraseIdx j)))) else .bad
    | none => .bad := nrfl rfl
@[simp] theorem ixN_s0 (n : Nat) : ixN (n + 1) 0 = some 0 := by unfold ixN; simp
end
/-! ### a, b = e, f -/
section
variable {X : Cx} {W : WX} {fl : Md} {L own : List Nat} {e1 e2 : Expr} {fa : En → Rs (List D)} {pos px py pt pt2 : Pos} {kt k2 : Nat}
def parK (i j : Nat) (ρ : En) : List D → Out
  | [d, e] => .nx ((ρ.set i (some d)).set j (some e))
  | _ => .bad
def oBindL (r : Rs (List D)) (ρ : En) (k : List D → Out) : Out := match r with
  | .ok d => k d
  | .ex c fs => .ex c fs ρ
  | .bad => .bad
def sPar (i j : Nat) (fa : En → Rs (List D)) : En → Out := fun ρ => oBindL (fa ρ) ρ (parK i j ρ)
theorem ss_par (i j : Nat) {x y : Str} (C : X.calm = true) (h : SA X W own [e1, e2] fa) (hN : X.N.Nodup) (hi : X.N[i]? = some x := by rfl) (hj : X.N[j]? = some y := by rfl) (hij : i ≠ j := by decide)
    (hx : X.env.scope.names.lookup x = some .local := by rfl) (hy : X.env.scope.names.lookup y = some .local := by rfl)
    (hw : swappedStores [.Tuple [.Name x px, .Name y py] kt pt] (.Tuple [e1, e2] k2 pt2) X.env = pure (some [x, y]) := by rfl)
    (hs : swapsWithSole [.Tuple [.Name x px, .Name y py] kt pt] (.Tuple [e1, e2] k2 pt2) pos.line X.env = pure false := by rfl) (hk : own.contains (1000 + i) = false := by rfl) (hkj : own.contains (1000 + j) = false := by rfl) (hE : okE fl own = true := by rfl) :
    SS X W fl L own (.Assign [.Tuple [.Name x px, .Name y py] kt pt] (.Tuple [e1, e2] k2 pt2) pos) (sPar i j fa) (drp (drp own i) j) := by
  obtain ⟨t, p, r⟩ := h.ex
  refine ⟨_, ps_par C hN hi hj hij hx hy p hw hs, fun H0 Hd0 ρ σ H Hd R Dn q => ?_⟩
  refine r _ _ _ _ _ _ R _ ?_
  unfold sPar oBindL at q
  cases hf : fa ρ with
  | bad => rw [hf] at q; exact q
  | ex c fs => rw [hf] at q; exact fun cls a H' Hd' s x => exc_of R q s x hE
  | ok ds =>
    rw [hf] at q
    simp only at q
    intro vs H1 Hd1 s1 xs
    unfold parK at q
    split at q
    · cases xs with
      | cons a1 r1 => cases r1 with
        | cons a2 r2 => cases r2 with
          | nil => exact ⟨_, _, rfl, q _ _ _ (((R.step s1).set a1 (ncon hk)).set a2 (fun m => ncon hkj (mem_drp.mp m).1))⟩
    · exact q.elim
end
@[simp] theorem at_sPar (i j : Nat) (f : En → Rs (List D)) (ρ : En) : sPar i j f ρ = oBindL (f ρ) ρ (parK i j ρ) := nrfl rfl
@[simp] theorem oBindL_ok (ds : List D) (ρ : En) (k : List D → Out) : oBindL (.ok ds) ρ k = k ds := nrfl rfl
@[simp] theorem parK_ok (i j : Nat) (ρ : En) (d e : D) : parK i j ρ [d, e] = .nx ((ρ.set i (some d)).set j (some e)) := nrfl rfl
end Wm

set_option Elab.async false
set_option linter.all false
set_option maxRecDepth 100000
/-! WmZip: zip and enumerate over lists and tuples alike. -/
namespace Wm
open PySem PySem.Spec PyProof.Rows L2
/-! ### a source: a tuple (t) or a list -/
def SqB (K : PySem.W.Frag) (t : Bool) (H : Hp) (a : Addr) (xs : List V) : Prop := if t = true then SqT K H a xs else SqL K H a xs
def HasB (t : Bool) (h : Heap) (a : Addr) (us : Array Value) : Prop := if t = true then h.IsTuple a us else h.IsList a us
def ItB (t : Bool) (h : Heap) (i a : Addr) (k : Nat) : Prop := if t = true then h.IsTupleIter i a k else h.IsListIter i a k
section
variable {prog : Program} {w : World} {A : Around}
theorem drawsB (t : Bool) (nh : A.handled = none) (i a : Addr) (ne : a ≠ i) (us : Array Value) : Draws prog w A i [i, a] us.size (fun k v => us[k]? = some v) (fun k h => ItB t h i a k ∧ HasB t h a us) := by
  cases t with
  | true => exact Draws.tuple nh i a ne us
  | false => exact Draws.list nh i a ne us
/-- nothing is left at k -/
theorem drawsE (t : Bool) (nh : A.handled = none) (i a : Addr) (us : Array Value) (k : Nat) (hk : us.size ≤ k) : Draws prog w A i [i, a] k (fun _ _ => True) (fun j h => (ItB t h i a j ∧ HasB t h a us) ∧ j = k) := by
  cases t with
  | true =>
    exact { live := fun _ _ y => let ⟨o, q, _⟩ := y.1.1; ⟨o, q⟩
            frame := fun _ _ _ y f => ⟨⟨Heap.IsTupleIter.at y.1.1 fun o e => f i (by simp) o e, Heap.IsTuple.at y.1.2 fun o e => f a (by simp) o e⟩, y.2⟩
            item := fun j s Q E lt y _ => absurd lt (by rw [y.2]; omega)
            done := fun s Q E y f => wpAny_nextOf_tuple_end nh y.1.1 y.1.2 (by simp; omega) f }
  | false =>
    exact { live := fun _ _ y => let ⟨o, q, _⟩ := y.1.1; ⟨o, q⟩
            frame := fun _ _ _ y f => ⟨⟨Heap.IsListIter.at y.1.1 fun o e => f i (by simp) o e, Heap.IsList.at y.1.2 fun o e => f a (by simp) o e⟩, y.2⟩
            item := fun j s Q E lt y _ => absurd lt (by rw [y.2]; omega)
            done := fun s Q E y f => wpAny_nextOf_list_end nh y.1.1 y.1.2 (by simp; omega) f }
theorem itB_obj {t : Bool} {h : Heap} {i a : Addr} {k : Nat} (y : ItB t h i a k) : ∃ o, h.get? i = some o ∧ ∀ v, o.data ≠ .cell v := by
  cases t <;> obtain ⟨o, e, _, d⟩ := y <;> exact ⟨o, e, fun v q => by rw [d] at q; cases q⟩
theorem itB_at {t : Bool} {h h' : Heap} {i a : Addr} {k : Nat} (y : ItB t h i a k) (f : ∀ o, h.get? i = some o → h'.get? i = some o) : ItB t h' i a k := by
  cases t with
  | true => exact Heap.IsTupleIter.at y f
  | false => exact Heap.IsListIter.at y f
def freshIt (t : Bool) (a : Addr) : Obj := { cls := .type (if t = true then "tuple_iterator" else "list_iterator"), data := .fields #[.ref a, .int 0 0] }
theorem beginsB (t : Bool) (a : Addr) (us : Array Value) : Begins (.ref a) (freshIt t a) (fun h => HasB t h a us) := by
  cases t with
  | true => exact begins_tuple a us
  | false => exact begins_list a us
theorem itB_new {t : Bool} {h : Heap} {i a : Addr} (y : h.get? i = some (freshIt t a)) : ItB t h i a 0 := by
  cases t <;> exact ⟨_, y, rfl, rfl⟩
end
section
variable {X : Cx} {pins : List (Addr × Obj)} {σ : L2.St} {H : Hp} {s : Shared}
theorem srcB (I : Inv X pins σ H s) {t : Bool} {a : Addr} {xs : List V} (h : SqB X.K t H a xs) : ∃ us : List Value, Vals xs us ∧ HasB t s.heap a us.toArray ∧ a < s.heap.objs.size := by
  cases t with
  | true =>
    obtain ⟨us, r, p, _⟩ := I.tuple h
    have p' : s.heap.IsTuple a us.toArray := p
    obtain ⟨o, e, _⟩ := id p'
    exact ⟨us, r, p', Heap.lt_size e⟩
  | false =>
    obtain ⟨us, r, p, _⟩ := I.list h
    exact ⟨us, r, p.isList, p.lt⟩
theorem srcB_inj (I : Inv X pins σ H s) {t : Bool} {a : Addr} {xs ys : List V} (h : SqB X.K t H a xs) (h' : SqB X.K t H a ys) : ys = xs := by
  cases t with
  | true => exact I.tuple_inj h' h
  | false => exact I.list_inj h' h
end
/-! ### zip -/
def ItZ (K : PySem.W.Frag) (t u : Bool) (a b : Addr) : It :=
  ⟨fun i H => ∃ (xs ys : List V), SqB K t H a xs ∧ SqB K u H b ys ∧ i < xs.length ∧ i < ys.length,
   fun i H v H' => ∃ T x y, v = V.ref T ∧ H T = none ∧ H' = upd H T (.tup [x, y]) ∧ (∀ xs, SqB K t H a xs → xs[i]? = some x) ∧ (∀ ys, SqB K u H b ys → ys[i]? = some y),
   fun i H => ∃ xs ys : List V, SqB K t H a xs ∧ SqB K u H b ys ∧ (xs.length ≤ i ∨ ys.length ≤ i)⟩
theorem turn_Z {P : Program} {w : World} {K : PySem.W.Frag} {elts : List Expr} {kk : Nat} {tpos : Pos} (t u : Bool) {a b z TI TO i1 i2 : Addr} (S : ZipSep2 z TI TO i1 i2 [i1, a] [i2, b]) (na : a ≠ i1) (nb : b ≠ i2) :
    Turn P w K (.Tuple elts kk tpos) (ItZ K t u a b) [z, TI, TO, i1, i2] z (fun i h => IsZip h z TI TO .none ∧ IsTupOf2 h TI (.ref i1) (.ref i2) ∧ (∃ x y, IsTupOf2 h TO x y) ∧ ItB t h i1 a i ∧ ItB u h i2 b i) where
  mem := List.mem_cons_self
  obj := fun i h y c hc => by
    obtain ⟨y1, y2, ⟨p, q, y3⟩, y4, y5⟩ := y
    simp only [List.mem_cons, List.not_mem_nil, or_false] at hc
    rcases hc with rfl | rfl | rfl | rfl | rfl
    · exact ⟨_, y1, fun v e => nomatch e⟩
    · exact ⟨_, y2, fun v e => nomatch e⟩
    · exact ⟨_, y3, fun v e => nomatch e⟩
    · exact itB_obj y4
    · exact itB_obj y5
  keep := fun i h h' y f => by
    obtain ⟨y1, y2, ⟨p, q, y3⟩, y4, y5⟩ := y
    exact ⟨f z (by simp) _ y1, f TI (by simp) _ y2, ⟨p, q, f TO (by simp) _ y3⟩, itB_at y4 (f i1 (by simp)), itB_at y5 (f i2 (by simp))⟩
  item := by
    intro X hP hw hK calm i pins s σ H E I fr y g
    subst hP hw hK
    obtain ⟨y1, y2, ⟨p, q, y3⟩, y4, y5⟩ := y
    obtain ⟨xs, ys, sx, sy, lx, ly⟩ := g
    obtain ⟨us, rx, px, _⟩ := srcB I sx
    obtain ⟨vs, ry, py, _⟩ := srcB I sy
    have ex : xs[i]? = some xs[i] := List.getElem?_eq_getElem lx
    have ey : ys[i]? = some ys[i] := List.getElem?_eq_getElem ly
    obtain ⟨ux, gx, mx⟩ := rx.get ex
    obtain ⟨uy, gy, my⟩ := ry.get ey
    have nh : X.A.in1.handled = none := I.ok.hd calm
    have zlt : z < s.heap.objs.size := Heap.lt_size y1
    refine wpAny_pyNext_zipD2_item S (drawsB t nh i1 a na us.toArray) (drawsB u nh i2 b nb vs.toArray) y1 y2 y3 ⟨y4, px⟩ ⟨y5, py⟩ (by simp; exact Nat.lt_of_lt_of_eq lx rx.length) (by simp; exact Nat.lt_of_lt_of_eq ly ry.length) fun x1 x2 h1 tk k1 k2 z1 o1 d1 d2 n1 _ f1 => ?_
    have e1 : x1 = ux := by have k : us[i]? = some x1 := by simpa using k1
                            rw [gx] at k; exact (Option.some.inj k).symm
    have e2 : x2 = uy := by have k : vs[i]? = some x2 := by simpa using k2
                            rw [gy] at k; exact (Option.some.inj k).symm
    subst e1 e2
    refine ⟨_, rfl, wpAny_letOwnedTupleGo_zip (s := { s with heap := h1, toks := tk }) z1 fun h2 z2 same => ?_⟩
    have n2 : h2.get? s.heap.objs.size = some { cls := .type "tuple", data := .seq #[x1, x2] } := (same.2 _ (Nat.ne_of_gt zlt)).trans n1
    have J : Inv X pins σ (upd H s.heap.objs.size (.tup [xs[i], ys[i]])) { s with heap := h2, toks := tk } :=
      I.turnedNew (t' := tk) (ch := [z, TI, TO, i1, i2]) (fun c o out e => by
        simp only [List.mem_cons, List.not_mem_nil, or_false, not_or] at out
        exact (same.2 c out.1).trans (f1 c o out.1 out.2.2.1 out.2.2.2.1 out.2.2.2.2 e)) fr (Nat.le_refl _) ⟨by show 2 ≤ sizeLine; decide, [x1, x2], .cons mx (.cons my .nil), ⟨_, n2, rfl, _, rfl⟩⟩
    have apart : ∀ {c : Addr}, c ≠ z → h2.get? c = h1.get? c := fun {c} ne => same.2 c ne
    refine ⟨.ref s.heap.objs.size, _, J, rfl, ⟨_, _, _, rfl, I.hok.fresh (Nat.le_refl _), rfl, fun l hl => by rw [srcB_inj I sx hl]; exact ex, fun l hl => by rw [srcB_inj I sy hl]; exact ey⟩, ⟨z2, (apart S.TIz).trans (f1 _ _ S.TIz S.TITO S.TIi1 S.TIi2 y2), ⟨x1, x2, (apart S.TOz).trans o1⟩, itB_at d1.1 fun o e => (apart (Ne.symm S.zi1)).trans e, itB_at d2.1 fun o e => (apart (Ne.symm S.zi2)).trans e⟩, fun c hc => ?_⟩
    have lt : c < s.heap.objs.size := by
      simp only [List.mem_cons, List.not_mem_nil, or_false] at hc
      rcases hc with rfl | rfl | rfl | rfl | rfl
      · exact zlt
      · exact Heap.lt_size y2
      · exact Heap.lt_size y3
      · obtain ⟨_, e, _⟩ := itB_obj y4; exact Heap.lt_size e
      · obtain ⟨_, e, _⟩ := itB_obj y5; exact Heap.lt_size e
    rw [upd_ne (Nat.ne_of_lt lt)]
    exact (fr c hc).1
  done := by
    intro X hP hw hK calm i pins s σ H E I fr y g
    subst hP hw hK
    obtain ⟨y1, y2, ⟨p, q, y3⟩, y4, y5⟩ := y
    obtain ⟨xs, ys, sx, sy, stop⟩ := g
    obtain ⟨us, rx, px, _⟩ := srcB I sx
    obtain ⟨vs, ry, py, _⟩ := srcB I sy
    have nh : X.A.in1.handled = none := I.ok.hd calm
    have lx := rx.length
    have ly := ry.length
    have fin : ∀ h' tk, (∀ c o, c ≠ z → c ≠ TO → c ≠ i1 → c ≠ i2 → s.heap.get? c = some o → h'.get? c = some o) → (none : Option Value) = none ∧ Inv X pins σ H { s with heap := h', toks := tk } := fun h' tk f =>
      ⟨rfl, I.turnedL (t' := tk) (ch := [z, TI, TO, i1, i2]) (fun c o out e => by
        simp only [List.mem_cons, List.not_mem_nil, or_false, not_or] at out
        exact f c o out.1 out.2.2.1 out.2.2.2.1 out.2.2.2.2 e) fr⟩
    by_cases c1 : xs.length ≤ i
    · by_cases c2 : ys.length ≤ i
      · exact wpAny_pyNext_zipD2_end S (drawsE t nh i1 a us.toArray i (by simp; omega)) (drawsE u nh i2 b vs.toArray i (by simp; omega)) y1 y2 y3 ⟨⟨y4, px⟩, rfl⟩ ⟨⟨y5, py⟩, rfl⟩ (Nat.le_refl _) (Nat.le_refl _) (.inl rfl) fin
      · exact wpAny_pyNext_zipD2_end S (drawsE t nh i1 a us.toArray i (by simp; omega)) (drawsB u nh i2 b nb vs.toArray) y1 y2 y3 ⟨⟨y4, px⟩, rfl⟩ ⟨y5, py⟩ (Nat.le_refl _) (by simp; omega) (.inl rfl) fin
    · exact wpAny_pyNext_zipD2_end S (drawsB t nh i1 a na us.toArray) (drawsE u nh i2 b vs.toArray i (by simp; omega)) y1 y2 y3 ⟨y4, px⟩ ⟨⟨y5, py⟩, rfl⟩ (by simp; omega) (Nat.le_refl _) (.inr rfl) fin
  self := fun A i s Q E y h => wpAny_pyIter_zip y.1 h
def iZipB (K : PySem.W.Frag) (ta : TA) : TI := fun σ H R => ta σ H fun vs H1 => ∃ t u a b xs ys, vs = [V.ref a, V.ref b] ∧ SqB K t H1 a xs ∧ SqB K u H1 b ys ∧ R (ItZ K t u a b) H1
theorem pi_zipB {X : Cx} {e e2 : Expr} {ta : TA} {p pos tpos : Pos} {elts : List Expr} {kk : Nat} (hg : Gl X "zip") (hm : X.mg "zip" = none) (ha : PA X [e, e2] ta)
    (hs : starEach [e, e2] X.env = (false, eval e X.env) :: starEach [e2] X.env := by rfl) (hpl : (backTo pos (starEach [e2] X.env)).any (·.1) = false := by rfl) :
    PI X (.Tuple elts kk tpos) (.Call (.Name "zip" p) [e, e2] [] pos) (iZipB X.K ta) := by
  refine ⟨fun pins s σ H R I h => Call_ (ld_blt I hg hm boot_zip (callWith_type1 (thn (ha.run pos pins s σ H _ I h) fun ws s1 ⟨vs, H1, I1, rel, t, u, a, b, xs, ys, ev, sx, sy, q⟩ => ?_) hs hpl))⟩
  subst ev
  rcases rel with _ | ⟨r1, _ | ⟨r2, _ | _⟩⟩
  cases r1
  cases r2
  obtain ⟨us, _, px, la⟩ := srcB I1 sx
  obtain ⟨vs, _, py, lb⟩ := srcB I1 sy
  refine zip_begins2 (beginsB t a us.toArray) (beginsB u b vs.toArray) px py fun h' y1 y2 y3 y4 y5 _ f => wpAny_pyIter_zip y1 ?_
  refine ⟨s1.heap.objs.size + 4, [s1.heap.objs.size + 4, s1.heap.objs.size + 2, s1.heap.objs.size + 3, s1.heap.objs.size, s1.heap.objs.size + 1], _, _, H1, rfl, I1.kept (t' := s1.toks) f, turn_Z t u (zip_sep2 (fp1 := [a]) (fp2 := [b]) (by simpa using la) (by simpa using lb)) (Nat.ne_of_lt la) (Nat.ne_of_lt (Nat.lt_succ_of_lt lb)), ⟨y1, y2, ⟨_, _, y3⟩, itB_new y4, itB_new y5⟩, fun c hc => ?_, q⟩
  have le : s1.heap.objs.size ≤ c := by
    simp only [List.mem_cons, List.not_mem_nil, or_false] at hc
    rcases hc with rfl | rfl | rfl | rfl | rfl
    · exact Nat.le_add_right _ 4
    · exact Nat.le_add_right _ 2
    · exact Nat.le_add_right _ 3
    · exact Nat.le_refl _
    · exact Nat.le_add_right _ 1
  exact I1.fpOk le (I1.hok.fresh le)
/-! ### enumerate -/
def ItE (K : PySem.W.Frag) (t : Bool) (a : Addr) : It :=
  ⟨fun i H => ∃ xs : List V, SqB K t H a xs ∧ i < xs.length,
   fun i H v H' => ∃ T x, v = V.ref T ∧ H T = none ∧ H' = upd H T (.tup [.int (i : Nat), x]) ∧ ∀ xs, SqB K t H a xs → xs[i]? = some x,
   fun i H => ∃ xs : List V, SqB K t H a xs ∧ xs.length ≤ i⟩
theorem turn_E {P : Program} {w : World} {K : PySem.W.Frag} {elts : List Expr} {kk : Nat} {tpos : Pos} (t : Bool) {a e i1 : Addr} (n1 : e ≠ i1) (n2 : e ∉ [i1, a]) (na : a ≠ i1) :
    Turn P w K (.Tuple elts kk tpos) (ItE K t a) [e, i1] e (fun i h => (∃ old, IsEnum h e i1 ((i : Nat) : Int) old) ∧ ItB t h i1 a i) where
  mem := List.mem_cons_self
  obj := fun i h y c hc => by
    obtain ⟨⟨old, y1⟩, y2⟩ := y
    simp only [List.mem_cons, List.not_mem_nil, or_false] at hc
    rcases hc with rfl | rfl
    · exact ⟨_, y1, fun v e => nomatch e⟩
    · exact itB_obj y2
  keep := fun i h h' y f => let ⟨⟨old, y1⟩, y2⟩ := y; ⟨⟨old, f e (by simp) _ y1⟩, itB_at y2 (f i1 (by simp))⟩
  item := by
    intro X hP hw hK calm i pins s σ H E I fr y g
    subst hP hw hK
    obtain ⟨⟨old, y1⟩, y2⟩ := y
    obtain ⟨xs, sx, lx⟩ := g
    obtain ⟨us, rx, px, _⟩ := srcB I sx
    have ex : xs[i]? = some xs[i] := List.getElem?_eq_getElem lx
    obtain ⟨ux, gx, mx⟩ := rx.get ex
    have nh : X.A.in1.handled = none := I.ok.hd calm
    have elt : e < s.heap.objs.size := Heap.lt_size y1
    refine wpAny_pyNext_enum_itemD (drawsB t nh i1 a na us.toArray) y1 ⟨y2, px⟩ (by simp; exact Nat.lt_of_lt_of_eq lx rx.length) n1 n2 fun x1 h1 tk k1 o1 d1 new1 _ f1 => ?_
    have e1 : x1 = ux := by have k : us[i]? = some x1 := by simpa using k1
                            rw [gx] at k; exact (Option.some.inj k).symm
    subst e1
    refine ⟨_, rfl, wpAny_letOwnedTupleGo_enum (s := { s with heap := h1, toks := tk + 1 }) o1 fun h2 z2 same => ?_⟩
    have new2 : h2.get? s.heap.objs.size = some { cls := .type "tuple", data := .seq #[.int i tk, x1] } := (same.2 _ (Nat.ne_of_gt elt)).trans new1
    have J : Inv X pins σ (upd H s.heap.objs.size (.tup [.int (i : Nat), xs[i]])) { s with heap := h2, toks := tk + 1 } :=
      I.turnedNew (t' := tk + 1) (ch := [e, i1]) (fun c o out q => by
        simp only [List.mem_cons, List.not_mem_nil, or_false, not_or] at out
        exact (same.2 c out.1).trans (f1 c o out.1 out.2 q)) fr (Nat.le_refl _) ⟨by show 2 ≤ sizeLine; decide, [.int i tk, x1], .cons ⟨_, rfl⟩ (.cons mx .nil), ⟨_, new2, rfl, _, rfl⟩⟩
    refine ⟨.ref s.heap.objs.size, _, J, rfl, ⟨_, _, rfl, I.hok.fresh (Nat.le_refl _), rfl, fun l hl => by rw [srcB_inj I sx hl]; exact ex⟩, ⟨⟨x1, by rw [Int.natCast_add]; exact z2⟩, itB_at d1.1 fun o q => (same.2 _ (Ne.symm n1)).trans q⟩, fun c hc => ?_⟩
    have lt : c < s.heap.objs.size := by
      simp only [List.mem_cons, List.not_mem_nil, or_false] at hc
      rcases hc with rfl | rfl
      · exact elt
      · obtain ⟨_, q, _⟩ := itB_obj y2; exact Heap.lt_size q
    rw [upd_ne (Nat.ne_of_lt lt)]
    exact (fr c hc).1
  done := by
    intro X hP hw hK calm i pins s σ H E I fr y g
    subst hP hw hK
    obtain ⟨⟨old, y1⟩, y2⟩ := y
    obtain ⟨xs, sx, lx⟩ := g
    obtain ⟨us, rx, px, _⟩ := srcB I sx
    have nh : X.A.in1.handled = none := I.ok.hd calm
    have ll := rx.length
    exact wpAny_pyNext_enum_endD (drawsE t nh i1 a us.toArray i (by simp; omega)) y1 ⟨⟨y2, px⟩, rfl⟩ fun h' f =>
      ⟨rfl, I.turnedL (t' := s.toks) (ch := [e, i1]) (fun c o out q => by
        simp only [List.mem_cons, List.not_mem_nil, or_false, not_or] at out
        exact f c o out.2 q) fr⟩
  self := fun A i s Q E y h => let ⟨⟨_, y1⟩, _⟩ := y; wpAny_pyIter_enum y1 h
theorem meets_enumB {v : Value} {o : Obj} {G : Heap → Prop} (B : Begins v o G) :
    Meets (Builtin.«enumerate.__new__» ⟨[.type "enumerate", v], []⟩) (fun _ R s => G s.heap ∧
      R (.ok (.ret (.ref (s.heap.push o).objs.size))) { s with heap := (s.heap.push o).push { cls := .type "enumerate", data := .fields #[.none, .bool false, .ref s.heap.objs.size, rawInt 0, .none, .none] } }) :=
  .of_wp fun prog w A R s y => by
    obtain ⟨hp, gs, dr, tk, os⟩ := s
    obtain ⟨y1, y2⟩ := y
    have hsub := sub_enumerate
    have it : ∀ {A' : Around} {E : Value → Shared → Prop} {Q : Value → Shared → Prop}, Q (.ref hp.objs.size) ⟨hp.push o, gs, dr, tk, os⟩ → wpAny (model prog w) A' (pyIter v) Q E ⟨hp, gs, dr, tk, os⟩ :=
      fun q => B.iter prog w _ _ ⟨hp, gs, dr, tk, os⟩ _ y1 q
    wp_walk using it
    refine wpAny_stack_any fun _ => wpAny_pure ?_
    split
    · next c _ _ _ _ _ =>
      generalize (c == Value.type "enumerate") = k
      cases k <;> (wp_walk using it; exact ⟨_, rfl, y2⟩)
    · wp_walk using it
      exact ⟨_, rfl, y2⟩
def iEnumB (K : PySem.W.Frag) (ta : TA) : TI := fun σ H R => ta σ H fun vs H1 => ∃ t a xs, vs = [V.ref a] ∧ SqB K t H1 a xs ∧ R (ItE K t a) H1
theorem pi_enumB {X : Cx} {e : Expr} {ta : TA} {p pos tpos : Pos} {elts : List Expr} {kk : Nat} (hg : Gl X "enumerate") (hm : X.mg "enumerate" = none) (ha : PA X [e] ta) (hs : starEach [e] X.env = [(false, eval e X.env)] := by rfl) :
    PI X (.Tuple elts kk tpos) (.Call (.Name "enumerate" p) [e] [] pos) (iEnumB X.K ta) := by
  refine ⟨fun pins s σ H R I h => Call_ (ld_blt I hg hm boot_enumerate (callWith_type1 (thn (ha.run pos pins s σ H _ I h) fun ws s1 ⟨vs, H1, I1, rel, t, a, xs, ev, sx, q⟩ => ?_) hs rfl))⟩
  subst ev
  rcases rel with _ | ⟨r1, _ | _⟩
  cases r1
  obtain ⟨us, _, px, la⟩ := srcB I1 sx
  have B := beginsB t a us.toArray
  refine callType_new F.called_enumerate (by decide) (F.typeCall_enumerate_1 _) (F.newCall_enumerate_1 _) (fun obj => F.args_object_init_2 obj _) F.entry_enumerate_new (meets_enumB B) ⟨px, ?_⟩
  have z1 : (s1.heap.push (freshIt t a)).objs.size = s1.heap.objs.size + 1 := Heap.size_push ..
  show _ ∧ _
  rw [z1]
  have y1 : IsEnum ((s1.heap.push (freshIt t a)).push { cls := .type "enumerate", data := .fields #[.none, .bool false, .ref s1.heap.objs.size, rawInt 0, .none, .none] }) (s1.heap.objs.size + 1) s1.heap.objs.size 0 .none := by
    rw [← z1]
    exact Heap.get?_push_size _ rfl
  have y2 : ((s1.heap.push (freshIt t a)).push { cls := .type "enumerate", data := .fields #[.none, .bool false, .ref s1.heap.objs.size, rawInt 0, .none, .none] }).get? s1.heap.objs.size = some (freshIt t a) := Heap.get?_push_of_some _ (Heap.get?_push_size _ B.free)
  refine ⟨⟨_, y1, rfl⟩, wpAny_pyIter_enum y1 ?_⟩
  refine ⟨s1.heap.objs.size + 1, [s1.heap.objs.size + 1, s1.heap.objs.size], _, _, H1, rfl, I1.kept (t' := s1.toks) fun c o e => Heap.get?_push_of_some _ (Heap.get?_push_of_some _ e), turn_E t (a := a) (Nat.succ_ne_self _) ?_ (Nat.ne_of_lt la), ⟨⟨_, y1⟩, itB_new y2⟩, fun c hc => ?_, q⟩
  · simp only [List.mem_cons, List.not_mem_nil, or_false, not_or]
    exact ⟨Nat.succ_ne_self _, Nat.ne_of_gt (Nat.lt_succ_of_lt la)⟩
  · have le : s1.heap.objs.size ≤ c := by
      simp only [List.mem_cons, List.not_mem_nil, or_false] at hc
      rcases hc with rfl | rfl
      · exact Nat.le_add_right _ 1
      · exact Nat.le_refl _
    exact I1.fpOk le (I1.hok.fresh le)
/-! ### the layer's rules -/
def seqOf : D → Option (List D)
  | .list ds => some ds
  | .tuple ds => some ds
  | _ => none
theorem Dq.seqB {K : PySem.W.Frag} {H : Hp} {v : V} {d : D} {ds : List D} (h : Dq K H v d) (e : seqOf d = some ds) : ∃ t a vs, v = V.ref a ∧ SqB K t H a vs ∧ DqAll K H vs ds := by
  cases h with
  | lst h r => cases e; exact ⟨false, _, _, rfl, h, r⟩
  | tup h r => cases e; exact ⟨true, _, _, rfl, h, r⟩
  | _ => cases e
theorem sqB_same {K : PySem.W.Frag} {H H' : Hp} {t : Bool} {a : Addr} {xs : List V} (e : Same H H') (h : SqB K t H a xs) : SqB K t H' a xs := by
  cases t with
  | true => exact sqt_same e h
  | false => exact Same.seq e h
def iEn : D → Rs (List D) := fun d => match seqOf d with
  | some ds => .ok (enumFrom 0 ds)
  | none => .bad
def iZip (d e : D) : Rs (List D) := match seqOf d, seqOf e with
  | some ds, some es => .ok (zipD ds es)
  | _, _ => .bad
def eIt2 (g : D → D → Rs (List D)) (f f2 : En → Rs D) : En → Rs (List D) := fun ρ => f ρ >>= fun d => f2 ρ >>= fun e => g d e
theorem walks_E {K : PySem.W.Frag} {t : Bool} {a : Addr} {vs : List V} {ds : List D} {Hd1 : Hp} (h : SqB K t Hd1 a vs) (r : DqAll K Hd1 vs ds) : Walks K (ItE K t a) (enumFrom 0 ds) Hd1 := fun H Hd u s i => by
  have hH := sqB_same s (sqB_same u h)
  have hl := r.length
  refine ⟨fun d hd => ?_, fun hi => ⟨vs, hH, by rw [enum_len] at hi; omega⟩⟩
  obtain ⟨e', he, rfl⟩ := enum_get hd
  have li := (List.getElem?_eq_some_iff.mp he).1
  refine ⟨⟨vs, hH, by omega⟩, fun x H' y => ?_⟩
  obtain ⟨T, x1, rfl, hT, rfl, e2⟩ := y
  rw [Nat.zero_add]
  exact pair_step s hT (.int _) (dq_mono u (r.get' he (e2 vs hH)))
theorem zip_get {a b : List D} {i : Nat} {d : D} (h : (zipD a b)[i]? = some d) : ∃ x y, a[i]? = some x ∧ b[i]? = some y ∧ d = .tuple [x, y] := by
  unfold zipD at h
  rw [List.getElem?_map] at h
  cases hz : (a.zip b)[i]? with
  | none => rw [hz] at h; cases h
  | some p =>
    rw [hz] at h
    cases h
    obtain ⟨h1, h2⟩ := List.getElem?_zip_eq_some.mp hz
    exact ⟨p.1, p.2, h1, h2, rfl⟩
theorem walks_Z {K : PySem.W.Frag} {t u : Bool} {a b : Addr} {vs ws : List V} {ds es : List D} {Hd1 : Hp} (h : SqB K t Hd1 a vs) (r : DqAll K Hd1 vs ds) (h2 : SqB K u Hd1 b ws) (r2 : DqAll K Hd1 ws es) : Walks K (ItZ K t u a b) (zipD ds es) Hd1 := fun H Hd m s i => by
  have hH := sqB_same s (sqB_same m h)
  have hH2 := sqB_same s (sqB_same m h2)
  have hl := r.length
  have hl2 := r2.length
  refine ⟨fun d hd => ?_, fun hi => ⟨vs, ws, hH, hH2, ?_⟩⟩
  · obtain ⟨x, y, e1, e2, rfl⟩ := zip_get hd
    have l1 := (List.getElem?_eq_some_iff.mp e1).1
    have l2 := (List.getElem?_eq_some_iff.mp e2).1
    refine ⟨⟨vs, ws, hH, hH2, by omega, by omega⟩, fun v H' y => ?_⟩
    obtain ⟨T, x1, y1, rfl, hT, rfl, g1, g2⟩ := y
    exact pair_step s hT (dq_mono m (r.get' e1 (g1 vs hH))) (dq_mono m (r2.get' e2 (g2 ws hH2)))
  · unfold zipD at hi
    rw [List.length_map, List.length_zip] at hi
    omega
section
variable {X : Cx} {W : WX} {own : List Nat} {e e2 : Expr} {f f2 : En → Rs D} {p pos tpos : Pos} {elts : List Expr} {kk : Nat}
theorem si_en (h : SE X W own e f) (hm : X.mg "enumerate" = none) (hg : Gl X "enumerate" := by rfl) (hs : starEach [e] X.env = [(false, eval e X.env)] := by rfl) (hs' : starEach [e] X.env = (false, eval e X.env) :: starEach [] X.env := by rfl) :
    SI X W own (.Tuple elts kk tpos) (.Call (.Name "enumerate" p) [e] [] pos) (eIt iEn f) := by
  obtain ⟨t, pp, r⟩ := h.ex
  refine ⟨_, pi_enumB hg hm (pa_cons pp pa_nil hs') hs, fun H0 Hd0 ρ σ H Hd R Q q => ?_⟩
  refine r _ _ _ _ _ _ R _ ?_
  unfold eIt at q
  cases hf : f ρ with
  | bad => rw [hf] at q; exact q
  | ex c fs => rw [hf] at q; exact q
  | ok d =>
    rw [hf] at q
    intro v H1 Hd1 s1 x
    have q1 : PoI X W σ H1 Hd1 (iEn d) Q := PoI.step q s1
    unfold iEn at q1
    cases hd : seqOf d with
    | none => rw [hd] at q1; exact q1.elim
    | some ds =>
      rw [hd] at q1
      obtain ⟨t, a, vs, rfl, h1, h2⟩ := x.seqB hd
      exact ⟨t, a, vs, rfl, sqB_same s1.sub h1, q1 _ H1 Hd1 (.refl s1.sub) (walks_E h1 h2)⟩
theorem si_zip (h : SE X W own e f) (h2 : SE X W own e2 f2) (hm : X.mg "zip" = none) (hg : Gl X "zip" := by rfl)
    (hs : starEach [e, e2] X.env = (false, eval e X.env) :: starEach [e2] X.env := by rfl) (hpl : (backTo pos (starEach [e2] X.env)).any (·.1) = false := by rfl) (hs' : starEach [e2] X.env = (false, eval e2 X.env) :: starEach [] X.env := by rfl) :
    SI X W own (.Tuple elts kk tpos) (.Call (.Name "zip" p) [e, e2] [] pos) (eIt2 iZip f f2) := by
  obtain ⟨t, pp, r⟩ := h.ex
  obtain ⟨t2, pp2, r2⟩ := h2.ex
  refine ⟨_, pi_zipB hg hm (pa_cons pp (pa_cons pp2 pa_nil hs') hs) hs hpl, fun H0 Hd0 ρ σ H Hd R Q q => ?_⟩
  refine r _ _ _ _ _ _ R _ ?_
  unfold eIt2 at q
  cases hf : f ρ with
  | bad => rw [hf] at q; exact q
  | ex c fs => rw [hf] at q; exact q
  | ok d =>
    rw [hf] at q
    intro v H1 Hd1 s1 x
    have q1 : PoI X W σ H1 Hd1 (f2 ρ >>= fun e => iZip d e) Q := PoI.step q s1
    refine r2 _ _ _ _ _ _ (R.step s1) _ ?_
    cases hf2 : f2 ρ with
    | bad => rw [hf2] at q1; exact q1
    | ex c fs => rw [hf2] at q1; exact q1
    | ok d2 =>
      rw [hf2] at q1
      intro v2 H2 Hd2 s2 x2
      have q2 : PoI X W σ H2 Hd2 (iZip d d2) Q := PoI.step q1 s2
      unfold iZip at q2
      cases hd : seqOf d with
      | none => rw [hd] at q2; exact q2.elim
      | some ds =>
        cases hd2 : seqOf d2 with
        | none => rw [hd, hd2] at q2; exact q2.elim
        | some es =>
          rw [hd, hd2] at q2
          obtain ⟨t, a, vs, rfl, h1, g1⟩ := x.seqB hd
          obtain ⟨u, b, ws, rfl, k1, k2⟩ := x2.seqB hd2
          have h1' := sqB_same s2.keep h1
          exact ⟨t, u, a, b, vs, ws, rfl, sqB_same s2.sub h1', sqB_same s2.sub k1, q2 _ H2 Hd2 (.refl s2.sub) (walks_Z h1' (dqAll_mono s2.keep g1) k1 k2)⟩
end
/-! ### reckoning -/
section
variable (ρ : En) (d : D) (ds es : List D)
def kIt2 (g : D → D → Rs (List D)) (r : Rs D) (f : En → Rs D) (ρ : En) : Rs (List D) := r >>= fun d => f ρ >>= fun e => g d e
@[simp] theorem at_eIt2 (g : D → D → Rs (List D)) (f f2 : En → Rs D) : eIt2 g f f2 ρ = kIt2 g (f ρ) f2 ρ := nrfl rfl
@[simp] theorem kIt2_ok (g : D → D → Rs (List D)) (f : En → Rs D) : kIt2 g (.ok d) f ρ = f ρ >>= g d := nrfl rfl
@[simp] theorem iZip_tt : iZip (.tuple ds) (.tuple es) = .ok (zipD ds es) := nrfl rfl
@[simp] theorem iZip_tl : iZip (.tuple ds) (.list es) = .ok (zipD ds es) := nrfl rfl
@[simp] theorem iZip_ll : iZip (.list ds) (.list es) = .ok (zipD ds es) := nrfl rfl
@[simp] theorem iEn_t : iEn (.tuple ds) = .ok (enumFrom 0 ds) := nrfl rfl
@[simp] theorem iEn_l : iEn (.list ds) = .ok (enumFrom 0 ds) := nrfl rfl
@[simp] theorem zipD_cons (a b : D) : zipD (a :: ds) (b :: es) = .tuple [a, b] :: zipD ds es := nrfl rfl
@[simp] theorem zipD_nil_l : zipD [] es = [] := nrfl rfl
@[simp] theorem zipD_nil_r : zipD ds [] = [] := by unfold zipD; cases ds <;> rfl
theorem enumFrom_cons (i : Nat) : enumFrom i (d :: ds) = .tuple [.int i, d] :: enumFrom (i + 1) ds := nrfl rfl
end
end Wm

set_option Elab.async false
set_option linter.all false
set_option maxRecDepth 100000
set_option maxHeartbeats 4000000
namespace Wp
open PySem PySem.Spec PyProof.Rows L2 Wm
def k_OTHERS : D := (tx [32, 33, 34, 35, 36, 38, 39, 40, 41, 42, 43, 44, 47, 58, 59, 60, 61, 62, 63, 64, 91, 92, 93, 94, 96, 123, 124, 125, 126])
def f_is_text : En → Out :=
  (sRet (eAn (eIsi "str" (eVar 0)) (eBlt allD (aCons (eLc (eIt iSeq (eVar 0)) [1] (gNm 1) cYes (e2 inD (eVar 1) (e2 addD (eC k_PLAIN) (eC k_OTHERS)))) aNil))))
def g_is_text : List D → Rs D := runF 2 f_is_text
def f_is_step : En → Out :=
  (sRet (eAn (eCall 1 g_is_text (aCons (eVar 0) aNil)) (eAn (e2 neD (eVar 0) (eC (tx []))) (e2 notInD (eVar 0) (eC k_DOTS)))))
def g_is_step : List D → Rs D := runF 1 f_is_step
def f_name_of : En → Out :=
  (sSeq (sIf (tB (e2 eqD (e2 ixD (eVar 0) (eC (.int 0))) (eC (tx [115, 116, 101, 112]))))
      (sRet (eC (tx [])))
      sNx)
    (sSeq (sIf (tB (e2 eqD (e2 ixD (eVar 0) (eC (.int 0))) (eC (tx [112, 97, 114, 116]))))
      (sRet (e2 ixD (eVar 0) (eC (.int 2))))
      sNx)
    (sRet (e2 ixD (eVar 0) (eC (.int 1))))))
def g_name_of : List D → Rs D := runF 1 f_name_of
def f_names_of : En → Out :=
  (sRet (eLc (eIt iSeq (e2 ixD (eVar 0) (eC (.int 0)))) [1] (gNm 1) (tB (e2 neD (e2 ixD (eVar 1) (eC (.int 0))) (eC (tx [115, 116, 101, 112])))) (eCall 1 g_name_of (aCons (eVar 1) aNil))))
def g_names_of : List D → Rs D := runF 2 f_names_of
def k_MOST_SIGNS : D := (.int 60)
def k_FIGURES : D := (tx [48, 49, 50, 51, 52, 53, 54, 55, 56, 57])
def f_is_number : En → Out :=
  (sSeq (sIf (tOr' (tNo (tB (eChain leD leD (eC (.int 1)) (eBlt lenD (aCons (eVar 0) aNil)) (eC k_MOST_SIGNS)))) (tNo (tB (eBlt allD (aCons (eLc (eIt iSeq (eVar 0)) [1] (gNm 1) cYes (e2 inD (eVar 1) (eC k_FIGURES))) aNil)))))
      (sRet (eC (.bool false)))
      sNx)
    (sRet (eOr (e2 neD (e2 ixD (eVar 0) (eC (.int 0))) (eC (tx [48]))) (e2 eqD (eVar 0) (eC (tx [48]))))))
def g_is_number : List D → Rs D := runF 2 f_is_number
def k_LETTERS : D := (tx [97, 98, 99, 100, 101, 102, 103, 104, 105, 106, 107, 108, 109, 110, 111, 112, 113, 114, 115, 116, 117, 118, 119, 120, 121, 122])
def f_is_word : En → Out :=
  (sRet (eAn (eChain leD leD (eC (.int 1)) (eBlt lenD (aCons (eVar 0) aNil)) (eC k_MOST_SIGNS)) (eBlt allD (aCons (eLc (eIt iSeq (eVar 0)) [1] (gNm 1) cYes (e2 inD (eVar 1) (eC k_LETTERS))) aNil))))
def g_is_word : List D → Rs D := runF 2 f_is_word
def t_fits_piece_1 : En → Out :=
  (sSeq (sIf (tB (e2 eqD (e2 ixD (eVar 0) (eC (.int 0))) (eC (tx [110, 117, 109, 98, 101, 114]))))
      (sRet (eCall 1 g_is_number (aCons (eVar 1) aNil)))
      sNx)
    (sRet (eOr (e2 neD (e2 ixD (eVar 0) (eC (.int 0))) (eC (tx [119, 111, 114, 100]))) (eCall 1 g_is_word (aCons (eVar 1) aNil)))))
def t_fits_piece_2 : En → Out :=
  (sSeq (sIf (tB (e2 eqD (e2 ixD (eVar 0) (eC (.int 0))) (eC (tx [112, 97, 114, 116]))))
      (sSeq (sSet 2 (e2 gtD (eBlt lenD (aCons (eVar 1) aNil)) (e2 addD (eBlt lenD (aCons (e2 ixD (eVar 0) (eC (.int 1))) aNil)) (eBlt lenD (aCons (e2 ixD (eVar 0) (eC (.int 3))) aNil)))))
    (sRet (eAn (eVar 2) (eAn (eM1 startD (eVar 1) (e2 ixD (eVar 0) (eC (.int 1)))) (eM1 endD (eVar 1) (e2 ixD (eVar 0) (eC (.int 3))))))))
      sNx)
    t_fits_piece_1)
def t_fits_piece_3 : En → Out :=
  (sSeq (sIf (tB (e2 eqD (e2 ixD (eVar 0) (eC (.int 0))) (eC (tx [115, 116, 101, 112]))))
      (sRet (e2 eqD (eVar 1) (e2 ixD (eVar 0) (eC (.int 1)))))
      sNx)
    t_fits_piece_2)
def f_fits_piece : En → Out :=
  (sSeq (sIf (tB (e2 inD (eVar 1) (eC k_DOTS)))
      (sRet (eC (.bool false)))
      sNx)
    t_fits_piece_3)
def g_fits_piece : List D → Rs D := runF 3 f_fits_piece
def t_steps_by_1 : En → Out :=
  (sSeq (sIf (tAn (tB (e2 gtD (eBlt lenD (aCons (eVar 2) aNil)) (eC (.int 0)))) (tB (e2 eqD (e2 ixD (e2 ixD (eVar 2) (eNeg (eC (.int 1)))) (eC (.int 0))) (eC (tx [114, 101, 115, 116])))))
      (sItm 6 (eNeg (eC (.int 1))) (eSl (eVar 4) (oSo (e2 subD (eBlt lenD (aCons (eVar 2) aNil)) (eC (.int 1)))) oNo))
      (sIf (tB (e2 gtD (eBlt lenD (aCons (eVar 4) aNil)) (eBlt lenD (aCons (eVar 2) aNil))))
      (sRet (eC .none))
      sNx))
    (sRet (eVar 6)))
def t_steps_by_2 : En → Out :=
  (sSeq (sSet 6 (eLc (iRange1 (eBlt lenD (aCons (eVar 2) aNil))) [7] (gNm 7) cYes (eSl (eVar 4) (oSo (eVar 7)) (oSo (e2 addD (eVar 7) (eC (.int 1)))))))
    t_steps_by_1)
def t_steps_by_3 : En → Out :=
  (sSeq (sIf (tOr' (tNo (tB (eVar 3))) (tOr' (tB (e2 neD (eVar 5) (e2 ixD (eVar 0) (eC (.int 1))))) (tB (e2 ltD (eBlt lenD (aCons (eVar 4) aNil)) (eBlt lenD (aCons (eVar 2) aNil))))))
      (sRet (eC .none))
      sNx)
    t_steps_by_2)
def t_steps_by_4 : En → Out :=
  (sSeq (sUnp (gTp 3 (gsCons (gNm 3) (gsCons (gNm 4) (gsCons (gNm 5) gsNil)))) (eVar 1))
    t_steps_by_3)
def f_steps_by : En → Out :=
  (sSeq (sSet 2 (e2 ixD (eVar 0) (eC (.int 0))))
    t_steps_by_4)
def g_steps_by : List D → Rs D := runF 8 f_steps_by
def f_value_of : En → Out :=
  (sSeq (sIf (tB (e2 eqD (e2 ixD (eVar 0) (eC (.int 0))) (eC (tx [114, 101, 115, 116]))))
      (sRet (eBlt listD (aCons (eVar 1) aNil)))
      sNx)
    (sSeq (sIf (tB (e2 eqD (e2 ixD (eVar 0) (eC (.int 0))) (eC (tx [110, 117, 109, 98, 101, 114]))))
      (sRet (eBlt intD (aCons (e2 ixD (eVar 1) (eC (.int 0))) aNil)))
      sNx)
    (sSeq (sIf (tB (e2 eqD (e2 ixD (eVar 0) (eC (.int 0))) (eC (tx [112, 97, 114, 116]))))
      (sRet (eSl (e2 ixD (eVar 1) (eC (.int 0))) (oSo (eBlt lenD (aCons (e2 ixD (eVar 0) (eC (.int 1))) aNil))) (oSo (e2 subD (eBlt lenD (aCons (e2 ixD (eVar 1) (eC (.int 0))) aNil)) (eBlt lenD (aCons (e2 ixD (eVar 0) (eC (.int 3))) aNil))))))
      sNx)
    (sRet (e2 ixD (eVar 1) (eC (.int 0)))))))
def g_value_of : List D → Rs D := runF 2 f_value_of
def b_bound_1 : En → Out :=
  (sSeq (sIf (tNo (tB (eBlt allD (aCons (eLc (eIt iSeq (eVar 5)) [6] (gNm 6) cYes (eCall 2 g_fits_piece (aCons (eVar 4) (aCons (eVar 6) aNil)))) aNil))))
      (sRet (eC .none))
      sNx)
    (sIf (tB (e2 neD (e2 ixD (eVar 4) (eC (.int 0))) (eC (tx [115, 116, 101, 112]))))
      (sApp 2 (eTup (aCons (eCall 1 g_name_of (aCons (eVar 4) aNil)) (aCons (eCall 2 g_value_of (aCons (eVar 4) (aCons (eVar 5) aNil))) aNil))))
      sNx))
def t_bound_2 : En → Out :=
  (sSeq (sFor (eIt2 iZip (e2 ixD (eVar 0) (eC (.int 0))) (eVar 3)) (gTp 2 (gsCons (gNm 4) (gsCons (gNm 5) gsNil)))
      b_bound_1)
    (sRet (eVar 2)))
def t_bound_3 : En → Out :=
  (sSeq (sIf (tB (e2 isD (eVar 3) (eC .none)))
      (sRet (eC .none))
      sNx)
    t_bound_2)
def t_bound_4 : En → Out :=
  (sSeq (sSet 3 (eCall 2 g_steps_by (aCons (eVar 0) (aCons (eVar 1) aNil))))
    t_bound_3)
def f_bound : En → Out :=
  (sSeq (sSet 2 (eLst aNil))
    t_bound_4)
def g_bound : List D → Rs D := runF 7 f_bound
def t_serves_1 : En → Out :=
  (sSeq (sIf (tB (e2 eqD (e2 ixD (eVar 0) (eC (.int 0))) (eC (tx [112, 97, 114, 116]))))
      (sRet (eAn (eCall 1 g_is_text (aCons (eVar 1) aNil)) (eAn (e2 neD (eVar 1) (eC (tx []))) (e2 notInD (e2 addD (e2 addD (e2 ixD (eVar 0) (eC (.int 1))) (eVar 1)) (e2 ixD (eVar 0) (eC (.int 3)))) (eC k_DOTS)))))
      sNx)
    (sRet (eCall 1 g_is_step (aCons (eVar 1) aNil))))
def t_serves_2 : En → Out :=
  (sSeq (sIf (tB (e2 eqD (e2 ixD (eVar 0) (eC (.int 0))) (eC (tx [119, 111, 114, 100]))))
      (sRet (eAn (eIsi "str" (eVar 1)) (eCall 1 g_is_word (aCons (eVar 1) aNil))))
      sNx)
    t_serves_1)
def t_serves_3 : En → Out :=
  (sSeq (sIf (tB (e2 eqD (e2 ixD (eVar 0) (eC (.int 0))) (eC (tx [110, 117, 109, 98, 101, 114]))))
      (sRet (eAn (eIsi "int" (eVar 1)) (eAn (eNo (eIsi "bool" (eVar 1))) (eChain leD ltD (eC (.int 0)) (eVar 1) (e2 powD (eC (.int 10)) (eC (.int 60)))))))
      sNx)
    t_serves_2)
def f_serves : En → Out :=
  (sSeq (sIf (tB (e2 eqD (e2 ixD (eVar 0) (eC (.int 0))) (eC (tx [114, 101, 115, 116]))))
      (sRet (eAn (eIsi "list" (eVar 1)) (eAn (e2 neD (eVar 1) (eLst aNil)) (eBlt allD (aCons (eLc (eIt iSeq (eVar 1)) [2] (gNm 2) cYes (eCall 1 g_is_step (aCons (eVar 2) aNil))) aNil)))))
      sNx)
    t_serves_3)
def g_serves : List D → Rs D := runF 3 f_serves
def t_steps_for_1 : En → Out :=
  (sSeq (sIf (tB (e2 eqD (e2 ixD (eVar 0) (eC (.int 0))) (eC (tx [112, 97, 114, 116]))))
      (sRet (eLst (aCons (e2 addD (e2 addD (e2 ixD (eVar 0) (eC (.int 1))) (e2 ixD (eVar 2) (eC (.int 0)))) (e2 ixD (eVar 0) (eC (.int 3)))) aNil)))
      sNx)
    (sRet (eLst (aCons (eBlt strD (aCons (e2 ixD (eVar 2) (eC (.int 0))) aNil)) aNil))))
def t_steps_for_2 : En → Out :=
  (sSeq (sIf (tB (e2 eqD (e2 ixD (eVar 0) (eC (.int 0))) (eC (tx [114, 101, 115, 116]))))
      (sRet (e2 ixD (eVar 2) (eC (.int 0))))
      sNx)
    t_steps_for_1)
def t_steps_for_3 : En → Out :=
  (sSeq (sIf (tOr' (tB (e2 neD (eBlt lenD (aCons (eVar 2) aNil)) (eC (.int 1)))) (tNo (tB (eCall 2 g_serves (aCons (eVar 0) (aCons (e2 ixD (eVar 2) (eC (.int 0))) aNil))))))
      sBad
      sNx)
    t_steps_for_2)
def t_steps_for_4 : En → Out :=
  (sSeq (sSet 2 (eLc (eIt iSeq (eVar 1)) [3, 4] (gTp 2 (gsCons (gNm 3) (gsCons (gNm 4) gsNil))) (tB (e2 eqD (eVar 3) (eCall 1 g_name_of (aCons (eVar 0) aNil)))) (eVar 4)))
    t_steps_for_3)
def f_steps_for : En → Out :=
  (sSeq (sIf (tB (e2 eqD (e2 ixD (eVar 0) (eC (.int 0))) (eC (tx [115, 116, 101, 112]))))
      (sRet (eLst (aCons (e2 ixD (eVar 0) (eC (.int 1))) aNil)))
      sNx)
    t_steps_for_4)
def g_steps_for : List D → Rs D := runF 5 f_steps_for
def b_filled_1 : En → Out :=
  (sSet 2 (e2 addD (eVar 2) (eCall 2 g_steps_for (aCons (eVar 3) (aCons (eVar 1) aNil)))))
def b_filled_2 : En → Out :=
  (sIf (tB (e2 notInD (eVar 5) (eVar 4)))
      sBad
      sNx)
def t_filled_3 : En → Out :=
  (sSeq (sFor (eIt iSeq (eVar 1)) (gTp 2 (gsCons (gNm 5) (gsCons (gNm 6) gsNil)))
      b_filled_2)
    (sRet (eTup (aCons (eC (.bool true)) (aCons (eBlt tupD (aCons (eVar 2) aNil)) (aCons (e2 ixD (eVar 0) (eC (.int 1))) aNil))))))
def t_filled_4 : En → Out :=
  (sSeq (sSet 4 (eCall 1 g_names_of (aCons (eVar 0) aNil)))
    t_filled_3)
def t_filled_5 : En → Out :=
  (sSeq (sFor (eIt iSeq (e2 ixD (eVar 0) (eC (.int 0)))) (gNm 3)
      b_filled_1)
    t_filled_4)
def f_filled : En → Out :=
  (sSeq (sSet 2 (eLst aNil))
    t_filled_5)
def g_filled : List D → Rs D := runF 7 f_filled
end Wp

set_option Elab.async false
set_option linter.all false
set_option maxRecDepth 100000
/-! WmX: expressions that change what a slot owns; defs that change what they are handed. -/
namespace Wm
open PySem PySem.Spec PyProof.Rows L2

/-- a result with what the slots hold then -/
inductive Rx (α : Type) where
  | ok (a : α) (ρ : En)
  | ex (c : Str) (fs : List (Str × D)) (ρ : En)
  | bad
def Rx.bind {α β : Type} (r : Rx α) (k : α → En → Rx β) : Rx β := match r with
  | .ok a ρ => k a ρ
  | .ex c fs ρ => .ex c fs ρ
  | .bad => .bad
def rxOf {α : Type} (r : Rs α) (ρ : En) : Rx α := match r with
  | .ok a => .ok a ρ
  | .ex c fs => .ex c fs ρ
  | .bad => .bad
section
variable {α β γ : Type} (a : α) (ρ : En) (c : Str) (fs : List (Str × D)) (k : α → En → Rx β)
@[simp] theorem Rx.ok_bind : (Rx.ok a ρ).bind k = k a ρ := nrfl rfl
@[simp] theorem Rx.ex_bind : (Rx.ex c fs ρ : Rx α).bind k = .ex c fs ρ := nrfl rfl
@[simp] theorem Rx.bad_bind : (Rx.bad : Rx α).bind k = .bad := nrfl rfl
@[simp] theorem rxOf_ok : rxOf (.ok a) ρ = .ok a ρ := nrfl rfl
@[simp] theorem rxOf_ex : rxOf (.ex c fs : Rs α) ρ = .ex c fs ρ := nrfl rfl
@[simp] theorem rxOf_bad : rxOf (.bad : Rs α) ρ = .bad := nrfl rfl
theorem Rx.assoc (r : Rx α) (k : α → En → Rx β) (l : β → En → Rx γ) : (r.bind k).bind l = r.bind fun a ρ => (k a ρ).bind l := by cases r <;> rfl
end
section
variable (X : Cx) (W : WX) (B : Bs) (Hd0 : Hp) (fl : Md) (own : List Nat) (σ : L2.St) (Hd : Hp)
def exX (c : Str) (fs : List (Str × D)) (ρ : En) : Prop := ∀ cls a H' Hd', Rel X.K (B.res fl.E) Hd0 fl.E (wipeS fl.wp ρ) σ H' Hd' → ExR X.K X.mg H' Hd' c fs cls a → W cls a σ H'
def PoX (r : Rx D) (Q : VK) : Prop := match r with
  | .ok d ρ => ∀ v H' Hd', Rel X.K B Hd0 own ρ σ H' Hd' → Same Hd Hd' → Dq X.K Hd' v d → Q v H'
  | .ex c fs ρ => exX X W B Hd0 fl σ c fs ρ
  | .bad => False
def PoXB (r : Rx Bool) (Q : Bool → Hp → Prop) : Prop := match r with
  | .ok b ρ => ∀ H' Hd', Rel X.K B Hd0 own ρ σ H' Hd' → Same Hd Hd' → Q b H'
  | .ex c fs ρ => exX X W B Hd0 fl σ c fs ρ
  | .bad => False
def PoXA (r : Rx (List D)) (Q : List V → Hp → Prop) : Prop := match r with
  | .ok ds ρ => ∀ vs H' Hd', Rel X.K B Hd0 own ρ σ H' Hd' → Same Hd Hd' → DqAll X.K Hd' vs ds → Q vs H'
  | .ex c fs ρ => exX X W B Hd0 fl σ c fs ρ
  | .bad => False
end
/-- arguments, the one at q an owned name (slot i) -/
inductive ArgQ (K : PySem.W.Frag) (Hd : Hp) (σ : L2.St) (i : Nat) : Nat → List V → List D → Prop
  | here {v : V} {vs : List V} {ds : List D} : σ[i]? = some (some v) → DqAll K Hd vs ds → ArgQ K Hd σ i 0 (v :: vs) (.none :: ds)
  | next {q : Nat} {v : V} {d : D} {vs : List V} {ds : List D} : Dq K Hd v d → ArgQ K Hd σ i q vs ds → ArgQ K Hd σ i (q + 1) (v :: vs) (d :: ds)
section
variable (X : Cx) (W : WX) (B : Bs) (Hd0 : Hp) (fl : Md) (own : List Nat) (σ : L2.St) (Hd : Hp)
def PoXQ (i q : Nat) (r : Rx (List D)) (Q : List V → Hp → Prop) : Prop := match r with
  | .ok ds ρ => ∀ vs H' Hd', Rel X.K B Hd0 own ρ σ H' Hd' → Same Hd Hd' → ArgQ X.K Hd' σ i q vs ds → Q vs H'
  | .ex c fs ρ => exX X W B Hd0 fl σ c fs ρ
  | .bad => False
end
structure SX (X : Cx) (W : WX) (fl : Md) (own : List Nat) (e : Expr) (f : En → Rx D) : Prop where
  ex : ∃ t, PE X e t ∧ ∀ B Hd0 ρ σ H Hd, Rel X.K B Hd0 own ρ σ H Hd → ∀ Q : VK, PoX X W B Hd0 fl own σ Hd (f ρ) Q → t σ H Q
structure SXC (X : Cx) (W : WX) (fl : Md) (own : List Nat) (e : Expr) (f : En → Rx Bool) : Prop where
  ex : ∃ t, PT X e t ∧ ∀ B Hd0 ρ σ H Hd, Rel X.K B Hd0 own ρ σ H Hd → ∀ Q, PoXB X W B Hd0 fl own σ Hd (f ρ) Q → t σ H Q
structure SXW (X : Cx) (W : WX) (fl : Md) (own : List Nat) (e : Expr) (f : En → Rx Bool) : Prop where
  ex : ∃ t, PW X e t ∧ ∀ B Hd0 ρ σ H Hd, Rel X.K B Hd0 own ρ σ H Hd → ∀ Q, PoXB X W B Hd0 fl own σ Hd (f ρ) Q → t σ H Q
structure SXA (X : Cx) (W : WX) (fl : Md) (own : List Nat) (es : List Expr) (f : En → Rx (List D)) : Prop where
  ex : ∃ t, PA X es t ∧ ∀ B Hd0 ρ σ H Hd, Rel X.K B Hd0 own ρ σ H Hd → ∀ Q, PoXA X W B Hd0 fl own σ Hd (f ρ) Q → t σ H Q
structure SXQ (X : Cx) (W : WX) (fl : Md) (own : List Nat) (i q : Nat) (es : List Expr) (f : En → Rx (List D)) : Prop where
  ex : ∃ t, PA X es t ∧ ∀ B Hd0 ρ σ H Hd, Rel X.K B Hd0 own ρ σ H Hd → ∀ Q, PoXQ X W B Hd0 fl own σ Hd i q (f ρ) Q → t σ H Q
section
variable {X : Cx} {W : WX} {fl : Md} {own : List Nat} {B : Bs} {Hd0 : Hp} {ρ : En} {σ : L2.St} {H Hd H1 Hd1 : Hp}
theorem same_tr {H1 H2 H3 : Hp} (a : Same H1 H2) (b : Same H2 H3) : Same H1 H3 := fun x o e => b x o (a x o e)
theorem PoX.up {r : Rx D} {Q : VK} (h : PoX X W B Hd0 fl own σ Hd r Q) (s : Same Hd Hd1) : PoX X W B Hd0 fl own σ Hd1 r Q := by
  cases r with
  | ok d ρ => exact fun v H' Hd' R s' => h v H' Hd' R (same_tr s s')
  | ex c fs ρ => exact h
  | bad => exact h
theorem PoXB.up {r : Rx Bool} {Q : Bool → Hp → Prop} (h : PoXB X W B Hd0 fl own σ Hd r Q) (s : Same Hd Hd1) : PoXB X W B Hd0 fl own σ Hd1 r Q := by
  cases r with
  | ok d ρ => exact fun H' Hd' R s' => h H' Hd' R (same_tr s s')
  | ex c fs ρ => exact h
  | bad => exact h
theorem PoXA.up {r : Rx (List D)} {Q : List V → Hp → Prop} (h : PoXA X W B Hd0 fl own σ Hd r Q) (s : Same Hd Hd1) : PoXA X W B Hd0 fl own σ Hd1 r Q := by
  cases r with
  | ok d ρ => exact fun vs H' Hd' R s' => h vs H' Hd' R (same_tr s s')
  | ex c fs ρ => exact h
  | bad => exact h
theorem PoXQ.up {i q : Nat} {r : Rx (List D)} {Q : List V → Hp → Prop} (h : PoXQ X W B Hd0 fl own σ Hd i q r Q) (s : Same Hd Hd1) : PoXQ X W B Hd0 fl own σ Hd1 i q r Q := by
  cases r with
  | ok d ρ => exact fun vs H' Hd' R s' => h vs H' Hd' R (same_tr s s')
  | ex c fs ρ => exact h
  | bad => exact h
/-- from what is pure -/
theorem PoX.pe {r : Rs D} {Q : VK} (R : Rel X.K B Hd0 own ρ σ H Hd) (hE : okE fl own = true) (q : PoX X W B Hd0 fl own σ Hd (rxOf r ρ) Q) : PoE X W σ H Hd r Q := by
  cases r with
  | ok d => exact fun v H' Hd' s x => q v H' Hd' (R.step s) s.keep x
  | ex c fs =>
    intro cls a H' Hd' s x
    obtain ⟨Hd'', R', up⟩ := (R.step s).exc hE
    exact q cls a H' Hd'' R' (x.mono (fun _ _ z => z) up)
  | bad => exact q
theorem PoXB.pe {r : Rs Bool} {Q : Bool → Hp → Prop} (R : Rel X.K B Hd0 own ρ σ H Hd) (hE : okE fl own = true) (q : PoXB X W B Hd0 fl own σ Hd (rxOf r ρ) Q) : PoT X W σ H Hd r Q := by
  cases r with
  | ok d => exact fun H' Hd' s => q H' Hd' (R.step s) s.keep
  | ex c fs =>
    intro cls a H' Hd' s x
    obtain ⟨Hd'', R', up⟩ := (R.step s).exc hE
    exact q cls a H' Hd'' R' (x.mono (fun _ _ z => z) up)
  | bad => exact q
end
def xP {α : Type} (f : En → Rs α) : En → Rx α := fun ρ => rxOf (f ρ) ρ
def x2 (g : D → D → Rs D) (fa fb : En → Rx D) : En → Rx D := fun ρ => (fa ρ).bind fun x ρ1 => (fb ρ1).bind fun y ρ2 => rxOf (g x y) ρ2
def xB (f : En → Rx D) : En → Rx Bool := fun ρ => (f ρ).bind fun d ρ1 => rxOf (asB (.ok d)) ρ1
def xNo (f : En → Rx Bool) : En → Rx Bool := fun ρ => (f ρ).bind fun b ρ1 => .ok (!b) ρ1
def xAnB (f g : En → Rx Bool) : En → Rx Bool := fun ρ => (f ρ).bind fun c ρ1 => if c = true then g ρ1 else .ok false ρ1
def xOrB (f g : En → Rx Bool) : En → Rx Bool := fun ρ => (f ρ).bind fun c ρ1 => if c = true then .ok true ρ1 else g ρ1
def xAn (f g : En → Rx D) : En → Rx D := fun ρ => (f ρ).bind fun d ρ1 => match d with
  | .bool true => g ρ1
  | .bool false => .ok (.bool false) ρ1
  | _ => .bad
def xOr (f g : En → Rx D) : En → Rx D := fun ρ => (f ρ).bind fun d ρ1 => match d with
  | .bool true => .ok (.bool true) ρ1
  | .bool false => g ρ1
  | _ => .bad
def xNot (f : En → Rx D) : En → Rx D := fun ρ => (f ρ).bind fun d ρ1 => match d with
  | .bool c => .ok (.bool (!c)) ρ1
  | _ => .bad
def xANil : En → Rx (List D) := fun ρ => .ok [] ρ
def xACons (f : En → Rx D) (g : En → Rx (List D)) : En → Rx (List D) := fun ρ => (f ρ).bind fun d ρ1 => (g ρ1).bind fun ds ρ2 => .ok (d :: ds) ρ2
def xQHere (g : En → Rx (List D)) : En → Rx (List D) := fun ρ => (g ρ).bind fun ds ρ2 => .ok (.none :: ds) ρ2
/-- the slot handed in: it must hold something -/
def xQ0 (i : Nat) (g : En → Rx (List D)) : En → Rx (List D) := fun ρ => match ρ[i]? with
  | some (some _) => xQHere g ρ
  | _ => .bad
def xTup (g : En → Rx (List D)) : En → Rx D := fun ρ => (g ρ).bind fun ds ρ1 => if ds.length ≤ sizeLine then .ok (.tuple ds) ρ1 else .bad
def xLst (g : En → Rx (List D)) : En → Rx D := fun ρ => (g ρ).bind fun ds ρ1 => if ds.length ≤ sizeLine then .ok (.list ds) ρ1 else .bad
section
variable {X : Cx} {W : WX} {fl : Md} {own : List Nat} {e a b : Expr} {es rest : List Expr} {f fa fb : En → Rx D} {ga gb : En → Rx Bool} {g : En → Rx (List D)} {pos : Pos}
theorem sx_se {h : En → Rs D} (p : SE X W own e h) (hE : okE fl own = true := by rfl) : SX X W fl own e (xP h) := by
  obtain ⟨t, p, r⟩ := p.ex
  exact ⟨t, p, fun B Hd0 ρ σ H Hd R Q q => r _ _ _ _ _ _ R _ (PoX.pe R hE q)⟩
theorem sxc_sc {h : En → Rs Bool} (p : SC X W own e h) (hE : okE fl own = true := by rfl) : SXC X W fl own e (xP h) := by
  obtain ⟨t, p, r⟩ := p.ex
  exact ⟨t, p, fun B Hd0 ρ σ H Hd R Q q => r _ _ _ _ _ _ R _ (PoXB.pe R hE q)⟩
theorem run2x {ta tb : TE} {g : D → D → Rs D} {r : R2} (hr : OpS X r g) (hE : okE fl own = true)
    (ra : ∀ B Hd0 ρ σ H Hd, Rel X.K B Hd0 own ρ σ H Hd → ∀ Q : VK, PoX X W B Hd0 fl own σ Hd (fa ρ) Q → ta σ H Q)
    (rb : ∀ B Hd0 ρ σ H Hd, Rel X.K B Hd0 own ρ σ H Hd → ∀ Q : VK, PoX X W B Hd0 fl own σ Hd (fb ρ) Q → tb σ H Q)
    {B : Bs} {Hd0 : Hp} {ρ : En} {σ : L2.St} {H Hd : Hp} (R : Rel X.K B Hd0 own ρ σ H Hd) {Q : VK} (q : PoX X W B Hd0 fl own σ Hd (x2 g fa fb ρ) Q) : tOp r ta tb σ H Q := by
  refine ra _ _ _ _ _ _ R _ ?_
  unfold x2 at q
  cases ha : fa ρ with
  | bad => rw [ha] at q; exact q
  | ex c fs ρ1 => rw [ha] at q; exact q
  | ok d1 ρ1 =>
    rw [ha] at q
    intro x H1 Hd1 R1 s1 x1
    refine rb _ _ _ _ _ _ R1 _ ?_
    rw [Rx.ok_bind] at q
    cases hb : fb ρ1 with
    | bad => rw [hb] at q; exact q
    | ex c fs ρ2 => rw [hb] at q; exact q
    | ok d2 ρ2 =>
      rw [hb] at q
      intro y H2 Hd2 R2 s2 y2
      exact hr W σ H2 Hd2 x y d1 d2 R2.st.sub (.inl (dq_mono s2 x1)) (.inl y2) Q (PoX.pe R2 hE (PoX.up q (same_tr s1 s2)))
theorem sx_op {op : Operator} {r : R2} {g : D → D → Rs D} (ho : OpR X (binaryOp op) r) (hr : OpS X r g) (ha : SX X W fl own a fa) (hb : SX X W fl own b fb) (hE : okE fl own = true := by rfl) : SX X W fl own (.BinOp a op b pos) (x2 g fa fb) := by
  obtain ⟨ta, pa, ra⟩ := ha.ex
  obtain ⟨tb, pb, rb⟩ := hb.ex
  exact ⟨_, pe_op ho pa pb, fun B Hd0 ρ σ H Hd R Q q => run2x hr hE ra rb R q⟩
theorem sx_cmp {op : CmpOp} {r : R2} {g : D → D → Rs D} (ho : OpR X (compareOp op) r) (hr : OpS X r g) (ha : SX X W fl own a fa) (hb : SX X W fl own b fb) (hm : behindInMarks op b = false) (hE : okE fl own = true := by rfl) : SX X W fl own (.Compare a [op] [b] pos) (x2 g fa fb) := by
  obtain ⟨ta, pa, ra⟩ := ha.ex
  obtain ⟨tb, pb, rb⟩ := hb.ex
  exact ⟨_, pe_cmpR ho pa pb hm, fun B Hd0 ρ σ H Hd R Q q => run2x hr hE ra rb R q⟩
theorem sx_ix {r : R2} {g : D → D → Rs D} (ho : IxR X r) (hr : OpS X r g) (ha : SX X W fl own a fa) (hb : SX X W fl own b fb) (hE : okE fl own = true := by rfl) (hs : PlainIx b := by exact fun _ _ => rfl) : SX X W fl own (.Subscript a b pos) (x2 g fa fb) := by
  obtain ⟨ta, pa, ra⟩ := ha.ex
  obtain ⟨tb, pb, rb⟩ := hb.ex
  exact ⟨_, pe_ix ho pa pb hs, fun B Hd0 ρ σ H Hd R Q q => run2x hr hE ra rb R q⟩
theorem PoX.of_xB {B : Bs} {Hd0 : Hp} {r : Rx D} {σ : L2.St} {H Hd : Hp} {Q : Bool → Hp → Prop} (q : PoXB X W B Hd0 fl own σ Hd (r.bind fun d ρ1 => rxOf (asB (.ok d)) ρ1) Q) : PoX X W B Hd0 fl own σ Hd r (fun x H1 => ∃ k, x = .bl k ∧ Q k H1) := by
  cases r with
  | bad => exact q
  | ex c fs ρ => exact q
  | ok d ρ =>
    intro v H' Hd' R s x
    cases x with
    | bl k => exact ⟨k, rfl, q H' Hd' R s⟩
    | _ => exact (show False from q).elim
theorem sxc_cmp {op : CmpOp} {r : R2} {g : D → D → Rs D} (ho : OpR X (compareOp op) r) (hr : OpS X r g) (ha : SX X W fl own a fa) (hb : SX X W fl own b fb) (hm : behindInMarks op b = false) (hE : okE fl own = true := by rfl) : SXC X W fl own (.Compare a [op] [b] pos) (xB (x2 g fa fb)) := by
  obtain ⟨ta, pa, ra⟩ := ha.ex
  obtain ⟨tb, pb, rb⟩ := hb.ex
  exact ⟨_, pt_cmpR ho pa pb hm, fun B Hd0 ρ σ H Hd R Q q => run2x hr hE ra rb R (PoX.of_xB (H := H) q)⟩
theorem sxc_val (h : SX X W fl own e f) (he : ∀ whole, isTrue e X.env whole = (do let v ← whole; standAt e.pos; holding [v] (truthy v)) := by intro _; rfl) : SXC X W fl own e (xB f) := by
  obtain ⟨t, p, r⟩ := h.ex
  exact ⟨_, pt_val p he, fun B Hd0 ρ σ H Hd R Q q => r _ _ _ _ _ _ R _ (PoX.of_xB (H := H) q)⟩
theorem sxc_not (h : SXC X W fl own a ga) : SXC X W fl own (.UnaryOp .Not a pos) (xNo ga) := by
  obtain ⟨t, p, r⟩ := h.ex
  refine ⟨_, pt_not p, fun B Hd0 ρ σ H Hd R Q q => r _ _ _ _ _ _ R _ ?_⟩
  unfold xNo at q
  cases ha : ga ρ with
  | bad => rw [ha] at q; exact q
  | ex c fs ρ1 => rw [ha] at q; exact q
  | ok c ρ1 => rw [ha] at q; exact q
theorem sxw_and1 (h : SXC X W fl own a ga) : SXW X W fl own (.BoolOp .And [a] pos) ga := let ⟨_, p, r⟩ := h.ex; ⟨_, pw_and1 p, r⟩
theorem sxw_or1 (h : SXC X W fl own a ga) : SXW X W fl own (.BoolOp .Or [a] pos) ga := let ⟨_, p, r⟩ := h.ex; ⟨_, pw_or1 p, r⟩
theorem sxw_and (h : SXC X W fl own a ga) (h2 : SXW X W fl own (.BoolOp .And (b :: rest) pos) gb) : SXW X W fl own (.BoolOp .And (a :: b :: rest) pos) (xAnB ga gb) := by
  obtain ⟨ta, pa, ra⟩ := h.ex
  obtain ⟨tb, pb, rb⟩ := h2.ex
  refine ⟨_, pw_and pa pb, fun B Hd0 ρ σ H Hd R Q q => ?_⟩
  refine ra _ _ _ _ _ _ R _ ?_
  unfold xAnB at q
  cases ha : ga ρ with
  | bad => rw [ha] at q; exact q
  | ex c fs ρ1 => rw [ha] at q; exact q
  | ok c ρ1 =>
    rw [ha] at q
    intro H1 Hd1 R1 s1
    rw [Rx.ok_bind] at q
    have q1 := PoXB.up q s1
    cases c with
    | true => exact rb _ _ _ _ _ _ R1 _ q1
    | false => exact q1 H1 Hd1 R1 (fun _ _ z => z)
theorem sxw_or (h : SXC X W fl own a ga) (h2 : SXW X W fl own (.BoolOp .Or (b :: rest) pos) gb) : SXW X W fl own (.BoolOp .Or (a :: b :: rest) pos) (xOrB ga gb) := by
  obtain ⟨ta, pa, ra⟩ := h.ex
  obtain ⟨tb, pb, rb⟩ := h2.ex
  refine ⟨_, pw_or pa pb, fun B Hd0 ρ σ H Hd R Q q => ?_⟩
  refine ra _ _ _ _ _ _ R _ ?_
  unfold xOrB at q
  cases ha : ga ρ with
  | bad => rw [ha] at q; exact q
  | ex c fs ρ1 => rw [ha] at q; exact q
  | ok c ρ1 =>
    rw [ha] at q
    intro H1 Hd1 R1 s1
    rw [Rx.ok_bind] at q
    have q1 := PoXB.up q s1
    cases c with
    | true => exact q1 H1 Hd1 R1 (fun _ _ z => z)
    | false => exact rb _ _ _ _ _ _ R1 _ q1
theorem SXW.t (h : SXW X W fl own e ga) : SXC X W fl own e ga := let ⟨_, p, r⟩ := h.ex; ⟨_, p.pt, r⟩
theorem sx_one {op : BoolOp} (h : SX X W fl own e f) : SX X W fl own (.BoolOp op [e] pos) f := let ⟨_, p, r⟩ := h.ex; ⟨_, pe_one p, r⟩
theorem sx_and (h : SX X W fl own a fa) (h2 : SX X W fl own (.BoolOp .And (b :: rest) pos) fb) : SX X W fl own (.BoolOp .And (a :: b :: rest) pos) (xAn fa fb) := by
  obtain ⟨ta, pa, ra⟩ := h.ex
  obtain ⟨tb, pb, rb⟩ := h2.ex
  refine ⟨_, pe_and pa pb, fun B Hd0 ρ σ H Hd R Q q => ?_⟩
  refine ra _ _ _ _ _ _ R _ ?_
  unfold xAn at q
  cases ha : fa ρ with
  | bad => rw [ha] at q; exact q
  | ex c fs ρ1 => rw [ha] at q; exact q
  | ok d ρ1 =>
    rw [ha] at q
    intro v H1 Hd1 R1 s1 x
    rw [Rx.ok_bind] at q
    have q1 := PoX.up q s1
    cases x with
    | bl c =>
      refine ⟨c, rfl, ?_⟩
      cases c with
      | true => exact rb _ _ _ _ _ _ R1 _ q1
      | false => exact q1 (.bl false) H1 Hd1 R1 (fun _ _ z => z) (.bl false)
    | _ => exact (show False from q1).elim
theorem sx_or (h : SX X W fl own a fa) (h2 : SX X W fl own (.BoolOp .Or (b :: rest) pos) fb) : SX X W fl own (.BoolOp .Or (a :: b :: rest) pos) (xOr fa fb) := by
  obtain ⟨ta, pa, ra⟩ := h.ex
  obtain ⟨tb, pb, rb⟩ := h2.ex
  refine ⟨_, pe_or pa pb, fun B Hd0 ρ σ H Hd R Q q => ?_⟩
  refine ra _ _ _ _ _ _ R _ ?_
  unfold xOr at q
  cases ha : fa ρ with
  | bad => rw [ha] at q; exact q
  | ex c fs ρ1 => rw [ha] at q; exact q
  | ok d ρ1 =>
    rw [ha] at q
    intro v H1 Hd1 R1 s1 x
    rw [Rx.ok_bind] at q
    have q1 := PoX.up q s1
    cases x with
    | bl c =>
      refine ⟨c, rfl, ?_⟩
      cases c with
      | true => exact q1 (.bl true) H1 Hd1 R1 (fun _ _ z => z) (.bl true)
      | false => exact rb _ _ _ _ _ _ R1 _ q1
    | _ => exact (show False from q1).elim
theorem sx_not (h : SX X W fl own a fa) : SX X W fl own (.UnaryOp .Not a pos) (xNot fa) := by
  obtain ⟨ta, pa, ra⟩ := h.ex
  refine ⟨_, pe_not pa, fun B Hd0 ρ σ H Hd R Q q => ?_⟩
  refine ra _ _ _ _ _ _ R _ ?_
  unfold xNot at q
  cases ha : fa ρ with
  | bad => rw [ha] at q; exact q
  | ex c fs ρ1 => rw [ha] at q; exact q
  | ok d ρ1 =>
    rw [ha] at q
    intro v H1 Hd1 R1 s1 x
    rw [Rx.ok_bind] at q
    have q1 := PoX.up q s1
    cases x with
    | bl c => exact ⟨c, rfl, q1 (.bl (!c)) H1 Hd1 R1 (fun _ _ z => z) (.bl _)⟩
    | _ => exact (show False from q1).elim
theorem sxa_nil : SXA X W fl own [] xANil := ⟨_, pa_nil, fun B Hd0 ρ σ H Hd R Q q => q [] H Hd R (fun _ _ z => z) .nil⟩
theorem sxa_cons (h : SX X W fl own e f) (h2 : SXA X W fl own es g) (hs : starEach (e :: es) X.env = (false, eval e X.env) :: starEach es X.env := by rfl) : SXA X W fl own (e :: es) (xACons f g) := by
  obtain ⟨ta, pa, ra⟩ := h.ex
  obtain ⟨tb, pb, rb⟩ := h2.ex
  refine ⟨_, pa_cons pa pb hs, fun B Hd0 ρ σ H Hd R Q q => ?_⟩
  refine ra _ _ _ _ _ _ R _ ?_
  unfold xACons at q
  cases ha : f ρ with
  | bad => rw [ha] at q; exact q
  | ex c fs ρ1 => rw [ha] at q; exact q
  | ok d ρ1 =>
    rw [ha] at q
    intro v H1 Hd1 R1 s1 x
    rw [Rx.ok_bind] at q
    refine rb _ _ _ _ _ _ R1 _ ?_
    cases hb : g ρ1 with
    | bad => rw [hb] at q; exact q
    | ex c fs ρ2 => rw [hb] at q; exact q
    | ok ds ρ2 =>
      rw [hb] at q
      intro vs H2 Hd2 R2 s2 xs
      exact q (v :: vs) H2 Hd2 R2 (same_tr s1 s2) (.cons (dq_mono s2 x) xs)
theorem sx_tup {k : Nat} (h : SXA X W fl own es g) : SX X W fl own (.Tuple es k pos) (xTup g) := by
  obtain ⟨ta, pa, ra⟩ := h.ex
  refine ⟨_, pe_tup pa, fun B Hd0 ρ σ H Hd R Q q => ?_⟩
  refine ra _ _ _ _ _ _ R _ ?_
  unfold xTup at q
  cases ha : g ρ with
  | bad => rw [ha] at q; exact q
  | ex c fs ρ1 => rw [ha] at q; exact q
  | ok ds ρ1 =>
    rw [ha] at q
    rw [Rx.ok_bind] at q
    intro vs H1 Hd1 R1 s1 xs
    by_cases hl : ds.length ≤ sizeLine
    · rw [if_pos hl] at q
      refine ⟨by rw [xs.length]; exact hl, fun p hp => ?_⟩
      have n2 : Same Hd1 (upd Hd1 p (.tup vs)) := same_upd (none_of_same R1.st.sub hp)
      exact q (.ref p) _ _ (R1.step (.new R1.st.sub hp)) (same_tr s1 n2) (.tup (.inl (.inl upd_same)) (dqAll_mono n2 xs))
    · rw [if_neg hl] at q; exact q.elim
theorem sx_lst (h : SXA X W fl own es g) : SX X W fl own (.List es pos) (xLst g) := by
  obtain ⟨ta, pa, ra⟩ := h.ex
  refine ⟨_, pe_lst pa, fun B Hd0 ρ σ H Hd R Q q => ?_⟩
  refine ra _ _ _ _ _ _ R _ ?_
  unfold xLst at q
  cases ha : g ρ with
  | bad => rw [ha] at q; exact q
  | ex c fs ρ1 => rw [ha] at q; exact q
  | ok ds ρ1 =>
    rw [ha] at q
    rw [Rx.ok_bind] at q
    intro vs H1 Hd1 R1 s1 xs
    by_cases hl : ds.length ≤ sizeLine
    · rw [if_pos hl] at q
      refine ⟨by rw [xs.length]; exact hl, fun p hp => ?_⟩
      have n2 : Same Hd1 (upd Hd1 p (.lst vs)) := same_upd (none_of_same R1.st.sub hp)
      exact q (.ref p) _ _ (R1.step (.new R1.st.sub hp)) (same_tr s1 n2) (.lst (.inl (.inl upd_same)) (dqAll_mono n2 xs))
    · rw [if_neg hl] at q; exact q.elim
/-- the arguments of a call that changes one of them -/
theorem sxq_here (i : Nat) {x : Str} {p : Pos} (h2 : SXA X W fl own es g) (hN : X.N[i]? = some x := by rfl) (hv : Vis X.env.scope x := by first | exact Or.inl rfl | exact Or.inr (Or.inl rfl) | exact Or.inr (Or.inr rfl))
    (hd : (x == ("__debug__" : Str)) = false := by rfl) (hcd : (x == ("__classdict__" : Str)) = false := by rfl) (hs : starEach (.Name x p :: es) X.env = (false, eval (.Name x p) X.env) :: starEach es X.env := by rfl)
    (ho : (own.any fun j => decide (j < 1000) && decide (j % 100 = i)) = true := by rfl) : SXQ X W fl own i 0 (.Name x p :: es) (xQ0 i g) := by
  obtain ⟨tb, pb, rb⟩ := h2.ex
  refine ⟨_, pa_cons (pe_var hN hv hd hcd) pb hs, fun B Hd0 ρ σ H Hd R Q q => ?_⟩
  unfold xQ0 at q
  cases hi : ρ[i]? with
  | none => rw [hi] at q; exact q.elim
  | some o =>
    cases o with
    | none => rw [hi] at q; exact q.elim
    | some d =>
      rw [hi] at q
      obtain ⟨j, m, hj⟩ := List.any_eq_true.mp ho
      simp only [Bool.and_eq_true, decide_eq_true_eq] at hj
      obtain ⟨A, h1, _⟩ := R.ex
      obtain ⟨v, e1, _⟩ := h1 j m hj.1 d (by rw [hj.2]; exact hi)
      rw [hj.2] at e1
      refine ⟨v, e1, ?_⟩
      refine rb _ _ _ _ _ _ R _ ?_
      unfold xQHere at q
      cases hb : g ρ with
      | bad => rw [hb] at q; exact q
      | ex c fs ρ2 => rw [hb] at q; exact q
      | ok ds ρ2 =>
        rw [hb] at q
        intro vs H2 Hd2 R2 s2 xs
        exact q (v :: vs) H2 Hd2 R2 s2 (.here e1 xs)
theorem sxq_next {i q : Nat} (h : SX X W fl own e f) (h2 : SXQ X W fl own i q es g) (hs : starEach (e :: es) X.env = (false, eval e X.env) :: starEach es X.env := by rfl) : SXQ X W fl own i (q + 1) (e :: es) (xACons f g) := by
  obtain ⟨ta, pa, ra⟩ := h.ex
  obtain ⟨tb, pb, rb⟩ := h2.ex
  refine ⟨_, pa_cons pa pb hs, fun B Hd0 ρ σ H Hd R Q q => ?_⟩
  refine ra _ _ _ _ _ _ R _ ?_
  unfold xACons at q
  cases ha : f ρ with
  | bad => rw [ha] at q; exact q
  | ex c fs ρ1 => rw [ha] at q; exact q
  | ok d ρ1 =>
    rw [ha] at q
    intro v H1 Hd1 R1 s1 x
    rw [Rx.ok_bind] at q
    refine rb _ _ _ _ _ _ R1 _ ?_
    cases hb : g ρ1 with
    | bad => rw [hb] at q; exact q
    | ex c fs ρ2 => rw [hb] at q; exact q
    | ok ds ρ2 =>
      rw [hb] at q
      intro vs H2 Hd2 R2 s2 xs
      exact q (v :: vs) H2 Hd2 R2 (same_tr s1 s2) (.next (dq_mono s2 x) xs)
end
end Wm

set_option Elab.async false
set_option linter.all false
set_option maxRecDepth 100000
/-! WmX2: calls of the layer WmX; defs that change what they are handed; objects. -/
namespace Wm
open PySem PySem.Spec PyProof.Rows L2

/-! ### calls that change nothing, of arguments that do -/
def xCall (n : Nat) (g : List D → Rs D) (fa : En → Rx (List D)) : En → Rx D := fun ρ => (fa ρ).bind fun ds ρ1 => if ds.length = n then rxOf (g ds) ρ1 else .bad
def xBlt (g : List D → Rs D) (fa : En → Rx (List D)) : En → Rx D := fun ρ => (fa ρ).bind fun ds ρ1 => rxOf (g ds) ρ1
theorem DqAll.dv {K : PySem.W.Frag} {H Hd : Hp} : ∀ {vs : List V} {ds : List D}, DqAll K Hd vs ds → DvAll K H Hd vs ds
  | _, _, .nil => .nil
  | _, _, .cons a r => .cons (.inl a) (DqAll.dv r)
section
variable {X : Cx} {W : WX} {fl : Md} {own : List Nat} {k j n : Nat} {x : Str} {gf : List D → Rs D} {e : Expr} {es : List Expr} {fa : En → Rx (List D)} {p pos : Pos} {id : String} {r : List V → Hp → VK → Prop} {g : List D → Rs D}
theorem sx_call (C : Cxt X W k) (F : Cal X.prog X.w X.K X.mg X.base j x false n gf) (ha : SXA X W fl own (e :: es) fa) (hj : j ≤ k := by decide) (hE : okE fl own = true := by rfl) (hg : Gl X x := by rfl) (hdb : (x == ("__debug__" : Str)) = false := by rfl) (he : starEach (e :: es) X.env = (false, eval e X.env) :: starEach es X.env := by rfl) (hpl : (backTo pos (starEach es X.env)).any (·.1) = false := by rfl) :
    SX X W fl own (.Call (.Name x p) (e :: es) [] pos) (xCall n gf fa) := by
  obtain ⟨f, fd, ps, ok, hm, hk, hb⟩ := F.ex
  obtain ⟨ta, pa, ra⟩ := ha.ex
  refine ⟨_, pe_callS ok (C.room.mono hj) hg hm hk hb (fun σ => passAt C.tk σ) pa hdb he hpl, fun B Hd0 ρ σ H Hd R Q q => ?_⟩
  refine ra _ _ _ _ _ _ R _ ?_
  unfold xCall at q
  cases hf : fa ρ with
  | bad => rw [hf] at q; exact q
  | ex c fs ρ1 => rw [hf] at q; exact q
  | ok ds ρ1 =>
    rw [hf] at q
    rw [Rx.ok_bind] at q
    intro vs H1 Hd1 R1 s1 xs
    by_cases hl : ds.length = n
    · rw [if_pos hl] at q
      have q1 := PoX.pe R1 hE (PoX.up q s1)
      refine ⟨by rw [xs.length]; exact hl, ds, Hd1, R1.st.sub, xs, ?_⟩
      cases hg : gf ds with
      | ok d => rw [hg] at q1; exact q1
      | ex c fs => rw [hg] at q1; exact q1
      | bad => rw [hg] at q1; exact q1
    · rw [if_neg hl] at q; exact q.elim
theorem run1x {t : TA} (hr : CalS X r g) (hE : okE fl own = true) (ra : ∀ B Hd0 ρ σ H Hd, Rel X.K B Hd0 own ρ σ H Hd → ∀ Q : List V → Hp → Prop, PoXA X W B Hd0 fl own σ Hd (fa ρ) Q → t σ H Q)
    {B : Bs} {Hd0 : Hp} {ρ : En} {σ : L2.St} {H Hd : Hp} (R : Rel X.K B Hd0 own ρ σ H Hd) {Q : VK} (q : PoX X W B Hd0 fl own σ Hd (xBlt g fa ρ) Q) : tCB r t σ H Q := by
  refine ra _ _ _ _ _ _ R _ ?_
  unfold xBlt at q
  cases ha : fa ρ with
  | bad => rw [ha] at q; exact q
  | ex c fs ρ1 => rw [ha] at q; exact q
  | ok ds ρ1 =>
    rw [ha] at q
    rw [Rx.ok_bind] at q
    intro vs H1 Hd1 R1 s1 xs
    exact hr W σ H1 Hd1 vs ds R1.st.sub xs.dv Q (PoX.pe R1 hE (PoX.up q s1))
theorem sx_blt (hc : CallR X (.builtin id) r) (hr : CalS X r g) (hm : X.mg x = none) (ha : SXA X W fl own (e :: es) fa) (hE : okE fl own = true := by rfl) (hv : bootBuiltins x = some (.builtin id) := by decide +kernel) (hg : Gl X x := by rfl) (hn : x ≠ "__name__" := by decide) (hdb : (x == ("__debug__" : Str)) = false := by rfl)
    (he : starEach (e :: es) X.env = (false, eval e X.env) :: starEach es X.env := by rfl) (hpl : (backTo pos (starEach es X.env)).any (·.1) = false := by rfl) : SX X W fl own (.Call (.Name x p) (e :: es) [] pos) (xBlt g fa) := by
  obtain ⟨ta, pa, ra⟩ := ha.ex
  exact ⟨_, pe_callB hc hg hm hv pa hn hdb he hpl, fun B Hd0 ρ σ H Hd R Q q => run1x hr hE ra R q⟩
theorem sx_bty (hc : CallR X (.type id) r) (hr : CalS X r g) (hm : X.mg x = none) (ha : SXA X W fl own (e :: es) fa) (hE : okE fl own = true := by rfl) (hv : bootBuiltins x = some (.type id) := by decide +kernel) (hg : Gl X x := by rfl) (hn : x ≠ "__name__" := by decide) (hdb : (x == ("__debug__" : Str)) = false := by rfl)
    (he : starEach (e :: es) X.env = (false, eval e X.env) :: starEach es X.env := by rfl) (hpl : (backTo pos (starEach es X.env)).any (·.1) = false := by rfl) : SX X W fl own (.Call (.Name x p) (e :: es) [] pos) (xBlt g fa) := by
  obtain ⟨ta, pa, ra⟩ := ha.ex
  exact ⟨_, pe_callTy hc hg hm hv pa hn hdb he hpl, fun B Hd0 ρ σ H Hd R Q q => run1x hr hE ra R q⟩
end

/-! ### defs that change what they are handed -/
/-- what such a def leads to: its value (or its exception), and what it was handed as it is then -/
inductive Ry where
  | ok (d o : D)
  | ex (c : Str) (fs : List (Str × D)) (o : D)
  | bad
def lessH (H : Hp) (A : List Addr) : Hp := fun a => if a ∈ A then none else H a
theorem lessH_in {H : Hp} {A : List Addr} {a : Addr} (h : a ∈ A) : lessH H A a = none := if_pos h
theorem lessH_out {H : Hp} {A : List Addr} {a : Addr} (h : a ∉ A) : lessH H A a = H a := if_neg h
/-- behind: what was handed in is o now -/
def OvE (K : PySem.W.Frag) (H H' Hd' : Hp) (c : Nat) (A : List Addr) (v0 : V) (o : D) : Prop := ∃ A', Ov K H' Hd' c A' v0 o ∧ ∀ a ∈ A', Hd' a = none ∧ lessH H A a = none ∧ H' a ≠ none
/-- a def of n arguments that changes the one at q (of the kind c) -/
def spX (K : PySem.W.Frag) (mg : Str → Option Value) (c q n : Nat) (g : List D → Ry) : Sp := fun vs H Q E => vs.length = n ∧ ∃ ds Hd A v0 d0, Same Hd H ∧ ds.length = n ∧ (∀ k v, k ≠ q → vs[k]? = some v → ∃ d, ds[k]? = some d ∧ Dq K Hd v d) ∧ vs[q]? = some v0 ∧ ds[q]? = some d0 ∧ Ov K H Hd c A v0 d0 ∧
  (∀ a ∈ A, Hd a = none ∧ H a ≠ none) ∧ match g ds with
  | .ok d o => ∀ v H' Hd', Step (lessH H A) Hd H' Hd' → OvE K H H' Hd' c A v0 o → Dq K Hd' v d → Q v H'
  | .ex x fs o => ∀ cls a H' Hd', Step (lessH H A) Hd H' Hd' → OvE K H H' Hd' c A v0 o → ExR K mg H' Hd' x fs cls a → E cls a H'
  | .bad => False
def outX (q : Nat) (o : Out) : Ry := match o with
  | .nx ρ => (match ρ[q]? with
    | some (some z) => .ok .none z
    | _ => .bad)
  | .rx d ρ => (match ρ[q]? with
    | some (some z) => .ok d z
    | _ => .bad)
  | .ex c fs ρ => (match ρ[q]? with
    | some (some z) => .ex c fs z
    | _ => .bad)
  | _ => .bad
def runX (n q : Nat) (f : En → Out) : List D → Ry := fun ds => outX q (f (ds.map some ++ List.replicate (n - ds.length) none))
/-- the codes of a def that changes its q-th argument -/
abbrev ioC (c q : Nat) : List Nat := [100 * c + q, 1000 + q]
abbrev mdX (c q : Nat) : Md := ⟨false, ioC c q, [], ioC c q⟩
theorem Rel.startX {K : PySem.W.Frag} {H Hd : Hp} {N : List Str} {vs : List V} {ds : List D} {A : List Addr} {c q : Nat} {v0 : V} {d0 : D} (hq : q < 100) (hc : c < 9) (s : Same Hd H) (hl : ds.length = vs.length) (h : ∀ k v, k ≠ q → vs[k]? = some v → ∃ d, ds[k]? = some d ∧ Dq K Hd v d) (hv : vs[q]? = some v0) (hd : ds[q]? = some d0)
    (ov : Ov K H Hd c A v0 d0) (ha : ∀ a ∈ A, Hd a = none ∧ H a ≠ none) : Rel K ⟨lessH H A, fun k => if k = q then some v0 else none⟩ Hd (ioC c q) (ds.map some ++ List.replicate (N.length - ds.length) none) (L2.start N vs) H Hd where
  st := ⟨fun a o e => by
      have e : lessH H A a = some o := e
      by_cases m : a ∈ A
      · rw [lessH_in m] at e; cases e
      · rw [lessH_out m] at e; exact e, s, fun _ _ e => e, fun _ _ => rfl⟩
  len := by unfold L2.start; simp [hl]
  val := fun i d e n n2 => by
    have hi : i < ds.length := by
      by_cases hi : i < ds.length
      · exact hi
      · rw [List.getElem?_append_right (by simp; omega)] at e
        obtain ⟨_, e2⟩ := List.getElem?_eq_some_iff.mp e
        simp at e2
    have niq : i ≠ q := fun z => by
      subst z
      by_cases c0 : c = 0
      · exact n hq (by rw [c0]; simp)
      · have : isObj (ioC c i) i = true := isObj_iff.mpr ⟨100 * c + i, by simp, by omega, by omega, by omega⟩
        rw [this] at n2; cases n2
    rw [List.getElem?_append_left (by simp; exact hi), List.getElem?_map] at e
    have hv' : i < vs.length := by omega
    obtain ⟨d', e1, e2⟩ := h i vs[i] niq (List.getElem?_eq_getElem hv')
    rw [e1] at e
    simp at e
    subst e
    refine ⟨vs[i], ?_, e2⟩
    unfold L2.start
    rw [List.getElem?_append_left (by simp; exact hv'), List.getElem?_map, List.getElem?_eq_getElem hv']
    rfl
  anc := fun i v e => by
    simp only at e
    split at e
    · rename_i z
      subst z
      cases e
      refine ⟨by simp, ?_⟩
      unfold L2.start
      have hv' : i < vs.length := (List.getElem?_eq_some_iff.mp hv).1
      rw [List.getElem?_append_left (by simp; exact hv'), List.getElem?_map, hv]
      rfl
    · cases e
  ex := by
    refine ⟨fun j => if j = 100 * c + q then A else [], fun j m l d e => ?_, fun j m a ma => ?_, fun j k mj mk a aj ak => ?_⟩
    · have hj : j = 100 * c + q := by
        simp only [List.mem_cons, List.not_mem_nil, or_false] at m
        omega
      subst hj
      have e1 : (100 * c + q) % 100 = q := by omega
      have e2 : (100 * c + q) / 100 = c := by omega
      rw [e1] at e
      rw [e1, e2]
      have hi : q < ds.length := (List.getElem?_eq_some_iff.mp hd).1
      have hv' : q < vs.length := (List.getElem?_eq_some_iff.mp hv).1
      rw [List.getElem?_append_left (by simp; exact hi), List.getElem?_map, hd] at e
      simp at e
      subst e
      refine ⟨v0, ?_, by simpa using ov⟩
      unfold L2.start
      rw [List.getElem?_append_left (by simp; exact hv'), List.getElem?_map, hv]
      rfl
    · simp only at ma
      split at ma
      · exact ⟨(ha a ma).1, lessH_in ma, (ha a ma).2⟩
      · cases ma
    · simp only at aj ak
      split at aj
      · split at ak
        · omega
        · cases ak
      · cases aj
/-- what the slot of an argument holds at the end -/
theorem Rel.atX {K : PySem.W.Frag} {H Hd H' Hd' : Hp} {own : List Nat} {ρ : En} {σ : L2.St} {A : List Addr} {c q : Nat} {v0 : V} {z : D} (hq : q < 100) (hc : c < 9) (R : Rel K ⟨lessH H A, fun k => if k = q then some v0 else none⟩ Hd own ρ σ H' Hd') (hio : (ioC c q).all own.contains = true) (hz : ρ[q]? = some (some z)) : OvE K H H' Hd' c A v0 z := by
  obtain ⟨A', h1, h2, _⟩ := R.ex
  have m : 100 * c + q ∈ own := List.contains_iff_mem.mp (List.all_eq_true.mp hio _ (by simp))
  have e1 : (100 * c + q) % 100 = q := by omega
  have e2 : (100 * c + q) / 100 = c := by omega
  obtain ⟨v, w1, w2⟩ := h1 _ m (by omega) z (by rw [e1]; exact hz)
  rw [e1] at w1
  rw [e2] at w2
  have an := (R.anc q v0 (if_pos rfl)).2
  rw [an] at w1
  cases w1
  exact ⟨A' (100 * c + q), w2, fun a ma => h2 _ m a ma⟩
theorem fnok_ofX {P : Program} {w : World} {K : PySem.W.Frag} {mg : Str → Option Value} {base : Heap} {x qual : Str} {st : Stmt} {f : Addr} {fd : FuncData} {N ps : List Str} {k n c q : Nat} {fb : En → Out}
    (F : Fun K x qual st f fd) (S : FnScope N ps (defScope st)) (hn : ps.length = n)
    (body : ∀ (cdv : Value) (A : Around) (outer : List Env) (s : Shared) (H : Hp) (E : XK), Cxt (cxOf (L2.CX P w) P w K mg base N qual (defScope st) f cdv A outer s H E) (fun cls d _ H => E cls d H) k →
      ∃ own', (ioC c q).all own'.contains = true ∧ SSs (cxOf (L2.CX P w) P w K mg base N qual (defScope st) f cdv A outer s H E) (fun cls d _ H => E cls d H) (mdX c q) [] (ioC c q) (defBody st) fb own') (hq : q < 100 := by decide) (hc : c < 9 := by decide) :
    FnOk P w K mg base (L2.CX P w) (k + 1) f fd ps (spX K mg c q n (runX N.length q fb)) := by
  refine F.okX S (fun vs H Q E h => by rw [hn]; exact h.1) (fun cdv A outer s H vs Q E hr h => ?_)
  obtain ⟨hl, ds, Hd, Ad, v0, d0, sub, hld, dp, hv, hd, ov, ha, q0⟩ := h
  have C : Cxt (cxOf (L2.CX P w) P w K mg base N qual (defScope st) f cdv A outer s H E) (fun cls d _ H => E cls d H) k :=
    ⟨rfl, takes_of rfl rfl rfl rfl, passes_of rfl, S.nd, hr⟩
  obtain ⟨own', hio, B⟩ := body cdv A outer s H E C
  obtain ⟨t, p, r⟩ := B.ex
  refine ⟨t, p, r _ Hd _ _ H Hd (Rel.startX (N := N) hq hc sub (by omega) dp hv hd ov ha) _ ?_⟩
  unfold runX outX at q0
  cases hf : fb (ds.map some ++ List.replicate (N.length - ds.length) none) with
  | nx ρ =>
    rw [hf] at q0
    simp only at q0
    cases hz : ρ[q]? with
    | none => rw [hz] at q0; exact q0.elim
    | some o =>
      cases o with
      | none => rw [hz] at q0; exact q0.elim
      | some z =>
        rw [hz] at q0
        intro σ' H' Hd' R
        exact q0 .non H' Hd' R.st (R.atX hq hc hio hz) .non
  | rx d ρ =>
    rw [hf] at q0
    simp only at q0
    cases hz : ρ[q]? with
    | none => rw [hz] at q0; exact q0.elim
    | some o =>
      cases o with
      | none => rw [hz] at q0; exact q0.elim
      | some z =>
        rw [hz] at q0
        intro ow v σ' H' Hd' hio' R x
        exact q0 v H' Hd' R.st (R.atX hq hc hio' hz) x
  | ex cn fs ρ =>
    rw [hf] at q0
    simp only at q0
    cases hz : ρ[q]? with
    | none => rw [hz] at q0; exact q0.elim
    | some o =>
      cases o with
      | none => rw [hz] at q0; exact q0.elim
      | some z =>
        rw [hz] at q0
        intro cls a σ' H' Hd' R x
        have e : (Bs.res ⟨lessH H Ad, fun k => if k = q then some v0 else none⟩ (mdX c q).E) = ⟨lessH H Ad, fun k => if k = q then some v0 else none⟩ := by
          unfold Bs.res
          congr 1
          funext i
          show (if 1000 + i ∈ ioC c q then (if i = q then some v0 else none) else none) = if i = q then some v0 else none
          by_cases hi : i = q
          · rw [if_pos (show 1000 + i ∈ ioC c q by rw [hi]; simp)]
          · rw [if_neg hi]; split <;> rfl
        rw [e] at R
        exact q0 cls a H' Hd' R.st (R.atX hq hc (by simp) hz) x
  | rt d => rw [hf] at q0; exact q0.elim
  | bk ρ => rw [hf] at q0; exact q0.elim
  | ct ρ => rw [hf] at q0; exact q0.elim
  | bad => rw [hf] at q0; exact q0.elim
/-- a def of the module that changes an argument -/
structure CalX (P : Program) (w : World) (K : PySem.W.Frag) (mg : Str → Option Value) (base : Heap) (k : Nat) (x : Str) (c q n : Nat) (g : List D → Ry) : Prop where
  ex : ∃ (f : Addr) (fd : FuncData) (ps : List Str), FnOk P w K mg base (L2.CX P w) k f fd ps (spX K mg c q n g) ∧ mg x = some (.ref f) ∧ PySem.W.keepIn K (.ref f) = true ∧ Binds K fd ps []
theorem calX_of {P : Program} {w : World} {K : PySem.W.Frag} {mg : Str → Option Value} {base : Heap} {x qual : Str} {st : Stmt} {f : Addr} {fd : FuncData} {N ps : List Str} {k n c q : Nat} {fb : En → Out}
    (F : Fun K x qual st f fd) (S : FnScope N ps (defScope st)) (hm : mg x = some (.ref f)) (hb : Binds K fd ps []) (hn : ps.length = n)
    (body : ∀ (cdv : Value) (A : Around) (outer : List Env) (s : Shared) (H : Hp) (E : XK), Cxt (cxOf (L2.CX P w) P w K mg base N qual (defScope st) f cdv A outer s H E) (fun cls d _ H => E cls d H) k →
      ∃ own', (ioC c q).all own'.contains = true ∧ SSs (cxOf (L2.CX P w) P w K mg base N qual (defScope st) f cdv A outer s H E) (fun cls d _ H => E cls d H) (mdX c q) [] (ioC c q) (defBody st) fb own') (hq : q < 100 := by decide) (hc : c < 9 := by decide) :
    CalX P w K mg base (k + 1) x c q n (runX N.length q fb) := ⟨f, fd, ps, fnok_ofX F S hn body hq hc, hm, F.kp, hb⟩
/-! ### the caller's side -/
def ryK (i : Nat) (ρ : En) : Ry → Rx D
  | .ok d o => .ok d (ρ.set i (some o))
  | .ex c fs o => .ex c fs (ρ.set i (some o))
  | .bad => .bad
def oSlot (ρ : En) (i : Nat) (k : D → Rx D) : Rx D := match ρ[i]? with
  | some (some o) => k o
  | _ => .bad
/-- behind such a call -/
theorem Rel.io {K : PySem.W.Frag} {B : Bs} {Hd0 H Hd H' Hd' : Hp} {own : List Nat} {ρ : En} {σ : L2.St} {i c : Nat} {o : D} {v0 : V} {A : Nat → List Addr} (R : Rel K B Hd0 own ρ σ H Hd) (hi : i < 100) (hc : c < 9) (m : 100 * c + i ∈ own) (one : oneC own (100 * c + i) = true)
    (h1 : ∀ j, j ∈ own → j < 1000 → ∀ d, ρ[j % 100]? = some (some d) → ∃ v, σ[j % 100]? = some (some v) ∧ Ov K H Hd (j / 100) (A j) v d) (h2 : ∀ j, j ∈ own → ∀ a ∈ A j, Hd a = none ∧ B.h a = none ∧ H a ≠ none) (h3 : ∀ j k, j ∈ own → k ∈ own → ∀ a, a ∈ A j → a ∈ A k → j = k)
    (hs : σ[i]? = some (some v0)) (t : Step (lessH H (A (100 * c + i))) Hd H' Hd') (x : OvE K H H' Hd' c (A (100 * c + i)) v0 o) : Rel K B Hd0 own (ρ.set i (some o)) σ H' Hd' := by
  obtain ⟨A', x1, x2⟩ := x
  have em : (100 * c + i) % 100 = i := by omega
  have ed : (100 * c + i) / 100 = c := by omega
  have there : ∀ {a : Addr} {o : HO}, a ∉ A (100 * c + i) → H a = some o → H' a = some o := fun n e => t.up _ _ (by rw [lessH_out n]; exact e)
  have old : ∀ {a : Addr}, a ∉ A (100 * c + i) → H a ≠ none → Hd' a = Hd a := fun n e => t.old _ (by rw [lessH_out n]; exact e)
  refine ⟨⟨fun a o e => ?_, t.sub, fun a o e => t.keep a o (R.st.keep a o e), fun a n => ?_⟩, by simp [R.len], fun j e hj n n2 => ?_, R.anc, fun j => if j = 100 * c + i then A' else A j, fun j mj l e h => ?_, fun j mj a ma => ?_, fun j k mj mk a aj ak => ?_⟩
  · have n : a ∉ A (100 * c + i) := fun z => by rw [(h2 _ m a z).2.1] at e; cases e
    exact there n (R.st.up a o e)
  · have na : a ∉ A (100 * c + i) := fun z => n (h2 _ m a z).2.1
    have hH : H a ≠ none := fun z => by
      cases w : B.h a with
      | none => exact n w
      | some o => rw [R.st.up a o w] at z; cases z
    rw [old na hH, R.st.old a n]
  · have z : j ≠ i := fun z => by
      by_cases lt : c = 0
      · exact n (by omega) (by rw [z]; rw [lt] at m; simpa using m)
      · have : isObj own j = true := isObj_iff.mpr ⟨100 * c + i, m, by omega, by omega, by omega⟩
        rw [this] at n2; cases n2
    rw [List.getElem?_set_ne (Ne.symm z)] at hj
    obtain ⟨v, e1, e2⟩ := R.val j e hj n n2
    exact ⟨v, e1, dq_mono t.keep e2⟩
  · by_cases z : j = 100 * c + i
    · subst z
      simp only [if_true]
      rw [em] at h ⊢
      rw [ed]
      have hl : i < ρ.length := by
        have := (List.getElem?_eq_some_iff.mp h).1
        simpa using this
      rw [List.getElem?_set_self hl] at h
      cases h
      exact ⟨v0, hs, x1⟩
    · simp only [if_neg z]
      have z2 : j % 100 ≠ i := fun w => z (oneC_ok one j mj l (by rw [em]; exact w))
      rw [List.getElem?_set_ne (Ne.symm z2)] at h
      obtain ⟨v, e1, e2⟩ := h1 j mj l e h
      exact ⟨v, e1, e2.mono (fun a ma o q => there (fun w => z (h3 j _ mj m a ma w)) q) t.keep⟩
  · by_cases z : j = 100 * c + i
    · simp only [if_pos z] at ma
      obtain ⟨q1, q2, q3⟩ := x2 a ma
      refine ⟨q1, ?_, q3⟩
      by_cases w : a ∈ A (100 * c + i)
      · exact (h2 _ m a w).2.1
      · rw [lessH_out w] at q2
        exact none_of_same R.st.up q2
    · simp only [if_neg z] at ma
      obtain ⟨q1, q2, q3⟩ := h2 j mj a ma
      have w : a ∉ A (100 * c + i) := fun w => z (h3 j _ mj m a ma w)
      refine ⟨by rw [old w q3]; exact q1, q2, fun y => q3 ?_⟩
      cases hw : H a with
      | none => rfl
      | some o => rw [there w hw] at y; cases y
  · have key : ∀ j, j ∈ own → j ≠ 100 * c + i → a ∈ A j → a ∈ A' → False := fun j mj z aj ak => by
      have w : a ∉ A (100 * c + i) := fun w => z (h3 j _ mj m a aj w)
      have := (x2 a ak).2.1
      rw [lessH_out w] at this
      exact (h2 j mj a aj).2.2 this
    by_cases zj : j = 100 * c + i
    · by_cases zk : k = 100 * c + i
      · rw [zj, zk]
      · simp only [if_pos zj] at aj
        simp only [if_neg zk] at ak
        exact (key k mk zk ak aj).elim
    · by_cases zk : k = 100 * c + i
      · simp only [if_neg zj] at aj
        simp only [if_pos zk] at ak
        exact (key j mj zj aj ak).elim
      · simp only [if_neg zj] at aj
        simp only [if_neg zk] at ak
        exact h3 j k mj mk a aj ak
theorem ArgQ.get {K : PySem.W.Frag} {Hd : Hp} {σ : L2.St} {i : Nat} : ∀ {q : Nat} {vs : List V} {ds : List D}, ArgQ K Hd σ i q vs ds → ds.length = vs.length ∧ (∃ v0, vs[q]? = some v0 ∧ σ[i]? = some (some v0)) ∧ ∀ k v, k ≠ q → vs[k]? = some v → ∃ d, ds[k]? = some d ∧ Dq K Hd v d
  | _, _, _, .here e r => ⟨by simp [r.length], ⟨_, rfl, e⟩, fun k v n h => by
      cases k with
      | zero => exact absurd rfl n
      | succ k =>
        have h' := h
        rw [List.getElem?_cons_succ] at h' ⊢
        have hk := (List.getElem?_eq_some_iff.mp h').1
        rw [r.length] at hk
        obtain ⟨v', e1, e2⟩ := r.get (List.getElem?_eq_getElem hk)
        rw [h'] at e1
        cases e1
        exact ⟨_, List.getElem?_eq_getElem hk, e2⟩⟩
  | _, _, _, .next a r => by
      obtain ⟨h1, h2, h3⟩ := ArgQ.get r
      refine ⟨by simp [h1], by obtain ⟨v0, e1, e2⟩ := h2; exact ⟨v0, by simpa using e1, e2⟩, fun k v n h => ?_⟩
      cases k with
      | zero => simp at h; subst h; exact ⟨_, rfl, a⟩
      | succ k =>
        rw [List.getElem?_cons_succ] at h ⊢
        exact h3 k v (fun z => n (by rw [z])) h
/-- f(.., x, ..), x (slot i) changed by f -/
def xIo (i q n : Nat) (g : List D → Ry) (fa : En → Rx (List D)) : En → Rx D := fun ρ => (fa ρ).bind fun ds ρ1 => oSlot ρ1 i fun o => if ds.length = n then ryK i ρ1 (g (ds.set q o)) else .bad
section
variable {X : Cx} {W : WX} {fl : Md} {own : List Nat} {k j n c q i : Nat} {x : Str} {gf : List D → Ry} {e : Expr} {es : List Expr} {fa : En → Rx (List D)} {p pos : Pos}
/-- the promise kept, the caller goes on -/
theorem io_run {B : Bs} {Hd0 H Hd : Hp} {ρ : En} {σ : L2.St} {vs : List V} {ds : List D} {Q : VK} (R : Rel X.K B Hd0 own ρ σ H Hd) (xs : ArgQ X.K Hd σ i q vs ds) (hi : (decide (i < 100) && (decide (c < 9) && (own.contains (100 * c + i) && oneC own (100 * c + i)))) = true) (hE : okE fl own = true)
    (q0 : PoX X W B Hd0 fl own σ Hd (oSlot ρ i fun o => if ds.length = n then ryK i ρ (gf (ds.set q o)) else .bad) Q) : spX X.K X.mg c q n gf vs H Q (WE W σ) := by
  simp only [Bool.and_eq_true, decide_eq_true_eq] at hi
  obtain ⟨hi, hc, m, one⟩ := hi
  have m := List.contains_iff_mem.mp m
  obtain ⟨g1, ⟨v0, g2, g3⟩, g4⟩ := xs.get
  unfold oSlot at q0
  cases hρ : ρ[i]? with
  | none => rw [hρ] at q0; exact q0.elim
  | some o =>
    cases o with
    | none => rw [hρ] at q0; exact q0.elim
    | some o =>
      rw [hρ] at q0
      simp only at q0
      by_cases hl : ds.length = n
      · rw [if_pos hl] at q0
        have em : (100 * c + i) % 100 = i := by omega
        have ed : (100 * c + i) / 100 = c := by omega
        obtain ⟨A, h1, h2, h3⟩ := R.ex
        obtain ⟨v, w1, w2⟩ := h1 _ m (by omega) o (by rw [em]; exact hρ)
        rw [em, g3] at w1
        cases w1
        rw [ed] at w2
        have hql : q < ds.length := by rw [g1]; exact (List.getElem?_eq_some_iff.mp g2).1
        refine ⟨by omega, ds.set q o, Hd, A (100 * c + i), v0, o, R.st.sub, by simp [hl], fun k v n' h => ?_, g2, by rw [List.getElem?_set_self hql], w2, fun a ma => ⟨(h2 _ m a ma).1, (h2 _ m a ma).2.2⟩, ?_⟩
        · rw [List.getElem?_set_ne (Ne.symm n')]
          exact g4 k v n' h
        · cases hg : gf (ds.set q o) with
          | ok d z =>
            rw [hg] at q0
            exact fun v H' Hd' t y x => q0 v H' Hd' (R.io hi hc m one h1 h2 h3 g3 t y) t.keep x
          | ex cn fs z =>
            rw [hg] at q0
            intro cls a H' Hd' t y x
            obtain ⟨Hd'', R', up⟩ := (R.io hi hc m one h1 h2 h3 g3 t y).exc hE
            exact q0 cls a H' Hd'' R' (x.mono (fun _ _ z => z) up)
          | bad => rw [hg] at q0; exact q0.elim
      · rw [if_neg hl] at q0; exact q0.elim
theorem sx_io (C : Cxt X W k) (F : CalX X.prog X.w X.K X.mg X.base j x c q n gf) (ha : SXQ X W fl own i q (e :: es) fa) (hj : j ≤ k := by decide) (hi : (decide (i < 100) && (decide (c < 9) && (own.contains (100 * c + i) && oneC own (100 * c + i)))) = true := by rfl) (hE : okE fl own = true := by rfl) (hg : Gl X x := by rfl) (hdb : (x == ("__debug__" : Str)) = false := by rfl)
    (he : starEach (e :: es) X.env = (false, eval e X.env) :: starEach es X.env := by rfl) (hpl : (backTo pos (starEach es X.env)).any (·.1) = false := by rfl) :
    SX X W fl own (.Call (.Name x p) (e :: es) [] pos) (xIo i q n gf fa) := by
  obtain ⟨f, fd, ps, ok, hm, hk, hb⟩ := F.ex
  obtain ⟨ta, pa, ra⟩ := ha.ex
  refine ⟨_, pe_callS ok (C.room.mono hj) hg hm hk hb (fun σ => passAt C.tk σ) pa hdb he hpl, fun B Hd0 ρ σ H Hd R Q q0 => ?_⟩
  refine ra _ _ _ _ _ _ R _ ?_
  unfold xIo at q0
  cases hf : fa ρ with
  | bad => rw [hf] at q0; exact q0
  | ex cn fs ρ1 => rw [hf] at q0; exact q0
  | ok ds ρ1 =>
    rw [hf] at q0
    rw [Rx.ok_bind] at q0
    intro vs H1 Hd1 R1 s1 xs
    exact io_run R1 xs hi hE (PoX.up q0 s1)
end
end Wm

set_option Elab.async false
set_option linter.all false
set_option maxRecDepth 100000
/-! WmX3: statements of the layer WmX; fields, methods, new objects. -/
namespace Wm
open PySem PySem.Spec PyProof.Rows L2

def oBindX {α : Type} (r : Rx α) (k : α → En → Out) : Out := match r with
  | .ok d ρ => k d ρ
  | .ex c fs ρ => .ex c fs ρ
  | .bad => .bad
section
variable {α : Type} (a : α) (ρ : En) (c : Str) (fs : List (Str × D)) (k : α → En → Out)
@[simp] theorem oBindX_ok : oBindX (.ok a ρ) k = k a ρ := nrfl rfl
@[simp] theorem oBindX_ex : oBindX (.ex c fs ρ : Rx α) k = .ex c fs ρ := nrfl rfl
@[simp] theorem oBindX_bad : oBindX (.bad : Rx α) k = .bad := nrfl rfl
end
def sSetX (i : Nat) (f : En → Rx D) : En → Out := fun ρ => oBindX (f ρ) fun d ρ1 => .nx (ρ1.set i (some d))
def sExprX (f : En → Rx D) : En → Out := fun ρ => oBindX (f ρ) fun _ ρ1 => .nx ρ1
def sRetX (f : En → Rx D) : En → Out := fun ρ => oBindX (f ρ) fun d _ => .rt d
def sRx (f : En → Rx D) : En → Out := fun ρ => oBindX (f ρ) fun d ρ1 => .rx d ρ1
def sIfX (c : En → Rx Bool) (f g : En → Out) : En → Out := fun ρ => oBindX (c ρ) fun b ρ1 => if b = true then f ρ1 else g ρ1
def whileX (c : En → Rx Bool) (body : En → Out) : Nat → En → Out
  | 0, _ => .bad
  | n + 1, ρ => oBindX (c ρ) fun b ρ1 => if b = true then oLoop (body ρ1) (whileX c body n) else .nx ρ1
def sWhileX (c : En → Rx Bool) (body : En → Out) : En → Out := fun ρ => whileX c body fuelW ρ
def sAppX (i : Nat) (f : En → Rx D) : En → Out := fun ρ => oL (getL ρ i) fun _ => oBindX (f ρ) fun d ρ1 => oL (getL ρ1 i) fun ds => if ds.length < sizeLine then .nx (ρ1.set i (some (.list (ds ++ [d])))) else .bad
def sAugX (i : Nat) (g : D → D → Rs D) (f : En → Rx D) : En → Out := fun ρ => oBind (eVar i ρ) ρ fun x => oBindX (f ρ) fun y ρ1 => oBind (g x y) ρ1 fun d => .nx (ρ1.set i (some d))
def sUnpX (g : D → En → Rs En) (f : En → Rx D) : En → Out := fun ρ => oBindX (f ρ) fun d ρ1 => oStore (g d ρ1) .nx
section
variable {X : Cx} {W : WX} {fl : Md} {L own own' : List Nat} {e : Expr} {f : En → Rx D} {pos pos' apos cpos : Pos}
theorem ss_setX (i : Nat) {x : Str} (h : SX X W fl own e f) (hN : X.N.Nodup) (hi : X.N[i]? = some x := by rfl) (hx : Loc X.env.scope x := by first | exact Or.inl rfl | exact Or.inr rfl) (hs : swapsWith e (some (.Name x pos')) pos.line X.env = pure false := by rfl) (hf : X.fn x = true ∨ X.env.scope.names.lookup x = some .local := by first | exact .inl rfl | exact .inr rfl) (hk : own.contains (1000 + i) = false := by rfl) :
    SS X W fl L own (.Assign [.Name x pos'] e pos) (sSetX i f) (drp own i) := by
  obtain ⟨t, p, r⟩ := h.ex
  refine ⟨_, ps_set hN hi hx p hs hf, fun B Hd0 ρ σ H Hd R Dn q => ?_⟩
  refine r _ _ _ _ _ _ R _ ?_
  unfold sSetX at q
  cases he : f ρ with
  | ok d ρ1 => rw [he] at q; exact fun v H' Hd' R' s x => q _ _ _ (R'.set x (ncon hk))
  | ex c fs ρ1 => rw [he] at q; exact fun cls a H' Hd' R' x => q cls a σ H' Hd' R' x
  | bad => rw [he] at q; exact q
theorem ss_exprX (h : SX X W fl own e f) (hs : swapsWith e none pos.line X.env = pure false := by rfl) : SS X W fl L own (.Expr e pos) (sExprX f) own := by
  obtain ⟨t, p, r⟩ := h.ex
  refine ⟨_, ps_expr p hs, fun B Hd0 ρ σ H Hd R Dn q => ?_⟩
  refine r _ _ _ _ _ _ R _ ?_
  unfold sExprX at q
  cases he : f ρ with
  | ok d ρ1 => rw [he] at q; exact fun v H' Hd' R' s x => q _ _ _ R'
  | ex c fs ρ1 => rw [he] at q; exact fun cls a H' Hd' R' x => q cls a σ H' Hd' R' x
  | bad => rw [he] at q; exact q
/-- return of a def that changes nothing that it was handed -/
theorem ss_retX (h : SX X W fl own e f) (hn : fl.nw = false := by rfl) : SS X W fl L own (.Return (some e) pos) (sRetX f) own' := by
  obtain ⟨t, p, r⟩ := h.ex
  refine ⟨_, ps_ret p, fun B Hd0 ρ σ H Hd R Dn q => ?_⟩
  refine r _ _ _ _ _ _ R _ ?_
  unfold sRetX at q
  cases he : f ρ with
  | ok d ρ1 => rw [he] at q; have q := PoR.at q hn; exact fun v H' Hd' R' s x => q v H' Hd' R'.st x
  | ex c fs ρ1 => rw [he] at q; exact fun cls a H' Hd' R' x => q cls a σ H' Hd' R' x
  | bad => rw [he] at q; exact q
/-- return of a def that changes what it was handed -/
theorem ss_rx (h : SX X W fl own e f) (hio : fl.io.all own.contains = true := by rfl) : SS X W fl L own (.Return (some e) pos) (sRx f) own' := by
  obtain ⟨t, p, r⟩ := h.ex
  refine ⟨_, ps_ret p, fun B Hd0 ρ σ H Hd R Dn q => ?_⟩
  refine r _ _ _ _ _ _ R _ ?_
  unfold sRx at q
  cases he : f ρ with
  | ok d ρ1 => rw [he] at q; exact fun v H' Hd' R' s x => q own v σ H' Hd' hio R' x
  | ex c fs ρ1 => rw [he] at q; exact fun cls a H' Hd' R' x => q cls a σ H' Hd' R' x
  | bad => rw [he] at q; exact q
theorem ss_ifX {c : Expr} {fc : En → Rx Bool} {as bs : List Stmt} {f g : En → Out} (hc : SXC X W fl own c fc) (ha : SSs X W fl L own as f own') (hb : SSs X W fl L own bs g own') : SS X W fl L own (.If c as bs pos) (sIfX fc f g) own' := by
  obtain ⟨tc, pc, rc⟩ := hc.ex
  obtain ⟨ta, pa, ra⟩ := ha.ex
  obtain ⟨tb, pb, rb⟩ := hb.ex
  refine ⟨_, ps_if pc pa pb, fun B Hd0 ρ σ H Hd R Dn q => ?_⟩
  refine rc _ _ _ _ _ _ R _ ?_
  unfold sIfX at q
  cases he : fc ρ with
  | ok d ρ1 =>
    rw [he] at q
    intro H' Hd' R' s
    cases d with
    | true => exact ra _ _ _ _ _ _ R' Dn q
    | false => exact rb _ _ _ _ _ _ R' Dn q
  | ex c fs ρ1 => rw [he] at q; exact fun cls a H' Hd' R' x => q cls a σ H' Hd' R' x
  | bad => rw [he] at q; exact q
theorem ss_whileX {c : Expr} {fc : En → Rx Bool} {body : List Stmt} {fb : En → Out} (hp : PassesOwn (model X.prog X.w) X.A X.env X.xe) (hc : SXC X W fl own c fc) (hb : SSs X W fl own own body fb own) : SS X W fl L own (.While c body [] pos) (sWhileX fc fb) own := by
  obtain ⟨tc, pc, rc⟩ := hc.ex
  obtain ⟨tb, pb, rb⟩ := hb.ex
  refine ⟨_, ps_while hp pc pb, fun B Hd0 ρ σ H Hd R Dn q => ?_⟩
  refine ⟨fun m σ' H' => ∃ ρ' Hd', Rel X.K B Hd0 own ρ' σ' H' Hd' ∧ PoS X W B Hd0 fl L own Dn (whileX fc fb m ρ'), ⟨fuelW, ρ, Hd, R, q⟩, ?_⟩
  rintro m σ' H' ⟨ρ', Hd', R', q'⟩
  refine rc _ _ _ _ _ _ R' _ ?_
  cases m with
  | zero => exact q'.elim
  | succ m =>
    unfold whileX oBindX oLoop at q'
    cases hcd : fc ρ' with
    | bad => simp only [hcd] at q'; exact q'
    | ex c fs ρ1 => simp only [hcd] at q'; exact fun cls a H' Hd' R' x => q' cls a σ' H' Hd' R' x
    | ok b ρ1 =>
      intro H1 Hd1 R1 s1
      cases b with
      | false => simp only [hcd] at q'; exact q' _ _ _ R1
      | true =>
        simp only [hcd] at q'
        rw [if_pos rfl]
        refine ⟨fun σ2 H2 => ∃ ρ2 Hd2, Rel X.K B Hd0 own ρ2 σ2 H2 Hd2 ∧ PoS X W B Hd0 fl L own Dn (whileX fc fb m ρ2), fun σ2 H2 ⟨ρ2, Hd2, r2, q2⟩ => ⟨m, by omega, ρ2, Hd2, r2, q2⟩, ?_⟩
        refine rb _ _ _ _ _ _ R1 _ ?_
        cases hbd : fb ρ1 with
        | nx ρ2 => simp only [hbd] at q'; exact fun σ4 H4 Hd4 R4 => ⟨ρ2, Hd4, R4, q'⟩
        | ct ρ2 => simp only [hbd] at q'; exact fun σ4 H4 Hd4 R4 => ⟨ρ2, Hd4, R4, q'⟩
        | bk ρ2 => simp only [hbd] at q'; exact q'
        | rt d => simp only [hbd] at q'; exact PoR.same (fl := fl) q' rfl
        | ex c fs ρ2 => simp only [hbd] at q'; exact q'
        | bad => simp only [hbd] at q'; exact q'
        | rx d ρ2 => simp only [hbd] at q'; exact q'
/-- x.append(e) -/
theorem ss_appX (i : Nat) {x : Str} (h : SX X W fl own e f) (ho : (own.contains i && decide (i < 100)) = true := by rfl) (one : oneC own i = true := by rfl) (hN : X.N[i]? = some x := by rfl) (hv : Vis X.env.scope x := by first | exact Or.inl rfl | exact Or.inr (Or.inl rfl) | exact Or.inr (Or.inr rfl))
    (hd : (x == ("__debug__" : Str)) = false := by rfl) (hcd : (x == ("__classdict__" : Str)) = false := by rfl)
    (hbase : attributeBase (.Name x pos') "append" X.env (eval (.Name x pos') X.env) = eval (.Name x pos') X.env := by rfl)
    (hfew : ((backTo cpos (starEach [e] X.env)).all (fun x => !x.1) && (backToKw cpos (keywordEach [] X.env)).all (fun x => x.1.isSome)
      && decide ([e].length + ([] : List Keyword).length + (if ([] : List Keyword).isEmpty then 0 else 1) < 30)) = true := by rfl)
    (hline : (apos.endLine == cpos.line) = true := by rfl) (hs : starEach [e] X.env = (false, eval e X.env) :: starEach [] X.env := by rfl) (hplain : (backTo cpos (starEach [] X.env)).any (·.1) = false := by rfl)
    (hsw : swapsWith (.Call (.Attribute (.Name x pos') "append" apos) [e] [] cpos) none pos.line X.env = pure false := by rfl) :
    SS X W fl L own (.Expr (.Call (.Attribute (.Name x pos') "append" apos) [e] [] cpos) pos) (sAppX i f) own := by
  obtain ⟨t, p, r⟩ := h.ex
  refine ⟨_, ps_expr (pe_bm PySem.F.plainAttrs_list PySem.F.slot_list_append PySem.F.type_list_append (r := rAppend) (fun pins s σ H x xs v us Q I rx rxs h => mt_append pins s σ H x xs v us Q I rx rxs h) (pe_var hN hv hd hcd) (pa_cons p pa_nil hs) hbase hfew hline hs hplain) hsw, fun B Hd0 ρ σ H Hd R Dn q => ?_⟩
  unfold sAppX oL at q
  cases hg : getL ρ i with
  | none => rw [hg] at q; exact q.elim
  | some ds0 =>
    rw [hg] at q
    obtain ⟨a, vs, h2, h3, h4, h5⟩ := own_at R ho (getL_some hg)
    refine ⟨.ref a, h2, .inl ⟨rfl, vs, .inl (.inl h3)⟩, ?_⟩
    refine r _ _ _ _ _ _ R _ ?_
    cases he : f ρ with
    | bad => rw [he] at q; exact q
    | ex c fs ρ1 => rw [he] at q; exact fun cls a H' Hd' R' x => q cls a σ H' Hd' R' x
    | ok d ρ1 =>
      rw [he] at q
      simp only [oBindX_ok] at q
      intro v H1 Hd1 R1 s1 x
      cases hg1 : getL ρ1 i with
      | none => rw [hg1] at q; exact q.elim
      | some ds =>
        rw [hg1] at q
        simp only at q
        split at q
        · rename_i hl
          obtain ⟨a', vs', k2, k3, k4, k5⟩ := own_at R1 ho (getL_some hg1)
          rw [h2] at k2
          cases k2
          exact ⟨a, vs', v, rfl, rfl, k3, by rw [k5.length]; exact hl, q _ _ _ (R1.mut (List.contains_iff_mem.mp (Bool.and_eq_true_iff.mp ho).1) (of_decide_eq_true (Bool.and_eq_true_iff.mp ho).2) one (getL_some hg1) h2 (k5.append (.cons x .nil)))⟩
        · exact q.elim
/-- x op= e -/
theorem ss_augX (i : Nat) {x : Str} {op : Operator} {r : R2} {g : D → D → Rs D} (hop : OpR X (inplaceOp op) r) (hr : OpS X r g) (h : SX X W fl own e f) (hN : X.N.Nodup) (ho : (own.contains i || isObj own i) = false := by rfl) (hi : X.N[i]? = some x := by rfl) (hx : Loc X.env.scope x := by first | exact Or.inl rfl | exact Or.inr rfl)
    (hf : X.fn x = true ∨ X.env.scope.names.lookup x = some .local := by first | exact .inl rfl | exact .inr rfl) (hk : own.contains (1000 + i) = false := by rfl) (hE : okE fl own = true := by rfl) :
    SS X W fl L own (.AugAssign (.Name x pos') op e pos) (sAugX i g f) (drp own i) := by
  obtain ⟨t, p, rr⟩ := h.ex
  refine ⟨_, ps_aug hN hi hx p (ti := r) (fun pins s σ H x y v u Q I rx ry q => hop pins s σ H x y v u Q I rx ry q) hf, fun B Hd0 ρ σ H Hd R Dn q => ?_⟩
  unfold sAugX eVar at q
  cases hi : ρ[i]? with
  | none => rw [hi] at q; exact q.elim
  | some o =>
    cases o with
    | none => rw [hi] at q; exact q.elim
    | some d =>
      rw [hi] at q
      simp only [oBind_ok] at q
      obtain ⟨v, h1, h2⟩ := R.val i d hi (by intro _ h; rw [List.contains_iff_mem.mpr h] at ho; cases ho) (Bool.or_eq_false_iff.mp ho).2
      refine ⟨v, h1, rr _ _ _ _ _ _ R _ ?_⟩
      cases he : f ρ with
      | bad => rw [he] at q; exact q.elim
      | ex c fs ρ1 => rw [he] at q; exact fun cls a H' Hd' R' x => q cls a σ H' Hd' R' x
      | ok y ρ1 =>
        rw [he] at q
        simp only [oBindX_ok] at q
        intro w H1 Hd1 R1 s1 z
        refine hr W σ H1 Hd1 v w d y R1.st.sub (.inl (dq_mono s1 h2)) (.inl z) _ ?_
        cases hg : g d y with
        | bad => rw [hg] at q; exact q.elim
        | ex c fs => rw [hg] at q; exact fun cls a H' Hd' s x => exc_of R1 q s x hE
        | ok d2 => rw [hg] at q; exact fun u H2 Hd2 s2 z2 => q _ _ _ ((R1.step s2).set z2 (ncon hk))
theorem ss_unpX {tg : Expr} {g : D → En → Rs En} {vs : List Nat} (h : SX X W fl own e f) (hg : SG X own tg g own' vs) (hs : swapsWithSole [tg] e pos.line X.env = pure false := by rfl) (hw : swappedStores [tg] e X.env = pure none := by rfl)
    (h1 : (assignEach [tg] X.env).map (·.2) = [assign tg X.env] := by rfl) : SS X W fl L own (.Assign [tg] e pos) (sUnpX g f) own' := by
  obtain ⟨t, p, r⟩ := h.ex
  obtain ⟨t2, p2, r2⟩ := hg.ex
  refine ⟨_, ps_asg p p2 hs hw h1, fun B Hd0 ρ σ H Hd R Dn q => ?_⟩
  refine r _ _ _ _ _ _ R _ ?_
  unfold sUnpX oStore at q
  cases he : f ρ with
  | bad => rw [he] at q; exact q
  | ex c fs ρ1 => rw [he] at q; exact fun cls a H' Hd' R' x => q cls a σ H' Hd' R' x
  | ok d ρ1 =>
    rw [he] at q
    simp only [oBindX_ok] at q
    intro v H1 Hd1 R1 s1 x
    cases hgt : g d ρ1 with
    | bad => rw [hgt] at q; exact q.elim
    | ex c fs => rw [hgt] at q; exact q.elim
    | ok ρ' =>
      rw [hgt] at q
      exact r2 _ _ _ _ _ _ R1 v d x ρ' hgt _ fun σ' R' _ _ => q _ _ _ R'
end
/-! ### objects -/
/-- what is known of a class -/
structure ClsT (K : PySem.W.Frag) (mg : Str → Option Value) (c : Nat) (C : Addr) : Prop where
  ns : PySem.W.nsIn K mainGlobals (cN c).1 = some (some (.ref C))
  mg : mg (cN c).1 = some (.ref C)
  cl : Cls K C
  no : ∀ f ∈ (cN c).2, NoAttr K C f
section
variable {K : PySem.W.Frag}
theorem zip_at : ∀ {names : List Str} {vs : List V} {j : Nat} {f : Str} {v : V}, names.Nodup → names[j]? = some f → vs[j]? = some v → (List.zip names vs).lookup f = some v
  | [], _, _, _, _, _, h, _ => by simp at h
  | _ :: _, [], _, _, _, _, _, h => by simp at h
  | n :: ns, w :: ws, 0, f, v, _, h1, h2 => by
    simp at h1 h2
    subst h1 h2
    rw [List.zip_cons_cons]
    simp [List.lookup]
  | n :: ns, w :: ws, j + 1, f, v, nd, h1, h2 => by
    rw [List.getElem?_cons_succ] at h1 h2
    have ne : f ≠ n := fun z => by
      subst z
      exact (List.nodup_cons.mp nd).1 (List.mem_of_getElem? h1)
    rw [List.zip_cons_cons]
    have : (f == n) = false := by simpa using ne
    rw [List.lookup_cons, this]
    exact zip_at (List.nodup_cons.mp nd).2 h1 h2
theorem zip_no : ∀ {names : List Str} {vs : List V} {f : Str}, f ∉ names → (List.zip names vs).lookup f = none
  | [], _, _, _ => by simp [List.lookup]
  | _ :: _, [], _, _ => by simp [List.lookup]
  | n :: ns, w :: ws, f, h => by
    have ne : (f == n) = false := by simpa using (fun z => h (by rw [z]; exact List.mem_cons_self) : f ≠ n)
    rw [List.zip_cons_cons, List.lookup_cons, ne]
    exact zip_no fun z => h (List.mem_cons_of_mem _ z)
theorem putF_set : ∀ {names : List Str} {vs : List V} {j : Nat} {f : Str} {v : V}, names.Nodup → names[j]? = some f → vs.length = names.length → putF f v (List.zip names vs) = List.zip names (vs.set j v)
  | [], _, _, _, _, _, h, _ => by simp at h
  | _ :: _, [], _, _, _, _, _, h => by simp at h
  | n :: ns, w :: ws, 0, f, v, _, h1, h2 => by
    simp at h1
    subst h1
    rw [List.zip_cons_cons]
    show putF n v ((n, w) :: List.zip ns ws) = _
    unfold putF
    simp
  | n :: ns, w :: ws, j + 1, f, v, nd, h1, h2 => by
    rw [List.getElem?_cons_succ] at h1
    have ne : n ≠ f := fun z => by
      subst z
      exact (List.nodup_cons.mp nd).1 (List.mem_of_getElem? h1)
    rw [List.zip_cons_cons]
    show putF f v ((n, w) :: List.zip ns ws) = _
    unfold putF
    rw [if_neg ne, putF_set (List.nodup_cons.mp nd).2 h1 (by simpa using h2)]
    rfl
theorem putF_new : ∀ {names : List Str} {vs : List V} {f : Str} {v : V}, f ∉ names → vs.length = names.length → putF f v (List.zip names vs) = List.zip (names ++ [f]) (vs ++ [v])
  | [], [], _, _, _, _ => rfl
  | [], _ :: _, _, _, _, h => by simp at h
  | _ :: _, [], _, _, _, h => by simp at h
  | n :: ns, w :: ws, f, v, h1, h2 => by
    have ne : n ≠ f := fun z => h1 (by rw [z]; exact List.mem_cons_self)
    rw [List.zip_cons_cons]
    show putF f v ((n, w) :: List.zip ns ws) = _
    unfold putF
    rw [if_neg ne, putF_new (fun z => h1 (List.mem_cons_of_mem _ z)) (by simpa using h2)]
    rfl
end
/-- the fields of the object in slot i -/
def getO (ρ : En) (i : Nat) : Option (List D) := match ρ[i]? with
  | some (some (.tuple ds)) => some ds
  | _ => none
theorem getO_some {ρ : En} {i : Nat} {ds : List D} (h : getO ρ i = some ds) : ρ[i]? = some (some (.tuple ds)) := by
  unfold getO at h
  split at h
  · cases h; assumption
  · cases h
/-- x.f, no list -/
def eFld (i j : Nat) : En → Rs D := fun ρ => match getO ρ i with
  | some ds => (match ds[j]? with
    | some (.list _) => .bad
    | some d => .ok d
    | none => .bad)
  | none => .bad
/-- x.f = d -/
def sFldK (i j : Nat) (d : D) (ρ : En) : Out := match getO ρ i, d with
  | some ds, .list _ => .bad
  | some ds, d => if j < ds.length then (match ds[j]? with
      | some (.list _) => .bad
      | _ => .nx (ρ.set i (some (.tuple (ds.set j d))))) else if j = ds.length then .nx (ρ.set i (some (.tuple (ds ++ [d])))) else .bad
  | none, _ => .bad
def sFldX (i j : Nat) (f : En → Rx D) : En → Out := fun ρ => oBindX (f ρ) fun d ρ1 => sFldK i j d ρ1
/-- x.f op= e -/
def sFldAugX (i j : Nat) (g : D → D → Rs D) (fe : En → Rs D) : En → Out := fun ρ => oBind (eFld i j ρ) ρ fun a => oBind (fe ρ) ρ fun b => oBind (g a b) ρ fun d => sFldK i j d ρ
section
variable {K : PySem.W.Frag} {H Hd : Hp}
theorem FvAll.get {A : List Addr} {vs : List V} {ds : List D} (h : FvAll K H Hd A vs ds) : ∀ {j : Nat} {d : D}, ds[j]? = some d → (∀ l, d ≠ .list l) → ∃ v, vs[j]? = some v ∧ Dq K Hd v d := by
  induction h with
  | nil => intro j d e; simp at e
  | still n q _ ih =>
    intro j d e nl
    cases j with
    | zero => simp at e; subst e; exact ⟨_, rfl, q⟩
    | succ j => rw [List.getElem?_cons_succ] at e ⊢; exact ih e nl
  | own q dq _ ih =>
    intro j d e nl
    cases j with
    | zero => simp at e; subst e; exact absurd rfl (nl _)
    | succ j => rw [List.getElem?_cons_succ] at e ⊢; exact ih e nl
theorem FvAll.set {A : List Addr} {vs : List V} {ds : List D} (h : FvAll K H Hd A vs ds) {w : V} {z : D} (x : Dq K Hd w z) (nz : ∀ l, z ≠ .list l) : ∀ {j : Nat}, (∀ l, ds[j]? ≠ some (.list l)) → FvAll K H Hd A (vs.set j w) (ds.set j z) := by
  induction h with
  | nil => intro j _; exact .nil
  | still n q r ih =>
    intro j nl
    cases j with
    | zero => exact .still nz x r
    | succ j => exact .still n q (ih fun l => by have := nl l; rwa [List.getElem?_cons_succ] at this)
  | own q dq r ih =>
    intro j nl
    cases j with
    | zero => exact absurd rfl (nl _)
    | succ j => exact .own q dq (ih fun l => by have := nl l; rwa [List.getElem?_cons_succ] at this)
theorem FvAll.snoc {A : List Addr} {vs : List V} {ds : List D} (h : FvAll K H Hd A vs ds) {w : V} {z : D} (x : Dq K Hd w z) (nz : ∀ l, z ≠ .list l) : FvAll K H Hd A (vs ++ [w]) (ds ++ [z]) := by
  induction h with
  | nil => exact .still nz x .nil
  | still n q _ ih => exact .still n q ih
  | own q dq _ ih => exact .own q dq ih
end
theorem nd_idx {α : Type} : ∀ {l : List α} {i j : Nat} {a : α}, l.Nodup → l[i]? = some a → l[j]? = some a → i = j
  | [], _, _, _, _, h, _ => by simp at h
  | _ :: _, 0, 0, _, _, _, _ => rfl
  | x :: l, 0, j + 1, a, nd, h1, h2 => by
    simp at h1
    subst h1
    rw [List.getElem?_cons_succ] at h2
    exact absurd (List.mem_of_getElem? h2) (List.nodup_cons.mp nd).1
  | x :: l, i + 1, 0, a, nd, h1, h2 => by
    simp at h2
    subst h2
    rw [List.getElem?_cons_succ] at h1
    exact absurd (List.mem_of_getElem? h1) (List.nodup_cons.mp nd).1
  | x :: l, i + 1, j + 1, a, nd, h1, h2 => by
    rw [List.getElem?_cons_succ] at h1 h2
    rw [nd_idx (List.nodup_cons.mp nd).2 h1 h2]
/-- the object in slot i -/
theorem Rel.obj {K : PySem.W.Frag} {B : Bs} {Hd0 H Hd : Hp} {own : List Nat} {ρ : En} {σ : L2.St} {i c : Nat} {ds : List D} (R : Rel K B Hd0 own ρ σ H Hd) (hi : i < 100) (h0 : c + 1 < 9) (m : 100 * (c + 1) + i ∈ own) (h : ρ[i]? = some (some (.tuple ds))) :
    ∃ p C dx vs A', σ[i]? = some (some (.ref p)) ∧ PySem.W.nsIn K mainGlobals (cN (c + 1)).1 = some (some (.ref C)) ∧ H p = some (.ins C dx (List.zip ((cN (c + 1)).2.take ds.length) vs)) ∧ H dx = some (.own p) ∧ ds.length ≤ (cN (c + 1)).2.length ∧ FvAll K H Hd A' vs ds := by
  obtain ⟨A, h1, _⟩ := R.ex
  have em : (100 * (c + 1) + i) % 100 = i := by omega
  have ed : (100 * (c + 1) + i) / 100 = c + 1 := by omega
  obtain ⟨v, w1, w2⟩ := h1 _ m (by omega) _ (by rw [em]; exact h)
  rw [em] at w1
  rw [ed] at w2
  obtain ⟨p, C, dx, vs, ds', A', e1, e2, e3, e4, e5, e6, e7, e8, e9⟩ := w2
  cases e2
  subst e1
  exact ⟨p, C, dx, vs, A', w1, e4, e5, e6, e7, e8⟩
/-- a field is stored -/
theorem Rel.fld {K : PySem.W.Frag} {B : Bs} {Hd0 H Hd : Hp} {own : List Nat} {ρ : En} {σ : L2.St} {i c j : Nat} {ds : List D} {p C dx : Addr} {fs : List (Str × V)} {f : Str} {d : D} {v : V} (R : Rel K B Hd0 own ρ σ H Hd) (hi : i < 100) (h0 : c + 1 < 9) (m : 100 * (c + 1) + i ∈ own) (one : oneC own (100 * (c + 1) + i) = true) (h : ρ[i]? = some (some (.tuple ds)))
    (hs : σ[i]? = some (some (.ref p))) (hp : H p = some (.ins C dx fs)) (hf : (cN (c + 1)).2[j]? = some f) (nd : (cN (c + 1)).2.Nodup) (x : Dq K Hd v d) (nz : ∀ l, d ≠ .list l) (hj : (j < ds.length ∧ ∀ l, ds[j]? ≠ some (.list l)) ∨ j = ds.length) :
    Rel K B Hd0 own (ρ.set i (some (.tuple (if j < ds.length then ds.set j d else ds ++ [d])))) σ (upd H p (.ins C dx (putF f v fs))) Hd := by
  have em : (100 * (c + 1) + i) % 100 = i := by omega
  have ed : (100 * (c + 1) + i) / 100 = c + 1 := by omega
  have key := R.change (d := .tuple (if j < ds.length then ds.set j d else ds ++ [d])) (v := .ref p) (H' := upd H p (.ins C dx (putF f v fs))) (A0 := []) m (by omega) (oneC_ok one) (fun A h1 h2 => by
    obtain ⟨v', w1, w2⟩ := h1 _ m (by omega) _ (by rw [em]; exact h)
    rw [em, hs] at w1
    cases w1
    rw [ed] at w2
    obtain ⟨p', C', dx', vs, ds', A', e1, e2, e3, e4, e5, e6, e7, e8, e9⟩ := w2
    cases e1
    cases e2
    rw [hp] at e5
    cases e5
    have npd : dx ≠ p := fun z => by rw [z, hp] at e6; cases e6
    have npA : ∀ a ∈ A', a ≠ p := fun a ma z => by
      obtain ⟨ws, q⟩ := e8.there a ma
      rw [z, hp] at q; cases q
    have hl : vs.length = ds.length := e8.len
    have ll : ((cN (c + 1)).2.take ds.length).length = ds.length := by rw [List.length_take]; omega
    have jl : j < (cN (c + 1)).2.length := (List.getElem?_eq_some_iff.mp hf).1
    refine ⟨p :: dx :: A', ⟨.ref p, by rw [em]; exact hs, ?_⟩, fun b nb => ?_, fun b mb => by rw [e3]; exact mb, fun b nb => ?_⟩
    · rw [ed]
      refine ⟨p, C, dx, if j < ds.length then vs.set j v else vs ++ [v], _, A', rfl, rfl, rfl, e4, ?_, by rw [upd_ne npd]; exact e6, ?_, ?_, e9⟩
      · rw [upd_same]
        rcases hj with ⟨hj, _⟩ | hj
        · rw [if_pos hj, if_pos hj, List.length_set]
          rw [putF_set (j := j) (List.Nodup.sublist (List.take_sublist _ _) nd) (by rw [List.getElem?_take_of_lt hj]; exact hf) (by rw [hl, ll])]
        · have nj : ¬ j < ds.length := by omega
          rw [if_neg nj, if_neg nj, List.length_append, List.length_singleton]
          rw [putF_new (fun z => ?_) (by rw [hl, ll])]
          · congr 4
            rw [← hj, List.take_add_one, hf]
            rfl
          · -- the name is none of those ahead
            obtain ⟨k, hk⟩ := List.getElem?_of_mem z
            have kl : k < ds.length := by
              have := (List.getElem?_eq_some_iff.mp hk).1
              omega
            rw [List.getElem?_take_of_lt kl] at hk
            have := nd_idx nd hk hf
            omega
      · rcases hj with ⟨hj, _⟩ | hj
        · rw [if_pos hj, List.length_set]; exact e7
        · rw [if_neg (by omega), List.length_append, List.length_singleton]; omega
      · rcases hj with ⟨hj, nl⟩ | hj
        · rw [if_pos hj, if_pos hj]; exact (e8.mono (fun a ma o q => by rw [upd_ne (npA a ma)]; exact q) fun _ _ q => q).set x nz nl
        · have nj : ¬ j < ds.length := by omega
          rw [if_neg nj, if_neg nj]; exact (e8.mono (fun a ma o q => by rw [upd_ne (npA a ma)]; exact q) fun _ _ q => q).snoc x nz
    · rw [e3] at nb
      rw [upd_ne fun z => nb (by rw [z]; exact List.mem_cons_self)]
    · by_cases z : b = p
      · subst z; rw [upd_same] at nb; cases nb
      · rw [upd_ne z] at nb; exact nb)
  rw [em] at key
  exact key
def okO (own : List Nat) (c i : Nat) : Bool := decide (i < 100) && (decide (c + 1 < 9) && (own.contains (100 * (c + 1) + i) && oneC own (100 * (c + 1) + i)))
theorem okO_of {own : List Nat} {c i : Nat} (h : okO own c i = true) : i < 100 ∧ c + 1 < 9 ∧ 100 * (c + 1) + i ∈ own ∧ oneC own (100 * (c + 1) + i) = true := by
  unfold okO at h
  simp only [Bool.and_eq_true, decide_eq_true_eq] at h
  exact ⟨h.1, h.2.1, List.contains_iff_mem.mp h.2.2.1, h.2.2.2⟩
section
variable {X : Cx} {W : WX} {fl : Md} {L own : List Nat} {e : Expr} {f : En → Rx D} {pos pos' pos2 : Pos} {C : Addr} {c i j : Nat} {x fn : Str}
theorem se_fld (c i j : Nat) (T : ClsT X.K X.mg (c + 1) C) (ho : okO own c i = true := by rfl) (hf : (cN (c + 1)).2[j]? = some fn := by rfl) (nd : (cN (c + 1)).2.Nodup := by decide +kernel) (hN : X.N[i]? = some x := by rfl) (hv : Vis X.env.scope x := by first | exact Or.inl rfl | exact Or.inr (Or.inl rfl) | exact Or.inr (Or.inr rfl))
    (hd : (x == ("__debug__" : Str)) = false := by rfl) (hcd : (x == ("__classdict__" : Str)) = false := by rfl) (hb : attributeBase (.Name x pos') fn X.env (eval (.Name x pos') X.env) = eval (.Name x pos') X.env := by rfl) : SE X W own (.Attribute (.Name x pos') fn pos) (eFld i j) := by
  obtain ⟨hi, h0, m, one⟩ := okO_of ho
  refine ⟨_, pe_fld (pe_var hN hv hd hcd) hb, fun B Hd0 ρ σ H Hd R Q q => ?_⟩
  unfold eFld at q
  cases hg : getO ρ i with
  | none => rw [hg] at q; exact q.elim
  | some ds =>
    rw [hg] at q
    simp only at q
    obtain ⟨p, C', dx, vs, A', s1, s2, s3, s4, s5, s6⟩ := R.obj hi h0 m (getO_some hg)
    rw [T.ns] at s2
    cases s2
    cases hz : ds[j]? with
    | none => rw [hz] at q; exact q.elim
    | some d =>
      rw [hz] at q
      have nl : ∀ l, d ≠ .list l := fun l z => by subst z; exact q.elim
      obtain ⟨v, v1, v2⟩ := s6.get hz nl
      have jl : j < ds.length := (List.getElem?_eq_some_iff.mp hz).1
      have q' : PoE X W σ H Hd (.ok d) Q := by
        cases d with
        | list l => exact absurd rfl (nl l)
        | none => exact q
        | bool _ => exact q
        | int _ => exact q
        | str _ => exact q
        | tuple _ => exact q
        | dict _ => exact q
      exact ⟨.ref p, s1, p, C, dx, _, v, rfl, s3, T.cl, T.no fn (List.mem_of_getElem? hf), zip_at (List.Nodup.sublist (List.take_sublist _ _) nd) (by rw [List.getElem?_take_of_lt jl]; exact hf) v1, q' v H Hd (.refl R.st.sub) v2⟩
theorem sFldK_run {B : Bs} {Hd0 H Hd : Hp} {ρ : En} {σ : L2.St} {d : D} {v : V} {Dn : Ends} (R : Rel X.K B Hd0 own ρ σ H Hd) (T : ClsT X.K X.mg (c + 1) C) (ho : okO own c i = true) (hf : (cN (c + 1)).2[j]? = some fn) (nd : (cN (c + 1)).2.Nodup) (x : Dq X.K Hd v d) (q : PoS X W B Hd0 fl L own Dn (sFldK i j d ρ)) :
    ∃ p, σ[i]? = some (some (.ref p)) ∧ ∃ dx fs, H p = some (.ins C dx fs) ∧ Cls X.K C ∧ NoAttr X.K C fn ∧ fs.length < 1000 ∧ Dn.nx σ (upd H p (.ins C dx (putF fn v fs))) := by
  obtain ⟨hi, h0, m, one⟩ := okO_of ho
  unfold sFldK at q
  cases hg : getO ρ i with
  | none => rw [hg] at q; exact q.elim
  | some ds =>
    rw [hg] at q
    obtain ⟨p, C', dx, vs, A', s1, s2, s3, s4, s5, s6⟩ := R.obj hi h0 m (getO_some hg)
    rw [T.ns] at s2
    cases s2
    have nz : ∀ l, d ≠ .list l := fun l z => by subst z; exact q.elim
    have q' : PoS X W B Hd0 fl L own Dn (if j < ds.length then (match ds[j]? with
      | some (.list _) => .bad
      | _ => .nx (ρ.set i (some (.tuple (ds.set j d))))) else if j = ds.length then .nx (ρ.set i (some (.tuple (ds ++ [d])))) else .bad) := by
      cases d with
      | list l => exact absurd rfl (nz l)
      | none => exact q
      | bool _ => exact q
      | int _ => exact q
      | str _ => exact q
      | tuple _ => exact q
      | dict _ => exact q
    have lf : (List.zip ((cN (c + 1)).2.take ds.length) vs).length < 1000 := by
      rw [List.length_zip, List.length_take]
      have : (cN (c + 1)).2.length ≤ 2 := by
        match c with
        | 0 => decide
        | 1 => decide
        | _ + 2 => exact Nat.zero_le _
      omega
    refine ⟨p, s1, dx, _, s3, T.cl, T.no fn (List.mem_of_getElem? hf), lf, ?_⟩
    by_cases hj : j < ds.length
    · rw [if_pos hj] at q'
      have nl : ∀ l, ds[j]? ≠ some (.list l) := fun l z => by rw [z] at q'; exact q'.elim
      have q'' : PoS X W B Hd0 fl L own Dn (.nx (ρ.set i (some (.tuple (ds.set j d))))) := by
        split at q'
        · exact q'.elim
        · exact q'
      have key := R.fld hi h0 m one (getO_some hg) s1 s3 hf nd x nz (.inl ⟨hj, nl⟩)
      rw [if_pos hj] at key
      exact q'' _ _ _ key
    · rw [if_neg hj] at q'
      by_cases hj2 : j = ds.length
      · rw [if_pos hj2] at q'
        have key := R.fld hi h0 m one (getO_some hg) s1 s3 hf nd x nz (.inr hj2)
        rw [if_neg hj] at key
        exact q' _ _ _ key
      · rw [if_neg hj2] at q'; exact q'.elim
theorem ss_fldX (c i j : Nat) (T : ClsT X.K X.mg (c + 1) C) (h : SX X W fl own e f) (ho : okO own c i = true := by rfl) (hf : (cN (c + 1)).2[j]? = some fn := by rfl) (nd : (cN (c + 1)).2.Nodup := by decide +kernel) (hN : X.N[i]? = some x := by rfl) (hv : Vis X.env.scope x := by first | exact Or.inl rfl | exact Or.inr (Or.inl rfl) | exact Or.inr (Or.inr rfl))
    (hd : (x == ("__debug__" : Str)) = false := by rfl) (hcd : (x == ("__classdict__" : Str)) = false := by rfl) (hs : swapsWith e (some (.Attribute (.Name x pos') fn pos2)) pos.line X.env = pure false := by rfl) :
    SS X W fl L own (.Assign [.Attribute (.Name x pos') fn pos2] e pos) (sFldX i j f) own := by
  obtain ⟨t, p, r⟩ := h.ex
  refine ⟨_, ps_fld (pe_var hN hv hd hcd) p hs, fun B Hd0 ρ σ H Hd R Dn q => ?_⟩
  refine r _ _ _ _ _ _ R _ ?_
  unfold sFldX at q
  cases he : f ρ with
  | bad => rw [he] at q; exact q
  | ex cn fs ρ1 => rw [he] at q; exact fun cls a H' Hd' R' x => q cls a σ H' Hd' R' x
  | ok d ρ1 =>
    rw [he] at q
    simp only [oBindX_ok] at q
    intro v H1 Hd1 R1 s1 x
    obtain ⟨p, k1, dx, fs, k2, k3, k4, k5, k6⟩ := sFldK_run R1 T ho hf nd x q
    exact ⟨.ref p, k1, p, C, dx, fs, rfl, k2, k3, k4, k5, k6⟩
theorem inop_of {op : Operator} {r : R2} (hop : OpR X (inplaceOp op) r) : InOp X op r := fun pins s σ H x y u v Q I rx ry h => hop pins s σ H x y u v Q I rx ry h
theorem ss_fldAugX (c i j : Nat) {op : Operator} {r : R2} {g : D → D → Rs D} {fe : En → Rs D} (T : ClsT X.K X.mg (c + 1) C) (hop : OpR X (inplaceOp op) r) (hr : OpS X r g) (h : SE X W own e fe) (ho : okO own c i = true := by rfl) (hE : okE fl own = true := by rfl) (hf : (cN (c + 1)).2[j]? = some fn := by rfl) (nd : (cN (c + 1)).2.Nodup := by decide +kernel) (hN : X.N[i]? = some x := by rfl) (hv : Vis X.env.scope x := by first | exact Or.inl rfl | exact Or.inr (Or.inl rfl) | exact Or.inr (Or.inr rfl))
    (hd : (x == ("__debug__" : Str)) = false := by rfl) (hcd : (x == ("__classdict__" : Str)) = false := by rfl) :
    SS X W fl L own (.AugAssign (.Attribute (.Name x pos') fn pos2) op e pos) (sFldAugX i j g fe) own := by
  obtain ⟨hi, h0, m, one⟩ := okO_of ho
  obtain ⟨t, p, rr⟩ := h.ex
  refine ⟨_, ps_fldaug (pe_var hN hv hd hcd) p (inop_of hop), fun B Hd0 ρ σ H Hd R Dn q => ?_⟩
  unfold sFldAugX eFld at q
  cases hg : getO ρ i with
  | none => rw [hg] at q; exact q.elim
  | some ds =>
    rw [hg] at q
    simp only at q
    obtain ⟨p, C', dx, vs, A', s1, s2, s3, s4, s5, s6⟩ := R.obj hi h0 m (getO_some hg)
    rw [T.ns] at s2
    cases s2
    cases hz : ds[j]? with
    | none => rw [hz] at q; exact q.elim
    | some d =>
      rw [hz] at q
      have nl : ∀ l, d ≠ .list l := fun l z => by subst z; exact q.elim
      obtain ⟨v, v1, v2⟩ := s6.get hz nl
      have jl : j < ds.length := (List.getElem?_eq_some_iff.mp hz).1
      have q' : PoS X W B Hd0 fl L own Dn (oBind (fe ρ) ρ fun b => oBind (g d b) ρ fun d => sFldK i j d ρ) := by
        cases d with
        | list l => exact absurd rfl (nl l)
        | none => exact q
        | bool _ => exact q
        | int _ => exact q
        | str _ => exact q
        | tuple _ => exact q
        | dict _ => exact q
      refine ⟨.ref p, s1, p, C, dx, _, v, rfl, s3, T.cl, T.no fn (List.mem_of_getElem? hf), zip_at (List.Nodup.sublist (List.take_sublist _ _) nd) (by rw [List.getElem?_take_of_lt jl]; exact hf) v1, ?_⟩
      refine rr _ _ _ _ _ _ R _ ?_
      cases he : fe ρ with
      | bad => rw [he] at q'; exact q'.elim
      | ex cn fs => rw [he] at q'; exact fun cls a H' Hd' s x => exc_of R q' s x hE
      | ok y =>
        rw [he] at q'
        simp only [oBind_ok] at q'
        intro w H1 Hd1 t1 z
        refine hr W σ H1 Hd1 v w d y t1.sub (.inl (dq_mono t1.keep v2)) (.inl z) _ ?_
        cases hgd : g d y with
        | bad => rw [hgd] at q'; exact q'.elim
        | ex cn fs => rw [hgd] at q'; exact fun cls a H' Hd' s x => exc_of (R.step t1) q' s x hE
        | ok d2 =>
          rw [hgd] at q'
          intro u H2 Hd2 t2 z2
          obtain ⟨p', k1, dx', fs', k2, k3, k4, k5, k6⟩ := sFldK_run ((R.step t1).step t2) T ho hf nd z2 q'
          rw [s1] at k1
          cases k1
          exact ⟨dx', fs', k2, k5, k6⟩
end
end Wm

set_option Elab.async false
set_option linter.all false
set_option maxRecDepth 100000
/-! WmX4: methods, new objects. -/
namespace Wm
open PySem PySem.Spec PyProof.Rows L2

/-- a slot takes what is new and its own -/
theorem Rel.setNew {K : PySem.W.Frag} {H0 : Bs} {Hd0 H Hd H' Hd' : Hp} {own : List Nat} {ρ : En} {σ : L2.St} {i c : Nat} {d : D} {v : V} {B : List Addr} (R : Rel K H0 Hd0 own ρ σ H Hd) (s : Step H Hd H' Hd') (b1 : Ov K H' Hd' c B v d) (b2 : ∀ a ∈ B, Hd' a = none ∧ H a = none ∧ H' a ≠ none) (hk : (1000 + i) ∉ own) (hi : i < 100) (hc : c < 9) :
    Rel K H0 Hd0 ((100 * c + i) :: drp own i) (ρ.set i (some d)) (σ.set i (some v)) H' Hd' where
  st := R.st.trans s
  len := by simp [R.len]
  val := fun j e h n n2 => by
    have z : j ≠ i := fun z => by
      by_cases c0 : c = 0
      · exact n (by omega) (by rw [z, c0]; simp)
      · have : isObj ((100 * c + i) :: drp own i) j = true := isObj_iff.mpr ⟨100 * c + i, List.mem_cons_self, by omega, by omega, by omega⟩
        rw [this] at n2; cases n2
    rw [List.getElem?_set_ne (Ne.symm z)] at h
    rw [List.getElem?_set_ne (Ne.symm z)]
    have n3 : isObj (drp own i) j = false := by
      cases w : isObj (drp own i) j with
      | false => rfl
      | true =>
        obtain ⟨k, m, a1, a2, a3⟩ := isObj_iff.mp w
        have : isObj ((100 * c + i) :: drp own i) j = true := isObj_iff.mpr ⟨k, List.mem_cons_of_mem _ m, a1, a2, a3⟩
        rw [this] at n2; cases n2
    exact (R.step s).val j e h (fun c m => n c (List.mem_cons_of_mem _ (mem_drp.mpr ⟨m, .inr (by rw [Nat.mod_eq_of_lt c]; exact z)⟩))) (isObj_drp n3 z)
  anc := fun k w h => by
    obtain ⟨h1, h2⟩ := R.anc k w h
    refine ⟨List.mem_cons_of_mem _ (mem_drp.mpr ⟨h1, .inl (by omega)⟩), ?_⟩
    rw [List.getElem?_set_ne (fun z => hk (by rw [z]; exact h1))]
    exact h2
  ex := by
    have b3 : ∀ a ∈ B, H0.h a = none := fun a m => none_of_same R.st.up (b2 a m).2.1
    obtain ⟨A, g1, g2, h3⟩ := R.ex
    have h1 : ∀ j, j ∈ own → j < 1000 → ∀ d, ρ[j % 100]? = some (some d) → ∃ v, σ[j % 100]? = some (some v) ∧ Ov K H' Hd' (j / 100) (A j) v d := fun j m l d e => by
      obtain ⟨v, e1, e2⟩ := g1 j m l d e
      exact ⟨v, e1, e2.mono (fun a _ o q => s.up a o q) s.keep⟩
    have h2 : ∀ j, j ∈ own → ∀ a ∈ A j, Hd' a = none ∧ H0.h a = none ∧ H' a ≠ none ∧ H a ≠ none := fun j m a ma => by
      obtain ⟨q1, q2, q3⟩ := g2 j m a ma
      refine ⟨by rw [s.old a q3]; exact q1, q2, fun z => q3 ?_, q3⟩
      cases w : H a with
      | none => rfl
      | some o => rw [s.up a o w] at z; cases z
    have em : (100 * c + i) % 100 = i := by omega
    have ed : (100 * c + i) / 100 = c := by omega
    refine ⟨fun j => if j = 100 * c + i then B else A j, fun j m l e h => ?_, fun j m a ma => ?_, fun j k mj mk a aj ak => ?_⟩
    · by_cases z : j = 100 * c + i
      · subst z
        rw [em] at h ⊢
        have hl : i < ρ.length := by
          have := (List.getElem?_eq_some_iff.mp h).1
          simpa using this
        rw [List.getElem?_set_self hl] at h
        cases h
        refine ⟨v, by rw [List.getElem?_set_self (by rw [← R.len]; exact hl)], ?_⟩
        rw [ed]
        simp only [if_true]
        exact b1
      · rcases List.mem_cons.mp m with m | m
        · exact absurd m z
        obtain ⟨m1, z2⟩ := mem_drp.mp m
        have z2 : j % 100 ≠ i := z2.resolve_left (by omega)
        rw [List.getElem?_set_ne (Ne.symm z2)] at h
        rw [List.getElem?_set_ne (Ne.symm z2)]
        simp only [if_neg z]
        exact h1 j m1 l e h
    · by_cases z : j = 100 * c + i
      · simp only [if_pos z] at ma
        obtain ⟨q1, q2, q3⟩ := b2 a ma
        exact ⟨q1, b3 a ma, q3⟩
      · simp only [if_neg z] at ma
        rcases List.mem_cons.mp m with m | m
        · exact absurd m z
        obtain ⟨q1, q2, q3, _⟩ := h2 j (mem_drp.mp m).1 a ma
        exact ⟨q1, q2, q3⟩
    · by_cases zj : j = 100 * c + i
      · by_cases zk : k = 100 * c + i
        · rw [zj, zk]
        · simp only [if_pos zj] at aj
          simp only [if_neg zk] at ak
          rcases List.mem_cons.mp mk with m | m
          · exact absurd m zk
          exact absurd (b2 a aj).2.1 (h2 k (mem_drp.mp m).1 a ak).2.2.2
      · simp only [if_neg zj] at aj
        rcases List.mem_cons.mp mj with m | m
        · exact absurd m zj
        by_cases zk : k = 100 * c + i
        · simp only [if_pos zk] at ak
          exact absurd (b2 a ak).2.1 (h2 j (mem_drp.mp m).1 a aj).2.2.2
        · simp only [if_neg zk] at ak
          rcases List.mem_cons.mp mk with m' | m'
          · exact absurd m' zk
          exact h3 j k (mem_drp.mp m).1 (mem_drp.mp m').1 a aj ak
/-! ### methods -/
section
variable {X : Cx} {CX : CXT} {k : Nat} {f C : Addr} {fd : FuncData} {ps : List Str} {sp : Sp} {E : L2.St → XK} {x m : Str} {p pos apos : Pos} {e o : Expr} {es : List Expr} {ta : TE} {t : TA}
def tMethW (C : Addr) (m : Str) (sp : Sp) (E : L2.St → XK) (ta : TE) (t : TA) : TE := fun σ H Q => ta σ H fun x H1 => ∃ a dx fs, x = .ref a ∧ H1 a = some (.ins C dx fs) ∧ fs.lookup m = none ∧ t σ H1 fun vs H2 => sp (x :: vs) H2 Q (E σ)
theorem pe_methW {pl : Sem Bool} (he : PE X o ta) (c : Cls X.K C) (hm : Meth X.K C m f) (F : FnOk X.prog X.w X.K X.mg X.base CX k f fd ps sp) (hr : Room k X.A) (hb : Binds X.K fd ps []) (hx : ∀ σ, PassesAt CX X σ (E σ)) (ha : PA X (e :: es) t)
    (hst : starEach (e :: es) X.env = (false, eval e X.env) :: starEach es X.env := by rfl) (hpl : (backTo pos (starEach es X.env)).any (·.1) = false := by rfl)
    (ht : eval (.Call (.Attribute o m apos) (e :: es) [] pos) X.env = (do
      let ov ← eval o X.env
      standAt apos.atName
      let (f, first) ← holding [ov] (getMethod ov m pl)
      callWith pos f first (backTo pos (starEach (e :: es) X.env)) (backToKw pos (keywordEach [] X.env))) := by rfl) :
    PE X (.Call (.Attribute o m apos) (e :: es) [] pos) (tMethW C m sp E ta t) := by
  refine ⟨fun pins s σ H Q I h => ?_⟩
  refine PySem.W.methodCall_KW (pl := pl) (thn (he.run pins s σ H _ I h) fun u s1 ⟨x, H1, I1, rx, a, dx, fs, ex, ea, l, q⟩ => ?_) ht
  subst ex
  obtain rfl : u = Value.ref a := rx
  refine getmeth_ok I1 ea c hm l ?_
  refine PySem.W.callWith_K (first := [.ref a]) (h₀ := X.base) I.ok.mod.kin hm.kp (thn (ha.run pos pins s1 σ H1 _ I1 q) fun us s2 ⟨vs, H2, I2, r, q2⟩ => ⟨I2.kIn, ?_⟩) hst hpl
  exact run_fnS (us := .ref a :: us) (vs := .ref a :: vs) F hr hb (hx σ) I2 (.cons rfl r) q2
theorem pe_methW0 {pl : Sem Bool} (he : PE X o ta) (c : Cls X.K C) (hm : Meth X.K C m f) (F : FnOk X.prog X.w X.K X.mg X.base CX k f fd ps sp) (hr : Room k X.A) (hb : Binds X.K fd ps []) (hx : ∀ σ, PassesAt CX X σ (E σ))
    (ht : eval (.Call (.Attribute o m apos) [] [] pos) X.env = (do
      let ov ← eval o X.env
      standAt apos.atName
      let (f, first) ← holding [ov] (getMethod ov m pl)
      callWith pos f first (backTo pos (starEach [] X.env)) (backToKw pos (keywordEach [] X.env))) := by rfl) :
    PE X (.Call (.Attribute o m apos) [] [] pos) (tMethW C m sp E ta tNil) := by
  refine ⟨fun pins s σ H Q I h => ?_⟩
  refine PySem.W.methodCall_KW (pl := pl) (thn (he.run pins s σ H _ I h) fun u s1 ⟨x, H1, I1, rx, a, dx, fs, ex, ea, l, q⟩ => ?_) ht
  subst ex
  obtain rfl : u = Value.ref a := rx
  refine getmeth_ok I1 ea c hm l ?_
  exact PySem.W.callWith_K0 (first := [.ref a]) I1.kIn hm.kp (run_fnS (us := [.ref a]) (vs := [.ref a]) F hr hb (hx σ) I1 (.cons rfl .nil) q)
def tMakeW (C : Addr) (sp : Sp) (E : L2.St → XK) (t : TA) : TE := fun σ H Q => t σ H fun vs H1 => ∀ x dx, H1 x = none → H1 dx = none → dx ≠ x →
  sp (.ref x :: vs) (upd (upd H1 dx (.own x)) x (.ins C dx [])) (fun v H2 => v = .non ∧ Q (.ref x) H2) (E σ)
theorem pe_makeW (M : Mk X.K C f) (F : FnOk X.prog X.w X.K X.mg X.base CX k f fd ps sp) (hr : Room (k + 1) X.A) (hg : Gl X x) (hm : X.mg x = some (.ref C)) (hb : Binds X.K fd ps []) (hx : ∀ σ, PassesAt CX X σ (E σ))
    (ha : PA X (e :: es) t) (hdb : (x == ("__debug__" : Str)) = false := by decide) (he : starEach (e :: es) X.env = (false, eval e X.env) :: starEach es X.env := by rfl) (hpl : (backTo pos (starEach es X.env)).any (·.1) = false := by rfl) :
    PE X (.Call (.Name x p) (e :: es) [] pos) (tMakeW C sp E t) := by
  refine ⟨fun pins s σ H Q I h => ?_⟩
  refine wpAny_Call_Name_kw (ld_glob I hg hm ?_ hdb)
  refine PySem.W.callWith_K (h₀ := X.base) I.ok.mod.kin M.kp (thn (ha.run pos pins s σ H _ I h) fun us s1 ⟨vs, H1, I1, r, q⟩ => ⟨I1.kIn, ?_⟩) he hpl
  have hq := q (s1.heap.objs.size + 1) s1.heap.objs.size (I1.hok.fresh (Nat.le_succ _)) (I1.hok.fresh (Nat.le_refl _)) (Nat.ne_of_lt (Nat.lt_succ_self _))
  have I2 := Inv.made (C := C) I1
  have r2 : Vals (V.ref (s1.heap.objs.size + 1) :: vs) (Value.ref (s1.heap.objs.size + 1) :: us) := .cons rfl r
  have hl : ((Value.ref (s1.heap.objs.size + 1) :: us) ++ ([] : List Value)).length = ps.length := by
    rw [List.append_nil]
    have e := r2.length
    rw [F.len _ _ _ _ hq] at e
    exact e.symm
  have bnd := hb _ (Value.ref (s1.heap.objs.size + 1) :: us) I2.kIn hl
  rw [List.append_nil] at bnd
  refine wpAny_call (make_map (f := f) I1.kIn M.makes M.init (beq_iff_eq.mp M.fn) (codeAny_mono (F.run _ X.stack _ _ ⟨Value.ref (s1.heap.objs.size + 1) :: us, []⟩ (Value.ref (s1.heap.objs.size + 1) :: us) _ _ (E σ) (hr.make C us [])
    (I2.env0.make C us []) bnd r2 hq) fun r s' hq' => ?_))
  cases r with
  | error e => exact hx σ pins _ _ e s' I2 hq'
  | ok fl =>
    cases fl with
    | ret u =>
      obtain ⟨v, H', I3, rv, ev, q3⟩ := I2.after hq'
      subst ev
      exact ⟨rv, ⟨V.ref (s1.heap.objs.size + 1), H', I3, rfl, q3⟩⟩
    | next => exact False.elim hq'
    | brk => exact False.elim hq'
    | cont => exact False.elim hq'
end
/-- a method that may change its object -/
structure CalMt (P : Program) (w : World) (K : PySem.W.Frag) (mg : Str → Option Value) (base : Heap) (k : Nat) (C : Addr) (m : Str) (c n : Nat) (g : List D → Ry) : Prop where
  ex : ∃ (f : Addr) (fd : FuncData) (ps : List Str), FnOk P w K mg base (L2.CX P w) k f fd ps (spX K mg c 0 n g) ∧ Meth K C m f ∧ Binds K fd ps []
theorem calMt_of {P : Program} {w : World} {K : PySem.W.Frag} {mg : Str → Option Value} {base : Heap} {C : Addr} {m x qual : Str} {st : Stmt} {f : Addr} {fd : FuncData} {N ps : List Str} {k n c : Nat} {fb : En → Out}
    (F : Fun K x qual st f fd) (S : FnScope N ps (defScope st)) (hm : Meth K C m f) (hb : Binds K fd ps []) (hn : ps.length = n)
    (body : ∀ (cdv : Value) (A : Around) (outer : List Env) (s : Shared) (H : Hp) (E : XK), Cxt (cxOf (L2.CX P w) P w K mg base N qual (defScope st) f cdv A outer s H E) (fun cls d _ H => E cls d H) k →
      ∃ own', (ioC c 0).all own'.contains = true ∧ SSs (cxOf (L2.CX P w) P w K mg base N qual (defScope st) f cdv A outer s H E) (fun cls d _ H => E cls d H) (mdX c 0) [] (ioC c 0) (defBody st) fb own') (hc : c < 9 := by decide) :
    CalMt P w K mg base (k + 1) C m c n (runX N.length 0 fb) := ⟨f, fd, ps, fnok_ofX F S hn body (by decide) hc, hm, hb⟩
/-- how a class is made: its __init__ -/
structure CalI (P : Program) (w : World) (K : PySem.W.Frag) (mg : Str → Option Value) (base : Heap) (k : Nat) (C : Addr) (c n : Nat) (g : List D → Ry) : Prop where
  ex : ∃ (f : Addr) (fd : FuncData) (ps : List Str), FnOk P w K mg base (L2.CX P w) k f fd ps (spX K mg c 0 n g) ∧ Mk K C f ∧ Binds K fd ps []
theorem calI_of {P : Program} {w : World} {K : PySem.W.Frag} {mg : Str → Option Value} {base : Heap} {C : Addr} {x qual : Str} {st : Stmt} {f : Addr} {fd : FuncData} {N ps : List Str} {k n c : Nat} {fb : En → Out}
    (F : Fun K x qual st f fd) (S : FnScope N ps (defScope st)) (hm : Mk K C f) (hb : Binds K fd ps []) (hn : ps.length = n)
    (body : ∀ (cdv : Value) (A : Around) (outer : List Env) (s : Shared) (H : Hp) (E : XK), Cxt (cxOf (L2.CX P w) P w K mg base N qual (defScope st) f cdv A outer s H E) (fun cls d _ H => E cls d H) k →
      ∃ own', (ioC c 0).all own'.contains = true ∧ SSs (cxOf (L2.CX P w) P w K mg base N qual (defScope st) f cdv A outer s H E) (fun cls d _ H => E cls d H) (mdX c 0) [] (ioC c 0) (defBody st) fb own') (hc : c < 9 := by decide) :
    CalI P w K mg base (k + 1) C c n (runX N.length 0 fb) := ⟨f, fd, ps, fnok_ofX F S hn body (by decide) hc, hm, hb⟩
def xMe (i n : Nat) (g : List D → Ry) (fa : En → Rx (List D)) : En → Rx D := fun ρ => match getO ρ i with
  | some _ => (fa ρ).bind fun ds ρ1 => oSlot ρ1 i fun o => if ds.length + 1 = n then ryK i ρ1 (g (o :: ds)) else .bad
  | none => .bad
section
variable {X : Cx} {W : WX} {fl : Md} {own : List Nat} {k j n c i : Nat} {x m : Str} {C : Addr} {gf : List D → Ry} {e : Expr} {es : List Expr} {fa : En → Rx (List D)} {p pos apos : Pos} {pl : Sem Bool}
theorem me_run {B : Bs} {Hd0 H Hd : Hp} {ρ : En} {σ : L2.St} {vs : List V} {ds : List D} {Q : VK} {v0 : V} (R : Rel X.K B Hd0 own ρ σ H Hd) (hv : σ[i]? = some (some v0)) (xs : DqAll X.K Hd vs ds) (ho : okO own c i = true) (hE : okE fl own = true)
    (q0 : PoX X W B Hd0 fl own σ Hd (oSlot ρ i fun o => if ds.length + 1 = n then ryK i ρ (gf (o :: ds)) else .bad) Q) : spX X.K X.mg (c + 1) 0 n gf (v0 :: vs) H Q (WE W σ) := by
  obtain ⟨hi, h0, m, one⟩ := okO_of ho
  refine io_run (i := i) (ds := .none :: ds) R (.here hv xs) ?_ hE ?_
  · simp only [Bool.and_eq_true, decide_eq_true_eq]
    exact ⟨hi, h0, List.contains_iff_mem.mpr m, one⟩
  · exact q0
theorem sx_meth (c i : Nat) (T : ClsT X.K X.mg (c + 1) C) (Cc : Cxt X W k) (F : CalMt X.prog X.w X.K X.mg X.base j C m (c + 1) n gf) (ha : SXA X W fl own (e :: es) fa) (hj : j ≤ k := by decide) (ho : okO own c i = true := by rfl) (hE : okE fl own = true := by rfl) (hm : m ∉ (cN (c + 1)).2 := by decide +kernel) (hN : X.N[i]? = some x := by rfl) (hv : Vis X.env.scope x := by first | exact Or.inl rfl | exact Or.inr (Or.inl rfl) | exact Or.inr (Or.inr rfl))
    (hd : (x == ("__debug__" : Str)) = false := by rfl) (hcd : (x == ("__classdict__" : Str)) = false := by rfl)
    (hst : starEach (e :: es) X.env = (false, eval e X.env) :: starEach es X.env := by rfl) (hpl : (backTo pos (starEach es X.env)).any (·.1) = false := by rfl)
    (ht : eval (.Call (.Attribute (.Name x p) m apos) (e :: es) [] pos) X.env = (do
      let ov ← eval (.Name x p) X.env
      standAt apos.atName
      let (f, first) ← holding [ov] (getMethod ov m pl)
      callWith pos f first (backTo pos (starEach (e :: es) X.env)) (backToKw pos (keywordEach [] X.env))) := by rfl) :
    SX X W fl own (.Call (.Attribute (.Name x p) m apos) (e :: es) [] pos) (xMe i n gf fa) := by
  obtain ⟨f, fd, ps, ok, hM, hb⟩ := F.ex
  obtain ⟨ta, pa, ra⟩ := ha.ex
  obtain ⟨hi, h0, mm, one⟩ := okO_of ho
  refine ⟨_, pe_methW (pe_var hN hv hd hcd) T.cl hM ok (Cc.room.mono hj) hb (fun σ => passAt Cc.tk σ) pa hst hpl ht, fun B Hd0 ρ σ H Hd R Q q0 => ?_⟩
  unfold xMe at q0
  cases hg : getO ρ i with
  | none => rw [hg] at q0; exact q0.elim
  | some fs0 =>
    rw [hg] at q0
    simp only at q0
    obtain ⟨pp, C', dx, vs, A', s1, s2, s3, s4, s5, s6⟩ := R.obj hi h0 mm (getO_some hg)
    rw [T.ns] at s2
    cases s2
    refine ⟨.ref pp, s1, pp, dx, _, rfl, s3, zip_no (fun z => hm (List.mem_of_mem_take z)), ?_⟩
    refine ra _ _ _ _ _ _ R _ ?_
    cases hf : fa ρ with
    | bad => rw [hf] at q0; exact q0
    | ex cn fs ρ1 => rw [hf] at q0; exact q0
    | ok ds ρ1 =>
      rw [hf] at q0
      rw [Rx.ok_bind] at q0
      intro ws H1 Hd1 R1 t1 xs
      exact me_run R1 s1 xs ho hE (PoX.up q0 t1)
theorem sx_meth0 (c i : Nat) (T : ClsT X.K X.mg (c + 1) C) (Cc : Cxt X W k) (F : CalMt X.prog X.w X.K X.mg X.base j C m (c + 1) n gf) (hj : j ≤ k := by decide) (ho : okO own c i = true := by rfl) (hE : okE fl own = true := by rfl) (hm : m ∉ (cN (c + 1)).2 := by decide +kernel) (hN : X.N[i]? = some x := by rfl) (hv : Vis X.env.scope x := by first | exact Or.inl rfl | exact Or.inr (Or.inl rfl) | exact Or.inr (Or.inr rfl))
    (hd : (x == ("__debug__" : Str)) = false := by rfl) (hcd : (x == ("__classdict__" : Str)) = false := by rfl)
    (ht : eval (.Call (.Attribute (.Name x p) m apos) [] [] pos) X.env = (do
      let ov ← eval (.Name x p) X.env
      standAt apos.atName
      let (f, first) ← holding [ov] (getMethod ov m pl)
      callWith pos f first (backTo pos (starEach [] X.env)) (backToKw pos (keywordEach [] X.env))) := by rfl) :
    SX X W fl own (.Call (.Attribute (.Name x p) m apos) [] [] pos) (xMe i n gf xANil) := by
  obtain ⟨f, fd, ps, ok, hM, hb⟩ := F.ex
  obtain ⟨hi, h0, mm, one⟩ := okO_of ho
  refine ⟨_, pe_methW0 (pe_var hN hv hd hcd) T.cl hM ok (Cc.room.mono hj) hb (fun σ => passAt Cc.tk σ) ht, fun B Hd0 ρ σ H Hd R Q q0 => ?_⟩
  unfold xMe at q0
  cases hg : getO ρ i with
  | none => rw [hg] at q0; exact q0.elim
  | some fs0 =>
    rw [hg] at q0
    simp only at q0
    obtain ⟨pp, C', dx, vs, A', s1, s2, s3, s4, s5, s6⟩ := R.obj hi h0 mm (getO_some hg)
    rw [T.ns] at s2
    cases s2
    refine ⟨.ref pp, s1, pp, dx, _, rfl, s3, zip_no (fun z => hm (List.mem_of_mem_take z)), ?_⟩
    unfold xANil at q0
    rw [Rx.ok_bind] at q0
    exact me_run R s1 .nil ho hE q0
end
/-! ### x = C(e, ..) -/
def sMk (i n : Nat) (g : List D → Ry) (fa : En → Rx (List D)) : En → Out := fun ρ => oBindX (fa ρ) fun ds ρ1 => if ds.length + 1 = n then (match g (.tuple [] :: ds) with
  | .ok .none o => .nx (ρ1.set i (some o))
  | .ok _ _ => .bad
  | .ex cn fs _ => .ex cn fs ρ1
  | .bad => .bad) else .bad
theorem less_new {H : Hp} {x dx : Addr} {o1 o2 : HO} (hx : H x = none) (hd : H dx = none) : lessH (upd (upd H dx o1) x o2) [x, dx] = H := by
  funext a
  unfold lessH
  by_cases z : a = x
  · subst z; rw [if_pos (by simp), hx]
  · by_cases w : a = dx
    · subst w; rw [if_pos (by simp), hd]
    · rw [if_neg (by simp [z, w]), upd_ne z, upd_ne w]
section
variable {X : Cx} {W : WX} {fl : Md} {L own : List Nat} {k j n c i : Nat} {x cn : Str} {C : Addr} {gf : List D → Ry} {e : Expr} {es : List Expr} {fa : En → Rx (List D)} {p pos pos' spos : Pos}
theorem ss_mk (c i : Nat) (T : ClsT X.K X.mg (c + 1) C) (Cc : Cxt X W k) (F : CalI X.prog X.w X.K X.mg X.base j C (c + 1) n gf) (ha : SXA X W fl own (e :: es) fa) (hcn : (cN (c + 1)).1 = cn := by rfl) (hj : j + 1 ≤ k := by decide) (hc : c + 1 < 9 := by decide) (hlt : i < 100 := by decide) (hE : okE fl own = true := by rfl) (hk : own.contains (1000 + i) = false := by rfl)
    (hg : Gl X cn := by rfl) (hdb : (cn == ("__debug__" : Str)) = false := by decide) (he : starEach (e :: es) X.env = (false, eval e X.env) :: starEach es X.env := by rfl) (hpl : (backTo pos (starEach es X.env)).any (·.1) = false := by rfl)
    (hi : X.N[i]? = some x := by rfl) (hx : Loc X.env.scope x := by first | exact Or.inl rfl | exact Or.inr rfl) (hs : swapsWith (.Call (.Name cn p) (e :: es) [] pos) (some (.Name x pos')) spos.line X.env = pure false := by rfl) (hf : X.fn x = true ∨ X.env.scope.names.lookup x = some .local := by first | exact .inl rfl | exact .inr rfl) :
    SS X W fl L own (.Assign [.Name x pos'] (.Call (.Name cn p) (e :: es) [] pos) spos) (sMk i n gf fa) ((100 * (c + 1) + i) :: drp own i) := by
  obtain ⟨f, fd, ps, ok, hM, hb⟩ := F.ex
  obtain ⟨ta, pa, ra⟩ := ha.ex
  refine ⟨_, ps_set Cc.nd hi hx (pe_makeW hM ok (Cc.room.mono hj) hg (by rw [← hcn]; exact T.mg) hb (fun σ => passAt Cc.tk σ) pa hdb he hpl) hs hf, fun B Hd0 ρ σ H Hd R Dn q => ?_⟩
  refine ra _ _ _ _ _ _ R _ ?_
  unfold sMk at q
  cases hfa : fa ρ with
  | bad => rw [hfa] at q; exact q
  | ex c fs ρ1 => rw [hfa] at q; exact fun cls a H' Hd' R' x => q cls a σ H' Hd' R' x
  | ok ds ρ1 =>
    rw [hfa] at q
    simp only [oBindX_ok] at q
    intro vs H1 Hd1 R1 s1 xs nx ndx hnx hndx hne
    by_cases hl : ds.length + 1 = n
    · rw [if_pos hl] at q
      have hd1x : Hd1 nx = none := none_of_same R1.st.sub hnx
      have hd1d : Hd1 ndx = none := none_of_same R1.st.sub hndx
      have sub : Same Hd1 (upd (upd H1 ndx (.own nx)) nx (.ins C ndx [])) := fun a o e => by
        rw [upd_ne (fun z => by rw [z, hd1x] at e; cases e), upd_ne (fun z => by rw [z, hd1d] at e; cases e)]
        exact R1.st.sub a o e
      have el := less_new (o1 := .own nx) (o2 := .ins C ndx []) hnx hndx
      have r1 : (upd (upd H1 ndx (.own nx)) nx (.ins C ndx [])) nx = some (.ins C ndx []) := upd_same
      have r2 : (upd (upd H1 ndx (.own nx)) nx (.ins C ndx [])) ndx = some (.own nx) := by rw [upd_ne hne, upd_same]
      refine ⟨by simp [xs.length, hl], .tuple [] :: ds, Hd1, [nx, ndx], .ref nx, .tuple [], sub, by simp [hl], fun k v nk h => ?_, rfl, rfl, ⟨nx, C, ndx, [], [], [], rfl, rfl, rfl, T.ns, by simpa using r1, r2, Nat.zero_le _, .nil, List.nodup_nil⟩, fun a m => ?_, ?_⟩
      · cases k with
        | zero => exact absurd rfl nk
        | succ k =>
          rw [List.getElem?_cons_succ] at h ⊢
          have hk' := (List.getElem?_eq_some_iff.mp h).1
          rw [xs.length] at hk'
          obtain ⟨v', e1, e2⟩ := xs.get (List.getElem?_eq_getElem hk')
          rw [h] at e1
          cases e1
          exact ⟨_, List.getElem?_eq_getElem hk', e2⟩
      · simp only [List.mem_cons, List.not_mem_nil, or_false] at m
        rcases m with rfl | rfl
        · exact ⟨hd1x, by rw [r1]; simp⟩
        · exact ⟨hd1d, by rw [r2]; simp⟩
      · cases hgf : gf (.tuple [] :: ds) with
        | ok d o =>
          rw [hgf] at q
          intro v H' Hd' t y x
          rw [el] at t
          obtain ⟨A', y1, y2⟩ := y
          have hd0 : d = .none := by
            cases d with
            | none => rfl
            | _ => exact q.elim
          subst hd0
          cases x
          refine ⟨rfl, q _ _ _ (R1.setNew t y1 (fun a m => ?_) (ncon hk) hlt hc)⟩
          obtain ⟨z1, z2, z3⟩ := y2 a m
          rw [el] at z2
          exact ⟨z1, z2, z3⟩
        | ex c' fs o =>
          rw [hgf] at q
          intro cls a H' Hd' t y x
          rw [el] at t
          obtain ⟨Hd'', R', up⟩ := (R1.step t).exc hE
          exact q cls a σ H' Hd'' R' (x.mono (fun _ _ z => z) up)
        | bad => rw [hgf] at q; exact q.elim
    · rw [if_neg hl] at q; exact q.elim
end
end Wm

set_option Elab.async false
set_option linter.all false
set_option maxRecDepth 100000
/-! WmX5: exceptions raised: with a text, with a value. -/
namespace Wm
open PySem PySem.Spec PyProof.Rows L2

/-- raise C("..") -/
def sRaise (c : Str) : En → Out := fun ρ => .ex c [] ρ
structure XcT (K : PySem.W.Frag) (mg : Str → Option Value) (nm : Str) : Prop where
  ex : ∃ C : Addr, mg nm = some (.ref C) ∧ PySem.W.excIn K C [.type "ValueError", .type "Exception", .type "BaseException", .type "object"] "ValueError.__new__" = true ∧ PySem.W.keepIn K (.ref C) = true ∧ PySem.W.subIn K (.ref C) (.type "BaseException") = some true ∧ PySem.W.typeIn K (.ref C) = some (.type "type")
theorem ss_raise {X : Cx} {W : WX} {fl : Md} {L own own' : List Nat} {k : Nat} {nm m : Str} {j : Nat} {p p2 p3 pos : Pos} (T : XcT X.K X.mg nm) (C : Cxt X W k) (hE : okE fl own = true := by rfl) (hg : Gl X nm := by rfl) (hdb : (nm == ("__debug__" : Str)) = false := by decide) :
    SS X W fl L own (.Raise (some (.Call (.Name nm p) [.Constant (.str m) j p2] [] p3)) none pos) (sRaise nm) own' := by
  obtain ⟨D, gD, e, kD, b, t⟩ := T.ex
  refine ⟨_, ps_raise C.calm C.tk (pmk_own PySem.F.excBase_ValueError e gD kD (raises_own b t) hg hdb), fun B Hd0 ρ σ H Hd R Dn q => ?_⟩
  exact exc_of R q (.refl R.st.sub) ⟨gD, rfl⟩ hE
/-! ### raise C(e), C's __init__ keeping e in a field -/
/-- WayError.__init__(self, "..") -/
structure WeT (K : PySem.W.Frag) (mg : Str → Option Value) : Prop where
  ex : ∃ B : Addr, mg "WayError" = some (.ref B) ∧ PySem.W.specialIn K (.ref B) "__getattribute__" = some (some (.builtin "type.__getattribute__")) ∧ PySem.W.typeIn K (.ref B) = some (.type "type") ∧ PySem.W.readsIn K B (.type "type") = true ∧ PySem.W.findCls K (.ref B) (.type "type") "__init__" = some (.val (.builtin "ValueError.__init__"))
section
variable {X : Cx} {e : Expr} {es : List Expr} {ta : TA} {p1 p2 pos : Pos}
theorem pe_weinit {pl : Sem Bool} (T : WeT X.K X.mg) (hg : Gl X "WayError") (ha : PA X (e :: es) ta)
    (hc : eval (.Call (.Attribute (.Name "WayError" p1) "__init__" p2) (e :: es) [] pos) X.env = (do
      let ov ← eval (.Name "WayError" p1) X.env
      standAt p2.atName
      let (f, first) ← holding [ov] (getMethod ov "__init__" pl)
      callWith pos f first (backTo pos (starEach (e :: es) X.env)) (backToKw pos (keywordEach [] X.env))) := by rfl)
    (he : starEach (e :: es) X.env = (false, eval e X.env) :: starEach es X.env := by rfl) (hpl : (backTo pos (starEach es X.env)).any (·.1) = false := by rfl) :
    PE X (.Call (.Attribute (.Name "WayError" p1) "__init__" p2) (e :: es) [] pos) (tVeI X.K ta) := by
  obtain ⟨B, gB, hga, tyB, rdB, fB⟩ := T.ex
  refine ⟨fun pins s σ H Q I h => ?_⟩
  refine PySem.W.methodCall_KW (ld_glob I hg gB ?_ (by decide)) hc
  obtain ⟨m, fr⟩ := I.fr
  refine PySem.W.method_of_cls fr I.ok.mod.kin hga ?_
  refine PySem.W.cls_val fr I.ok.mod.kin tyB rdB fB (by decide +kernel) ?_
  show wpAny _ _ (callWith pos (Value.builtin "ValueError.__init__") [] (backTo pos (starEach (e :: es) X.env)) []) _ _ _
  refine PyProof.Rows.callWith_method1 (thn (ha.run pos pins _ σ H _ (I.tok _) h) fun us s1 ⟨vs, H1, I1, r1, a, C, ws, ev, hl, T, ea, q⟩ => ?_) he hpl
  subst ev
  cases r1 with
  | @cons _ u0 _ ur ra rw' =>
    obtain rfl : u0 = Value.ref a := ra
    have hlen : ur.length ≤ sizeLine := by
      rw [← Paired.length rw', sizeLine_eq]
      omega
    exact oinit_ok T I1 ea hlen fun s' J => ⟨.non, H1, J, rfl, q⟩
end
def spXi (K : PySem.W.Frag) (fld : Str) : Sp := fun vs H Q _ => ∃ (a C : Addr) (v : V), vs = [.ref a, v] ∧ H a = some (exo a C none) ∧ OexC K C ∧ PySem.W.findIn K (.ref C) fld = some none ∧ ∀ d, H d = none → d ≠ a → Q .non (upd (upd H d (exd d [(fld, v)])) a (exo a C (some d)))
/-- the shape of such an __init__'s body -/
theorem xi_body {X : Cx} {fld m : Str} {j : Nat} {q1 q2 q3 q4 q5 q6 q7 q8 q9 q10 : Pos} (T : WeT X.K X.mg) (hg : Gl X "WayError") (h0 : X.N[0]? = some ("self" : Str)) (h1 : X.N[1]? = some fld) (v0 : Vis X.env.scope "self") (v1 : Vis X.env.scope fld) (d1 : (fld == ("__debug__" : Str)) = false) (c1 : (fld == ("__classdict__" : Str)) = false)
    (hc : ∃ pl : Sem Bool, eval (.Call (.Attribute (.Name "WayError" q1) "__init__" q2) [.Name "self" q3, .Constant (.str m) j q4] [] q5) X.env = (do
      let ov ← eval (.Name "WayError" q1) X.env
      standAt q2.atName
      let (f, first) ← holding [ov] (getMethod ov "__init__" pl)
      callWith q5 f first (backTo q5 (starEach [.Name "self" q3, .Constant (.str m) j q4] X.env)) (backToKw q5 (keywordEach [] X.env))))
    (hs1 : swapsWith (.Call (.Attribute (.Name "WayError" q1) "__init__" q2) [.Name "self" q3, .Constant (.str m) j q4] [] q5) none q6.line X.env = pure false)
    (hs2 : swapsWith (.Name fld q9) (some (.Attribute (.Name "self" q7) fld q8)) q10.line X.env = pure false) :
    ∃ t, PSs X [.Expr (.Call (.Attribute (.Name "WayError" q1) "__init__" q2) [.Name "self" q3, .Constant (.str m) j q4] [] q5) q6, .Assign [.Attribute (.Name "self" q7) fld q8] (.Name fld q9) q10] t ∧
      ∀ (H : Hp) (a C : Addr) (v : V) (Dn : Ends) (σ : L2.St), σ[0]? = some (some (.ref a)) → σ[1]? = some (some v) → H a = some (exo a C none) → OexC X.K C → PySem.W.findIn X.K (.ref C) fld = some none → (∀ d, H d = none → d ≠ a → Dn.nx σ (upd (upd H d (exd d [(fld, v)])) a (exo a C (some d)))) → t Dn σ H := by
  obtain ⟨pl, hc⟩ := hc
  refine ⟨_, pss_cons (ps_expr (pe_weinit T hg (pa_cons (pe_var h0 v0 (by decide) (by decide)) (pa_cons pe_str pa_nil)) hc) hs1) (pss_one (ps_ost (pe_var h0 v0 (by decide) (by decide)) (pe_var h1 v1 d1 c1) hs2)), ?_⟩
  intro H a C v Dn σ s0 s1 ha hO hno k
  refine ⟨.ref a, s0, a, C, [.str m], rfl, by simp, hO, ha, ?_⟩
  refine ⟨v, s1, .ref a, s0, a, C, rfl, hO, hno, .inl ⟨ha, fun dx hd hne => k dx hd hne⟩⟩
/-- raise C(e) -/
structure XiT (P : Program) (w : World) (K : PySem.W.Frag) (mg : Str → Option Value) (base : Heap) (nm fld : Str) : Prop where
  ex : ∃ (C fI : Addr) (fd : FuncData) (ps : List Str), OexC K C ∧ mg nm = some (.ref C) ∧ PySem.W.findIn K (.ref C) "__init__" = some (some (.ref fI)) ∧ PySem.W.typeIn K (.ref fI) = some (.type "function") ∧ PySem.W.findIn K (.ref C) fld = some none ∧
    FnOk P w K mg base (L2.CX P w) 1 fI fd ps (spXi K fld) ∧ Binds K fd ps []
def sRaiseV (nm fld : Str) (f : En → Rs D) : En → Out := fun ρ => oBind (f ρ) ρ fun d => .ex nm [(fld, d)] ρ
theorem passN {X : Cx} {P : Program} {w : World} : Passes (L2.CX P w) X (fun _ _ _ => False) := fun pins σ H s e s' I h => by
  obtain ⟨_, _, _, _, _, _, _, _, _, _, _, _, z⟩ := h
  exact z.elim
theorem del_new {H : Hp} {a : Addr} {o : HO} (h : H a = none) : del (upd H a o) a = H := by
  funext b
  unfold del
  by_cases z : b = a
  · rw [if_pos z, z, h]
  · rw [if_neg z, upd_ne z]
theorem ss_raiseV {X : Cx} {W : WX} {fl : Md} {L own own' : List Nat} {k : Nat} {nm fld : Str} {e : Expr} {f : En → Rs D} {p p3 pos : Pos} (T : XiT X.prog X.w X.K X.mg X.base nm fld) (C : Cxt X W k) (h : SE X W own e f) (hk2 : 2 ≤ k := by decide) (hE : okE fl own = true := by rfl) (hg : Gl X nm := by rfl) (hdb : (nm == ("__debug__" : Str)) = false := by decide)
    (he : starEach (e :: []) X.env = (false, eval e X.env) :: starEach [] X.env := by rfl) (hpl : (backTo p3 (starEach [] X.env)).any (·.1) = false := by rfl) :
    SS X W fl L own (.Raise (some (.Call (.Name nm p) [e] [] p3)) none pos) (sRaiseV nm fld f) own' := by
  obtain ⟨D, fI, fd, ps, hO, gD, iI, tI, hno, ok, hb⟩ := T.ex
  obtain ⟨t, pe, r⟩ := h.ex
  refine ⟨_, ps_raise C.calm C.tk (pmk_oex (dvs := []) (ds := []) hO iI tI ok (C.room.mono hk2) hb .nil passN hg gD (pa_cons pe pa_nil he) hdb he hpl), fun B Hd0 ρ σ H Hd R Dn q => ?_⟩
  refine r _ _ _ _ _ _ R _ ?_
  unfold sRaiseV at q
  cases hf : f ρ with
  | bad => rw [hf] at q; exact q
  | ex c fs => rw [hf] at q; exact fun cls a H' Hd' s x => exc_of R q s x hE
  | ok d =>
    rw [hf] at q
    simp only [oBind_ok] at q
    intro v H1 Hd1 s1 x
    refine ⟨by simp, fun a ha => ⟨a, D, v, by simp, upd_same, hO, hno, fun dd hdd hne => ⟨rfl, dd, [(fld, v)], upd_same, by rw [upd_ne hne, upd_same], ?_, ?_⟩⟩⟩
    · rw [upd_ne hne] at hdd; exact hdd
    · have hd1 : H1 dd = none := by rw [upd_ne hne] at hdd; exact hdd
      have e1 : upd (del (upd (upd (upd H1 a (exo a D none)) dd (exd dd [(fld, v)])) a (exo a D (some dd))) a) dd (.xd [(fld, v)]) = upd H1 dd (.xd [(fld, v)]) := by
        funext b
        by_cases z : b = dd
        · rw [z, upd_same, upd_same]
        · rw [upd_ne z, upd_ne z]
          unfold del
          by_cases w : b = a
          · rw [if_pos w, w, ha]
          · rw [if_neg w, upd_ne w, upd_ne z, upd_ne w]
      rw [e1]
      have st : Step H1 Hd1 (upd H1 dd (.xd [(fld, v)])) Hd1 := .own s1.sub hd1
      refine exc_of R q (s1.trans st) ⟨gD, dd, [v], rfl, upd_same, .cons x .nil⟩ hE
/-! ### defs that hold objects of their own (slots wp) -/
theorem fnok_ofW {P : Program} {w : World} {K : PySem.W.Frag} {mg : Str → Option Value} {base : Heap} {x qual : Str} {st : Stmt} {f : Addr} {fd : FuncData} {N ps : List Str} {k n : Nat} {fl : Bool} {fb : En → Out} {wp : List Nat}
    (F : Fun K x qual st f fd) (S : FnScope N ps (defScope st)) (hn : ps.length = n)
    (body : ∀ (cdv : Value) (A : Around) (outer : List Env) (s : Shared) (H : Hp) (E : XK), Cxt (cxOf (L2.CX P w) P w K mg base N qual (defScope st) f cdv A outer s H E) (fun cls d _ H => E cls d H) k →
      ∃ own', SSs (cxOf (L2.CX P w) P w K mg base N qual (defScope st) f cdv A outer s H E) (fun cls d _ H => E cls d H) ⟨fl, [], wp, []⟩ [] [] (defBody st) fb own') :
    FnOk P w K mg base (L2.CX P w) (k + 1) f fd ps (spF K mg fl n (runF N.length fb)) := by
  refine F.okX S (fun vs H Q E h => by rw [hn]; exact h.1) (fun cdv A outer s H vs Q E hr h => ?_)
  obtain ⟨hl, ds, Hd, sub, dp, q⟩ := h
  have C : Cxt (cxOf (L2.CX P w) P w K mg base N qual (defScope st) f cdv A outer s H E) (fun cls d _ H => E cls d H) k :=
    ⟨rfl, takes_of rfl rfl rfl rfl, passes_of rfl, S.nd, hr⟩
  obtain ⟨own', B⟩ := body cdv A outer s H E C
  obtain ⟨t, p, r⟩ := B.ex
  refine ⟨t, p, r ⟨H, fun _ => none⟩ Hd _ _ H Hd (Rel.start (N := N) sub dp) _ ?_⟩
  unfold runF at q
  cases hf : fb (ds.map some ++ List.replicate (N.length - ds.length) none) with
  | nx ρ =>
    rw [hf] at q
    intro σ' H' Hd' R
    cases fl with
    | false => exact q .non H' Hd' R.st .non
    | true => exact q .non H' Hd' R.st .non
  | rt d =>
    rw [hf] at q
    cases fl with
    | false => exact fun v H' Hd' s x => q v H' Hd' s x
    | true => exact fun v H' Hd' s x => q v H' Hd' s x
  | ex c fs ρ =>
    rw [hf] at q
    exact fun cls a σ' H' Hd' R x => q cls a H' Hd' R.st x
  | bk ρ => rw [hf] at q; exact q.elim
  | ct ρ => rw [hf] at q; exact q.elim
  | bad => rw [hf] at q; exact q.elim
  | rx d ρ => rw [hf] at q; exact q.elim
theorem cal_ofW {P : Program} {w : World} {K : PySem.W.Frag} {mg : Str → Option Value} {base : Heap} {x qual : Str} {st : Stmt} {f : Addr} {fd : FuncData} {N ps : List Str} {k n : Nat} {fl : Bool} {fb : En → Out} {wp : List Nat}
    (F : Fun K x qual st f fd) (S : FnScope N ps (defScope st)) (hm : mg x = some (.ref f)) (hb : Binds K fd ps []) (hn : ps.length = n)
    (body : ∀ (cdv : Value) (A : Around) (outer : List Env) (s : Shared) (H : Hp) (E : XK), Cxt (cxOf (L2.CX P w) P w K mg base N qual (defScope st) f cdv A outer s H E) (fun cls d _ H => E cls d H) k →
      ∃ own', SSs (cxOf (L2.CX P w) P w K mg base N qual (defScope st) f cdv A outer s H E) (fun cls d _ H => E cls d H) ⟨fl, [], wp, []⟩ [] [] (defBody st) fb own') :
    Cal P w K mg base (k + 1) x fl n (runF N.length fb) := ⟨f, fd, ps, fnok_ofW F S hn body, hm, F.kp, hb⟩
/-! ### a def that is never called -/
theorem pss_any {X : Cx} : ∀ sts : List Stmt, ∃ t, PSs X sts t
  | [] => ⟨_, pss_nil⟩
  | st :: sts => by
    obtain ⟨t, h⟩ := pss_any (X := X) sts
    exact ⟨_, pss_cons ps_never h⟩
theorem sss_bad {X : Cx} {W : WX} {fl : Md} {L own own' : List Nat} (sts : List Stmt) : SSs X W fl L own sts sBad own' := by
  obtain ⟨t, h⟩ := pss_any (X := X) sts
  exact ⟨⟨t, h, fun _ _ _ _ _ _ _ _ q => q.elim⟩⟩
theorem cal_none {P : Program} {w : World} {K : PySem.W.Frag} {mg : Str → Option Value} {base : Heap} {x qual : Str} {st : Stmt} {f : Addr} {fd : FuncData} {N ps : List Str} {k n : Nat} {fl : Bool}
    (F : Fun K x qual st f fd) (S : FnScope N ps (defScope st)) (hm : mg x = some (.ref f)) (hb : Binds K fd ps []) (hn : ps.length = n) :
    Cal P w K mg base (k + 1) x fl n (fun _ => .bad) :=
  cal_of (k := k) (fb := sBad) F S hm hb hn fun _ _ _ _ _ _ _ => ⟨[], sss_bad _⟩
end Wm

set_option Elab.async false
set_option linter.all false
set_option maxRecDepth 100000
set_option maxHeartbeats 4000000
namespace Wp
open PySem PySem.Spec PyProof.Rows L2 Wm
def f_Reader___init__ : En → Out :=
  (sSeq (sFldX 0 0 (xP (eVar 1)))
    (sFldX 0 1 (xP (eC (.int 0)))))
def g_Reader___init__ : List D → Ry := runX 2 0 f_Reader___init__
def f_Reader_sees : En → Out :=
  (sRx (xP (eAn (e2 ltD (eFld 0 1) (eBlt lenD (aCons (eFld 0 0) aNil))) (e2 inD (e2 ixD (eFld 0 0) (eFld 0 1)) (eVar 1)))))
def g_Reader_sees : List D → Ry := runX 2 0 f_Reader_sees
def f_Reader_at_end : En → Out :=
  (sRx (xP (e2 geD (eFld 0 1) (eBlt lenD (aCons (eFld 0 0) aNil)))))
def g_Reader_at_end : List D → Ry := runX 1 0 f_Reader_at_end
def t_Reader_pair_1 : En → Out :=
  (sSeq (sFldAugX 0 1 addI (eC (.int 3)))
    (sRx (xP (eVar 1))))
def t_Reader_pair_2 : En → Out :=
  (sSeq (sIf (tB (e2 isD (eVar 1) (eC .none)))
      sBad
      sNx)
    t_Reader_pair_1)
def t_Reader_pair_3 : En → Out :=
  (sSeq (sSet 1 (eCall 1 g_sign_of (aCons (eSl (eFld 0 0) (oSo (e2 addD (eFld 0 1) (eC (.int 1)))) (oSo (e2 addD (eFld 0 1) (eC (.int 3))))) aNil)))
    t_Reader_pair_2)
def t_Reader_pair_4 : En → Out :=
  (sSeq (sIf (tB (e2 geD (e2 addD (eFld 0 1) (eC (.int 2))) (eBlt lenD (aCons (eFld 0 0) aNil))))
      sBad
      sNx)
    t_Reader_pair_3)
def f_Reader_pair : En → Out :=
  (sSeq (sIf (tAn (tB (e2 ltD (e2 addD (eFld 0 1) (eC (.int 1))) (eBlt lenD (aCons (eFld 0 0) aNil)))) (tB (e2 notInD (e2 ixD (eFld 0 0) (e2 addD (eFld 0 1) (eC (.int 1)))) (eC (tx [50, 51, 52, 53, 54, 55])))))
      sBad
      sNx)
    t_Reader_pair_4)
def g_Reader_pair : List D → Ry := runX 2 0 f_Reader_pair
def f_Reader_sign : En → Out :=
  (sSeq (sIfX (xB (xMe 0 2 g_Reader_sees (xACons (xP (eC (tx [126]))) xANil)))
      (sRx (xMe 0 1 g_Reader_pair xANil))
      sNx)
    (sSeq (sIfX (xNo (xB (xMe 0 2 g_Reader_sees (xACons (xP (e2 addD (eC k_PLAIN) (eVar 1))) xANil))))
      sBad
      sNx)
    (sSeq (sFldAugX 0 1 addI (eC (.int 1)))
    (sRx (xP (e2 ixD (eFld 0 0) (e2 subD (eFld 0 1) (eC (.int 1)))))))))
def g_Reader_sign : List D → Ry := runX 2 0 f_Reader_sign
def b_Reader_part_1 : En → Out :=
  (sSeq (sIf (tB (e2 eqD (eBlt lenD (aCons (eVar 4) aNil)) (eVar 3)))
      sBad
      sNx)
    (sAugX 4 addI (xMe 0 2 g_Reader_sign (xACons (xP (eVar 1)) xANil))))
def f_Reader_part : En → Out :=
  (sSeq (sSetX 4 (xMe 0 2 g_Reader_sign (xACons (xP (eVar 1)) xANil)))
    (sSeq (sWhileX (xAnB (xNo (xB (xMe 0 1 g_Reader_at_end xANil))) (xNo (xB (xMe 0 2 g_Reader_sees (xACons (xP (eVar 2)) xANil)))))
      b_Reader_part_1)
    (sRx (xP (eVar 4)))))
def g_Reader_part : List D → Ry := runX 5 0 f_Reader_part
def k_GREAT : D := (tx [65, 66, 67, 68, 69, 70, 71, 72, 73, 74, 75, 76, 77, 78, 79, 80, 81, 82, 83, 84, 85, 86, 87, 88, 89, 90])
def b_read_scheme_1 : En → Out :=
  (sAug 2 addI (eC (.int 1)))
def t_read_scheme_2 : En → Out :=
  (sSeq (sFldX 0 1 (xP (e2 addD (eVar 2) (eC (.int 1)))))
    (sRx (xP (eSl (eVar 1) oNo (oSo (eVar 2))))))
def t_read_scheme_3 : En → Out :=
  (sSeq (sIf (tOr' (tB (e2 neD (eSl (eVar 1) (oSo (eVar 2)) (oSo (e2 addD (eVar 2) (eC (.int 1))))) (eC (tx [58])))) (tOr' (tB (e2 ltD (eVar 2) (eC (.int 1)))) (tOr' (tB (e2 gtD (eVar 2) (eC (.int 8)))) (tB (e2 inD (e2 ixD (eVar 1) (eC (.int 0))) (eC k_FIGURES))))))
      (sRx (xP (eC (tx []))))
      sNx)
    t_read_scheme_2)
def t_read_scheme_4 : En → Out :=
  (sSeq (sWhile (tAn (tB (e2 ltD (eVar 2) (eBlt lenD (aCons (eVar 1) aNil)))) (tB (e2 inD (e2 ixD (eVar 1) (eVar 2)) (e2 addD (e2 addD (eC k_LETTERS) (eC k_GREAT)) (eC k_FIGURES)))))
      b_read_scheme_1)
    t_read_scheme_3)
def t_read_scheme_5 : En → Out :=
  (sSeq (sSet 2 (eC (.int 0)))
    t_read_scheme_4)
def f_read_scheme : En → Out :=
  (sSeq (sSet 1 (eFld 0 0))
    t_read_scheme_5)
def g_read_scheme : List D → Ry := runX 3 0 f_read_scheme
def k_MOST_DOOR : D := (.int 65535)
def b_read_door_1 : En → Out :=
  (sSeq (sSet 2 (e2 addD (e2 mulD (eC (.int 10)) (eVar 1)) (eBlt intD (aCons (e2 ixD (eFld 0 0) (eFld 0 1)) aNil))))
    (sSeq (sIf (tOr' (tB (e2 eqD (eVar 1) (eC (.int 0)))) (tB (e2 gtD (eVar 2) (eC k_MOST_DOOR))))
      sBad
      sNx)
    (sSeq (sSet 1 (eVar 2))
    (sFldAugX 0 1 addI (eC (.int 1))))))
def t_read_door_2 : En → Out :=
  (sSeq (sIfX (xAnB (xNo (xB (xMe 0 1 g_Reader_at_end xANil))) (xNo (xB (xMe 0 2 g_Reader_sees (xACons (xP (eC (tx [47, 63, 35]))) xANil)))))
      sBad
      sNx)
    (sRx (xP (eVar 1))))
def t_read_door_3 : En → Out :=
  (sSeq (sWhileX (xB (xMe 0 2 g_Reader_sees (xACons (xP (eC k_FIGURES)) xANil)))
      b_read_door_1)
    t_read_door_2)
def t_read_door_4 : En → Out :=
  (sSeq (sFldAugX 0 1 addI (eC (.int 1)))
    t_read_door_3)
def t_read_door_5 : En → Out :=
  (sSeq (sSet 1 (eBlt intD (aCons (e2 ixD (eFld 0 0) (eFld 0 1)) aNil)))
    t_read_door_4)
def f_read_door : En → Out :=
  (sSeq (sIfX (xNo (xB (xMe 0 2 g_Reader_sees (xACons (xP (eC k_FIGURES)) xANil))))
      sBad
      sNx)
    t_read_door_5)
def g_read_door : List D → Ry := runX 3 0 f_read_door
def k_MOST_IN_HOUSE : D := (.int 60)
def t_read_house_1 : En → Out :=
  (sSeq (sFldAugX 0 1 addI (eC (.int 1)))
    (sRx (xTup (xACons (xP (eVar 1)) (xACons (xIo 0 0 1 g_read_door (xQ0 0 xANil)) xANil)))))
def t_read_house_2 : En → Out :=
  (sSeq (sIfX (xNo (xB (xMe 0 2 g_Reader_sees (xACons (xP (eC (tx [58]))) xANil))))
      (sRx (xP (eTup (aCons (eVar 1) (aCons (eC .none) aNil)))))
      sNx)
    t_read_house_1)
def t_read_house_3 : En → Out :=
  (sSeq (sSetX 1 (xMe 0 4 g_Reader_part (xACons (xP (eC (tx []))) (xACons (xP (eC (tx [58, 47, 63, 35]))) (xACons (xP (eC k_MOST_IN_HOUSE)) xANil)))))
    t_read_house_2)
def t_read_house_4 : En → Out :=
  (sSeq (sFldAugX 0 1 addI (eC (.int 2)))
    t_read_house_3)
def f_read_house : En → Out :=
  (sSeq (sIf (tB (e2 neD (eSl (eFld 0 0) (oSo (eFld 0 1)) (oSo (e2 addD (eFld 0 1) (eC (.int 2))))) (eC (tx [47, 47]))))
      (sRx (xP (eTup (aCons (eC .none) (aCons (eC .none) aNil)))))
      sNx)
    t_read_house_4)
def g_read_house : List D → Ry := runX 2 0 f_read_house
def k_IN_STEPS : D := (tx [33, 36, 39, 40, 41, 42, 44, 59, 64, 38, 61, 43])
def b_read_steps_1 : En → Out :=
  (sSeq (sAppX 2 (xMe 0 4 g_Reader_part (xACons (xP (eC k_IN_STEPS)) (xACons (xP (eC (tx [47, 63, 35]))) (xACons (xP (eBlt lenD (aCons (eFld 0 0) aNil))) xANil)))))
    (sSeq (sSetX 3 (xMe 0 2 g_Reader_sees (xACons (xP (eC (tx [47]))) xANil)))
    (sIf (tB (eVar 3))
      (sFldAugX 0 1 addI (eC (.int 1)))
      sNx)))
def f_read_steps : En → Out :=
  (sSeq (sSet 2 (eLst aNil))
    (sSeq (sSet 3 (eVar 1))
    (sSeq (sWhileX (xAnB (xNo (xB (xMe 0 1 g_Reader_at_end xANil))) (xNo (xB (xMe 0 2 g_Reader_sees (xACons (xP (eC (tx [63, 35]))) xANil)))))
      b_read_steps_1)
    (sRx (xP (eTup (aCons (eVar 1) (aCons (eBlt tupD (aCons (eVar 2) aNil)) (aCons (eVar 3) aNil)))))))))
def g_read_steps : List D → Ry := runX 4 0 f_read_steps
def f_read_way : En → Out :=
  (sSeq (sIfX (xOrB (xB (xMe 0 1 g_Reader_at_end xANil)) (xB (xMe 0 2 g_Reader_sees (xACons (xP (eC (tx [63, 35]))) xANil))))
      (sRx (xP (eTup (aCons (eVar 1) (aCons (eTup aNil) (aCons (eVar 1) aNil))))))
      sNx)
    (sSeq (sIfX (xB (xMe 0 2 g_Reader_sees (xACons (xP (eC (tx [47]))) xANil)))
      (sSeq (sFldAugX 0 1 addI (eC (.int 1)))
    (sRx (xIo 0 0 2 g_read_steps (xQ0 0 (xACons (xP (eC (.bool true))) xANil)))))
      sNx)
    (sSeq (sIf (tB (eVar 1))
      sBad
      sNx)
    (sRx (xIo 0 0 2 g_read_steps (xQ0 0 (xACons (xP (eC (.bool false))) xANil)))))))
def g_read_way : List D → Ry := runX 2 0 f_read_way
def k_IN_PAIRS : D := (tx [33, 36, 39, 40, 41, 42, 44, 59, 64, 43, 47, 63, 58])
def t_read_question_1 : En → Out :=
  (sSeq (sSetX 2 (xMe 0 2 g_Reader_sees (xACons (xP (eC (tx [38]))) xANil)))
    (sIf (tB (eVar 2))
      (sFldAugX 0 1 addI (eC (.int 1)))
      sNx))
def t_read_question_2 : En → Out :=
  (sSeq (sApp 1 (eTup (aCons (eVar 3) (aCons (eVar 4) aNil))))
    t_read_question_1)
def t_read_question_3 : En → Out :=
  (sSeq (sIfX (xB (xMe 0 2 g_Reader_sees (xACons (xP (eC (tx [61]))) xANil)))
      (sSeq (sFldAugX 0 1 addI (eC (.int 1)))
    (sSeq (sSet 4 (eC (tx [])))
    (sIfX (xAnB (xNo (xB (xMe 0 1 g_Reader_at_end xANil))) (xNo (xB (xMe 0 2 g_Reader_sees (xACons (xP (eC (tx [38, 35]))) xANil)))))
      (sSetX 4 (xMe 0 4 g_Reader_part (xACons (xP (eC k_IN_PAIRS)) (xACons (xP (eC (tx [38, 35]))) (xACons (xP (eBlt lenD (aCons (eFld 0 0) aNil))) xANil)))))
      sNx)))
      sNx)
    t_read_question_2)
def t_read_question_4 : En → Out :=
  (sSeq (sSet 4 (eC .none))
    t_read_question_3)
def b_read_question_5 : En → Out :=
  (sSeq (sSetX 3 (xMe 0 4 g_Reader_part (xACons (xP (eC k_IN_PAIRS)) (xACons (xP (eC (tx [38, 61, 35]))) (xACons (xP (eBlt lenD (aCons (eFld 0 0) aNil))) xANil)))))
    t_read_question_4)
def t_read_question_6 : En → Out :=
  (sSeq (sWhile (tB (eVar 2))
      b_read_question_5)
    (sRx (xP (eBlt tupD (aCons (eVar 1) aNil)))))
def t_read_question_7 : En → Out :=
  (sSeq (sSetX 2 (xAn (xNot (xMe 0 1 g_Reader_at_end xANil)) (xNot (xMe 0 2 g_Reader_sees (xACons (xP (eC (tx [35]))) xANil)))))
    t_read_question_6)
def t_read_question_8 : En → Out :=
  (sSeq (sSet 1 (eLst aNil))
    t_read_question_7)
def t_read_question_9 : En → Out :=
  (sSeq (sFldAugX 0 1 addI (eC (.int 1)))
    t_read_question_8)
def f_read_question : En → Out :=
  (sSeq (sIfX (xNo (xB (xMe 0 2 g_Reader_sees (xACons (xP (eC (tx [63]))) xANil))))
      (sRx (xP (eC .none)))
      sNx)
    t_read_question_9)
def g_read_question : List D → Ry := runX 5 0 f_read_question
def f_read_mark : En → Out :=
  (sSeq (sIfX (xNo (xB (xMe 0 2 g_Reader_sees (xACons (xP (eC (tx [35]))) xANil))))
      (sRx (xP (eC .none)))
      sNx)
    (sSeq (sFldAugX 0 1 addI (eC (.int 1)))
    (sSeq (sIfX (xB (xMe 0 1 g_Reader_at_end xANil))
      (sRx (xP (eC (tx []))))
      sNx)
    (sRx (xMe 0 4 g_Reader_part (xACons (xP (e2 addD (eC k_IN_STEPS) (eC k_IN_PAIRS))) (xACons (xP (eC (tx []))) (xACons (xP (eBlt lenD (aCons (eFld 0 0) aNil))) xANil))))))))
def g_read_mark : List D → Ry := runX 1 0 f_read_mark
def t_read_1 : En → Out :=
  (sSeq (sSetX 7 (xIo 1 0 1 g_read_mark (xQ0 1 xANil)))
    (sRet (eTup (aCons (eVar 2) (aCons (eVar 3) (aCons (eVar 4) (aCons (eVar 5) (aCons (eVar 6) (aCons (eVar 7) aNil)))))))))
def t_read_2 : En → Out :=
  (sSeq (sSetX 6 (xIo 1 0 1 g_read_question (xQ0 1 xANil)))
    t_read_1)
def t_read_3 : En → Out :=
  (sSeq (sSetX 5 (xIo 1 0 2 g_read_way (xQ0 1 (xACons (xP (eOr (e2 neD (eVar 2) (eC (tx []))) (e2 isntD (eVar 3) (eC .none)))) xANil))))
    t_read_2)
def t_read_4 : En → Out :=
  (sSeq (sUnpX (gTp 2 (gsCons (gNm 3) (gsCons (gNm 4) gsNil))) (xIo 1 0 1 g_read_house (xQ0 1 xANil)))
    t_read_3)
def t_read_5 : En → Out :=
  (sSeq (sSetX 2 (xIo 1 0 1 g_read_scheme (xQ0 1 xANil)))
    t_read_4)
def t_read_6 : En → Out :=
  (sSeq (sMk 1 2 g_Reader___init__ (xACons (xP (eVar 0)) xANil))
    t_read_5)
def f_read : En → Out :=
  (sSeq (sIf (tNo (tB (eIsi "str" (eVar 0))))
      sBad
      sNx)
    t_read_6)
def g_read : List D → Rs D := runF 8 f_read
end Wp

set_option Elab.async false
set_option linter.all false
set_option maxRecDepth 100000
/-! WmSimX: how the layer's functions with effects are reckoned. -/
namespace Wm
open PySem PySem.Spec PyProof.Rows L2
section
variable (ρ : En) (d x o : D) (ds : List D) (c : Str) (fs : List (Str × D))
@[simp] theorem at_xP {α : Type} (f : En → Rs α) : xP f ρ = rxOf (f ρ) ρ := nrfl rfl
def kx2 (g : D → D → Rs D) (r : Rx D) (fb : En → Rx D) : Rx D := r.bind fun x ρ1 => (fb ρ1).bind fun y ρ2 => rxOf (g x y) ρ2
def kx2' (g : D → D → Rs D) (x : D) (r : Rx D) : Rx D := r.bind fun y ρ2 => rxOf (g x y) ρ2
@[simp] theorem at_x2 (g : D → D → Rs D) (fa fb : En → Rx D) : x2 g fa fb ρ = kx2 g (fa ρ) fb := nrfl rfl
@[simp] theorem kx2_ok (g : D → D → Rs D) (fb : En → Rx D) : kx2 g (.ok d ρ) fb = kx2' g d (fb ρ) := nrfl rfl
@[simp] theorem kx2_ex (g : D → D → Rs D) (fb : En → Rx D) : kx2 g (.ex c fs ρ) fb = .ex c fs ρ := nrfl rfl
@[simp] theorem kx2'_ok (g : D → D → Rs D) : kx2' g x (.ok d ρ) = rxOf (g x d) ρ := nrfl rfl
@[simp] theorem kx2'_ex (g : D → D → Rs D) : kx2' g x (.ex c fs ρ) = .ex c fs ρ := nrfl rfl
def kxB (r : Rx D) : Rx Bool := r.bind fun d ρ1 => rxOf (asB (.ok d)) ρ1
@[simp] theorem at_xB (f : En → Rx D) : xB f ρ = kxB (f ρ) := nrfl rfl
@[simp] theorem kxB_ok (b : Bool) : kxB (.ok (.bool b) ρ) = .ok b ρ := nrfl rfl
@[simp] theorem kxB_ex : kxB (.ex c fs ρ) = .ex c fs ρ := nrfl rfl
def kxNo (r : Rx Bool) : Rx Bool := r.bind fun b ρ1 => .ok (!b) ρ1
@[simp] theorem at_xNo (f : En → Rx Bool) : xNo f ρ = kxNo (f ρ) := nrfl rfl
@[simp] theorem kxNo_ok (b : Bool) : kxNo (.ok b ρ) = .ok (!b) ρ := nrfl rfl
@[simp] theorem kxNo_ex : kxNo (.ex c fs ρ) = .ex c fs ρ := nrfl rfl
def kxAn (r : Rx Bool) (g : En → Rx Bool) : Rx Bool := r.bind fun c ρ1 => if c = true then g ρ1 else .ok false ρ1
def kxOr (r : Rx Bool) (g : En → Rx Bool) : Rx Bool := r.bind fun c ρ1 => if c = true then .ok true ρ1 else g ρ1
@[simp] theorem at_xAnB (f g : En → Rx Bool) : xAnB f g ρ = kxAn (f ρ) g := nrfl rfl
@[simp] theorem at_xOrB (f g : En → Rx Bool) : xOrB f g ρ = kxOr (f ρ) g := nrfl rfl
@[simp] theorem kxAn_ok (b : Bool) (g : En → Rx Bool) : kxAn (.ok b ρ) g = if b = true then g ρ else .ok false ρ := nrfl rfl
@[simp] theorem kxOr_ok (b : Bool) (g : En → Rx Bool) : kxOr (.ok b ρ) g = if b = true then .ok true ρ else g ρ := nrfl rfl
@[simp] theorem kxAn_ex (g : En → Rx Bool) : kxAn (.ex c fs ρ) g = .ex c fs ρ := nrfl rfl
@[simp] theorem kxOr_ex (g : En → Rx Bool) : kxOr (.ex c fs ρ) g = .ex c fs ρ := nrfl rfl
def kxAnD (r : Rx D) (g : En → Rx D) : Rx D := r.bind fun d ρ1 => match d with
  | .bool true => g ρ1
  | .bool false => .ok (.bool false) ρ1
  | _ => .bad
def kxOrD (r : Rx D) (g : En → Rx D) : Rx D := r.bind fun d ρ1 => match d with
  | .bool true => .ok (.bool true) ρ1
  | .bool false => g ρ1
  | _ => .bad
@[simp] theorem at_xAn (f g : En → Rx D) : xAn f g ρ = kxAnD (f ρ) g := nrfl rfl
@[simp] theorem at_xOr (f g : En → Rx D) : xOr f g ρ = kxOrD (f ρ) g := nrfl rfl
@[simp] theorem kxAnD_ok (b : Bool) (g : En → Rx D) : kxAnD (.ok (.bool b) ρ) g = if b = true then g ρ else .ok (.bool false) ρ := by cases b <;> rfl
@[simp] theorem kxOrD_ok (b : Bool) (g : En → Rx D) : kxOrD (.ok (.bool b) ρ) g = if b = true then .ok (.bool true) ρ else g ρ := by cases b <;> rfl
def kxN (r : Rx D) : Rx D := r.bind fun d ρ1 => match d with
  | .bool c => .ok (.bool (!c)) ρ1
  | _ => .bad
@[simp] theorem at_xNot (f : En → Rx D) : xNot f ρ = kxN (f ρ) := nrfl rfl
@[simp] theorem kxN_ok (b : Bool) : kxN (.ok (.bool b) ρ) = .ok (.bool !b) ρ := nrfl rfl
@[simp] theorem kxN_ex : kxN (.ex c fs ρ) = .ex c fs ρ := nrfl rfl
@[simp] theorem at_xANil : xANil ρ = .ok [] ρ := nrfl rfl
def kxCons (r : Rx D) (g : En → Rx (List D)) : Rx (List D) := r.bind fun d ρ1 => (g ρ1).bind fun ds ρ2 => .ok (d :: ds) ρ2
def kxCons' (d : D) (r : Rx (List D)) : Rx (List D) := r.bind fun ds ρ2 => .ok (d :: ds) ρ2
@[simp] theorem at_xACons (f : En → Rx D) (g : En → Rx (List D)) : xACons f g ρ = kxCons (f ρ) g := nrfl rfl
@[simp] theorem kxCons_ok (g : En → Rx (List D)) : kxCons (.ok d ρ) g = kxCons' d (g ρ) := nrfl rfl
@[simp] theorem kxCons_ex (g : En → Rx (List D)) : kxCons (.ex c fs ρ) g = .ex c fs ρ := nrfl rfl
@[simp] theorem kxCons'_ok : kxCons' d (.ok ds ρ) = .ok (d :: ds) ρ := nrfl rfl
@[simp] theorem kxCons'_ex : kxCons' d (.ex c fs ρ) = .ex c fs ρ := nrfl rfl
def kxQ (o : Option (Option D)) (r : Rx (List D)) : Rx (List D) := match o with
  | some (some _) => r.bind fun ds ρ2 => .ok (.none :: ds) ρ2
  | _ => .bad
@[simp] theorem at_xQ0 (i : Nat) (g : En → Rx (List D)) : xQ0 i g ρ = kxQ ρ[i]? (g ρ) := by
  unfold xQ0 kxQ
  try (rcases ρ[i]? with _ | _ | _ <;> rfl)
@[simp] theorem kxQ_ok : kxQ (some (some d)) (.ok ds ρ) = .ok (.none :: ds) ρ := nrfl rfl
@[simp] theorem kxQ_ex : kxQ (some (some d)) (.ex c fs ρ) = .ex c fs ρ := nrfl rfl
def kxT (r : Rx (List D)) : Rx D := r.bind fun ds ρ1 => if ds.length ≤ sizeLine then .ok (.tuple ds) ρ1 else .bad
def kxL (r : Rx (List D)) : Rx D := r.bind fun ds ρ1 => if ds.length ≤ sizeLine then .ok (.list ds) ρ1 else .bad
@[simp] theorem at_xTup (g : En → Rx (List D)) : xTup g ρ = kxT (g ρ) := nrfl rfl
@[simp] theorem at_xLst (g : En → Rx (List D)) : xLst g ρ = kxL (g ρ) := nrfl rfl
@[simp] theorem kxT_ok : kxT (.ok ds ρ) = if ds.length ≤ 16777216 then .ok (.tuple ds) ρ else .bad := by rw [← sizeLine_eq]; rfl
@[simp] theorem kxL_ok : kxL (.ok ds ρ) = if ds.length ≤ 16777216 then .ok (.list ds) ρ else .bad := by rw [← sizeLine_eq]; rfl
@[simp] theorem kxT_ex : kxT (.ex c fs ρ) = .ex c fs ρ := nrfl rfl
@[simp] theorem kxL_ex : kxL (.ex c fs ρ) = .ex c fs ρ := nrfl rfl
def kxC (n : Nat) (g : List D → Rs D) (r : Rx (List D)) : Rx D := r.bind fun ds ρ1 => if ds.length = n then rxOf (g ds) ρ1 else .bad
@[simp] theorem at_xCall (n : Nat) (g : List D → Rs D) (fa : En → Rx (List D)) : xCall n g fa ρ = kxC n g (fa ρ) := nrfl rfl
@[simp] theorem kxC_ok (n : Nat) (g : List D → Rs D) : kxC n g (.ok ds ρ) = if ds.length = n then rxOf (g ds) ρ else .bad := nrfl rfl
@[simp] theorem kxC_ex (n : Nat) (g : List D → Rs D) : kxC n g (.ex c fs ρ) = .ex c fs ρ := nrfl rfl
def kxK (g : List D → Rs D) (r : Rx (List D)) : Rx D := r.bind fun ds ρ1 => rxOf (g ds) ρ1
@[simp] theorem at_xBlt (g : List D → Rs D) (fa : En → Rx (List D)) : xBlt g fa ρ = kxK g (fa ρ) := nrfl rfl
@[simp] theorem kxK_ok (g : List D → Rs D) : kxK g (.ok ds ρ) = rxOf (g ds) ρ := nrfl rfl
@[simp] theorem kxK_ex (g : List D → Rs D) : kxK g (.ex c fs ρ) = .ex c fs ρ := nrfl rfl
def kxI (i q n : Nat) (g : List D → Ry) (r : Rx (List D)) : Rx D := r.bind fun ds ρ1 => oSlot ρ1 i fun o => if ds.length = n then ryK i ρ1 (g (ds.set q o)) else .bad
def kxI' (i q n : Nat) (g : List D → Ry) (ds : List D) (ρ : En) (o : Option (Option D)) : Rx D := match o with
  | some (some o) => if ds.length = n then ryK i ρ (g (ds.set q o)) else .bad
  | _ => .bad
@[simp] theorem at_xIo (i q n : Nat) (g : List D → Ry) (fa : En → Rx (List D)) : xIo i q n g fa ρ = kxI i q n g (fa ρ) := nrfl rfl
@[simp] theorem kxI_ok (i q n : Nat) (g : List D → Ry) : kxI i q n g (.ok ds ρ) = kxI' i q n g ds ρ ρ[i]? := by
  unfold kxI kxI' oSlot
  simp only [Rx.ok_bind]
  try (rcases ρ[i]? with _ | _ | _ <;> rfl)
@[simp] theorem kxI_ex (i q n : Nat) (g : List D → Ry) : kxI i q n g (.ex c fs ρ) = .ex c fs ρ := nrfl rfl
@[simp] theorem kxI'_ok (i q n : Nat) (g : List D → Ry) : kxI' i q n g ds ρ (some (some o)) = if ds.length = n then ryK i ρ (g (ds.set q o)) else .bad := nrfl rfl
@[simp] theorem ryK_ok (i : Nat) : ryK i ρ (.ok d o) = .ok d (ρ.set i (some o)) := nrfl rfl
@[simp] theorem ryK_ex (i : Nat) : ryK i ρ (.ex c fs o) = .ex c fs (ρ.set i (some o)) := nrfl rfl
@[simp] theorem ryK_bad (i : Nat) : ryK i ρ .bad = .bad := nrfl rfl
def kxM (i n : Nat) (g : List D → Ry) (r : Rx (List D)) : Rx D := r.bind fun ds ρ1 => oSlot ρ1 i fun o => if ds.length + 1 = n then ryK i ρ1 (g (o :: ds)) else .bad
def kxM' (i n : Nat) (g : List D → Ry) (ds : List D) (ρ : En) (o : Option (Option D)) : Rx D := match o with
  | some (some o) => if ds.length + 1 = n then ryK i ρ (g (o :: ds)) else .bad
  | _ => .bad
def kxO (o : Option (Option D)) (r : Rx D) : Rx D := match o with
  | some (some (.tuple _)) => r
  | _ => .bad
@[simp] theorem at_xMe (i n : Nat) (g : List D → Ry) (fa : En → Rx (List D)) : xMe i n g fa ρ = kxO ρ[i]? (kxM i n g (fa ρ)) := by
  unfold xMe kxO getO kxM
  rcases ρ[i]? with _ | _ | o
  · rfl
  · rfl
  · cases o <;> rfl
@[simp] theorem kxO_ok (r : Rx D) : kxO (some (some (.tuple ds))) r = r := nrfl rfl
@[simp] theorem kxM_ok (i n : Nat) (g : List D → Ry) : kxM i n g (.ok ds ρ) = kxM' i n g ds ρ ρ[i]? := by
  unfold kxM kxM' oSlot
  simp only [Rx.ok_bind]
  try (rcases ρ[i]? with _ | _ | _ <;> rfl)
@[simp] theorem kxM_ex (i n : Nat) (g : List D → Ry) : kxM i n g (.ex c fs ρ) = .ex c fs ρ := nrfl rfl
@[simp] theorem kxM'_ok (i n : Nat) (g : List D → Ry) : kxM' i n g ds ρ (some (some o)) = if ds.length + 1 = n then ryK i ρ (g (o :: ds)) else .bad := nrfl rfl
/-! statements -/
def kSetX (i : Nat) (r : Rx D) : Out := oBindX r fun d ρ1 => .nx (ρ1.set i (some d))
@[simp] theorem at_sSetX (i : Nat) (f : En → Rx D) : sSetX i f ρ = kSetX i (f ρ) := nrfl rfl
@[simp] theorem kSetX_ok (i : Nat) : kSetX i (.ok d ρ) = .nx (ρ.set i (some d)) := nrfl rfl
@[simp] theorem kSetX_ex (i : Nat) : kSetX i (.ex c fs ρ) = .ex c fs ρ := nrfl rfl
def kExprX (r : Rx D) : Out := oBindX r fun _ ρ1 => .nx ρ1
@[simp] theorem at_sExprX (f : En → Rx D) : sExprX f ρ = kExprX (f ρ) := nrfl rfl
@[simp] theorem kExprX_ok : kExprX (.ok d ρ) = .nx ρ := nrfl rfl
@[simp] theorem kExprX_ex : kExprX (.ex c fs ρ) = .ex c fs ρ := nrfl rfl
def kRetX (r : Rx D) : Out := oBindX r fun d _ => .rt d
@[simp] theorem at_sRetX (f : En → Rx D) : sRetX f ρ = kRetX (f ρ) := nrfl rfl
@[simp] theorem kRetX_ok : kRetX (.ok d ρ) = .rt d := nrfl rfl
@[simp] theorem kRetX_ex : kRetX (.ex c fs ρ) = .ex c fs ρ := nrfl rfl
def kRx (r : Rx D) : Out := oBindX r fun d ρ1 => .rx d ρ1
@[simp] theorem at_sRx (f : En → Rx D) : sRx f ρ = kRx (f ρ) := nrfl rfl
@[simp] theorem kRx_ok : kRx (.ok d ρ) = .rx d ρ := nrfl rfl
@[simp] theorem kRx_ex : kRx (.ex c fs ρ) = .ex c fs ρ := nrfl rfl
def kIfX (r : Rx Bool) (f g : En → Out) : Out := oBindX r fun b ρ1 => if b = true then f ρ1 else g ρ1
@[simp] theorem at_sIfX (k : En → Rx Bool) (f g : En → Out) : sIfX k f g ρ = kIfX (k ρ) f g := nrfl rfl
@[simp] theorem kIfX_ok (b : Bool) (f g : En → Out) : kIfX (.ok b ρ) f g = if b = true then f ρ else g ρ := nrfl rfl
@[simp] theorem kIfX_ex (f g : En → Out) : kIfX (.ex c fs ρ) f g = .ex c fs ρ := nrfl rfl
def kUnpX (g : D → En → Rs En) (r : Rx D) : Out := oBindX r fun d ρ1 => oStore (g d ρ1) .nx
@[simp] theorem at_sUnpX (g : D → En → Rs En) (f : En → Rx D) : sUnpX g f ρ = kUnpX g (f ρ) := nrfl rfl
@[simp] theorem kUnpX_ok (g : D → En → Rs En) : kUnpX g (.ok d ρ) = oStore (g d ρ) .nx := nrfl rfl
@[simp] theorem kUnpX_ex (g : D → En → Rs En) : kUnpX g (.ex c fs ρ) = .ex c fs ρ := nrfl rfl
def kAppX (i : Nat) (o : Option (List D)) (r : Rx D) : Out := oL o fun _ => oBindX r fun d ρ1 => oL (getL ρ1 i) fun ds => if ds.length < sizeLine then .nx (ρ1.set i (some (.list (ds ++ [d])))) else .bad
def kAppX' (i : Nat) (o : Option (List D)) (d : D) (ρ : En) : Out := oL o fun ds => if ds.length < sizeLine then .nx (ρ.set i (some (.list (ds ++ [d])))) else .bad
@[simp] theorem at_sAppX (i : Nat) (f : En → Rx D) : sAppX i f ρ = kAppX i (getL ρ i) (f ρ) := nrfl rfl
@[simp] theorem kAppX_ok (i : Nat) : kAppX i (some ds) (.ok d ρ) = kAppX' i (getL ρ i) d ρ := nrfl rfl
@[simp] theorem kAppX_ex (i : Nat) : kAppX i (some ds) (.ex c fs ρ) = .ex c fs ρ := nrfl rfl
@[simp] theorem kAppX'_ok (i : Nat) : kAppX' i (some ds) d ρ = if ds.length < 16777216 then .nx (ρ.set i (some (.list (ds ++ [d])))) else .bad := by rw [← sizeLine_eq]; rfl
def kAugX (i : Nat) (g : D → D → Rs D) (o : Option (Option D)) (r : Rx D) : Out := match o with
  | some (some x) => oBindX r fun y ρ1 => oBind (g x y) ρ1 fun d => .nx (ρ1.set i (some d))
  | _ => .bad
def oSt2 (i : Nat) (ρ : En) (r : Rs D) : Out := oBind r ρ fun d => .nx (ρ.set i (some d))
@[simp] theorem at_sAugX (i : Nat) (g : D → D → Rs D) (f : En → Rx D) : sAugX i g f ρ = kAugX i g ρ[i]? (f ρ) := by
  unfold sAugX kAugX eVar
  rcases ρ[i]? with _ | _ | o <;> rfl
@[simp] theorem kAugX_ok (i : Nat) (g : D → D → Rs D) : kAugX i g (some (some x)) (.ok d ρ) = oSt2 i ρ (g x d) := nrfl rfl
@[simp] theorem kAugX_ex (i : Nat) (g : D → D → Rs D) : kAugX i g (some (some x)) (.ex c fs ρ) = .ex c fs ρ := nrfl rfl
@[simp] theorem oSt2_ok (i : Nat) : oSt2 i ρ (.ok d) = .nx (ρ.set i (some d)) := nrfl rfl
def noL : D → Bool
  | .list _ => false
  | _ => true
def kFld (j : Nat) (o : Option (Option D)) : Rs D := match o with
  | some (some (.tuple ds)) => (match ds[j]? with
    | some d => if noL d = true then .ok d else .bad
    | none => .bad)
  | _ => .bad
@[simp] theorem at_eFld (i j : Nat) : eFld i j ρ = kFld j ρ[i]? := by
  unfold eFld kFld getO
  rcases ρ[i]? with _ | _ | o
  · rfl
  · rfl
  · cases o with
    | tuple ds => rcases h : ds[j]? with _ | d
                  · simp [h]
                  · cases d <;> simp [h, noL]
    | _ => rfl
theorem kFld_ok (j : Nat) {ds : List D} (h : ds[j]? = some d) (hd : noL d = true) : kFld j (some (some (.tuple ds))) = .ok d := by
  unfold kFld
  simp [h, hd]
@[simp] theorem kFld0 (a b : D) : kFld 0 (some (some (.tuple [a, b]))) = if noL a = true then .ok a else .bad := nrfl rfl
@[simp] theorem kFld1 (a b : D) : kFld 1 (some (some (.tuple [a, b]))) = if noL b = true then .ok b else .bad := nrfl rfl
@[simp] theorem noL_tx (l : List Nat) : noL (tx l) = true := nrfl rfl
@[simp] theorem noL_int (i : Int) : noL (.int i) = true := nrfl rfl
@[simp] theorem noL_str (i : Str) : noL (.str i) = true := nrfl rfl
@[simp] theorem noL_tuple (ds : List D) : noL (.tuple ds) = true := nrfl rfl
@[simp] theorem noL_list (ds : List D) : noL (.list ds) = false := nrfl rfl
@[simp] theorem noL_dict (ds : List (D × D)) : noL (.dict ds) = true := nrfl rfl
@[simp] theorem noL_none : noL .none = true := nrfl rfl
@[simp] theorem noL_bool (b : Bool) : noL (.bool b) = true := nrfl rfl
def kFldS (i j : Nat) (o : Option (Option D)) (d : D) (ρ : En) : Out := match o with
  | some (some (.tuple ds)) => if noL d = true then (if j < ds.length then (match ds[j]? with
      | some x => if noL x = true then .nx (ρ.set i (some (.tuple (ds.set j d)))) else .bad
      | none => .nx (ρ.set i (some (.tuple (ds.set j d))))) else if j = ds.length then .nx (ρ.set i (some (.tuple (ds ++ [d])))) else .bad) else .bad
  | _ => .bad
theorem at_sFldK (i j : Nat) : sFldK i j d ρ = kFldS i j ρ[i]? d ρ := by
  unfold sFldK kFldS getO
  rcases ρ[i]? with _ | _ | o
  · rfl
  · rfl
  · cases o with
    | tuple ds =>
      cases d with
      | list => simp
      | _ => simp only [noL_tuple, noL_dict, noL_none, noL_bool, noL_int, noL_str, if_true]
             by_cases h : j < ds.length
             · simp only [if_pos h]
               rcases ds[j]? with _ | x
               · rfl
               · cases x <;> rfl
             · simp only [if_neg h]
    | _ => rfl
@[simp] theorem kFldS_0 (i : Nat) : kFldS i 0 (some (some (.tuple []))) d ρ = if noL d = true then .nx (ρ.set i (some (.tuple [d]))) else .bad := by unfold kFldS; simp
@[simp] theorem kFldS_1 (i : Nat) (a : D) : kFldS i 1 (some (some (.tuple [a]))) d ρ = if noL d = true then .nx (ρ.set i (some (.tuple [a, d]))) else .bad := by unfold kFldS; simp
@[simp] theorem kFldS_11 (i : Nat) (a b : D) : kFldS i 1 (some (some (.tuple [a, b]))) d ρ = if noL d = true then (if noL b = true then .nx (ρ.set i (some (.tuple [a, d]))) else .bad) else .bad := by unfold kFldS; simp
@[simp] theorem kFldS_00 (i : Nat) (a b : D) : kFldS i 0 (some (some (.tuple [a, b]))) d ρ = if noL d = true then (if noL a = true then .nx (ρ.set i (some (.tuple [d, b]))) else .bad) else .bad := by unfold kFldS; simp
def kFldX (i j : Nat) (r : Rx D) : Out := oBindX r fun d ρ1 => sFldK i j d ρ1
@[simp] theorem at_sFldX (i j : Nat) (f : En → Rx D) : sFldX i j f ρ = kFldX i j (f ρ) := nrfl rfl
@[simp] theorem kFldX_ok (i j : Nat) : kFldX i j (.ok d ρ) = kFldS i j ρ[i]? d ρ := by rw [← at_sFldK]; rfl
@[simp] theorem kFldX_ex (i j : Nat) : kFldX i j (.ex c fs ρ) = .ex c fs ρ := nrfl rfl
def kFldA (i j : Nat) (r : Rs D) (ρ : En) : Out := oBind r ρ fun d => sFldK i j d ρ
@[simp] theorem at_sFldAugX (i j : Nat) (g : D → D → Rs D) (fe : En → Rs D) : sFldAugX i j g fe ρ = kFldA i j (k2 g (kFld j ρ[i]?) fe ρ) ρ := by
  rw [← at_eFld]
  unfold sFldAugX kFldA k2
  cases eFld i j ρ with
  | ok a => simp only [oBind_ok, ok_bind]; cases fe ρ <;> rfl
  | ex => rfl
  | bad => rfl
@[simp] theorem kFldA_ok (i j : Nat) : kFldA i j (.ok d) ρ = kFldS i j ρ[i]? d ρ := by rw [← at_sFldK]; rfl
def kMk (i n : Nat) (g : List D → Ry) (r : Rx (List D)) : Out := oBindX r fun ds ρ1 => if ds.length + 1 = n then (match g (.tuple [] :: ds) with
  | .ok .none o => .nx (ρ1.set i (some o))
  | .ok _ _ => .bad
  | .ex cn fs _ => .ex cn fs ρ1
  | .bad => .bad) else .bad
def kMk' (i : Nat) (ρ : En) (r : Ry) : Out := match r with
  | .ok .none o => .nx (ρ.set i (some o))
  | .ok _ _ => .bad
  | .ex cn fs _ => .ex cn fs ρ
  | .bad => .bad
@[simp] theorem at_sMk (i n : Nat) (g : List D → Ry) (fa : En → Rx (List D)) : sMk i n g fa ρ = kMk i n g (fa ρ) := nrfl rfl
@[simp] theorem kMk_ok (i n : Nat) (g : List D → Ry) : kMk i n g (.ok ds ρ) = if ds.length + 1 = n then kMk' i ρ (g (.tuple [] :: ds)) else .bad := nrfl rfl
@[simp] theorem kMk_ex (i n : Nat) (g : List D → Ry) : kMk i n g (.ex c fs ρ) = .ex c fs ρ := nrfl rfl
@[simp] theorem kMk'_ok (i : Nat) : kMk' i ρ (.ok .none o) = .nx (ρ.set i (some o)) := nrfl rfl
@[simp] theorem kMk'_ex (i : Nat) : kMk' i ρ (.ex c fs o) = .ex c fs ρ := nrfl rfl
/-! loops -/
def kWhX (k : En → Rx Bool) (b : En → Out) (n : Nat) (r : Rx Bool) : Out := oBindX r fun c ρ1 => if c = true then oLoop (b ρ1) (whileX k b n) else .nx ρ1
@[simp] theorem at_whileX (k : En → Rx Bool) (b : En → Out) (n : Nat) : whileX k b (n + 1) ρ = kWhX k b n (k ρ) := nrfl rfl
@[simp] theorem kWhX_ok (k : En → Rx Bool) (b : En → Out) (n : Nat) (t : Bool) : kWhX k b n (.ok t ρ) = if t = true then oLoop (b ρ) (whileX k b n) else .nx ρ := nrfl rfl
@[simp] theorem kWhX_ex (k : En → Rx Bool) (b : En → Out) (n : Nat) : kWhX k b n (.ex c fs ρ) = .ex c fs ρ := nrfl rfl
theorem sWhileX_eq (k : En → Rx Bool) (b : En → Out) : sWhileX k b ρ = whileX k b fuelW ρ := nrfl rfl
/-- defs -/
theorem runX_eq (n q : Nat) (f : En → Out) : runX n q f ds = outX q (f (ds.map some ++ List.replicate (n - ds.length) none)) := nrfl rfl
def kOut (o : Option (Option D)) (d : D) : Ry := match o with
  | some (some z) => .ok d z
  | _ => .bad
def kOutE (o : Option (Option D)) (c : Str) (fs : List (Str × D)) : Ry := match o with
  | some (some z) => .ex c fs z
  | _ => .bad
@[simp] theorem outX_nx (q : Nat) : outX q (.nx ρ) = kOut ρ[q]? .none := by unfold outX kOut; rfl
@[simp] theorem outX_rx (q : Nat) : outX q (.rx d ρ) = kOut ρ[q]? d := by unfold outX kOut; rfl
@[simp] theorem outX_ex (q : Nat) : outX q (.ex c fs ρ) = kOutE ρ[q]? c fs := by unfold outX kOutE; rfl
@[simp] theorem kOut_ok (z : D) : kOut (some (some z)) d = .ok d z := nrfl rfl
@[simp] theorem kOutE_ok (z : D) : kOutE (some (some z)) c fs = .ex c fs z := nrfl rfl
@[simp] theorem at_sRaise (cn : Str) : sRaise cn ρ = .ex cn [] ρ := nrfl rfl
def kRaiseV (nm fld : Str) (ρ : En) (r : Rs D) : Out := oBind r ρ fun d => .ex nm [(fld, d)] ρ
@[simp] theorem at_sRaiseV (nm fld : Str) (f : En → Rs D) : sRaiseV nm fld f ρ = kRaiseV nm fld ρ (f ρ) := nrfl rfl
@[simp] theorem kRaiseV_ok (nm fld : Str) : kRaiseV nm fld ρ (.ok d) = .ex nm [(fld, d)] ρ := nrfl rfl
end
end Wm

set_option Elab.async false
set_option linter.all false
set_option maxRecDepth 100000
/-! WmTxt: texts that begin, that end, numbers and their figures, all of. -/
namespace Wm
open PySem PySem.Spec PyProof.Rows L2
theorem startD_s (a b : List Nat) : startD ⟨a.toArray⟩ (tx b) = .ok (.bool (decide (b <+: a))) := by
  show Rs.ok (PyData.bool (Txt.startswith _ _)) = _
  congr 2
  unfold Txt.startswith
  rw [PySem.StrLaws.subAt_eq]
  simp only [str_len, List.drop_zero, Nat.zero_add]
  rw [Bool.eq_iff_iff]
  simp
  constructor
  · rintro ⟨_, h⟩
    exact ⟨a.drop b.length, by
      have := List.take_append_drop b.length a
      rw [h] at this; exact this⟩
  · rintro ⟨r, rfl⟩
    simp
theorem endD_s (a b : List Nat) : endD ⟨a.toArray⟩ (tx b) = .ok (.bool (decide (b <:+ a))) := by
  show Rs.ok (PyData.bool (Txt.endswith _ _)) = _
  congr 2
  unfold Txt.endswith
  rw [PySem.StrLaws.subAt_eq]
  simp only [str_len, Nat.zero_add]
  rw [Bool.eq_iff_iff]
  simp
  constructor
  · rintro ⟨hl, h⟩
    refine ⟨a.take (a.length - b.length), ?_⟩
    have e : (a.drop (a.length - b.length)).take b.length = a.drop (a.length - b.length) := List.take_of_length_le (by simp; omega)
    rw [e] at h
    have := List.take_append_drop (a.length - b.length) a
    rw [h] at this; exact this
  · rintro ⟨r, rfl⟩
    simp
/-! ### all of a list of truths -/
theorem boolsOf_map : ∀ bs : List Bool, boolsOf (bs.map PyData.bool) = some bs
  | [] => rfl
  | b :: bs => by
    show (boolsOf (bs.map PyData.bool)).map _ = _
    rw [boolsOf_map bs]; rfl
theorem allD_map {α : Type} (p : α → Bool) (xs : List α) : allD [.list (xs.map fun x => .bool (p x))] = .ok (.bool (xs.all p)) := by
  have h := boolsOf_map (xs.map p)
  rw [List.map_map] at h
  have e : (PyData.bool ∘ p) = fun x => PyData.bool (p x) := rfl
  rw [e] at h
  unfold allD
  simp only [h]
  rw [List.all_map]
  rfl
/-- a comprehension over a text -/
theorem lcL_signs {i : Nat} {elt : En → Rs D} {ρ0 : En} (p : Nat → Bool) {l : List Nat} (h : ∀ c ∈ l, elt (ρ0.set i (some (tx [c]))) = .ok (.bool (p c))) : lcL (gNm i) cYes elt ρ0 (l.map fun c => tx [c]) = .ok (l.map fun c => .bool (p c)) :=
  lcL_map (fun c => tx [c]) (fun c => .bool (p c)) fun c hc => ⟨_, rfl, rfl, h c hc⟩
/-! ### numbers -/
abbrev figs (n : Nat) : List Nat := TL.numL n
abbrev valF (l : List Nat) : Nat := NumText.digitsVal l
theorem strD_n (n : Nat) (h : n < 10 ^ 100) : strD [.int n] = .ok (tx (figs n)) := by
  have e : ((n : Int).natAbs.log2 < 1920) := by
    show n.log2 < 1920
    by_cases h0 : n = 0
    · subst h0; decide
    · rw [Nat.log2_lt h0]
      exact Nat.lt_of_lt_of_le h (by decide +kernel)
  unfold strD
  simp only [e, if_true]
  rw [SX.num_S]
@[simp] theorem strD_s (a : List Nat) : strD [tx a] = .ok (tx a) := nrfl rfl
def isfig (c : Nat) : Bool := decide (48 ≤ c) && decide (c ≤ 57)
theorem intD_s (a : List Nat) (h : a.all isfig = true) (hne : a ≠ []) (hl : a.length ≤ 640) : intD [tx a] = .ok (.int (valF a)) := by
  have e := SX.int_S (a := a) h hne (by omega)
  unfold intD
  simp only [str_len, hl, if_true]
  rw [e]
theorem figs_all (n : Nat) : (figs n).all isfig = true := by
  rw [List.all_eq_true]
  intro c hc
  have := TL.numL_digits n c hc
  unfold isfig
  simp [this.1, this.2]
theorem figs_ne (n : Nat) : figs n ≠ [] := TL.numL_ne n
theorem valF_figs (n : Nat) : valF (figs n) = n := TL.numL_val n
theorem figs_len {n k : Nat} (hk : 0 < k) (h : n < 10 ^ k) : (figs n).length ≤ k := TL.numL_len hk h
/-- no 0 ahead of others -/
def canon (l : List Nat) : Prop := l = [48] ∨ ∃ c r, l = c :: r ∧ c ≠ 48
theorem figs_valF {l : List Nat} (h : l.all isfig = true) (hc : canon l) : figs (valF l) = l := by
  have hA : NumText.AllDigits l := fun c m => by
    have := List.all_eq_true.mp h c m
    unfold isfig at this
    simpa using this
  have key : ∀ (n : Nat), l.length = n + 1 → (n = 0 ∨ ∃ c r, l = c :: r ∧ 49 ≤ c) → figs (valF l) = l := fun n hl hd => by
    have e := NumText.toDigits_digitsVal n l hl hA hd
    show (Nat.toDigits 10 (NumText.digitsVal l)).map Char.toNat = l
    rw [e, List.map_map]
    have : ∀ c ∈ l, (Char.toNat ∘ Char.ofNat) c = c := fun c m => by
      have := hA c m
      have hv : c.isValidChar := by left; omega
      show (Char.ofNat c).toNat = c
      rw [Char.ofNat, dif_pos hv]
      rfl
    rw [List.map_congr_left this, List.map_id']
  rcases hc with rfl | ⟨c, r, rfl, hc⟩
  · exact key 0 rfl (.inl rfl)
  · have := hA c List.mem_cons_self
    exact key r.length rfl (.inr ⟨c, r, rfl, by omega⟩)
theorem figs_canon (n : Nat) : canon (figs n) := by
  induction n using Nat.strongRecOn with
  | ind n ih =>
    by_cases h : n < 10
    · rw [show figs n = [48 + n] from TL.numL_lt h]
      by_cases h0 : n = 0
      · subst h0; exact .inl rfl
      · exact .inr ⟨48 + n, [], rfl, by omega⟩
    · rw [show figs n = figs (n / 10) ++ [48 + n % 10] from TL.numL_step (by omega)]
      rcases ih (n / 10) (by omega) with e | ⟨c, r, e, hc⟩
      · exfalso
        have v := valF_figs (n / 10)
        rw [e] at v
        have : valF [48] = 0 := rfl
        omega
      · rw [e]; exact .inr ⟨c, r ++ [48 + n % 10], rfl, hc⟩
theorem foldV (l : List Nat) : ∀ a : Nat, l.all isfig = true → l.foldl (fun acc c => acc * 10 + (c - 48)) a < (a + 1) * 10 ^ l.length := by
  induction l with
  | nil => intro a _; simp
  | cons c l ih =>
    intro a h
    rw [List.all_cons, Bool.and_eq_true] at h
    have := ih (a * 10 + (c - 48)) h.2
    unfold isfig at h
    simp at h
    rw [List.foldl_cons, List.length_cons, Nat.pow_succ]
    have h1 : (a * 10 + (c - 48) + 1) * 10 ^ l.length ≤ ((a + 1) * 10) * 10 ^ l.length := Nat.mul_le_mul_right _ (by omega)
    calc _ < _ := this
      _ ≤ _ := h1
      _ = _ := by rw [Nat.mul_assoc, Nat.mul_comm 10 (10 ^ l.length)]
theorem valF_lt (l : List Nat) (h : l.all isfig = true) : valF l < 10 ^ l.length := by
  have := foldV l 0 h
  rw [Nat.zero_add, Nat.one_mul] at this
  exact this
/-! ### kinds of things -/
section
theorem kit_bool_int : kitB "bool" "int" = some true := by decide +kernel
theorem kit_list_list : kitB "list" "list" = some true := by decide +kernel
theorem kit_str_list : kitB "str" "list" = some false := by decide +kernel
theorem kit_int_list : kitB "int" "list" = some false := by decide +kernel
theorem kit_str_int : kitB "str" "int" = some false := by decide +kernel
theorem kit_str_bool : kitB "str" "bool" = some false := by decide +kernel
theorem kit_list_bool : kitB "list" "bool" = some false := by decide +kernel
theorem kit_list_int : kitB "list" "int" = some false := by decide +kernel
theorem kit_list_str : kitB "list" "str" = some false := by decide +kernel
theorem kit_int_str : kitB "int" "str" = some false := by decide +kernel
theorem kit_none_list : kitB "NoneType" "list" = some false := by decide +kernel
theorem kit_none_tuple : kitB "NoneType" "tuple" = some false := by decide +kernel
theorem kit_list_tuple : kitB "list" "tuple" = some false := by decide +kernel
theorem kit_str_tuple : kitB "str" "tuple" = some false := by decide +kernel
theorem kit_int_tuple : kitB "int" "tuple" = some false := by decide +kernel
theorem kit_none_bool : kitB "NoneType" "bool" = some false := by decide +kernel
theorem kit_none_int : kitB "NoneType" "int" = some false := by decide +kernel
theorem kit_tuple_bool : kitB "tuple" "bool" = some false := by decide +kernel
theorem kit_tuple_str : kitB "tuple" "str" = some false := by decide +kernel
theorem kit_tuple_list : kitB "tuple" "list" = some false := by decide +kernel
theorem kit_tuple_int : kitB "tuple" "int" = some false := by decide +kernel
theorem kit_bool_str : kitB "bool" "str" = some false := by decide +kernel
theorem kit_bool_tuple : kitB "bool" "tuple" = some false := by decide +kernel
theorem kit_bool_list : kitB "bool" "list" = some false := by decide +kernel
theorem isi_of {T : String} {d : D} {b : Bool} (h : kitB (tyD d) T = some b) : isiD T d = .ok (.bool b) := by
  unfold isiD; rw [h]
@[simp] theorem isiD_b_int (b : Bool) : isiD "int" (.bool b) = .ok (.bool true) := isi_of kit_bool_int
@[simp] theorem isiD_l_list (b : List D) : isiD "list" (.list b) = .ok (.bool true) := isi_of kit_list_list
@[simp] theorem isiD_s_list (b : Str) : isiD "list" (.str b) = .ok (.bool false) := isi_of kit_str_list
@[simp] theorem isiD_i_list (b : Int) : isiD "list" (.int b) = .ok (.bool false) := isi_of kit_int_list
@[simp] theorem isiD_s_int (b : Str) : isiD "int" (.str b) = .ok (.bool false) := isi_of kit_str_int
@[simp] theorem isiD_s_bool (b : Str) : isiD "bool" (.str b) = .ok (.bool false) := isi_of kit_str_bool
@[simp] theorem isiD_l_bool (b : List D) : isiD "bool" (.list b) = .ok (.bool false) := isi_of kit_list_bool
@[simp] theorem isiD_l_int (b : List D) : isiD "int" (.list b) = .ok (.bool false) := isi_of kit_list_int
@[simp] theorem isiD_l_str (b : List D) : isiD "str" (.list b) = .ok (.bool false) := isi_of kit_list_str
@[simp] theorem isiD_i_str (b : Int) : isiD "str" (.int b) = .ok (.bool false) := isi_of kit_int_str
@[simp] theorem isiD_n_list : isiD "list" .none = .ok (.bool false) := isi_of kit_none_list
@[simp] theorem isiD_n_tuple : isiD "tuple" .none = .ok (.bool false) := isi_of kit_none_tuple
@[simp] theorem isiD_n_bool : isiD "bool" .none = .ok (.bool false) := isi_of kit_none_bool
@[simp] theorem isiD_n_int : isiD "int" .none = .ok (.bool false) := isi_of kit_none_int
@[simp] theorem isiD_l_tuple (b : List D) : isiD "tuple" (.list b) = .ok (.bool false) := isi_of kit_list_tuple
@[simp] theorem isiD_s_tuple (b : Str) : isiD "tuple" (.str b) = .ok (.bool false) := isi_of kit_str_tuple
@[simp] theorem isiD_i_tuple (b : Int) : isiD "tuple" (.int b) = .ok (.bool false) := isi_of kit_int_tuple
@[simp] theorem isiD_t_bool (b : List D) : isiD "bool" (.tuple b) = .ok (.bool false) := isi_of kit_tuple_bool
@[simp] theorem isiD_t_str (b : List D) : isiD "str" (.tuple b) = .ok (.bool false) := isi_of kit_tuple_str
@[simp] theorem isiD_t_list (b : List D) : isiD "list" (.tuple b) = .ok (.bool false) := isi_of kit_tuple_list
@[simp] theorem isiD_t_int (b : List D) : isiD "int" (.tuple b) = .ok (.bool false) := isi_of kit_tuple_int
@[simp] theorem isiD_b_str (b : Bool) : isiD "str" (.bool b) = .ok (.bool false) := isi_of kit_bool_str
@[simp] theorem isiD_b_tuple (b : Bool) : isiD "tuple" (.bool b) = .ok (.bool false) := isi_of kit_bool_tuple
@[simp] theorem isiD_b_list (b : Bool) : isiD "list" (.bool b) = .ok (.bool false) := isi_of kit_bool_list
end
end Wm

set_option Elab.async false
set_option linter.all false
set_option maxRecDepth 1000000
set_option maxHeartbeats 4000000
namespace Wp
open PySem PySem.Spec PyProof.Rows L2 Wm
/-- a reader: what is gone through, what is left -/
def rd (p r : List Nat) : D := .tuple [tx (p ++ r), .int p.length]
theorem rd_app (p x r : List Nat) : rd (p ++ x) r = .tuple [tx (p ++ (x ++ r)), .int (p.length + x.length)] := by
  unfold rd
  rw [List.append_assoc, List.length_append]
  rfl
def hd (s r : List Nat) : Bool := match r with
  | [] => false
  | c :: _ => decide (c ∈ s)
@[simp] theorem hd_nil (s : List Nat) : hd s [] = false := rfl
theorem hd_cons (s : List Nat) (c : Nat) (r : List Nat) : hd s (c :: r) = decide (c ∈ s) := rfl
theorem init_ok (l : List Nat) : g_Reader___init__ [.tuple [], tx l] = .ok .none (rd [] l) := by
  unfold g_Reader___init__ f_Reader___init__
  rw [runX_eq]
  simp [rd]
theorem sees_ok (p r s : List Nat) (h : p.length + r.length ≤ 10000000) : g_Reader_sees [rd p r, tx s] = .ok (.bool (hd s r)) (rd p r) := by
  unfold g_Reader_sees f_Reader_sees
  rw [runX_eq]
  cases r with
  | nil =>
    simp at h
    simp (disch := omega) [rd, if_pos]
  | cons c r =>
    simp at h
    have h1 := atI_mid p c r
    simp (disch := omega) [rd, if_pos, h1, hd_cons]
theorem atend_ok (p r : List Nat) (h : p.length + r.length ≤ 10000000) : g_Reader_at_end [rd p r] = .ok (.bool r.isEmpty) (rd p r) := by
  unfold g_Reader_at_end f_Reader_at_end
  rw [runX_eq]
  cases r with
  | nil =>
    simp at h
    simp (disch := omega) [rd, if_pos]
  | cons c r =>
    simp at h
    simp (disch := omega) [rd, if_pos]
    omega
theorem pair_rd {p r : List Nat} {a b c : Nat} (ha : a ∈ [50, 51, 52, 53, 54, 55]) (hb : b < 128) (hc : sgn a b = some c) (h : p.length + r.length ≤ 9000000) : g_Reader_pair [rd p (126 :: a :: b :: r)] = .ok (tx [c]) (rd (p ++ [126, a, b]) r) := by
  have ha' : a < 128 := by simp at ha; omega
  have h1 : atI (p ++ 126 :: a :: b :: r) ((p.length : Int) + 1) = some a := by
    have := atI_mid (p ++ [126]) a (b :: r)
    simpa using this
  have h2 := cut_two' p 126 (a :: b :: r)
  have h3 := sign_of_ok a b ha' hb
  rw [signF_sgn a b ha' hb, hc] at h3
  have h4 : notInD (tx [a]) (tx [50, 51, 52, 53, 54, 55]) = .ok (.bool false) := by
    rw [notInD_s]
    simp at ha ⊢
    omega
  unfold g_Reader_pair f_Reader_pair t_Reader_pair_4 t_Reader_pair_3 t_Reader_pair_2 t_Reader_pair_1
  rw [runX_eq]
  have h5 : ¬ ((r.length : Int) + 1 + 1 + 1 ≤ 2) := by omega
  simp (disch := first | omega | rfl) [rd, if_pos, h1, h2, h3, h4, h5]
def PL : List Nat := [97, 98, 99, 100, 101, 102, 103, 104, 105, 106, 107, 108, 109, 110, 111, 112, 113, 114, 115, 116, 117, 118, 119, 120, 121, 122, 65, 66, 67, 68, 69, 70, 71, 72, 73, 74, 75, 76, 77, 78, 79, 80, 81, 82, 83, 84, 85, 86, 87, 88, 89, 90, 48, 49, 50, 51, 52, 53, 54, 55, 56, 57, 45, 95, 46]
theorem k_PL : k_PLAIN = tx PL := rfl
theorem lPL : PL.length = 65 := by decide
theorem PL_pln (c : Nat) (h : c < 128) : (c ∈ PL) ↔ pln c = true := by
  have := plain_all c h
  unfold PL
  rw [← this]
  simp only [decide_eq_true_eq]
/-- what may write a sign -/
inductive Tok (fr : List Nat) : List Nat → Nat → Prop
  | sign {c : Nat} (h : pln c = true ∨ c ∈ fr) (h1 : c ≠ 126) (h2 : c < 128) : Tok fr [c] c
  | pair {a b c : Nat} (ha : a ∈ [50, 51, 52, 53, 54, 55]) (hb : b < 128) (hb2 : b ≠ 58) (h : sgn a b = some c) : Tok fr [126, a, b] c
inductive Wt (fr : List Nat) : List Nat → List Nat → Prop
  | nil : Wt fr [] []
  | cons {u x l : List Nat} {c : Nat} (t : Tok fr u c) (w : Wt fr x l) : Wt fr (u ++ x) (c :: l)
theorem sign_rd {fr u : List Nat} {c : Nat} (t : Tok fr u c) (p r : List Nat) (h : p.length + r.length ≤ 9000000) (hf : fr.length ≤ 1000) : g_Reader_sign [rd p (u ++ r), tx fr] = .ok (tx [c]) (rd (p ++ u) r) := by
  unfold g_Reader_sign f_Reader_sign
  rw [runX_eq]
  cases t with
  | sign h0 h1 h2 =>
    have s1 := sees_ok p (c :: r) [126] (by simp; omega)
    have s2 := sees_ok p (c :: r) (PL ++ fr) (by simp; omega)
    have e1 : hd [126] (c :: r) = false := by rw [hd_cons]; simp [h1]
    have e2 : hd (PL ++ fr) (c :: r) = true := by
      rw [hd_cons]
      have := PL_pln c h2
      simp only [decide_eq_true_eq, List.mem_append]
      rcases h0 with h0 | h0
      · exact .inl (this.mpr h0)
      · exact .inr h0
    rw [e1] at s1; rw [e2] at s2
    have a1 := atI_mid p c r
    unfold rd at s1 s2 ⊢
    have := lPL
    try simp at s1 s2
    simp (disch := first | omega | rfl) [if_pos, s1, s2, k_PL, a1]
  | pair ha hb hb2 hc =>
    rename_i a b
    have s1 := sees_ok p (126 :: a :: b :: r) [126] (by simp; omega)
    have e1 : hd [126] (126 :: a :: b :: r) = true := by rw [hd_cons]; simp
    have s2 := pair_rd (p := p) (r := r) ha hb hc h
    rw [e1] at s1
    unfold rd at s1 s2 ⊢
    try simp at s1
    simp (disch := first | omega | rfl) [if_pos, s1, s2]
theorem Tok.len {fr u : List Nat} {c : Nat} (t : Tok fr u c) : 0 < u.length ∧ u.length ≤ 3 := by cases t <;> simp
theorem Wt.len {fr x l : List Nat} (w : Wt fr x l) : l.length ≤ x.length ∧ x.length ≤ 3 * l.length := by
  induction w with
  | nil => simp
  | cons t w ih => have := t.len; simp; omega
/-- a sign that ends is none that stands in what is written -/
def apart (fr ends : List Nat) : Prop := 126 ∉ ends ∧ ∀ c, c < 128 → (pln c = true ∨ c ∈ fr) → c ∉ ends
theorem hd_tok {fr ends u : List Nat} {c : Nat} (a : apart fr ends) (t : Tok fr u c) (r : List Nat) : hd ends (u ++ r) = false := by
  cases t with
  | sign h0 h1 h2 => show hd ends (c :: r) = false; rw [hd_cons]; simpa using a.2 c h2 h0
  | pair ha hb hb2 hc => rename_i a' b; show hd ends (126 :: ([a', b] ++ r)) = false; rw [hd_cons]; simpa using a.1
def stop (ends r : List Nat) : Prop := r = [] ∨ hd ends r = true
def pcond : En → Rx Bool := xAnB (xNo (xB (xMe 0 1 g_Reader_at_end xANil))) (xNo (xB (xMe 0 2 g_Reader_sees (xACons (xP (eVar 2)) xANil))))
theorem pcond_ok (p r ends : List Nat) (x1 x3 x4 : Option D) (h : p.length + r.length ≤ 10000000) : pcond [some (rd p r), x1, some (tx ends), x3, x4] = .ok (!r.isEmpty && !hd ends r) [some (rd p r), x1, some (tx ends), x3, x4] := by
  have s1 := atend_ok p r h
  have s2 := sees_ok p r ends h
  unfold pcond
  unfold rd at s1 s2 ⊢
  cases r with
  | nil => simp at s1; simp [s1]
  | cons c r => simp at s1 s2; simp [s1, s2]
theorem pbody_ok {fr u : List Nat} {c : Nat} (t : Tok fr u c) (p r acc : List Nat) (x2 : Option D) (most : Int) (h : p.length + r.length ≤ 9000000) (hf : fr.length ≤ 1000) (ha : (acc.length : Int) ≠ most) (ha2 : acc.length ≤ 10000000) :
    b_Reader_part_1 [some (rd p (u ++ r)), some (tx fr), x2, some (.int most), some (tx acc)] = .nx [some (rd (p ++ u) r), some (tx fr), x2, some (.int most), some (tx (acc ++ [c]))] := by
  have s1 := sign_rd t p r h hf
  unfold b_Reader_part_1
  unfold rd at s1 ⊢
  simp at s1
  simp (disch := first | omega | rfl) [if_pos, s1, ha]
theorem part_loop {fr ends : List Nat} (ap : apart fr ends) (hf : fr.length ≤ 1000) {r : List Nat} (hs : stop ends r) (most : Int) {x l : List Nat} (w : Wt fr x l) : ∀ (p acc : List Nat) (n : Nat), x.length < n → p.length + (x.length + r.length) ≤ 9000000 → (acc.length : Int) + l.length ≤ most → acc.length + l.length ≤ 10000000 →
    whileX pcond b_Reader_part_1 n [some (rd p (x ++ r)), some (tx fr), some (tx ends), some (.int most), some (tx acc)] = .nx [some (rd (p ++ x) r), some (tx fr), some (tx ends), some (.int most), some (tx (acc ++ l))] := by
  induction w with
  | nil =>
    intro p acc n hn hp hm ha
    obtain ⟨n, rfl⟩ : ∃ m, n = m + 1 := ⟨n - 1, by omega⟩
    rw [at_whileX, List.nil_append, pcond_ok _ _ _ _ _ _ (by simp at hp; omega)]
    have e : (!r.isEmpty && !hd ends r) = false := by
      rcases hs with rfl | e
      · rfl
      · rw [e]; simp
    rw [e]
    simp
  | @cons u x l c t w ih =>
    intro p acc n hn hp hm ha
    obtain ⟨n, rfl⟩ : ∃ m, n = m + 1 := ⟨n - 1, by omega⟩
    have tl := t.len
    simp only [List.length_append, List.length_cons] at hn hp hm ha
    rw [at_whileX, List.append_assoc, pcond_ok _ _ _ _ _ _ (by simp; omega)]
    have e : (!(u ++ (x ++ r)).isEmpty && !hd ends (u ++ (x ++ r))) = true := by
      rw [hd_tok ap t]
      cases u with
      | nil => simp at tl
      | cons _ _ => simp
    rw [e, kWhX_ok, if_pos rfl, pbody_ok t _ _ _ _ _ (by simp; omega) hf (by omega) (by omega), oLoop_nx, ih (p ++ u) (acc ++ [c]) n (by omega) (by simp; omega) (by simp; omega) (by simp; omega)]
    simp
theorem part_ok {fr ends : List Nat} (ap : apart fr ends) (hf : fr.length ≤ 1000) {r : List Nat} (hs : stop ends r) (most : Int) {x l : List Nat} (w : Wt fr x l) (hne : l ≠ []) (p : List Nat) (hp : p.length + (x.length + r.length) ≤ 5000000) (hm : (l.length : Int) ≤ most) :
    g_Reader_part [rd p (x ++ r), tx fr, tx ends, .int most] = .ok (tx l) (rd (p ++ x) r) := by
  have wl := w.len
  cases w with
  | nil => exact absurd rfl hne
  | @cons u x l c t w =>
    have tl := t.len
    simp only [List.length_append, List.length_cons] at hp hm wl
    have s1 := sign_rd t p (x ++ r) (by simp; omega) hf
    have lp := part_loop ap hf hs most w (p ++ u) [c] fuelW (by unfold fuelW; omega) (by simp; omega) (by simp; omega) (by simp; omega)
    unfold g_Reader_part f_Reader_part
    rw [runX_eq, List.append_assoc]
    have e0 : ([rd p (u ++ (x ++ r)), tx fr, tx ends, PyData.int most].map some ++ List.replicate (5 - [rd p (u ++ (x ++ r)), tx fr, tx ends, PyData.int most].length) none : En) = [some (rd p (u ++ (x ++ r))), some (tx fr), some (tx ends), some (.int most), none] := rfl
    rw [e0]
    have e1 : sSetX 4 (xMe 0 2 g_Reader_sign (xACons (xP (eVar 1)) xANil)) [some (rd p (u ++ (x ++ r))), some (tx fr), some (tx ends), some (.int most), none] = .nx [some (rd (p ++ u) (x ++ r)), some (tx fr), some (tx ends), some (.int most), some (tx [c])] := by
      unfold rd at s1 ⊢
      simp at s1
      simp [s1]
    rw [at_sSeq, e1, oSeq_nx, at_sSeq, sWhileX_eq]
    rw [show xAnB (xNo (xB (xMe 0 1 g_Reader_at_end xANil))) (xNo (xB (xMe 0 2 g_Reader_sees (xACons (xP (eVar 2)) xANil)))) = pcond from rfl]
    rw [lp]
    simp
end Wp

set_option Elab.async false
set_option linter.all false
set_option maxRecDepth 1000000
set_option maxHeartbeats 4000000
namespace Wp
open PySem PySem.Spec PyProof.Rows L2 Wm
/-! ### the scheme -/
theorem k_LEF : LEF = [97, 98, 99, 100, 101, 102, 103, 104, 105, 106, 107, 108, 109, 110, 111, 112, 113, 114, 115, 116, 117, 118, 119, 120, 121, 122, 65, 66, 67, 68, 69, 70, 71, 72, 73, 74, 75, 76, 77, 78, 79, 80, 81, 82, 83, 84, 85, 86, 87, 88, 89, 90, 48, 49, 50, 51, 52, 53, 54, 55, 56, 57] := rfl
def scond : En → Rs Bool := tAn (tB (e2 ltD (eVar 2) (eBlt lenD (aCons (eVar 1) aNil)))) (tB (e2 inD (e2 ixD (eVar 1) (eVar 2)) (e2 addD (e2 addD (eC k_LETTERS) (eC k_GREAT)) (eC k_FIGURES))))
theorem lets_ok (ρ : En) : e2 addD (e2 addD (eC k_LETTERS) (eC k_GREAT)) (eC k_FIGURES) ρ = .ok (tx LEF) := by
  rw [k_LEF]
  unfold k_LETTERS k_GREAT k_FIGURES
  simp
theorem scond_ok (x0 : Option D) (q r : List Nat) (h : q.length + r.length ≤ 10000000) : scond [x0, some (tx (q ++ r)), some (.int q.length)] = .ok (hd LEF r) := by
  unfold scond
  rw [at_tAn]
  have e := lets_ok [x0, some (tx (q ++ r)), some (.int q.length)]
  cases r with
  | nil => simp at h; simp (disch := omega) [if_pos]
  | cons c r =>
    have h1 := atI_mid q c r
    simp at h
    rw [hd_cons]
    simp only [at_tB, at_e2] at e ⊢
    simp (disch := omega) [if_pos, h1, e, -at_eC]
theorem sbody_ok (x0 x1 : Option D) (k : Int) : b_read_scheme_1 [x0, x1, some (.int k)] = .nx [x0, x1, some (.int (k + 1))] := by
  unfold b_read_scheme_1
  simp
theorem scheme_loop' (x0 : Option D) {r : List Nat} (hr : hd LEF r = false) : ∀ (m q : List Nat) (n : Nat), (∀ c ∈ m, c ∈ LEF) → m.length < n → q.length + (m.length + r.length) ≤ 10000000 →
    whileL scond b_read_scheme_1 n [x0, some (tx (q ++ (m ++ r))), some (.int q.length)] = .nx [x0, some (tx (q ++ (m ++ r))), some (.int (q.length + m.length))]
  | [], q, n, _, hn, hl => by
    obtain ⟨n, rfl⟩ : ∃ k, n = k + 1 := ⟨n - 1, by omega⟩
    rw [whileL_f (by rw [scond_ok _ _ _ (by simpa using hl), List.nil_append, hr])]
    simp
  | c :: m, q, n, hm, hn, hl => by
    simp only [List.length_cons] at hn hl
    obtain ⟨n, rfl⟩ : ∃ k, n = k + 1 := ⟨n - 1, by omega⟩
    have hc : hd LEF (c :: m ++ r) = true := by
      rw [List.cons_append, hd_cons]; simpa using hm c (by simp)
    rw [whileL_t (by rw [scond_ok _ _ _ (by simp; omega), hc]), sbody_ok, oLoop_nx]
    have ih := scheme_loop' x0 hr m (q ++ [c]) n (fun z hz => hm z (by simp [hz])) (by omega) (by simp; omega)
    have e1 : q ++ [c] ++ (m ++ r) = q ++ (c :: m ++ r) := by simp
    have e2 : (((q ++ [c]).length : Nat) : Int) = (q.length : Int) + 1 := by simp
    rw [e1, e2] at ih
    rw [ih]
    simp; omega
theorem scheme_run {m r : List Nat} (hm : ∀ c ∈ m, c ∈ LEF) (hr : hd LEF r = false) (hl : m.length + r.length ≤ 9000000) :
    g_read_scheme [rd [] (m ++ r)] = outX 0 (t_read_scheme_3 [some (rd [] (m ++ r)), some (tx (m ++ r)), some (.int m.length)]) := by
  have lp := scheme_loop' (some (rd [] (m ++ r))) hr m [] fuelW hm (by unfold fuelW; omega) (by simp; omega)
  simp only [List.nil_append, List.length_nil] at lp
  have z : (((0 : Nat) : Int) + (m.length : Int)) = m.length := by simp
  rw [z] at lp
  unfold g_read_scheme f_read_scheme t_read_scheme_5 t_read_scheme_4
  rw [runX_eq]
  have e1 : sSet 1 (eFld 0 0) [some (rd [] (m ++ r)), none, none] = .nx [some (rd [] (m ++ r)), some (tx (m ++ r)), none] := by
    unfold rd; simp
  have e2 : sSet 2 (eC (.int 0)) [some (rd [] (m ++ r)), some (tx (m ++ r)), none] = .nx [some (rd [] (m ++ r)), some (tx (m ++ r)), some (.int ((0 : Nat) : Int))] := by simp
  show outX 0 (sSeq _ _ [some (rd [] (m ++ r)), none, none]) = _
  rw [at_sSeq, e1, oSeq_nx, at_sSeq, e2, oSeq_nx, at_sSeq, at_sWhile]
  show outX 0 (oSeq (whileL scond b_read_scheme_1 fuelW _) _) = _
  rw [lp, oSeq_nx]
theorem LET_nofig : ∀ c ∈ LET, c ∉ [48, 49, 50, 51, 52, 53, 54, 55, 56, 57] := by decide
theorem LET_LEF {c : Nat} (h : c ∈ LET) : c ∈ LEF := List.mem_append.mpr (.inl h)
theorem scheme_rd {sc r : List Nat} (h : okSch sc) (hl : sc.length + r.length ≤ 8000000) : g_read_scheme [rd [] (sc ++ 58 :: r)] = .ok (tx sc) (rd (sc ++ [58]) r) := by
  obtain ⟨c, m, rfl, hc, hm, hl8⟩ := h
  simp only [List.length_cons] at hl
  rw [scheme_run (by intro z hz; rcases List.mem_cons.mp hz with rfl | hz; exact LET_LEF hc; exact hm z hz) (by rw [hd_cons]; decide) (by simp; omega)]
  have hf := LET_nofig c hc
  have e1 : cutL (c :: m ++ 58 :: r) (some (((c :: m).length : Nat) : Int)) (some ((((c :: m).length : Nat) : Int) + 1)) = [58] := by
    rw [cutL_mid' _ (c :: m).length ((c :: m).length + 1) _ _ rfl (by omega), take_mid]
    simp
  have e2 : cutL (c :: m ++ 58 :: r) none (some (((c :: m).length : Nat) : Int)) = c :: m := by
    rw [cutL_to]; simp
  have e3 : (c :: m ++ 58 :: r)[0]? = some c := rfl
  unfold t_read_scheme_3 t_read_scheme_2
  unfold k_FIGURES
  unfold rd
  generalize hk : (((c :: m).length : Nat) : Int) = k at e1 e2
  have k1 : 1 ≤ k := by rw [← hk]; simp; omega
  have k8 : k ≤ 8 := by rw [← hk]; simp; omega
  generalize ht : (c :: m ++ 58 :: r) = t at *
  have lt : t.length ≤ 9000000 := by rw [← ht]; simp; omega
  have et : (c :: m) ++ [58] ++ r = t := by rw [← ht]; simp
  have g1 : neD (tx (cutL t (some k) (some (k + 1)))) (tx [58]) = .ok (.bool false) := by rw [e1]; simp
  simp only [List.nil_append, List.length_nil, et]
  have hf' : inD (tx [c]) (tx [48, 49, 50, 51, 52, 53, 54, 55, 56, 57]) = .ok (.bool false) := by rw [inD_s]; simpa using hf
  have lk : (((c :: m ++ [58]).length : Nat) : Int) = k + 1 := by rw [← hk]; simp
  simp (disch := first | omega | rfl) [if_pos, e1, e2, e3, hf', show ¬ k < 1 by omega, show ¬ 8 < k by omega, lk]
  rw [← hk]; simp
theorem noscheme_rd {m r : List Nat} (hm : ∀ c ∈ m, c ∈ LEF) (hr : hd LEF r = false) (h58 : hd [58] r = false) (hl : m.length + r.length ≤ 8000000) : g_read_scheme [rd [] (m ++ r)] = .ok (tx []) (rd [] (m ++ r)) := by
  rw [scheme_run hm hr (by omega)]
  have e1 : cutL (m ++ r) (some ((m.length : Nat) : Int)) (some (((m.length : Nat) : Int) + 1)) = r.take 1 := by
    rw [cutL_mid' _ m.length (m.length + 1) _ _ rfl (by omega), take_mid]
    simp
  have e2 : r.take 1 ≠ [58] := by
    cases r with
    | nil => simp
    | cons c r => rw [hd_cons] at h58; simpa using h58
  unfold t_read_scheme_3 t_read_scheme_2 rd
  generalize ht : m ++ r = t at *
  have lt : t.length ≤ 9000000 := by rw [← ht]; simp; omega
  simp (disch := first | omega | rfl) [if_pos, e1, e2]
/-- up to the first sign that parts there is no colon -/
theorem runs_out : ∀ (x r : List Nat), (∀ c ∈ x, c ≠ 58) → hd LEF r = false → hd [58] r = false → ∃ m r', x ++ r = m ++ r' ∧ (∀ c ∈ m, c ∈ LEF) ∧ hd LEF r' = false ∧ hd [58] r' = false
  | [], r, _, h1, h2 => ⟨[], r, rfl, by simp, h1, h2⟩
  | c :: x, r, hx, h1, h2 => by
    by_cases hc : c ∈ LEF
    · obtain ⟨m, r', e, hm, h3, h4⟩ := runs_out x r (fun z hz => hx z (by simp [hz])) h1 h2
      exact ⟨c :: m, r', by rw [List.cons_append, e]; rfl, fun z hz => by rcases List.mem_cons.mp hz with rfl | hz; exact hc; exact hm z hz, h3, h4⟩
    · exact ⟨[], c :: x ++ r, rfl, by simp, by rw [List.cons_append, hd_cons]; simpa using hc, by rw [List.cons_append, hd_cons]; simpa using hx c (by simp)⟩
theorem noscheme {x r : List Nat} (hx : ∀ c ∈ x, c ≠ 58) (h1 : hd LEF r = false) (h2 : hd [58] r = false) (hl : x.length + r.length ≤ 8000000) : g_read_scheme [rd [] (x ++ r)] = .ok (tx []) (rd [] (x ++ r)) := by
  obtain ⟨m, r', e, hm, h3, h4⟩ := runs_out x r hx h1 h2
  have : (x ++ r).length = (m ++ r').length := by rw [e]
  simp at this
  rw [e]
  exact noscheme_rd hm h3 h4 (by omega)
/-! ### the door -/
def FG : List Nat := [48, 49, 50, 51, 52, 53, 54, 55, 56, 57]
theorem k_FG : k_FIGURES = tx FG := rfl
def dval (d : Int) (m : List Nat) : Int := m.foldl (fun (t : Int) (c : Nat) => t * 10 + ((c : Int) - 48)) d
theorem dval_le : ∀ (m : List Nat) (d : Int), 0 ≤ d → (∀ c ∈ m, 48 ≤ c) → d ≤ dval d m
  | [], d, _, _ => Int.le_refl _
  | c :: m, d, h, hm => by
    have hc := hm c (by simp)
    have := dval_le m (d * 10 + ((c : Int) - 48)) (by omega) (fun z hz => hm z (by simp [hz]))
    show d ≤ dval (d * 10 + ((c : Int) - 48)) m
    omega
theorem figs_head : ∀ n : Nat, ∃ c m, figs n = c :: m ∧ 48 ≤ c ∧ c ≤ 57 ∧ (n ≠ 0 → c ≠ 48) ∧ (n = 0 → m = []) := by
  intro n
  induction n using Nat.strongRecOn with
  | _ n ih =>
    by_cases h : n < 10
    · refine ⟨48 + n, [], by show TL.numL n = _; rw [TL.numL_lt h], by omega, by omega, fun _ => by omega, fun _ => rfl⟩
    · obtain ⟨c, m, e, h1, h2, h3, h4⟩ := ih (n / 10) (by omega)
      refine ⟨c, m ++ [48 + n % 10], ?_, h1, h2, fun _ => h3 (by omega), fun z => by omega⟩
      show TL.numL n = _
      rw [TL.numL_step (by omega)]
      show figs (n / 10) ++ _ = _
      rw [e]; rfl
theorem figs_fig {n c : Nat} (h : c ∈ figs n) : 48 ≤ c ∧ c ≤ 57 := TL.numL_digits n c h
theorem fig_FG {c : Nat} (h : 48 ≤ c ∧ c ≤ 57) : c ∈ FG := by unfold FG; simp; omega
theorem int_fig {c : Nat} (h : 48 ≤ c ∧ c ≤ 57) : intD [tx [c]] = .ok (.int ((c : Int) - 48)) := by
  rw [intD_s [c] (by unfold isfig; simp [h]) (by simp) (by simp)]
  have : valF [c] = c - 48 := by show NumText.digitsVal [c] = _; unfold NumText.digitsVal; simp
  rw [this]
  congr 2
  omega
theorem door_turn {p r : List Nat} {c : Nat} {d : Int} (x2 : Option D) (hc : 48 ≤ c ∧ c ≤ 57) (h0 : 0 < d) (hd : d * 10 + ((c : Int) - 48) ≤ 65535) (hl : p.length + r.length ≤ 8000000) :
    ∃ y, b_read_door_1 [some (rd p (c :: r)), some (.int d), x2] = .nx [some (rd (p ++ [c]) r), some (.int (d * 10 + ((c : Int) - 48))), y] := by
  have h1 := atI_mid p c r
  have h2 := int_fig hc
  refine ⟨some (.int (10 * d + ((c : Int) - 48))), ?_⟩
  have hb : big (10 : Int) = true := by decide
  unfold b_read_door_1 rd k_MOST_DOOR
  have e : 10 * d + ((c : Int) - 48) = d * 10 + ((c : Int) - 48) := by omega
  simp (disch := first | omega | rfl) [if_pos, hb, h1, h2, show ¬ d = 0 by omega, e, show ¬ 65535 < d * 10 + ((c : Int) - 48) by omega]
def dcond : En → Rx Bool := xB (xMe 0 2 g_Reader_sees (xACons (xP (eC k_FIGURES)) xANil))
theorem dcond_ok (p r : List Nat) (x1 x2 : Option D) (h : p.length + r.length ≤ 10000000) : dcond [some (rd p r), x1, x2] = .ok (hd FG r) [some (rd p r), x1, x2] := by
  have s1 := sees_ok p r FG h
  unfold dcond
  rw [k_FG]
  unfold rd at s1 ⊢
  simp [s1]
theorem door_loop {r : List Nat} (hr : hd FG r = false) : ∀ (m p : List Nat) (d : Int) (x2 : Option D) (n : Nat), (∀ c ∈ m, 48 ≤ c ∧ c ≤ 57) → (0 < d ∨ m = []) → dval d m ≤ 65535 → m.length < n → p.length + (m.length + r.length) ≤ 7000000 →
    ∃ y, whileX dcond b_read_door_1 n [some (rd p (m ++ r)), some (.int d), x2] = .nx [some (rd (p ++ m) r), some (.int (dval d m)), y]
  | [], p, d, x2, n, _, _, _, hn, hl => by
    obtain ⟨n, rfl⟩ : ∃ k, n = k + 1 := ⟨n - 1, by omega⟩
    refine ⟨x2, ?_⟩
    rw [at_whileX, List.nil_append, dcond_ok _ _ _ _ (by simp at hl; omega), hr]
    simp [dval]
  | c :: m, p, d, x2, n, hm, h0, hd', hn, hl => by
    simp only [List.length_cons] at hn hl
    obtain ⟨n, rfl⟩ : ∃ k, n = k + 1 := ⟨n - 1, by omega⟩
    have hc := hm c (by simp)
    have h0 : 0 < d := by rcases h0 with h | h; exact h; simp at h
    have hm' : ∀ z ∈ m, 48 ≤ z ∧ z ≤ 57 := fun z hz => hm z (by simp [hz])
    have hle := dval_le m (d * 10 + ((c : Int) - 48)) (by omega) (fun z hz => (hm' z hz).1)
    have hd2 : dval (d * 10 + ((c : Int) - 48)) m ≤ 65535 := hd'
    have e : hd FG (c :: (m ++ r)) = true := by rw [hd_cons]; simpa using fig_FG hc
    obtain ⟨y, ht⟩ := door_turn (p := p) (r := m ++ r) x2 hc h0 (by omega) (by simp; omega)
    obtain ⟨y', ih⟩ := door_loop hr m (p ++ [c]) (d * 10 + ((c : Int) - 48)) y n hm' (.inl (by omega)) hd2 (by omega) (by simp; omega)
    refine ⟨y', ?_⟩
    rw [at_whileX, List.cons_append, dcond_ok _ _ _ _ (by simp; omega), e, kWhX_ok, if_pos rfl, ht, oLoop_nx, ih]
    simp [dval]
theorem stop_noFG {r : List Nat} (hs : stop [47, 63, 35] r) : hd FG r = false := by
  rcases hs with rfl | h
  · rfl
  · cases r with
    | nil => rfl
    | cons c r =>
      rw [hd_cons] at h ⊢
      simp only [decide_eq_true_eq, List.mem_cons, List.not_mem_nil, or_false] at h
      rcases h with rfl | rfl | rfl <;> decide
theorem door_rd {p r : List Nat} {n : Nat} (hs : stop [47, 63, 35] r) (hn : n ≤ 65535) (hl : p.length + r.length ≤ 5000000) : g_read_door [rd p (figs n ++ r)] = .ok (.int n) (rd (p ++ figs n) r) := by
  obtain ⟨c, m, e, h1, h2, h3, h4⟩ := figs_head n
  have hlen : (figs n).length ≤ 5 := TL.numL_len (by decide) (by omega)
  have hm : ∀ z ∈ m, 48 ≤ z ∧ z ≤ 57 := fun z hz => figs_fig (n := n) (by rw [e]; simp [hz])
  have hv : dval ((c : Int) - 48) m = n := by
    have := TL.fold_num n
    rw [show TL.numL n = figs n from rfl, e, List.foldl_cons] at this
    have z : (0 : Int) * 10 + ((c : Int) - 48) = (c : Int) - 48 := by omega
    rw [z] at this
    exact this
  rw [e] at hlen ⊢
  simp only [List.length_cons] at hlen
  have h0 : 0 < (c : Int) - 48 ∨ m = [] := by
    by_cases z : n = 0
    · exact .inr (h4 z)
    · have := h3 z; exact .inl (by omega)
  obtain ⟨y, lp⟩ := door_loop (stop_noFG hs) m (p ++ [c]) ((c : Int) - 48) none fuelW hm h0 (by omega) (by unfold fuelW; omega) (by simp; omega)
  rw [hv] at lp
  have s1 := sees_ok p (c :: (m ++ r)) FG (by simp; omega)
  rw [hd_cons, show decide (c ∈ FG) = true by simpa using fig_FG ⟨h1, h2⟩] at s1
  have a1 := atI_mid p c (m ++ r)
  have a2 := int_fig ⟨h1, h2⟩
  have s2 := atend_ok (p ++ [c] ++ m) r (by simp; omega)
  have s3 := sees_ok (p ++ [c] ++ m) r [47, 63, 35] (by simp; omega)
  have e5 : (p ++ [c] ++ m) = p ++ c :: m := by simp
  rw [e5] at lp s2 s3
  unfold g_read_door f_read_door t_read_door_5 t_read_door_4 t_read_door_3
  rw [runX_eq, List.cons_append]
  show outX 0 (sSeq _ _ [some (rd p (c :: (m ++ r))), none, none]) = _
  have q1 : sIfX (xNo (xB (xMe 0 2 g_Reader_sees (xACons (xP (eC k_FIGURES)) xANil)))) sBad sNx [some (rd p (c :: (m ++ r))), none, none] = .nx [some (rd p (c :: (m ++ r))), none, none] := by
    rw [k_FG]
    unfold rd at s1 ⊢
    simp [s1]
  have q2 : sSet 1 (eBlt intD (aCons (e2 ixD (eFld 0 0) (eFld 0 1)) aNil)) [some (rd p (c :: (m ++ r))), none, none] = .nx [some (rd p (c :: (m ++ r))), some (.int ((c : Int) - 48)), none] := by
    unfold rd
    simp (disch := omega) [if_pos, a1, a2]
  have q3 : sFldAugX 0 1 addI (eC (.int 1)) [some (rd p (c :: (m ++ r))), some (.int ((c : Int) - 48)), none] = .nx [some (rd (p ++ [c]) (m ++ r)), some (.int ((c : Int) - 48)), none] := by
    unfold rd
    simp
  rw [at_sSeq, q1, oSeq_nx, at_sSeq, q2, oSeq_nx, at_sSeq, q3, oSeq_nx, at_sSeq, sWhileX_eq]
  show outX 0 (oSeq (whileX dcond b_read_door_1 fuelW _) _) = _
  rw [lp, oSeq_nx]
  unfold t_read_door_2
  rcases hs with rfl | hs
  · unfold rd at s2 s3 ⊢
    simp at s2 s3
    simp [s2, s3]
  · rw [hs] at s3
    unfold rd at s2 s3 ⊢
    simp at s2 s3
    cases he : r.isEmpty <;> (rw [he] at s2; simp [s2, s3])
end Wp

set_option Elab.async false
set_option linter.all false
set_option maxRecDepth 1000000
set_option maxHeartbeats 4000000
namespace Wp
open PySem PySem.Spec PyProof.Rows L2 Wm
theorem cut2 (p r : List Nat) : cutL (p ++ r) (some (p.length : Int)) (some ((p.length : Int) + 2)) = r.take 2 := by
  rw [cutL_mid' _ p.length (p.length + 2) _ _ rfl (by omega), take_mid]
  simp
/-! ### what parts -/
theorem ap_house : apart [] [58, 47, 63, 35] := ⟨by decide, by decide⟩
def INS : List Nat := [33, 36, 39, 40, 41, 42, 44, 59, 64, 38, 61, 43]
def INP : List Nat := [33, 36, 39, 40, 41, 42, 44, 59, 64, 43, 47, 63, 58]
theorem k_INS : k_IN_STEPS = tx INS := rfl
theorem k_INP : k_IN_PAIRS = tx INP := rfl
theorem ap_step : apart INS [47, 63, 35] := ⟨by decide, by decide⟩
theorem ap_name : apart INP [38, 61, 35] := ⟨by decide, by decide⟩
theorem ap_value : apart INP [38, 35] := ⟨by decide, by decide⟩
theorem ap_mark : apart (INS ++ INP) [] := ⟨by decide, fun _ _ _ z => nomatch z⟩
theorem stop_sub {s t r : List Nat} (h : stop s r) (hs : ∀ c ∈ s, c ∈ t) : stop t r := by
  rcases h with h | h
  · exact .inl h
  · cases r with
    | nil => exact .inl rfl
    | cons c r => rw [hd_cons] at h; exact .inr (by rw [hd_cons]; simp at h ⊢; exact hs c h)
theorem stop_cons {s : List Nat} {c : Nat} (h : c ∈ s) (r : List Nat) : stop s (c :: r) := .inr (by rw [hd_cons]; simpa using h)
/-! ### house and door -/
theorem nohouse_rd {p r : List Nat} (h : r.take 2 ≠ [47, 47]) (hl : p.length + r.length ≤ 5000000) : g_read_house [rd p r] = .ok (.tuple [.none, .none]) (rd p r) := by
  have e1 := cut2 p r
  unfold g_read_house f_read_house
  rw [runX_eq]
  unfold rd
  simp (disch := omega) [if_pos, e1, h]
theorem house_rd {p x h r : List Nat} (w : Wt [] x h) (hne : h ≠ []) (h60 : h.length ≤ 60) (hs : stop [47, 63, 35] r) (hl : p.length + (x.length + r.length) ≤ 4000000) :
    g_read_house [rd p (47 :: 47 :: (x ++ r))] = .ok (.tuple [tx h, .none]) (rd (p ++ [47, 47] ++ x) r) := by
  have e1 := cut2 p (47 :: 47 :: (x ++ r))
  have s1 := part_ok ap_house (by simp) (stop_sub hs (by simp)) 60 w hne (p ++ [47, 47]) (by simp; omega) (by omega)
  have s2 := sees_ok (p ++ [47, 47] ++ x) r [58] (by simp; omega)
  have e2 : hd [58] r = false := by
    rcases hs with rfl | hs
    · rfl
    · cases r with
      | nil => rfl
      | cons c r =>
        rw [hd_cons] at hs ⊢
        simp at hs ⊢
        omega
  rw [e2] at s2
  unfold g_read_house f_read_house t_read_house_4 t_read_house_3 t_read_house_2 t_read_house_1 k_MOST_IN_HOUSE
  rw [runX_eq]
  unfold rd at s1 s2 ⊢
  simp at s1 s2
  simp (disch := omega) [if_pos, e1, s1, s2]
theorem door2_rd {p x h r : List Nat} {n : Nat} (w : Wt [] x h) (hne : h ≠ []) (h60 : h.length ≤ 60) (hn : n ≤ 65535) (hs : stop [47, 63, 35] r) (hl : p.length + (x.length + r.length) ≤ 4000000) :
    g_read_house [rd p (47 :: 47 :: (x ++ (58 :: (figs n ++ r))))] = .ok (.tuple [tx h, .int n]) (rd (p ++ [47, 47] ++ x ++ [58] ++ figs n) r) := by
  have hlen : (figs n).length ≤ 5 := TL.numL_len (by decide) (by omega)
  have e1 := cut2 p (47 :: 47 :: (x ++ (58 :: (figs n ++ r))))
  have s1 := part_ok ap_house (by simp) (stop_cons (s := [58, 47, 63, 35]) (c := 58) (by simp) (figs n ++ r)) 60 w hne (p ++ [47, 47]) (by simp; omega) (by omega)
  have s2 := sees_ok (p ++ [47, 47] ++ x) (58 :: (figs n ++ r)) [58] (by simp; omega)
  have e2 : hd [58] (58 :: (figs n ++ r)) = true := by rw [hd_cons]; simp
  have s3 := door_rd (p := p ++ [47, 47] ++ x ++ [58]) (r := r) hs hn (by simp; omega)
  rw [e2] at s2
  unfold g_read_house f_read_house t_read_house_4 t_read_house_3 t_read_house_2 t_read_house_1 k_MOST_IN_HOUSE
  rw [runX_eq]
  unfold rd at s1 s2 s3 ⊢
  generalize figs n = z at *
  simp at s1 s2 s3
  have e9 : (p.length : Int) + (x.length + 1 + 1) + 1 = p.length + (x.length + 1 + 1 + 1) := by omega
  simp (disch := omega) [if_pos, e1, s1, s2, s3, e9]
/-! ### steps -/
def stT (e : Bool) : List (List Nat) → List Nat
  | [] => []
  | [x] => x ++ (if e then [47] else [])
  | x :: y :: r => x ++ 47 :: stT e (y :: r)
inductive Wts (fr : List Nat) : List (List Nat) → List (List Nat) → Prop
  | nil : Wts fr [] []
  | cons {x l : List Nat} {xs ls : List (List Nat)} (w : Wt fr x l) (h : l ≠ []) (ws : Wts fr xs ls) : Wts fr (x :: xs) (l :: ls)
def wcondS : En → Rx Bool := xAnB (xNo (xB (xMe 0 1 g_Reader_at_end xANil))) (xNo (xB (xMe 0 2 g_Reader_sees (xACons (xP (eC (tx [63, 35]))) xANil))))
theorem wcondS_ok (p r : List Nat) (x1 x2 x3 : Option D) (h : p.length + r.length ≤ 10000000) : wcondS [some (rd p r), x1, x2, x3] = .ok (!r.isEmpty && !hd [63, 35] r) [some (rd p r), x1, x2, x3] := by
  have s1 := atend_ok p r h
  have s2 := sees_ok p r [63, 35] h
  unfold wcondS
  unfold rd at s1 s2 ⊢
  cases r with
  | nil => simp at s1; simp [s1]
  | cons c r => simp at s1 s2; simp [s1, s2]
/-- a step, and what it ends with -/
theorem step_turn {p x l r : List Nat} (w : Wt INS x l) (hne : l ≠ []) (hs : stop [47, 63, 35] r) (x1 x3 : Option D) (ds : List D) (hd1 : ds.length ≤ 1000000) (hl : p.length + (x.length + r.length) ≤ 4000000) :
    b_read_steps_1 [some (rd p (x ++ r)), x1, some (.list ds), x3] = if hd [47] r = true then .nx [some (rd (p ++ x ++ [47]) (r.drop 1)), x1, some (.list (ds ++ [tx l])), some (.bool true)] else .nx [some (rd (p ++ x) r), x1, some (.list (ds ++ [tx l])), some (.bool false)] := by
  have wl := w.len
  have s1 := part_ok ap_step (by decide) hs ((p.length : Int) + (x.length + r.length)) w hne p (by omega) (by omega)
  have s2 := sees_ok (p ++ x) r [47] (by simp; omega)
  unfold b_read_steps_1
  rw [k_INS]
  unfold rd at s1 s2 ⊢
  cases hh : hd [47] r with
  | false =>
    rw [hh] at s2
    simp at s1 s2
    simp (disch := omega) [if_pos, s1, s2]
  | true =>
    rw [hh] at s2
    cases r with
    | nil => simp at hh
    | cons c r =>
      rw [hd_cons] at hh
      simp at hh
      subst hh
      simp only [List.length_cons] at hl
      simp at s1 s2
      simp (disch := omega) [if_pos, s1, s2]
      omega
theorem noSt {fr x l : List Nat} (ap : apart fr [63, 35]) (w : Wt fr x l) (hne : l ≠ []) (r : List Nat) : (!(x ++ r).isEmpty && !hd [63, 35] (x ++ r)) = true := by
  cases w with
  | nil => exact absurd rfl hne
  | @cons u x l c t w =>
    rw [List.append_assoc, hd_tok ap t]
    have := t.len
    cases u with
    | nil => simp at this
    | cons _ _ => simp
theorem ap_step2 : apart INS [63, 35] := ⟨by decide, by decide⟩
theorem stop47 {r : List Nat} (hs : stop [63, 35] r) : hd [47] r = false := by
  rcases hs with rfl | hs
  · rfl
  · cases r with
    | nil => rfl
    | cons c r =>
      rw [hd_cons] at hs ⊢
      simp at hs ⊢
      omega
theorem stopC {r : List Nat} (hs : stop [63, 35] r) : (!r.isEmpty && !hd [63, 35] r) = false := by
  rcases hs with rfl | hs
  · rfl
  · rw [hs]; simp
theorem steps_loop {r : List Nat} (hs : stop [63, 35] r) (e : Bool) (x1 : Option D) {xs ls : List (List Nat)} (ws : Wts INS xs ls) : ∀ (p : List Nat) (ds : List D) (b0 : Bool) (n : Nat), (stT e xs).length < n → ds.length + ls.length ≤ 1000000 → p.length + ((stT e xs).length + r.length) ≤ 4000000 →
    whileX wcondS b_read_steps_1 n [some (rd p (stT e xs ++ r)), x1, some (.list ds), some (.bool b0)] = .nx [some (rd (p ++ stT e xs) r), x1, some (.list (ds ++ ls.map tx)), some (.bool (if ls = [] then b0 else e))] := by
  induction ws with
  | nil =>
    intro p ds b0 n hn hd1 hl
    obtain ⟨n, rfl⟩ : ∃ k, n = k + 1 := ⟨n - 1, by omega⟩
    rw [at_whileX]
    show kWhX _ _ _ (wcondS [some (rd p r), _, _, _]) = _
    rw [wcondS_ok _ _ _ _ _ (by simp [stT] at hl; omega), stopC hs]
    simp [stT]
  | @cons x l xs ls w hne ws ih =>
    intro p ds b0 n hn hd1 hl
    obtain ⟨n, rfl⟩ : ∃ k, n = k + 1 := ⟨n - 1, by omega⟩
    have wl := w.len
    have l1 : 0 < l.length := by cases l <;> simp at hne ⊢
    simp only [List.length_cons] at hd1
    cases ws with
    | nil =>
      cases e with
      | false =>
        simp only [stT] at hn hl ⊢
        simp at hn hl
        rw [at_whileX]
        simp only [Bool.false_eq_true, if_false, List.append_nil]
        rw [wcondS_ok _ _ _ _ _ (by simp; omega), noSt ap_step2 w hne, kWhX_ok, if_pos rfl, step_turn w hne (stop_sub hs (by simp)) _ _ _ (by omega) (by omega), stop47 hs]
        obtain ⟨n, rfl⟩ : ∃ k, n = k + 1 := ⟨n - 1, by omega⟩
        simp only [Bool.false_eq_true, if_false, oLoop_nx]
        rw [at_whileX, wcondS_ok _ _ _ _ _ (by simp; omega), stopC hs]
        simp
      | true =>
        simp only [stT] at hn hl ⊢
        simp at hn hl
        rw [at_whileX]
        simp only [if_true, List.append_assoc, List.cons_append, List.nil_append]
        have hh : hd [47] (47 :: r) = true := by rw [hd_cons]; simp
        rw [wcondS_ok _ _ _ _ _ (by simp; omega), noSt ap_step2 w hne, kWhX_ok, if_pos rfl, step_turn w hne (stop_cons (c := 47) (by simp) r) _ _ _ (by omega) (by simp; omega), hh]
        obtain ⟨n, rfl⟩ : ∃ k, n = k + 1 := ⟨n - 1, by omega⟩
        simp only [if_true, oLoop_nx, List.cons_append, List.nil_append, List.drop_one, List.tail_cons]
        rw [at_whileX, wcondS_ok _ _ _ _ _ (by simp; omega), stopC hs]
        simp
    | @cons y l2 ys ls2 w2 hne2 ws2 =>
      have q : stT e (x :: y :: ys) = x ++ 47 :: stT e (y :: ys) := rfl
      rw [q] at hn hl ⊢
      simp only [List.length_append, List.length_cons] at hn hl hd1
      have hh : hd [47] (47 :: (stT e (y :: ys) ++ r)) = true := by rw [hd_cons]; simp
      rw [at_whileX, List.append_assoc, List.cons_append]
      rw [wcondS_ok _ _ _ _ _ (by simp; omega), noSt ap_step2 w hne, kWhX_ok, if_pos rfl, step_turn w hne (stop_cons (c := 47) (by simp) _) _ _ _ (by omega) (by simp; omega), hh]
      simp only [if_true, oLoop_nx, List.drop_one, List.tail_cons]
      rw [ih (p ++ x ++ [47]) (ds ++ [tx l]) true n (by omega) (by simp; omega) (by simp; omega)]
      simp
theorem steps_rd {p r : List Nat} (hs : stop [63, 35] r) (rt e : Bool) {xs ls : List (List Nat)} (ws : Wts INS xs ls) (hl : p.length + ((stT e xs).length + r.length) ≤ 4000000) (hls : ls.length ≤ 10000) :
    g_read_steps [rd p (stT e xs ++ r), .bool rt] = .ok (.tuple [.bool rt, .tuple (ls.map tx), .bool (if ls = [] then rt else e)]) (rd (p ++ stT e xs) r) := by
  have lp := steps_loop hs e (some (.bool rt)) ws p [] rt fuelW (by unfold fuelW; omega) (by simp; omega) hl
  unfold g_read_steps f_read_steps
  rw [runX_eq]
  show outX 0 (sSeq _ _ [some (rd p (stT e xs ++ r)), some (.bool rt), none, none]) = _
  have q1 : sSet 2 (eLst aNil) [some (rd p (stT e xs ++ r)), some (.bool rt), none, none] = .nx [some (rd p (stT e xs ++ r)), some (.bool rt), some (.list []), none] := by simp
  have q2 : sSet 3 (eVar 1) [some (rd p (stT e xs ++ r)), some (.bool rt), some (.list []), none] = .nx [some (rd p (stT e xs ++ r)), some (.bool rt), some (.list []), some (.bool rt)] := by simp
  rw [at_sSeq, q1, oSeq_nx, at_sSeq, q2, oSeq_nx, at_sSeq, sWhileX_eq]
  show outX 0 (oSeq (whileX wcondS b_read_steps_1 fuelW _) _) = _
  rw [lp, oSeq_nx]
  simp (disch := omega) [if_pos]
/-! ### the way -/
inductive WaT (held : Bool) : Way → List Nat → Prop
  | none : WaT held ⟨held, [], held⟩ []
  | root {xs ls : List (List Nat)} {e : Bool} (ws : Wts INS xs ls) (h : ls = [] → e = true) : WaT held ⟨true, ls, e⟩ (47 :: stT e xs)
  | rel {xs ls : List (List Nat)} {e : Bool} (hh : held = false) (ws : Wts INS xs ls) (h : ls ≠ []) : WaT held ⟨false, ls, e⟩ (stT e xs)
theorem Wts.st_ne {e : Bool} {xs ls : List (List Nat)} (ws : Wts INS xs ls) (h : ls ≠ []) (s : List Nat) (ap : apart INS s) (r : List Nat) : hd s (stT e xs ++ r) = false ∧ stT e xs ++ r ≠ [] := by
  cases ws with
  | nil => exact absurd rfl h
  | @cons x l xs ls w hne ws =>
    cases w with
    | nil => exact absurd rfl hne
    | @cons u x l c t w =>
      have tl := t.len
      have hu : u ≠ [] := by intro z; rw [z] at tl; simp at tl
      cases xs with
      | nil =>
        show hd s (u ++ x ++ _ ++ r) = false ∧ u ++ x ++ _ ++ r ≠ []
        rw [List.append_assoc, List.append_assoc]
        exact ⟨hd_tok ap t _, by simp [hu]⟩
      | cons y ys =>
        show hd s (u ++ x ++ _ ++ r) = false ∧ u ++ x ++ _ ++ r ≠ []
        rw [List.append_assoc, List.append_assoc]
        exact ⟨hd_tok ap t _, by simp [hu]⟩
theorem ap_st47 : apart INS [47, 63, 35] := ap_step
theorem way_rd {p r t : List Nat} (held : Bool) {w : Way} (h : WaT held w t) (hs : stop [63, 35] r) (hl : p.length + (t.length + r.length) ≤ 3000000) (hls : w.s.length ≤ 10000) :
    g_read_way [rd p (t ++ r), .bool held] = .ok w.d (rd (p ++ t) r) := by
  unfold g_read_way f_read_way
  rw [runX_eq]
  unfold Way.d
  cases h with
  | none =>
    simp only [List.length_nil] at hl
    have s1 := atend_ok p r (by omega)
    have s2 := sees_ok p r [63, 35] (by omega)
    simp only [List.nil_append, List.append_nil]
    unfold rd at s1 s2 ⊢
    rcases hs with rfl | hs
    · simp at s1
      simp [s1]
    · rw [hs] at s2
      cases r with
      | nil => simp at hs
      | cons c r => simp at s1; simp [s1, s2]
  | @root xs ls e ws h =>
    simp only [List.length_cons] at hl
    have s1 := atend_ok p (47 :: stT e xs ++ r) (by simp; omega)
    have s2 := sees_ok p (47 :: stT e xs ++ r) [63, 35] (by simp; omega)
    have s3 := sees_ok p (47 :: stT e xs ++ r) [47] (by simp; omega)
    have s4 := steps_rd (p := p ++ [47]) hs true e ws (by simp; omega) hls
    have h1 : hd [63, 35] (47 :: stT e xs ++ r) = false := by rw [List.cons_append, hd_cons]; simp
    have h2 : hd [47] (47 :: stT e xs ++ r) = true := by rw [List.cons_append, hd_cons]; simp
    have h3 : (if ls = [] then true else e) = e := by by_cases z : ls = []; simp [z, h z]; simp [z]
    rw [h1] at s2; rw [h2] at s3; rw [h3] at s4
    unfold rd at s1 s2 s3 s4 ⊢
    simp at s1 s2 s3 s4
    simp [s1, s2, s3, s4]
  | @rel xs ls e hh ws h =>
    subst hh
    obtain ⟨h1, h0⟩ := ws.st_ne (e := e) h [63, 35] ap_step2 r
    obtain ⟨h2, _⟩ := ws.st_ne (e := e) h [47] (show apart INS [47] from ⟨by decide, by decide⟩) r
    have s1 := atend_ok p (stT e xs ++ r) (by simp; omega)
    have s2 := sees_ok p (stT e xs ++ r) [63, 35] (by simp; omega)
    have s3 := sees_ok p (stT e xs ++ r) [47] (by simp; omega)
    have s4 := steps_rd (p := p) hs false e ws (by omega) hls
    have h3 : (if ls = [] then false else e) = e := by simp [h]
    have h4 : (stT e xs ++ r).isEmpty = false := by cases hz : stT e xs ++ r; exact absurd hz h0; rfl
    rw [h1] at s2; rw [h2] at s3; rw [h3] at s4; rw [h4] at s1
    unfold rd at s1 s2 s3 s4 ⊢
    generalize stT e xs ++ r = z at *
    simp [s1, s2, s3, s4]
end Wp

set_option Elab.async false
set_option linter.all false
set_option maxRecDepth 1000000
set_option maxHeartbeats 4000000
namespace Wp
open PySem PySem.Spec PyProof.Rows L2 Wm
/-! ### the question -/
inductive PrW : List Nat → Tx × Option Tx → Prop
  | one {x n : List Nat} (w : Wt INP x n) (h : n ≠ []) : PrW x (n, none)
  | two {x n y v : List Nat} (w : Wt INP x n) (h : n ≠ []) (w2 : Wt INP y v) : PrW (x ++ 61 :: y) (n, some v)
inductive PrsW : List (List Nat) → List (Tx × Option Tx) → Prop
  | nil : PrsW [] []
  | cons {x : List Nat} {q : Tx × Option Tx} {xs : List (List Nat)} {qs : List (Tx × Option Tx)} (w : PrW x q) (ws : PrsW xs qs) : PrsW (x :: xs) (q :: qs)
theorem qstop {r : List Nat} (hs : stop [38, 35] r) : hd [61] r = false := by
  rcases hs with rfl | hs
  · rfl
  · cases r with
    | nil => rfl
    | cons c r =>
      rw [hd_cons] at hs ⊢
      simp at hs ⊢
      omega
theorem pair_turn {p x r : List Nat} {q : Tx × Option Tx} (w : PrW x q) (hs : stop [38, 35] r) (x3 x4 : Option D) (ds : List D) (hd1 : ds.length ≤ 1000000) (hl : p.length + (x.length + r.length) ≤ 3000000) :
    ∃ y3 y4, b_read_question_5 [some (rd p (x ++ r)), some (.list ds), some (.bool true), x3, x4] = if hd [38] r = true then .nx [some (rd (p ++ x ++ [38]) (r.drop 1)), some (.list (ds ++ [pD q])), some (.bool true), y3, y4] else .nx [some (rd (p ++ x) r), some (.list (ds ++ [pD q])), some (.bool false), y3, y4] := by
  have tail : ∀ (z1 z2 : D) (h1 : noL z1 = true) (h2 : noL z2 = true), t_read_question_2 [some (rd (p ++ x) r), some (.list ds), some (.bool true), some z1, some z2] = if hd [38] r = true then .nx [some (rd (p ++ x ++ [38]) (r.drop 1)), some (.list (ds ++ [.tuple [z1, z2]])), some (.bool true), some z1, some z2] else .nx [some (rd (p ++ x) r), some (.list (ds ++ [.tuple [z1, z2]])), some (.bool false), some z1, some z2] := by
    intro z1 z2 h1 h2
    have s2 := sees_ok (p ++ x) r [38] (by simp; omega)
    unfold t_read_question_2 t_read_question_1
    unfold rd at s2 ⊢
    cases hh : hd [38] r with
    | false =>
      rw [hh] at s2
      simp at s2
      simp (disch := omega) [if_pos, s2]
    | true =>
      rw [hh] at s2
      cases r with
      | nil => simp at hh
      | cons c r =>
        rw [hd_cons] at hh
        simp at hh
        subst hh
        simp at s2
        simp (disch := omega) [if_pos, s2]
        omega
  cases w with
  | @one _ n w h =>
    have wl := w.len
    have s1 := part_ok ap_name (by decide) (stop_sub hs (by simp)) ((p.length : Int) + (x.length + r.length)) w h p (by omega) (by omega)
    have s2 := sees_ok (p ++ x) r [61] (by simp; omega)
    rw [qstop hs] at s2
    refine ⟨some (tx n), some .none, ?_⟩
    have tl := tail (tx n) .none rfl rfl
    have q1 : b_read_question_5 [some (rd p (x ++ r)), some (.list ds), some (.bool true), x3, x4] = t_read_question_2 [some (rd (p ++ x) r), some (.list ds), some (.bool true), some (tx n), some .none] := by
      unfold b_read_question_5 t_read_question_4 t_read_question_3
      rw [k_INP]
      unfold rd at s1 s2 ⊢
      simp at s1 s2
      simp (disch := omega) [if_pos, s1, s2]
    rw [q1, tl]
    rfl
  | @two x n y v w h w2 =>
    have wl := w.len
    have wl2 := w2.len
    simp only [List.length_append, List.length_cons] at hl
    have s1 := part_ok ap_name (by decide) (r := 61 :: y ++ r) (stop_cons (c := 61) (by simp) _) (((p ++ (x ++ 61 :: y ++ r)).length : Nat) : Int) w h p (by simp; omega) (by simp; omega)
    have s2 := sees_ok (p ++ x) (61 :: (y ++ r)) [61] (by simp; omega)
    rw [show hd [61] (61 :: (y ++ r)) = true by rw [hd_cons]; simp] at s2
    have s3 := atend_ok (p ++ x ++ [61]) (y ++ r) (by simp; omega)
    have s4 := sees_ok (p ++ x ++ [61]) (y ++ r) [38, 35] (by simp; omega)
    refine ⟨some (tx n), some (tx v), ?_⟩
    have e9 : (p.length : Int) + x.length + 1 = p.length + (x.length + 1) := by omega
    have tl := tail (tx n) (tx v) rfl rfl
    have q1 : b_read_question_5 [some (rd p (x ++ 61 :: y ++ r)), some (.list ds), some (.bool true), x3, x4] = t_read_question_2 [some (rd (p ++ (x ++ 61 :: y)) r), some (.list ds), some (.bool true), some (tx n), some (tx v)] := by
      unfold b_read_question_5 t_read_question_4 t_read_question_3
      rw [k_INP]
      by_cases hv : v = []
      · subst hv
        cases w2
        simp only [List.nil_append] at s1 s2 s3 s4
        have e3 : (!r.isEmpty && !hd [38, 35] r) = false := by
          rcases hs with rfl | hs
          · rfl
          · rw [hs]; simp
        unfold rd at s1 s2 s3 s4 ⊢
        rcases hs with rfl | hs
        · simp at s1 s2 s3 s4
          simp (disch := omega) [if_pos, s1, s2, s3, s4, e9]
          try omega
        · rw [hs] at s4
          cases r with
          | nil => simp at hs
          | cons c r =>
            simp at s1 s2 s3 s4
            simp at hl
            simp (disch := omega) [if_pos, s1, s2, s3, s4, e9]
            try omega
      · have s5 := part_ok ap_value (by decide) hs (((p ++ (x ++ 61 :: y ++ r)).length : Nat) : Int) w2 hv (p ++ x ++ [61]) (by simp; omega) (by simp; omega)
        cases w2 with
        | nil => exact absurd rfl hv
        | @cons u y v c t w2 =>
          rw [List.append_assoc u y r, hd_tok ap_value t] at s4
          have tl := t.len
          have e4 : (u ++ (y ++ r)).isEmpty = false := by cases u; simp at tl; rfl
          rw [List.append_assoc u y r] at s3
          rw [e4] at s3
          unfold rd at s1 s2 s3 s4 s5 ⊢
          simp at s1 s2 s3 s4 s5
          simp at hl
          simp (disch := omega) [if_pos, s1, s2, s3, s4, s5, e9]
          try omega
    rw [q1, tl]
    rfl
theorem PrW.first {x : List Nat} {q : Tx × Option Tx} (w : PrW x q) (r : List Nat) : hd [35] (x ++ r) = false ∧ (x ++ r).isEmpty = false := by
  have key : ∀ {x n : List Nat} (w : Wt INP x n) (h : n ≠ []) (r : List Nat), hd [35] (x ++ r) = false ∧ (x ++ r).isEmpty = false := by
    intro x n w h r
    cases w with
    | nil => exact absurd rfl h
    | @cons u x l c t w =>
      have tl := t.len
      rw [List.append_assoc]
      exact ⟨hd_tok ⟨by decide, by decide⟩ t _, by cases u; simp at tl; rfl⟩
  cases w with
  | one w h => exact key w h r
  | two w h w2 => rw [List.append_assoc]; exact key w h _
theorem joinL_cons (s x y : List Nat) (r : List (List Nat)) : joinL s (x :: y :: r) = x ++ s ++ joinL s (y :: r) := rfl
theorem stop38 {r : List Nat} (hs : stop [35] r) : hd [38] r = false := by
  rcases hs with rfl | hs
  · rfl
  · cases r with
    | nil => rfl
    | cons c r =>
      rw [hd_cons] at hs ⊢
      simp at hs ⊢
      omega
theorem question_loop' {r : List Nat} (hs : stop [35] r) {xs : List (List Nat)} {qs : List (Tx × Option Tx)} (ws : PrsW xs qs) : qs ≠ [] → ∀ (p : List Nat) (ds : List D) (x3 x4 : Option D) (n : Nat), xs.length < n → ds.length + qs.length ≤ 1000000 → p.length + ((joinL [38] xs).length + r.length) ≤ 3000000 →
    ∃ y3 y4, whileL (tB (eVar 2)) b_read_question_5 n [some (rd p (joinL [38] xs ++ r)), some (.list ds), some (.bool true), x3, x4] = .nx [some (rd (p ++ joinL [38] xs) r), some (.list (ds ++ qs.map pD)), some (.bool false), y3, y4] := by
  induction ws with
  | nil => exact fun h => absurd rfl h
  | @cons x q xs qs w ws ih =>
    intro _ p ds x3 x4 n hn hd1 hl
    obtain ⟨n, rfl⟩ : ∃ k, n = k + 1 := ⟨n - 1, by omega⟩
    simp only [List.length_cons] at hn hd1
    rw [whileL_t (by simp)]
    cases ws with
    | nil =>
      simp only [joinL] at hl ⊢
      obtain ⟨y3, y4, t⟩ := pair_turn w (stop_sub hs (by simp)) x3 x4 ds (by omega) (p := p) (r := r) hl
      rw [stop38 hs] at t
      refine ⟨y3, y4, ?_⟩
      rw [t]
      obtain ⟨n, rfl⟩ : ∃ k, n = k + 1 := ⟨n - 1, by simp at hn; omega⟩
      simp only [Bool.false_eq_true, if_false, oLoop_nx]
      rw [whileL_f (by simp)]
      simp
    | @cons y q2 ys qs2 w2 ws2 =>
      rw [joinL_cons] at hl ⊢
      simp only [List.length_append, List.length_cons, List.length_nil] at hl hd1
      have e1 : x ++ [38] ++ joinL [38] (y :: ys) ++ r = x ++ (38 :: (joinL [38] (y :: ys) ++ r)) := by simp
      obtain ⟨y3, y4, t⟩ := pair_turn w (r := 38 :: (joinL [38] (y :: ys) ++ r)) (stop_cons (c := 38) (by simp) _) x3 x4 ds (by omega) (p := p) (by simp; omega)
      rw [show hd [38] (38 :: (joinL [38] (y :: ys) ++ r)) = true by rw [hd_cons]; simp] at t
      obtain ⟨z3, z4, ih⟩ := ih (by simp) (p ++ x ++ [38]) (ds ++ [pD q]) y3 y4 n (by simpa using hn) (by simp; omega) (by simp; omega)
      refine ⟨z3, z4, ?_⟩
      rw [e1, t]
      simp only [if_true, oLoop_nx, List.drop_one, List.tail_cons]
      rw [ih]
      simp
inductive QuT : Option (List (Tx × Option Tx)) → List Nat → Prop
  | none : QuT none []
  | some {xs : List (List Nat)} {qs : List (Tx × Option Tx)} (ws : PrsW xs qs) : QuT (some qs) (63 :: joinL [38] xs)
theorem stop63 {r : List Nat} (hs : stop [35] r) : hd [63] r = false := by
  rcases hs with rfl | hs
  · rfl
  · cases r with
    | nil => rfl
    | cons c r =>
      rw [hd_cons] at hs ⊢
      simp at hs ⊢
      omega
theorem PrsW.len {xs : List (List Nat)} {qs : List (Tx × Option Tx)} (ws : PrsW xs qs) : xs.length = qs.length := by
  induction ws with
  | nil => rfl
  | cons w ws ih => simp [ih]
theorem question_rd {p r t : List Nat} {q : Option (List (Tx × Option Tx))} (h : QuT q t) (hs : stop [35] r) (hl : p.length + (t.length + r.length) ≤ 2000000) (hq : ∀ l, q = some l → l.length ≤ 10000) :
    g_read_question [rd p (t ++ r)] = .ok (qD q) (rd (p ++ t) r) := by
  unfold g_read_question f_read_question
  rw [runX_eq]
  cases h with
  | none =>
    simp only [List.length_nil] at hl
    have s1 := sees_ok p r [63] (by omega)
    rw [stop63 hs] at s1
    simp only [List.nil_append, List.append_nil]
    unfold rd at s1 ⊢
    simp [s1, qD]
  | @some xs qs ws =>
    simp only [List.length_cons] at hl
    have lq := hq qs rfl
    have s1 := sees_ok p (63 :: joinL [38] xs ++ r) [63] (by simp; omega)
    rw [show hd [63] (63 :: joinL [38] xs ++ r) = true by rw [List.cons_append, hd_cons]; simp] at s1
    have s3 := atend_ok (p ++ [63]) (joinL [38] xs ++ r) (by simp; omega)
    have s4 := sees_ok (p ++ [63]) (joinL [38] xs ++ r) [35] (by simp; omega)
    have q0 : ∀ b : Bool, (!(joinL [38] xs ++ r).isEmpty && !hd [35] (joinL [38] xs ++ r)) = b → outX 0 (oSeq (sIfX (xNo (xB (xMe 0 2 g_Reader_sees (xACons (xP (eC (tx [63]))) xANil)))) (sRx (xP (eC .none))) sNx [some (rd p (63 :: joinL [38] xs ++ r)), none, none, none, none]) t_read_question_9) = outX 0 (t_read_question_6 [some (rd (p ++ [63]) (joinL [38] xs ++ r)), some (.list []), some (.bool b), none, none]) := by
      intro b hb
      unfold t_read_question_9 t_read_question_8 t_read_question_7
      simp only [List.cons_append] at s1 ⊢
      generalize joinL [38] xs ++ r = z at *
      unfold rd at s1 s3 s4 ⊢
      cases z with
      | nil =>
        simp at hb s1 s3 s4
        subst hb
        simp [s1, s3, s4]
      | cons c z =>
        simp at hb s1 s3 s4
        rw [hb] at s4
        simp [s1, s3, s4]
    show outX 0 (sSeq _ _ [some (rd p (63 :: joinL [38] xs ++ r)), none, none, none, none]) = _
    rw [at_sSeq]
    cases ws with
    | nil =>
      have hb : (!(joinL [38] [] ++ r).isEmpty && !hd [35] (joinL [38] [] ++ r)) = false := by
        show (!r.isEmpty && !hd [35] r) = false
        rcases hs with rfl | hs
        · rfl
        · rw [hs]; simp
      rw [q0 false hb]
      unfold t_read_question_6
      rw [at_sSeq, at_sWhile]
      rw [show fuelW = (fuelW - 1) + 1 from rfl]
      rw [whileL_f (by simp)]
      simp [joinL, qD]
    | @cons x q xs qs w ws =>
      have hj : ∃ z, joinL [38] (x :: xs) ++ r = x ++ z := by
        cases xs with
        | nil => exact ⟨r, rfl⟩
        | cons y ys => exact ⟨[38] ++ joinL [38] (y :: ys) ++ r, by rw [joinL_cons]; simp⟩
      obtain ⟨z, hz⟩ := hj
      have hb : (!(joinL [38] (x :: xs) ++ r).isEmpty && !hd [35] (joinL [38] (x :: xs) ++ r)) = true := by
        rw [hz, (w.first z).1, (w.first z).2]; rfl
      rw [q0 true hb]
      have wl := ws.len
      simp only [List.length_cons] at lq
      obtain ⟨y3, y4, lp⟩ := question_loop' hs (.cons w ws) (by simp) (p ++ [63]) [] none none fuelW (by unfold fuelW; simp; omega) (by simp; omega) (by simp; omega)
      unfold t_read_question_6
      rw [at_sSeq, at_sWhile, lp, oSeq_nx]
      simp only [List.nil_append]
      simp [qD]
/-! ### the mark -/
inductive MaT : Option Tx → List Nat → Prop
  | none : MaT none []
  | some {x m : List Nat} (w : Wt (INS ++ INP) x m) : MaT (some m) (35 :: x)
theorem mark_rd {p t : List Nat} {m : Option Tx} (h : MaT m t) (hl : p.length + t.length ≤ 2000000) :
    g_read_mark [rd p t] = .ok (oT m) (rd (p ++ t) []) := by
  unfold g_read_mark f_read_mark
  rw [runX_eq]
  cases h with
  | none =>
    have s1 := sees_ok p [] [35] (by simp at hl ⊢; omega)
    rw [hd_nil] at s1
    unfold rd at s1 ⊢
    simp at s1
    simp [s1, oT]
  | @some x m w =>
    simp only [List.length_cons] at hl
    have s1 := sees_ok p (35 :: x) [35] (by simp; omega)
    rw [show hd [35] (35 :: x) = true by rw [hd_cons]; simp] at s1
    have s3 := atend_ok (p ++ [35]) x (by simp; omega)
    have wl := w.len
    by_cases hm : m = []
    · subst hm
      cases w
      unfold rd at s1 s3 ⊢
      simp at s1 s3
      simp [s1, s3, oT]
    · have s2 := part_ok ap_mark (by decide) (r := []) (.inl rfl) ((p.length : Int) + (x.length + 1)) w hm (p ++ [35]) (by simp; omega) (by omega)
      have e : x.isEmpty = false := by
        cases x with
        | nil => simp at wl; exact absurd (by simpa using wl) hm
        | cons _ _ => rfl
      rw [e] at s3
      have ek : ∀ ρ : En, e2 addD (eC k_IN_STEPS) (eC k_IN_PAIRS) ρ = .ok (tx (INS ++ INP)) := by
        intro ρ
        rw [k_INS, k_INP]
        simp [INS, INP]
      generalize hf : e2 addD (eC k_IN_STEPS) (eC k_IN_PAIRS) = fe at ek ⊢
      generalize INS ++ INP = z at *
      unfold rd at s1 s2 s3 ⊢
      simp at s1 s2 s3
      simp (disch := omega) [if_pos, s1, s2, s3, oT, ek]
end Wp

set_option Elab.async false
set_option linter.all false
set_option maxRecDepth 1000000
set_option maxHeartbeats 4000000
namespace Wp
open PySem PySem.Spec PyProof.Rows L2 Wm
inductive ScT : Tx → List Nat → Prop
  | none : ScT [] []
  | sc {s : Tx} (h : okSch s) : ScT s (s ++ [58])
inductive HoT : Option Tx → Option Int → List Nat → Prop
  | none : HoT none none []
  | house {x h : List Nat} (w : Wt [] x h) (hne : h ≠ []) (h60 : h.length ≤ 60) : HoT (some h) none (47 :: 47 :: x)
  | door {x h : List Nat} {n : Nat} (w : Wt [] x h) (hne : h ≠ []) (h60 : h.length ≤ 60) (hn : n ≤ 65535) : HoT (some h) (some n) (47 :: 47 :: (x ++ 58 :: figs n))
def held (a : Adr) : Bool := decide (a.sc ≠ []) || a.ho.isSome
structure Wrt (a : Adr) (t : List Nat) : Prop where
  ex : ∃ t1 t2 t3 t4 t5, t = t1 ++ (t2 ++ (t3 ++ (t4 ++ t5))) ∧ ScT a.sc t1 ∧ HoT a.ho a.dr t2 ∧ WaT (held a) a.w t3 ∧ QuT a.q t4 ∧ MaT a.m t5
  ls : a.w.s.length ≤ 10000
  lq : ∀ l, a.q = some l → l.length ≤ 10000
theorem MaT.stop {m : Option Tx} {t : List Nat} (h : MaT m t) : Wp.stop [35] t := by
  cases h with
  | none => exact .inl rfl
  | some w => exact stop_cons (by simp) _
theorem QuT.stop {q : Option (List (Tx × Option Tx))} {t r : List Nat} (h : QuT q t) (hr : Wp.stop [35] r) : Wp.stop [63, 35] (t ++ r) := by
  cases h with
  | none => exact stop_sub hr (by simp)
  | some ws => exact stop_cons (by simp) _
theorem WaT.stop {w : Way} {t r : List Nat} {h : Bool} (hw : WaT h w t) (hh : h = true) (hr : Wp.stop [63, 35] r) : Wp.stop [47, 63, 35] (t ++ r) := by
  cases hw with
  | none => exact stop_sub hr (by simp)
  | root ws h => exact stop_cons (by simp) _
  | rel e ws h => rw [hh] at e; cases e
theorem Tok.no {fr u : List Nat} {c : Nat} (t : Tok fr u c) (h : 58 ∉ fr) : ∀ z ∈ u, z ≠ 58 := by
  cases t with
  | sign h0 h1 h2 =>
    intro z hz
    have : z = c := by simpa using hz
    subst this
    intro e
    subst e
    rcases h0 with h0 | h0
    · exact absurd h0 (by decide)
    · exact h h0
  | pair ha hb hb2 hc =>
    intro z hz
    simp at hz ha
    rcases hz with rfl | rfl | rfl
    · decide
    · omega
    · exact hb2
theorem Wt.no {fr x l : List Nat} (w : Wt fr x l) (h : 58 ∉ fr) : ∀ z ∈ x, z ≠ 58 := by
  induction w with
  | nil => simp
  | cons t w ih =>
    intro z hz
    rcases List.mem_append.mp hz with hz | hz
    · exact t.no h z hz
    · exact ih z hz
/-- no sign of a step's text parts -/
theorem stop_LEF {s r : List Nat} (hs : stop s r) (h : ∀ c ∈ s, c ∉ LEF ∧ c ≠ 58) : hd LEF r = false ∧ hd [58] r = false := by
  rcases hs with rfl | hs
  · exact ⟨rfl, rfl⟩
  · cases r with
    | nil => exact ⟨rfl, rfl⟩
    | cons c r =>
      rw [hd_cons] at hs ⊢
      have hs : c ∈ s := by simpa using hs
      obtain ⟨h1, h2⟩ := h c hs
      exact ⟨by simpa using h1, by rw [hd_cons]; simpa using h2⟩
theorem scheme_all {a : Adr} {t1 t2 t3 t4 t5 : List Nat} (h1 : ScT a.sc t1) (h2 : HoT a.ho a.dr t2) (h3 : WaT (held a) a.w t3) (h4 : QuT a.q t4) (h5 : MaT a.m t5) (hl : t1.length + (t2.length + (t3.length + (t4.length + t5.length))) ≤ 1000000) :
    g_read_scheme [rd [] (t1 ++ (t2 ++ (t3 ++ (t4 ++ t5))))] = .ok (tx a.sc) (rd t1 (t2 ++ (t3 ++ (t4 ++ t5)))) := by
  have tail : Wp.stop [63, 35] (t4 ++ t5) := h4.stop h5.stop
  generalize hsc : a.sc = sc at *
  cases h1 with
  | sc h =>
    rw [show (sc ++ [58]) ++ (t2 ++ (t3 ++ (t4 ++ t5))) = sc ++ 58 :: (t2 ++ (t3 ++ (t4 ++ t5))) by simp]
    exact scheme_rd h (by simp at hl ⊢; omega)
  | none =>
    have done : ∀ {z : List Nat}, Wp.stop [47, 63, 35] z → z.length ≤ 1000000 → g_read_scheme [rd [] z] = .ok (tx []) (rd [] z) := by
      intro z hz hlz
      obtain ⟨a1, a2⟩ := stop_LEF hz (by decide)
      exact noscheme (x := []) (by simp) a1 a2 (by simpa using (by omega : z.length ≤ 8000000))
    rw [List.nil_append]
    generalize hho : a.ho = ho at *
    generalize hdr : a.dr = dr at *
    cases h2 with
    | house w hne h60 => exact done (stop_cons (by simp) _) (by simp at hl ⊢; omega)
    | door w hne h60 hn => exact done (stop_cons (by simp) _) (by simp at hl ⊢; omega)
    | none =>
      rw [List.nil_append]
      have hh : held a = false := by unfold held; rw [hsc, hho]; rfl
      generalize hw : a.w = w at *
      cases h3 with
      | none => exact done (stop_sub tail (by simp)) (by simp at hl ⊢; omega)
      | root ws h => exact done (stop_cons (by simp) _) (by simp at hl ⊢; omega)
      | @rel xs ls e _ ws h =>
        cases ws with
        | nil => exact absurd rfl h
        | @cons x l xs ls w hne ws =>
          have key : ∃ r, stT e (x :: xs) ++ (t4 ++ t5) = x ++ r ∧ Wp.stop [47, 63, 35] r := by
            cases xs with
            | nil =>
              cases e with
              | false => exact ⟨t4 ++ t5, by simp [stT], stop_sub tail (by simp)⟩
              | true => exact ⟨47 :: (t4 ++ t5), by simp [stT], stop_cons (by simp) _⟩
            | cons y ys => exact ⟨47 :: (stT e (y :: ys) ++ (t4 ++ t5)), by simp [stT], stop_cons (by simp) _⟩
          obtain ⟨r, e1, hr⟩ := key
          have le : (stT e (x :: xs) ++ (t4 ++ t5)).length = (x ++ r).length := by rw [e1]
          rw [e1]
          obtain ⟨a1, a2⟩ := stop_LEF hr (by decide)
          exact noscheme (w.no (by decide)) a1 a2 (by simp at le hl; omega)
theorem house_all {a : Adr} {p t2 t3 t4 t5 : List Nat} (h2 : HoT a.ho a.dr t2) (h3 : WaT (held a) a.w t3) (h4 : QuT a.q t4) (h5 : MaT a.m t5) (hl : p.length + (t2.length + (t3.length + (t4.length + t5.length))) ≤ 1000000) :
    g_read_house [rd p (t2 ++ (t3 ++ (t4 ++ t5)))] = .ok (.tuple [oT a.ho, oI a.dr]) (rd (p ++ t2) (t3 ++ (t4 ++ t5))) := by
  have tail : Wp.stop [63, 35] (t4 ++ t5) := h4.stop h5.stop
  generalize hho : a.ho = ho at *
  generalize hdr : a.dr = dr at *
  cases h2 with
  | house w hne h60 =>
    have hh : held a = true := by unfold held; rw [hho]; simp
    have := house_rd w hne h60 (h3.stop hh tail) (p := p) (by simp at hl ⊢; omega)
    simpa [oT, oI] using this
  | door w hne h60 hn =>
    have hh : held a = true := by unfold held; rw [hho]; simp
    have := door2_rd w hne h60 hn (h3.stop hh tail) (p := p) (by simp at hl ⊢; omega)
    simpa [oT, oI] using this
  | none =>
    rw [List.nil_append, List.append_nil]
    refine nohouse_rd ?_ (by simp at hl ⊢; omega)
    have one : ∀ z, Wp.stop [63, 35] z → z.take 2 ≠ [47, 47] := by
      intro z hz
      rcases hz with rfl | hz
      · simp
      · cases z with
        | nil => simp
        | cons c r =>
          rw [hd_cons] at hz
          intro e
          simp at hz e
          omega
    generalize hw : a.w = w at *
    cases h3 with
    | none => exact one _ tail
    | @root xs ls e ws h =>
      rw [List.cons_append]
      intro z
      have z2 : (stT e xs ++ (t4 ++ t5)).take 1 = [47] := by simpa using z
      by_cases hls : ls = []
      · subst hls
        cases ws
        rcases tail with tl | tl
        · rw [tl] at z2; simp [stT] at z2
        · cases ht : t4 ++ t5 with
          | nil => rw [ht] at tl; simp at tl
          | cons c r =>
            rw [ht] at tl z2
            rw [hd_cons] at tl
            simp [stT] at z2 tl
            omega
      · obtain ⟨q1, q2⟩ := ws.st_ne (e := e) hls [47] ⟨by decide, by decide⟩ (t4 ++ t5)
        cases ht : stT e xs ++ (t4 ++ t5) with
        | nil => exact q2 ht
        | cons c r =>
          rw [ht] at z2 q1
          rw [hd_cons] at q1
          simp at z2 q1
          omega
    | @rel xs ls e _ ws h =>
      intro z
      obtain ⟨q1, q2⟩ := ws.st_ne (e := e) h [47] ⟨by decide, by decide⟩ (t4 ++ t5)
      cases ht : stT e xs ++ (t4 ++ t5) with
      | nil => exact q2 ht
      | cons c r =>
        rw [ht] at z q1
        rw [hd_cons] at q1
        simp at z q1
        omega
theorem read_ok {a : Adr} {t : List Nat} (h : Wrt a t) (hl : t.length ≤ 900000) : g_read [tx t] = .ok a.d := by
  obtain ⟨⟨t1, t2, t3, t4, t5, rfl, h1, h2, h3, h4, h5⟩, ls, lq⟩ := h
  simp only [List.length_append] at hl
  have tail5 := h5.stop
  have tail : Wp.stop [63, 35] (t4 ++ t5) := h4.stop h5.stop
  have s1 := scheme_all h1 h2 h3 h4 h5 (by omega)
  have s2 := house_all (p := t1) h2 h3 h4 h5 (by omega)
  have s3 := way_rd (p := t1 ++ t2) (held a) h3 tail (by simp; omega) ls
  have s4 := question_rd (p := t1 ++ t2 ++ t3) h4 tail5 (by simp; omega) lq
  have s5 := mark_rd (p := t1 ++ t2 ++ t3 ++ t4) h5 (by simp; omega)
  have s0 := init_ok (t1 ++ (t2 ++ (t3 ++ (t4 ++ t5))))
  have hh : (Bool.not (decide (a.sc = [])) || Bool.not (a.ho.isNone)) = held a := by
    unfold held
    cases a.ho <;> simp
  unfold g_read f_read t_read_6 t_read_5 t_read_4 t_read_3 t_read_2 t_read_1
  rw [runF_eq]
  generalize ht : t1 ++ (t2 ++ (t3 ++ (t4 ++ t5))) = t at *
  unfold Adr.d
  have r1 : ∃ x, rd [] t = .tuple [x, .int 0] ∧ noL x = true := ⟨tx t, rfl, rfl⟩
  generalize rd [] t = o0 at *
  generalize rd t1 (t2 ++ (t3 ++ (t4 ++ t5))) = o1 at *
  generalize rd (t1 ++ t2) (t3 ++ (t4 ++ t5)) = o2 at *
  generalize rd (t1 ++ t2 ++ t3) (t4 ++ t5) = o3 at *
  generalize rd (t1 ++ t2 ++ t3 ++ t4) t5 = o4 at *
  generalize rd (t1 ++ t2 ++ t3 ++ t4 ++ t5) [] = o5 at *
  generalize a.w.d = dw at *
  generalize qD a.q = dq at *
  have e1 : isntD (oT a.ho) .none = .ok (.bool (!a.ho.isNone)) := by cases a.ho <;> rfl
  cases hsc : decide (a.sc = []) with
  | true =>
    rw [hsc] at hh
    have hsc' : a.sc = [] := by simpa using hsc
    simp at hh
    simp [s0, s1, s2, s3, s4, s5, e1, hsc', hh]
  | false =>
    rw [hsc] at hh
    have hsc' : a.sc ≠ [] := by simpa using hsc
    simp at hh
    rw [hh] at s3
    simp [s0, s1, s2, s3, s4, s5, e1, hsc', hh]
end Wp

set_option Elab.async false
set_option linter.all false
set_option maxRecDepth 100000
set_option maxHeartbeats 4000000
namespace Wp
open PySem PySem.Spec PyProof.Rows L2 Wm
def f__law_deck : En → Out :=
  (sRet (eLst (aCons (e2 modD (eVar 0) (eC (.int 2))) (aCons (e2 fdivD (eVar 0) (eC (.int 2))) (aCons (eC (.int 0)) aNil)))))
def g__law_deck : List D → Rs D := runF 1 f__law_deck
def f__law_draw : En → Out :=
  (sSeq (sIf (tB (e2 eqD (e2 ixD (eVar 0) (eC (.int 0))) (eC (.int 0))))
      (sSeq (sSet 3 (e2 modD (e2 ixD (eVar 0) (eC (.int 1))) (eVar 1)))
    (sSeq (sItm 0 (eC (.int 1)) (e2 fdivD (e2 ixD (eVar 0) (eC (.int 1))) (eVar 1)))
    (sRx (xP (eVar 3)))))
      sNx)
    (sSeq (sItm 0 (eC (.int 2)) (e2 addD (e2 ixD (eVar 0) (eC (.int 2))) (eC (.int 1))))
    (sSeq (sSet 2 (e2 modD (e2 mulD (e2 addD (e2 ixD (eVar 0) (eC (.int 1))) (e2 mulD (e2 mulD (eC (.int 7919)) (e2 ixD (eVar 0) (eC (.int 2)))) (e2 ixD (eVar 0) (eC (.int 2))))) (eC (.int 48271))) (eC (.int 2147483647))))
    (sRx (xP (e2 modD (e2 fdivD (e2 modD (e2 mulD (eVar 2) (e2 addD (eVar 2) (eC (.int 69621)))) (eC (.int 2147483629))) (eC (.int 8))) (eVar 1)))))))
def g__law_draw : List D → Ry := runX 4 0 f__law_draw
def b__law_some_1 : En → Out :=
  (sSetX 3 (x2 addD (xP (eVar 3)) (x2 ixD (xP (eVar 2)) (xIo 0 0 2 g__law_draw (xQ0 0 (xACons (xP (eBlt lenD (aCons (eVar 2) aNil))) xANil))))))
def f__law_some : En → Out :=
  (sSeq (sSetX 2 (x2 ixD (xP (eLst (aCons (eCall0 g__law_table) (aCons (eCall0 g__law_table) (aCons (eC (tx [97, 98, 99, 88, 89, 90, 48, 49, 57, 45, 95, 46])) (aCons (eC (tx [47, 63, 35, 58, 38, 61, 126, 46, 64, 32, 43])) (aCons (eC (tx [97, 65, 46, 126])) aNil))))))) (xIo 0 0 2 g__law_draw (xQ0 0 (xACons (xP (eC (.int 5))) xANil)))))
    (sSeq (sSet 3 (eC (tx [])))
    (sSeq (sFor (iRange1 (eVar 1)) (gNm 4)
      b__law_some_1)
    (sRx (xP (eVar 3))))))
def g__law_some : List D → Ry := runX 5 0 f__law_some
def b_d_law_scheme_1 : En → Out :=
  (sSetX 3 (x2 addD (xP (eVar 3)) (x2 ixD (xP (e2 addD (eVar 1) (eC (tx [48, 49, 50, 51, 52, 53, 54, 55, 56, 57])))) (xIo 0 0 2 g__law_draw (xQ0 0 (xACons (xP (e2 addD (eC (.int 52)) (e2 mulD (eC (.int 10)) (eBlt intD (aCons (e2 gtD (eVar 4) (eC (.int 0))) aNil))))) xANil))))))
def t_d_law_scheme_2 : En → Out :=
  (sSeq (sFor (iRange1 (e2 mulD (eVar 2) (eBlt intD (aCons (e2 ltD (eVar 2) (eC (.int 9))) aNil)))) (gNm 4)
      b_d_law_scheme_1)
    (sRx (xP (eVar 3))))
def t_d_law_scheme_3 : En → Out :=
  (sSeq (sSet 3 (eC (tx [])))
    t_d_law_scheme_2)
def t_d_law_scheme_4 : En → Out :=
  (sSeq (sSetX 2 (xIo 0 0 2 g__law_draw (xQ0 0 (xACons (xP (eC (.int 18))) xANil))))
    t_d_law_scheme_3)
def f_d_law_scheme : En → Out :=
  (sSeq (sSet 1 (eC (tx [97, 98, 99, 100, 101, 102, 103, 104, 105, 106, 107, 108, 109, 110, 111, 112, 113, 114, 115, 116, 117, 118, 119, 120, 121, 122, 65, 66, 67, 68, 69, 70, 71, 72, 73, 74, 75, 76, 77, 78, 79, 80, 81, 82, 83, 84, 85, 86, 87, 88, 89, 90])))
    t_d_law_scheme_4)
def g_d_law_scheme : List D → Ry := runX 5 0 f_d_law_scheme
def b_d_law_steps_1 : En → Out :=
  (sSeq (sSetX 4 (x2 addD (xP (eC (.int 1))) (xIo 0 0 2 g__law_draw (xQ0 0 (xACons (xP (eC (.int 6))) xANil)))))
    (sSeq (sIfX (xAnB (xP (tB (e2 ltD (eVar 1) (eC (.int 6))))) (xAnB (xP (tB (e2 eqD (eVar 3) (eC (.int 0))))) (xB (x2 eqD (xIo 0 0 2 g__law_draw (xQ0 0 (xACons (xP (eC (.int 8))) xANil))) (xP (eC (.int 5)))))))
      (sSetX 4 (x2 addD (xP (eC (.int 1))) (xIo 0 0 2 g__law_draw (xQ0 0 (xACons (xP (eC (.int 60))) xANil)))))
      sNx)
    (sAppX 2 (xIo 0 0 2 g__law_some (xQ0 0 (xACons (xP (eVar 4)) xANil))))))
def f_d_law_steps : En → Out :=
  (sSeq (sSetX 1 (x2 ixD (xLst (xACons (xIo 0 0 2 g__law_draw (xQ0 0 (xACons (xP (eC (.int 6))) xANil))) (xACons (xP (eC (.int 40))) xANil))) (xBlt intD (xACons (x2 eqD (xIo 0 0 2 g__law_draw (xQ0 0 (xACons (xP (eC (.int 8))) xANil))) (xP (eC (.int 5)))) xANil))))
    (sSeq (sSet 2 (eLst aNil))
    (sSeq (sFor (iRange1 (eVar 1)) (gNm 3)
      b_d_law_steps_1)
    (sRx (xP (eBlt tupD (aCons (eVar 2) aNil)))))))
def g_d_law_steps : List D → Ry := runX 5 0 f_d_law_steps
def b_d_law_question_1 : En → Out :=
  (sSeq (sSetX 4 (xIo 0 0 2 g__law_some (xQ0 0 (xACons (x2 addD (xP (eC (.int 1))) (xIo 0 0 2 g__law_draw (xQ0 0 (xACons (xP (eC (.int 6))) xANil)))) xANil))))
    (sSeq (sSet 5 (eC .none))
    (sSeq (sIfX (xB (x2 gtD (xIo 0 0 2 g__law_draw (xQ0 0 (xACons (xP (eC (.int 3))) xANil))) (xP (eC (.int 0)))))
      (sSetX 5 (xIo 0 0 2 g__law_some (xQ0 0 (xACons (xIo 0 0 2 g__law_draw (xQ0 0 (xACons (xP (eC (.int 7))) xANil))) xANil))))
      sNx)
    (sApp 2 (eTup (aCons (eVar 4) (aCons (eVar 5) aNil)))))))
def t_d_law_question_2 : En → Out :=
  (sSeq (sFor (iRange1 (eVar 1)) (gNm 3)
      b_d_law_question_1)
    (sRx (xP (eBlt tupD (aCons (eVar 2) aNil)))))
def t_d_law_question_3 : En → Out :=
  (sSeq (sSet 2 (eLst aNil))
    t_d_law_question_2)
def t_d_law_question_4 : En → Out :=
  (sSeq (sSetX 1 (x2 ixD (xLst (xACons (xIo 0 0 2 g__law_draw (xQ0 0 (xACons (xP (eC (.int 5))) xANil))) (xACons (xP (eC (.int 20))) xANil))) (xBlt intD (xACons (x2 eqD (xIo 0 0 2 g__law_draw (xQ0 0 (xACons (xP (eC (.int 8))) xANil))) (xP (eC (.int 5)))) xANil))))
    t_d_law_question_3)
def f_d_law_question : En → Out :=
  (sSeq (sIfX (xB (x2 eqD (xIo 0 0 2 g__law_draw (xQ0 0 (xACons (xP (eC (.int 3))) xANil))) (xP (eC (.int 0)))))
      (sRx (xP (eC .none)))
      sNx)
    t_d_law_question_4)
def g_d_law_question : List D → Ry := runX 6 0 f_d_law_question
def t_d_law_address_1 : En → Out :=
  (sSeq (sIfX (xB (x2 gtD (xIo 2 0 2 g__law_draw (xQ0 2 (xACons (xP (eC (.int 3))) xANil))) (xP (eC (.int 0)))))
      (sSetX 10 (xIo 2 0 2 g__law_some (xQ0 2 (xACons (x2 ixD (xLst (xACons (xIo 2 0 2 g__law_draw (xQ0 2 (xACons (xP (eC (.int 7))) xANil))) (xACons (xIo 2 0 2 g__law_draw (xQ0 2 (xACons (xP (eC (.int 61))) xANil))) xANil))) (xBlt intD (xACons (x2 eqD (xIo 2 0 2 g__law_draw (xQ0 2 (xACons (xP (eC (.int 8))) xANil))) (xP (eC (.int 5)))) xANil))) xANil))))
      sNx)
    (sRet (eTup (aCons (eVar 3) (aCons (eVar 4) (aCons (eVar 5) (aCons (eTup (aCons (eVar 7) (aCons (eVar 6) (aCons (eVar 8) aNil)))) (aCons (eVar 9) (aCons (eVar 10) aNil)))))))))
def t_d_law_address_2 : En → Out :=
  (sSeq (sSet 10 (eC .none))
    t_d_law_address_1)
def t_d_law_address_3 : En → Out :=
  (sSeq (sSetX 9 (xIo 2 0 1 g_d_law_question (xQ0 2 xANil)))
    t_d_law_address_2)
def t_d_law_address_4 : En → Out :=
  (sSeq (sIf (tB (e2 neD (eVar 6) (eTup aNil)))
      (sSetX 8 (x2 eqD (xIo 2 0 2 g__law_draw (xQ0 2 (xACons (xP (eC (.int 2))) xANil))) (xP (eC (.int 0)))))
      sNx)
    t_d_law_address_3)
def t_d_law_address_5 : En → Out :=
  (sSeq (sSet 8 (eVar 7))
    t_d_law_address_4)
def t_d_law_address_6 : En → Out :=
  (sSeq (sSetX 7 (xOr (xP (e2 neD (eVar 3) (eC (tx [])))) (xOr (xP (e2 isntD (eVar 4) (eC .none))) (x2 eqD (xIo 2 0 2 g__law_draw (xQ0 2 (xACons (xP (eC (.int 2))) xANil))) (xP (eC (.int 0)))))))
    t_d_law_address_5)
def t_d_law_address_7 : En → Out :=
  (sSeq (sSetX 6 (xIo 2 0 1 g_d_law_steps (xQ0 2 xANil)))
    t_d_law_address_6)
def t_d_law_address_8 : En → Out :=
  (sSeq (sIfX (xB (x2 gtD (xIo 2 0 2 g__law_draw (xQ0 2 (xACons (xP (eC (.int 3))) xANil))) (xP (eC (.int 0)))))
      (sSeq (sSetX 4 (xIo 2 0 2 g__law_some (xQ0 2 (xACons (x2 addD (xP (eC (.int 1))) (x2 ixD (xLst (xACons (xIo 2 0 2 g__law_draw (xQ0 2 (xACons (xP (eC (.int 6))) xANil))) (xACons (xIo 2 0 2 g__law_draw (xQ0 2 (xACons (xP (eC (.int 60))) xANil))) xANil))) (xBlt intD (xACons (x2 eqD (xIo 2 0 2 g__law_draw (xQ0 2 (xACons (xP (eC (.int 8))) xANil))) (xP (eC (.int 5)))) xANil)))) xANil))))
    (sSetX 5 (x2 ixD (xLst (xACons (xP (eC .none)) (xACons (xIo 2 0 2 g__law_draw (xQ0 2 (xACons (xP (eC (.int 65536))) xANil))) (xACons (xIo 2 0 2 g__law_draw (xQ0 2 (xACons (xP (eC (.int 10))) xANil))) (xACons (xP (eC (.int 65535))) xANil))))) (xIo 2 0 2 g__law_draw (xQ0 2 (xACons (xP (eC (.int 4))) xANil))))))
      sNx)
    t_d_law_address_7)
def t_d_law_address_9 : En → Out :=
  (sSeq (sSet 5 (eC .none))
    t_d_law_address_8)
def t_d_law_address_10 : En → Out :=
  (sSeq (sSet 4 (eC .none))
    t_d_law_address_9)
def t_d_law_address_11 : En → Out :=
  (sSeq (sSetX 3 (xIo 2 0 1 g_d_law_scheme (xQ0 2 xANil)))
    t_d_law_address_10)
def f_d_law_address : En → Out :=
  (sSeq (sSet 2 (eCall 1 g__law_deck (aCons (eCall 2 g__law_cell_at (aCons (eVar 0) (aCons (eVar 1) aNil))) aNil)))
    t_d_law_address_11)
def g_d_law_address : List D → Rs D := runF 11 f_d_law_address
end Wp

set_option Elab.async false
set_option linter.all false
set_option maxRecDepth 100000
set_option maxHeartbeats 4000000
namespace Wp
open PySem PySem.Spec PyProof.Rows L2 Wm
/-- a deck -/
structure Dk where
  a : Int
  n : Int
  c : Nat
def Dk.d (d : Dk) : D := .list [.int d.a, .int d.n, .int d.c]
theorem deck_ok (c : Int) : g__law_deck [.int c] = .ok (Dk.d ⟨c.fmod 2, c.fdiv 2, 0⟩) := by
  unfold g__law_deck f__law_deck
  rw [runF_eq]
  simp [Dk.d]
theorem set1 (a b c v : D) : setI [a, b, c] 1 v = some [a, v, c] := rfl
theorem set2 (a b c v : D) : setI [a, b, c] 2 v = some [a, b, v] := rfl
theorem draw_ok (d : Dk) (most : Int) (hm : 0 < most) (h2 : most < 1000000) (hc : d.c ≤ 100000) : ∃ x d', g__law_draw [d.d, .int most] = .ok (.int x) (Dk.d d') ∧ 0 ≤ x ∧ x < most ∧ d'.c ≤ d.c + 1 := by
  unfold g__law_draw f__law_draw
  rw [runX_eq]
  by_cases h : d.a = 0
  · obtain ⟨i0, i1⟩ := fmod_range d.n hm
    refine ⟨d.n.fmod most, ⟨d.a, d.n.fdiv most, d.c⟩, ?_, i0, i1, by simp⟩
    have hn : most.natAbs < 1073741824 := by omega
    unfold Dk.d
    simp (disch := omega) [h, if_pos, show ¬ most = 0 by omega, hn, set1]
  · have b1 : big 7919 = true := by decide
    have b2 : big 48271 = true := by decide
    have b3 : big (7919 * ((d.c : Int) + 1)) = true := by unfold big; simp; omega
    generalize hq : (d.n + 7919 * ((d.c : Int) + 1) * ((d.c : Int) + 1)) * 48271 = q
    obtain ⟨j0, j1⟩ := fmod_range q (b := 2147483647) (by decide)
    have b4 : big (q.fmod 2147483647) = true := by unfold big; simp; omega
    generalize hr : ((q.fmod 2147483647) * (q.fmod 2147483647 + 69621)).fmod 2147483629 = r
    obtain ⟨i0, i1⟩ := fmod_range (r.fdiv 8) hm
    refine ⟨(r.fdiv 8).fmod most, ⟨d.a, d.n, d.c + 1⟩, ?_, i0, i1, by simp⟩
    unfold Dk.d
    simp (disch := omega) [h, if_pos, show ¬ most = 0 by omega, b1, b2, b3, b4, hq, hr, set2]
/-! ### texts -/
theorem five_T : ∀ l ∈ ([T, T, [97, 98, 99, 88, 89, 90, 48, 49, 57, 45, 95, 46], [47, 63, 35, 58, 38, 61, 126, 46, 64, 32, 43], [97, 65, 46, 126]] : List (List Nat)), l ≠ [] ∧ l.length ≤ 94 ∧ ∀ c ∈ l, c ∈ T := by decide
theorem some_turn (d : Dk) (x1 : Option D) (l acc : List Nat) (k : Option D) (hl : l ≠ [] ∧ l.length ≤ 94 ∧ ∀ c ∈ l, c ∈ T) (hc : d.c ≤ 90000) (ha : acc.length ≤ 1000) :
    ∃ c d', b__law_some_1 [some d.d, x1, some (tx l), some (tx acc), k] = .nx [some (Dk.d d'), x1, some (tx l), some (tx (acc ++ [c])), k] ∧ c ∈ T ∧ d'.c ≤ d.c + 1 := by
  obtain ⟨h0, h1, h2⟩ := hl
  have hp : 0 < l.length := by cases l; simp at h0; simp
  obtain ⟨x, d', e, i0, i1, hd⟩ := draw_ok d l.length (by omega) (by omega) (by omega)
  obtain ⟨c, ec, hc', _⟩ := atI_mem (l := l) i0 i1
  refine ⟨c, d', ?_, h2 c hc', hd⟩
  unfold b__law_some_1
  simp (disch := omega) [if_pos, e, ec]
theorem some_loop (x1 : Option D) (l : List Nat) (hl : l ≠ [] ∧ l.length ≤ 94 ∧ ∀ c ∈ l, c ∈ T) : ∀ (j : Nat) (lo : Int) (d : Dk) (acc : List Nat) (o : Option D), 0 ≤ lo → lo + j ≤ 100 → d.c + j ≤ 80000 → acc.length + j ≤ 200 →
    ∃ m d' o', forL (gNm 4) b__law_some_1 (rangeD lo j) [some d.d, x1, some (tx l), some (tx acc), o] = .nx [some (Dk.d d'), x1, some (tx l), some (tx (acc ++ m)), o'] ∧ (∀ c ∈ m, c ∈ T) ∧ m.length = j ∧ d'.c ≤ d.c + j
  | 0, lo, d, acc, o, _, _, _, _ => ⟨[], d, o, by rw [List.append_nil]; rfl, by simp, rfl, by omega⟩
  | j + 1, lo, d, acc, o, h0, hj, hd, ha => by
    obtain ⟨c, d1, ht, hc, hd1⟩ := some_turn d x1 l acc (some (.int lo)) hl (by omega) (by omega)
    obtain ⟨m, d2, o', h1, h2, h3, h4⟩ := some_loop x1 l hl j (lo + 1) d1 (acc ++ [c]) (some (.int lo)) (by omega) (by omega) (by omega) (by simp; omega)
    refine ⟨c :: m, d2, o', ?_, fun z hz => ?_, by simp [h3], by omega⟩
    · rw [rangeD_cons, forL_name]
      show oLoop (b__law_some_1 [some d.d, x1, some (tx l), some (tx acc), some (.int lo)]) _ = _
      rw [ht, oLoop_nx, h1, List.append_assoc]
      rfl
    · rcases List.mem_cons.mp hz with rfl | m
      · exact hc
      · exact h2 z m
theorem some_ok (d : Dk) (size : Int) (h0 : 0 ≤ size) (h1 : size ≤ 100) (hc : d.c ≤ 70000) : ∃ l d', g__law_some [d.d, .int size] = .ok (tx l) (Dk.d d') ∧ (∀ c ∈ l, c ∈ T) ∧ (l.length : Int) = size ∧ d'.c ≤ d.c + 101 := by
  obtain ⟨x, d1, e, i0, i1, hd⟩ := draw_ok d 5 (by omega) (by omega) (by omega)
  obtain ⟨s, es, hs, _⟩ := atI_mem (l := ([T, T, [97, 98, 99, 88, 89, 90, 48, 49, 57, 45, 95, 46], [47, 63, 35, 58, 38, 61, 126, 46, 64, 32, 43], [97, 65, 46, 126]] : List (List Nat))) i0 (by simpa using i1)
  obtain ⟨m, d2, o', e1, e2, e3, e4⟩ := some_loop (some (.int size)) s (five_T s hs) size.toNat 0 d1 [] none (by omega) (by omega) (by omega) (by simp; omega)
  refine ⟨m, d2, ?_, e2, by omega, by omega⟩
  have es' : atI [tx T, tx T, tx [97, 98, 99, 88, 89, 90, 48, 49, 57, 45, 95, 46], tx [47, 63, 35, 58, 38, 61, 126, 46, 64, 32, 43], tx [97, 65, 46, 126]] x = some (tx s) := by
    have : ∀ (L : List (List Nat)), atI L x = some s → atI (L.map tx) x = some (tx s) := by
      intro L hL
      unfold atI at hL ⊢
      simp only [List.length_map] at hL ⊢
      cases hi : ixN L.length x with
      | none => rw [hi] at hL; simp at hL
      | some j => rw [hi] at hL; simp at hL ⊢; rw [hL]
    exact this _ es
  have hs' : small62 size = true := by unfold small62; simp; omega
  simp at e1
  unfold g__law_some f__law_some
  rw [runX_eq]
  simp (disch := omega) [if_pos, e, table_ok, es', hs', rgK, e1]
end Wp

set_option Elab.async false
set_option linter.all false
set_option maxRecDepth 100000
set_option maxHeartbeats 4000000
namespace Wp
open PySem PySem.Spec PyProof.Rows L2 Wm
theorem map_atI {α β : Type} (f : α → β) (L : List α) (x : Int) (s : α) (hL : atI L x = some s) : atI (L.map f) x = some (f s) := by
  unfold atI at hL ⊢
  simp only [List.length_map] at hL ⊢
  cases hi : ixN L.length x with
  | none => rw [hi] at hL; simp at hL
  | some j => rw [hi] at hL; simp at hL ⊢; exact ⟨s, hL, rfl⟩
/-! ### the scheme -/
theorem dscheme_turn0 (d : Dk) (x2 : Option D) (hc : d.c ≤ 90000) :
    ∃ c d', b_d_law_scheme_1 [some d.d, some (tx LET), x2, some (tx []), some (.int 0)] = .nx [some (Dk.d d'), some (tx LET), x2, some (tx [c]), some (.int 0)] ∧ c ∈ LET ∧ d'.c ≤ d.c + 1 := by
  obtain ⟨x, d', e, i0, i1, hd⟩ := draw_ok d 52 (by omega) (by omega) (by omega)
  obtain ⟨c, ec, hc', hx⟩ := atI_mem (l := LET) i0 (by rw [lLET]; exact i1)
  have b10 : big 10 = true := by decide
  have ec2 : atI (LET ++ [48, 49, 50, 51, 52, 53, 54, 55, 56, 57]) x = some c := by
    obtain ⟨c2, e2, _, h2⟩ := atI_mem (l := LET ++ [48, 49, 50, 51, 52, 53, 54, 55, 56, 57]) i0 (by simp [lLET]; omega)
    rw [List.getElem?_append_left (by rw [lLET]; omega), hx] at h2
    rw [e2, h2]
  refine ⟨c, d', ?_, hc', hd⟩
  have ll : LET.length = 52 := lLET
  unfold b_d_law_scheme_1
  generalize LET = z at *
  simp (disch := omega) [if_pos, e, ec2, b10, ll]
theorem dscheme_turn (d : Dk) (x2 : Option D) (acc : List Nat) (k : Int) (hk : 0 < k) (hc : d.c ≤ 90000) (ha : acc.length ≤ 100) :
    ∃ c d', b_d_law_scheme_1 [some d.d, some (tx LET), x2, some (tx acc), some (.int k)] = .nx [some (Dk.d d'), some (tx LET), x2, some (tx (acc ++ [c])), some (.int k)] ∧ c ∈ LEF ∧ d'.c ≤ d.c + 1 := by
  obtain ⟨x, d', e, i0, i1, hd⟩ := draw_ok d 62 (by omega) (by omega) (by omega)
  obtain ⟨c, ec, hc', hx⟩ := atI_mem (l := LEF) i0 (by rw [lLEF]; exact i1)
  have b10 : big 10 = true := by decide
  refine ⟨c, d', ?_, hc', hd⟩
  have ll : LET.length = 52 := lLET
  unfold LEF at ec
  unfold b_d_law_scheme_1
  generalize LET = z at *
  simp (disch := omega) [if_pos, e, ec, b10, ll, hk]
theorem dscheme_loop (x2 : Option D) : ∀ (j : Nat) (lo : Int) (d : Dk) (acc : List Nat) (o : Option D), 0 < lo → lo + j ≤ 100 → d.c + j ≤ 80000 → acc.length + j ≤ 50 →
    ∃ m d' o', forL (gNm 4) b_d_law_scheme_1 (rangeD lo j) [some d.d, some (tx LET), x2, some (tx acc), o] = .nx [some (Dk.d d'), some (tx LET), x2, some (tx (acc ++ m)), o'] ∧ (∀ c ∈ m, c ∈ LEF) ∧ m.length = j ∧ d'.c ≤ d.c + j
  | 0, lo, d, acc, o, _, _, _, _ => ⟨[], d, o, by rw [List.append_nil]; rfl, by simp, rfl, by omega⟩
  | j + 1, lo, d, acc, o, h0, hj, hd, ha => by
    obtain ⟨c, d1, ht, hc, hd1⟩ := dscheme_turn d x2 acc lo h0 (by omega) (by omega)
    obtain ⟨m, d2, o', h1, h2, h3, h4⟩ := dscheme_loop x2 j (lo + 1) d1 (acc ++ [c]) (some (.int lo)) (by omega) (by omega) (by omega) (by simp; omega)
    refine ⟨c :: m, d2, o', ?_, fun z hz => ?_, by simp [h3], by omega⟩
    · rw [rangeD_cons, forL_name]
      show oLoop (b_d_law_scheme_1 [some d.d, some (tx LET), x2, some (tx acc), some (.int lo)]) _ = _
      rw [ht, oLoop_nx, h1, List.append_assoc]
      rfl
    · rcases List.mem_cons.mp hz with rfl | m
      · exact hc
      · exact h2 z m
theorem dscheme_ok (d : Dk) (hc : d.c ≤ 70000) : ∃ l d', g_d_law_scheme [d.d] = .ok (tx l) (Dk.d d') ∧ (l = [] ∨ okSch l) ∧ d'.c ≤ d.c + 10 := by
  obtain ⟨x, d1, e, i0, i1, hd⟩ := draw_ok d 18 (by omega) (by omega) (by omega)
  have head : ∀ (ρ : En), g_d_law_scheme [d.d] = outX 0 (t_d_law_scheme_3 [some d1.d, some (tx LET), some (.int x), none, none]) := by
    intro _
    unfold g_d_law_scheme f_d_law_scheme t_d_law_scheme_4
    rw [runX_eq]
    show outX 0 (sSeq (sSet 1 (eC (tx LET))) _ [some d.d, none, none, none, none]) = _
    simp [e]
  rw [head []]
  unfold t_d_law_scheme_3 t_d_law_scheme_2
  have b0 : big x = true := by unfold big; simp; omega
  by_cases h9 : x < 9
  · have hs : small62 (x * 1) = true := by unfold small62; simp; omega
    have hs' : small62 x = true := by simpa using hs
    obtain ⟨n, hn⟩ : ∃ n : Nat, x = n := ⟨x.toNat, by omega⟩
    cases n with
    | zero =>
      subst hn
      refine ⟨[], d1, ?_, .inl rfl, by omega⟩
      have h0 : small62 0 = true := by decide
      have bb : big 0 = true := by decide
      simp [rgK, h0, bb, rangeD, forL]
    | succ n =>
      obtain ⟨c, d2, ht, hc2, hd2⟩ := dscheme_turn0 d1 (some (.int x)) (by omega)
      obtain ⟨m, d3, o', h1, h2, h3, h4⟩ := dscheme_loop (some (.int x)) n 1 d2 [c] (some (.int 0)) (by omega) (by omega) (by omega) (by simp; omega)
      refine ⟨c :: m, d3, ?_, .inr ⟨c, m, rfl, hc2, h2, by omega⟩, by omega⟩
      have lp : forL (gNm 4) b_d_law_scheme_1 (rangeD 0 x.toNat) [some d1.d, some (tx LET), some (.int x), some (tx []), none] = .nx [some (Dk.d d3), some (tx LET), some (.int x), some (tx (c :: m)), o'] := by
        rw [show x.toNat = n + 1 by omega, rangeD_cons, forL_name]
        show oLoop (b_d_law_scheme_1 [some d1.d, some (tx LET), some (.int x), some (tx []), some (.int 0)]) _ = _
        rw [ht, oLoop_nx]
        exact h1
      generalize LET = z at *
      simp [b0, h9, hs', rgK, lp]
  · refine ⟨[], d1, ?_, .inl rfl, by omega⟩
    have hs : small62 0 = true := by decide
    simp [b0, h9, hs, rgK, rangeD, forL]
/-! ### steps -/
theorem pick2 (x y : D) (b : Bool) : atI [x, y] (if b = true then 1 else 0) = some (if b = true then y else x) := by cases b <;> rfl
theorem dsteps_turn (d : Dk) (many k : Int) (S : List Tx) (o : Option D) (hc : d.c ≤ 60000) (hs : S.length ≤ 1000) :
    ∃ (l : Tx) (d' : Dk) (o' : Option D), b_d_law_steps_1 [some d.d, some (.int many), some (.list (S.map tx)), some (.int k), o] = .nx [some (Dk.d d'), some (.int many), some (.list ((S ++ [l]).map tx)), some (.int k), o'] ∧ okN l ∧ l.length ≤ 60 ∧ d'.c ≤ d.c + 110 := by
  obtain ⟨x, d1, e1, i0, i1, hd1⟩ := draw_ok d 6 (by omega) (by omega) (by omega)
  have fin : ∀ (d2 : Dk) (size : Int), d2.c ≤ d.c + 3 → 1 ≤ size → size ≤ 60 → ∃ (l : Tx) (d' : Dk), sAppX 2 (xIo 0 0 2 g__law_some (xQ0 0 (xACons (xP (eVar 4)) xANil))) [some d2.d, some (.int many), some (.list (S.map tx)), some (.int k), some (.int size)] = .nx [some (Dk.d d'), some (.int many), some (.list ((S ++ [l]).map tx)), some (.int k), some (.int size)] ∧ okN l ∧ l.length ≤ 60 ∧ d'.c ≤ d.c + 110 := by
    intro d2 size h1 h2 h3
    obtain ⟨l, d', e, g1, g2, g3⟩ := some_ok d2 size (by omega) (by omega) (by omega)
    refine ⟨l, d', ?_, ⟨g1, by intro z; subst z; simp at g2; omega, by omega⟩, by omega, by omega⟩
    simp (disch := omega) [e, if_pos]
  unfold b_d_law_steps_1
  by_cases h6 : many < 6
  · by_cases hk : k = 0
    · obtain ⟨y, d2, e2, j0, j1, hd2⟩ := draw_ok d1 8 (by omega) (by omega) (by omega)
      by_cases h5 : y = 5
      · obtain ⟨z, d3, e3, k0, k1, hd3⟩ := draw_ok d2 60 (by omega) (by omega) (by omega)
        obtain ⟨l, d', e, g⟩ := fin d3 (1 + z) (by omega) (by omega) (by omega)
        refine ⟨l, d', some (.int (1 + z)), ?_, g⟩
        subst hk
        subst h5
        simp [e1, e2, e3, h6]
        simpa using e
      · obtain ⟨l, d', e, g⟩ := fin d2 (1 + x) (by omega) (by omega) (by omega)
        refine ⟨l, d', some (.int (1 + x)), ?_, g⟩
        subst hk
        simp [e1, e2, h6, h5]
        simpa using e
    · obtain ⟨l, d', e, g⟩ := fin d1 (1 + x) (by omega) (by omega) (by omega)
      refine ⟨l, d', some (.int (1 + x)), ?_, g⟩
      simp [e1, h6, hk]
      simpa using e
  · obtain ⟨l, d', e, g⟩ := fin d1 (1 + x) (by omega) (by omega) (by omega)
    refine ⟨l, d', some (.int (1 + x)), ?_, g⟩
    simp [e1, h6]
    simpa using e
theorem dsteps_loop (many : Int) : ∀ (j : Nat) (lo : Int) (d : Dk) (S : List Tx) (o o2 : Option D), d.c + 110 * j ≤ 60000 → S.length + j ≤ 1000 → (∀ l ∈ S, okN l ∧ l.length ≤ 60) →
    ∃ (S' : List Tx) (d' : Dk) (p p2 : Option D), forL (gNm 3) b_d_law_steps_1 (rangeD lo j) [some d.d, some (.int many), some (.list (S.map tx)), o, o2] = .nx [some (Dk.d d'), some (.int many), some (.list (S'.map tx)), p, p2] ∧ (∀ l ∈ S', okN l ∧ l.length ≤ 60) ∧ S'.length = S.length + j ∧ d'.c ≤ d.c + 110 * j
  | 0, lo, d, S, o, o2, _, _, h => ⟨S, d, o, o2, rfl, h, rfl, by omega⟩
  | j + 1, lo, d, S, o, o2, hd, hl, h => by
    obtain ⟨l, d1, p, ht, g1, g2, g3⟩ := dsteps_turn d many lo S o2 (by omega) (by omega)
    obtain ⟨S', d2, q, q2, h1, h2, h3, h4⟩ := dsteps_loop many j (lo + 1) d1 (S ++ [l]) (some (.int lo)) p (by omega) (by simp; omega) (fun z hz => by
      rcases List.mem_append.mp hz with m | m
      · exact h z m
      · rw [List.mem_singleton.mp m]; exact ⟨g1, g2⟩)
    refine ⟨S', d2, q, q2, ?_, h2, by rw [h3]; simp; omega, by omega⟩
    rw [rangeD_cons, forL_name]
    show oLoop (b_d_law_steps_1 [some d.d, some (.int many), some (.list (S.map tx)), some (.int lo), o2]) _ = _
    rw [ht, oLoop_nx, h1]
theorem dsteps_ok (d : Dk) (hc : d.c ≤ 50000) : ∃ (S : List Tx) (d' : Dk), g_d_law_steps [d.d] = .ok (.tuple (S.map tx)) (Dk.d d') ∧ (∀ l ∈ S, okN l ∧ l.length ≤ 60) ∧ S.length ≤ 40 ∧ d'.c ≤ d.c + 4500 := by
  obtain ⟨x, d1, e1, i0, i1, hd1⟩ := draw_ok d 6 (by omega) (by omega) (by omega)
  obtain ⟨y, d2, e2, j0, j1, hd2⟩ := draw_ok d1 8 (by omega) (by omega) (by omega)
  have fin : ∀ many : Int, 0 ≤ many → many ≤ 40 → ∃ (S : List Tx) (d' : Dk) (p p2 : Option D), sFor (iRange1 (eVar 1)) (gNm 3) b_d_law_steps_1 [some d2.d, some (.int many), some (.list []), none, none] = .nx [some (Dk.d d'), some (.int many), some (.list (S.map tx)), p, p2] ∧ (∀ l ∈ S, okN l ∧ l.length ≤ 60) ∧ S.length ≤ 40 ∧ d'.c ≤ d.c + 4500 := by
    intro many h0 h1
    obtain ⟨S', d', p, p2, f1, f2, f3, f4⟩ := dsteps_loop many many.toNat 0 d2 [] none none (by omega) (by simp; omega) (by simp)
    refine ⟨S', d', p, p2, ?_, f2, by simp at f3; omega, by omega⟩
    have hs : small62 many = true := by unfold small62; simp; omega
    simp at f1
    simp [rgK, hs, f1]
  unfold g_d_law_steps f_d_law_steps
  rw [runX_eq]
  by_cases h5 : y = 5
  · obtain ⟨S, d', p, p2, e, g1, g2, g3⟩ := fin 40 (by omega) (by omega)
    refine ⟨S, d', ?_, g1, g2, g3⟩
    subst h5
    have a1 : atI [PyData.int x, PyData.int 40] 1 = some (.int 40) := rfl
    simp at e
    simp [e1, e2]
    simp [e]
  · obtain ⟨S, d', p, p2, e, g1, g2, g3⟩ := fin x (by omega) (by omega)
    refine ⟨S, d', ?_, g1, g2, g3⟩
    simp at e
    simp [e1, e2, h5]
    simp [e]
end Wp

set_option Elab.async false
set_option linter.all false
set_option maxRecDepth 100000
set_option maxHeartbeats 4000000
namespace Wp
open PySem PySem.Spec PyProof.Rows L2 Wm
/-! ### the deck's question -/
def okPr2 (p : Tx × Option Tx) : Prop := (okN p.1 ∧ p.1.length ≤ 6) ∧ ∀ v, p.2 = some v → (∀ c ∈ v, c ∈ T) ∧ v.length ≤ 6
theorem dquestion_turn (d : Dk) (x1 x3 o4 o5 : Option D) (l : List (Tx × Option Tx)) (hc : d.c ≤ 60000) (hl : l.length ≤ 1000) :
    ∃ p d' o4' o5', b_d_law_question_1 [some d.d, x1, some (.list (l.map pD)), x3, o4, o5] = .nx [some (Dk.d d'), x1, some (.list ((l ++ [p]).map pD)), x3, o4', o5'] ∧ okPr2 p ∧ d'.c ≤ d.c + 220 := by
  obtain ⟨x, d1, e1, i0, i1, hd1⟩ := draw_ok d 6 (by omega) (by omega) (by omega)
  obtain ⟨n, d2, e2, n1, n2, hd2⟩ := some_ok d1 (1 + x) (by omega) (by omega) (by omega)
  obtain ⟨y, d3, e3, j0, j1, hd3⟩ := draw_ok d2 3 (by omega) (by omega) (by omega)
  have hn : okN n ∧ n.length ≤ 6 := ⟨⟨n1, by intro z; subst z; simp at n2; omega, by omega⟩, by omega⟩
  unfold b_d_law_question_1
  by_cases hy : 0 < y
  · obtain ⟨z, d4, e4, k0, k1, hd4⟩ := draw_ok d3 7 (by omega) (by omega) (by omega)
    obtain ⟨v, d5, e5, v1, v2, hd5⟩ := some_ok d4 z (by omega) (by omega) (by omega)
    refine ⟨(n, some v), d5, some (tx n), some (tx v), ?_, ⟨hn, fun v' hv => by cases hv; exact ⟨v1, by omega⟩⟩, by omega⟩
    simp (disch := omega) [e1, e2, e3, e4, e5, hy, if_pos, pD, oT]
  · refine ⟨(n, none), d3, some (tx n), some .none, ?_, ⟨hn, fun v' hv => by cases hv⟩, by omega⟩
    simp (disch := omega) [e1, e2, e3, hy, if_pos, pD, oT]
theorem dquestion_loop (x1 : Option D) : ∀ (j : Nat) (lo : Int) (d : Dk) (l : List (Tx × Option Tx)) (o3 o4 o5 : Option D), d.c + 220 * j ≤ 60000 → l.length + j ≤ 1000 → (∀ p ∈ l, okPr2 p) →
    ∃ (l' : List (Tx × Option Tx)) (d' : Dk) (p3 p4 p5 : Option D), forL (gNm 3) b_d_law_question_1 (rangeD lo j) [some d.d, x1, some (.list (l.map pD)), o3, o4, o5] = .nx [some (Dk.d d'), x1, some (.list (l'.map pD)), p3, p4, p5] ∧ (∀ p ∈ l', okPr2 p) ∧ l'.length = l.length + j ∧ d'.c ≤ d.c + 220 * j
  | 0, lo, d, l, o3, o4, o5, _, _, h => ⟨l, d, o3, o4, o5, rfl, h, rfl, by omega⟩
  | j + 1, lo, d, l, o3, o4, o5, hd, hl, h => by
    obtain ⟨p, d1, q4, q5, ht, g1, g2⟩ := dquestion_turn d x1 (some (.int lo)) o4 o5 l (by omega) (by omega)
    obtain ⟨l', d2, p3, p4, p5, h1, h2, h3, h4⟩ := dquestion_loop x1 j (lo + 1) d1 (l ++ [p]) (some (.int lo)) q4 q5 (by omega) (by simp; omega) (fun z hz => by
      rcases List.mem_append.mp hz with m | m
      · exact h z m
      · rw [List.mem_singleton.mp m]; exact g1)
    refine ⟨l', d2, p3, p4, p5, ?_, h2, by rw [h3]; simp; omega, by omega⟩
    rw [rangeD_cons, forL_name]
    show oLoop (b_d_law_question_1 [some d.d, x1, some (.list (l.map pD)), some (.int lo), o4, o5]) _ = _
    rw [ht, oLoop_nx, h1]
def okQ2 (q : Option (List (Tx × Option Tx))) : Prop := ∀ l, q = some l → (∀ p ∈ l, okPr2 p) ∧ l.length ≤ 20
theorem dquestion_ok (d : Dk) (hc : d.c ≤ 50000) : ∃ q d', g_d_law_question [d.d] = .ok (qD q) (Dk.d d') ∧ okQ2 q ∧ d'.c ≤ d.c + 4500 := by
  obtain ⟨x, d1, e1, i0, i1, hd1⟩ := draw_ok d 3 (by omega) (by omega) (by omega)
  unfold g_d_law_question f_d_law_question
  rw [runX_eq]
  by_cases hx : x = 0
  · subst hx
    exact ⟨none, d1, by simp [e1, qD], (fun l h => by cases h), by omega⟩
  · obtain ⟨y, d2, e2, j0, j1, hd2⟩ := draw_ok d1 5 (by omega) (by omega) (by omega)
    obtain ⟨z, d3, e3, k0, k1, hd3⟩ := draw_ok d2 8 (by omega) (by omega) (by omega)
    have fin : ∀ many : Int, 0 ≤ many → many ≤ 20 → ∃ (l : List (Tx × Option Tx)) (d' : Dk) (p3 p4 p5 : Option D), sFor (iRange1 (eVar 1)) (gNm 3) b_d_law_question_1 [some d3.d, some (.int many), some (.list []), none, none, none] = .nx [some (Dk.d d'), some (.int many), some (.list (l.map pD)), p3, p4, p5] ∧ (∀ p ∈ l, okPr2 p) ∧ l.length ≤ 20 ∧ d'.c ≤ d.c + 4500 := by
      intro many h0 h1
      obtain ⟨l', d', p3, p4, p5, f1, f2, f3, f4⟩ := dquestion_loop (some (.int many)) many.toNat 0 d3 [] none none none (by omega) (by simp; omega) (by simp)
      refine ⟨l', d', p3, p4, p5, ?_, f2, by simp at f3; omega, by omega⟩
      have hs : small62 many = true := by unfold small62; simp; omega
      simp at f1
      simp [rgK, hs, f1]
    unfold t_d_law_question_4 t_d_law_question_3 t_d_law_question_2
    by_cases h5 : z = 5
    · obtain ⟨l, d', p3, p4, p5, e, g1, g2, g3⟩ := fin 20 (by omega) (by omega)
      refine ⟨some l, d', ?_, (fun l' h => by cases h; exact ⟨g1, g2⟩), g3⟩
      subst h5
      have a1 : atI [PyData.int y, PyData.int 20] 1 = some (.int 20) := rfl
      simp at e
      simp [e1, e2, e3, hx, a1]
      simp [e, qD]
    · obtain ⟨l, d', p3, p4, p5, e, g1, g2, g3⟩ := fin y (by omega) (by omega)
      refine ⟨some l, d', ?_, (fun l' h => by cases h; exact ⟨g1, g2⟩), g3⟩
      simp at e
      simp [e1, e2, e3, hx, h5]
      simp [e, qD]
/-! ### the deck's address -/
structure dkA (a : Adr) : Prop where
  sc : a.sc = [] ∨ okSch a.sc
  ho : ∀ h, a.ho = some h → okN h ∧ h.length ≤ 60
  dr : ∀ x, a.dr = some x → 0 ≤ x ∧ x < 65536 ∧ a.ho ≠ none
  w : (∀ l ∈ a.w.s, okN l ∧ l.length ≤ 60) ∧ a.w.s.length ≤ 40
  q : okQ2 a.q
  m : ∀ m, a.m = some m → (∀ c ∈ m, c ∈ T) ∧ m.length ≤ 60
  inv : Inv a
theorem daddr2 (x0 x1 : Option D) (d : Dk) (sc ho dr st r e q : D) (hc : d.c ≤ 50000) :
    ∃ m, (∀ m', m = some m' → (∀ c ∈ m', c ∈ T) ∧ m'.length ≤ 60) ∧ t_d_law_address_2 [x0, x1, some d.d, some sc, some ho, some dr, some st, some r, some e, some q, none] = .rt (.tuple [sc, ho, dr, .tuple [r, st, e], q, oT m]) := by
  obtain ⟨x, d1, e1, i0, i1, hd1⟩ := draw_ok d 3 (by omega) (by omega) (by omega)
  unfold t_d_law_address_2 t_d_law_address_1
  by_cases hx : 0 < x
  · obtain ⟨y, d2, e2, j0, j1, hd2⟩ := draw_ok d1 7 (by omega) (by omega) (by omega)
    obtain ⟨z, d3, e3, k0, k1, hd3⟩ := draw_ok d2 61 (by omega) (by omega) (by omega)
    obtain ⟨t, d4, e4, l0, l1, hd4⟩ := draw_ok d3 8 (by omega) (by omega) (by omega)
    by_cases h5 : t = 5
    · obtain ⟨m, d5, e5, m1, m2, hd5⟩ := some_ok d4 z (by omega) (by omega) (by omega)
      refine ⟨some m, (fun m' h => by cases h; exact ⟨m1, by omega⟩), ?_⟩
      subst h5
      have a1 : atI [PyData.int y, PyData.int z] 1 = some (.int z) := rfl
      simp [e1, e2, e3, e4, hx, a1, e5, oT]
    · obtain ⟨m, d5, e5, m1, m2, hd5⟩ := some_ok d4 y (by omega) (by omega) (by omega)
      refine ⟨some m, (fun m' h => by cases h; exact ⟨m1, by omega⟩), ?_⟩
      simp [e1, e2, e3, e4, hx, h5, e5, oT]
  · refine ⟨none, (fun m' h => by cases h), ?_⟩
    simp [e1, hx, oT]
theorem daddr3 (x0 x1 : Option D) (d : Dk) (sc ho dr st r e : D) (hc : d.c ≤ 40000) :
    ∃ q m, okQ2 q ∧ (∀ m', m = some m' → (∀ c ∈ m', c ∈ T) ∧ m'.length ≤ 60) ∧ t_d_law_address_3 [x0, x1, some d.d, some sc, some ho, some dr, some st, some r, some e, none, none] = .rt (.tuple [sc, ho, dr, .tuple [r, st, e], qD q, oT m]) := by
  obtain ⟨q, d1, e1, hq, hd1⟩ := dquestion_ok d (by omega)
  obtain ⟨m, hm, e2⟩ := daddr2 x0 x1 d1 sc ho dr st r e (qD q) (by omega)
  refine ⟨q, m, hq, hm, ?_⟩
  unfold t_d_law_address_3
  rw [at_sSeq]
  have e3 : sSetX 9 (xIo 2 0 1 g_d_law_question (xQ0 2 xANil)) [x0, x1, some d.d, some sc, some ho, some dr, some st, some r, some e, none, none] = .nx [x0, x1, some d1.d, some sc, some ho, some dr, some st, some r, some e, some (qD q), none] := by
    simp [e1]
  rw [e3, oSeq_nx, e2]
theorem daddr5 (x0 x1 : Option D) (d : Dk) (sc ho dr : D) (S : List Tx) (r : Bool) (hS : ∀ l ∈ S, okN l) (hc : d.c ≤ 30000) :
    ∃ e q m, (S = [] → e = r) ∧ okQ2 q ∧ (∀ m', m = some m' → (∀ c ∈ m', c ∈ T) ∧ m'.length ≤ 60) ∧ t_d_law_address_5 [x0, x1, some d.d, some sc, some ho, some dr, some (.tuple (S.map tx)), some (.bool r), none, none, none] = .rt (.tuple [sc, ho, dr, .tuple [.bool r, .tuple (S.map tx), .bool e], qD q, oT m]) := by
  have h0 : neD (.tuple (S.map tx)) (.tuple []) = .ok (.bool (decide (S ≠ []))) := by
    rw [neD_tt, neR_ok (k := 2) (j := 1) (shp_tuple (k := 1) (shpAll_txs fun l hl c hcc => T128 c ((hS l hl).1 c hcc))) (shp_tuple shpAll_nil)]
    cases S <;> rfl
  unfold t_d_law_address_5
  rw [at_sSeq]
  have e8 : sSet 8 (eVar 7) [x0, x1, some d.d, some sc, some ho, some dr, some (.tuple (S.map tx)), some (.bool r), none, none, none] = .nx [x0, x1, some d.d, some sc, some ho, some dr, some (.tuple (S.map tx)), some (.bool r), some (.bool r), none, none] := by simp
  rw [e8, oSeq_nx]
  unfold t_d_law_address_4
  rw [at_sSeq]
  by_cases hs : S = []
  · obtain ⟨q, m, hq, hm, e3⟩ := daddr3 x0 x1 d sc ho dr (.tuple (S.map tx)) (.bool r) (.bool r) (by omega)
    refine ⟨r, q, m, fun _ => rfl, hq, hm, ?_⟩
    rw [← e3]
    rw [show decide (S ≠ []) = false by simp [hs]] at h0
    generalize PyData.tuple (S.map tx) = st at *
    simp [h0, -neD_tt]
  · obtain ⟨y, d2, e2, j0, j1, hd2⟩ := draw_ok d 2 (by omega) (by omega) (by omega)
    obtain ⟨q, m, hq, hm, e3⟩ := daddr3 x0 x1 d2 sc ho dr (.tuple (S.map tx)) (.bool r) (.bool (decide (y = 0))) (by omega)
    refine ⟨decide (y = 0), q, m, fun h => absurd h hs, hq, hm, ?_⟩
    rw [← e3]
    rw [show decide (S ≠ []) = true by simp [hs]] at h0
    generalize PyData.tuple (S.map tx) = st at *
    simp [h0, e2, -neD_tt]
theorem daddr7 (x0 x1 : Option D) (d : Dk) (sc : Tx) (ho : Option Tx) (dr : Option Int) (hsc : sc = [] ∨ okSch sc) (hc : d.c ≤ 20000) (hho : ∀ h, ho = some h → okN h ∧ h.length ≤ 60) (hdr : ∀ x, dr = some x → 0 ≤ x ∧ x < 65536 ∧ ho ≠ none) :
    ∃ a : Adr, dkA a ∧ t_d_law_address_7 [x0, x1, some d.d, some (tx sc), some (oT ho), some (oI dr), none, none, none, none, none] = .rt a.d := by
  obtain ⟨S, d1, e1, hS, hSl, hd1⟩ := dsteps_ok d (by omega)
  unfold t_d_law_address_7
  rw [at_sSeq]
  have e6 : sSetX 6 (xIo 2 0 1 g_d_law_steps (xQ0 2 xANil)) [x0, x1, some d.d, some (tx sc), some (oT ho), some (oI dr), none, none, none, none, none] = .nx [x0, x1, some d1.d, some (tx sc), some (oT ho), some (oI dr), some (.tuple (S.map tx)), none, none, none, none] := by
    simp [e1]
  rw [e6, oSeq_nx]
  have fin : ∀ (r : Bool) (d2 : Dk), d2.c ≤ d1.c + 1 → (sc ≠ [] ∨ ho ≠ none → r = true) → sSetX 7 (xOr (xP (e2 neD (eVar 3) (eC (tx [])))) (xOr (xP (e2 isntD (eVar 4) (eC .none))) (x2 eqD (xIo 2 0 2 g__law_draw (xQ0 2 (xACons (xP (eC (.int 2))) xANil))) (xP (eC (.int 0)))))) [x0, x1, some d1.d, some (tx sc), some (oT ho), some (oI dr), some (.tuple (S.map tx)), none, none, none, none] = .nx [x0, x1, some d2.d, some (tx sc), some (oT ho), some (oI dr), some (.tuple (S.map tx)), some (.bool r), none, none, none] → ∃ a : Adr, dkA a ∧ t_d_law_address_6 [x0, x1, some d1.d, some (tx sc), some (oT ho), some (oI dr), some (.tuple (S.map tx)), none, none, none, none] = .rt a.d := by
    intro r d2 hd2 hr e7
    obtain ⟨e, q, m, he, hq, hm, e5⟩ := daddr5 x0 x1 d2 (tx sc) (oT ho) (oI dr) S r (fun l hl => (hS l hl).1) (by omega)
    refine ⟨⟨sc, ho, dr, ⟨r, S, e⟩, q, m⟩, ⟨hsc, hho, hdr, ⟨hS, hSl⟩, hq, hm, ⟨hr, he⟩⟩, ?_⟩
    unfold t_d_law_address_6
    rw [at_sSeq, e7, oSeq_nx, e5]
    rfl
  by_cases h1 : sc = []
  · cases ho with
    | some h =>
      refine fin true d1 (by omega) (fun _ => rfl) ?_
      subst h1
      simp [oT]
    | none =>
      obtain ⟨y, d2, e2, j0, j1, hd2⟩ := draw_ok d1 2 (by omega) (by omega) (by omega)
      refine fin (decide (y = 0)) d2 (by omega) (fun h => by rcases h with h | h; exact absurd h1 h; exact absurd rfl h) ?_
      subst h1
      simp [oT, e2]
  · refine fin true d1 (by omega) (fun _ => rfl) ?_
    simp [h1]
theorem daddr_ok (ns : List Int) (k : Nat) : ∃ a : Adr, dkA a ∧ g_d_law_address [.list (ns.map PyData.int), .int k] = .ok a.d := by
  have hc0 := cell_ok ns k
  have hdk := deck_ok (cell ns k)
  obtain ⟨sc, d1, e1, hsc, hd1⟩ := dscheme_ok ⟨(cell ns k).fmod 2, (cell ns k).fdiv 2, 0⟩ (by simp)
  simp only at hd1
  generalize Dk.d ⟨(cell ns k).fmod 2, (cell ns k).fdiv 2, 0⟩ = dk0 at *
  generalize PyData.list (ns.map PyData.int) = sd at *
  unfold g_d_law_address f_d_law_address t_d_law_address_11 t_d_law_address_10 t_d_law_address_9
  rw [runF_eq]
  suffices h : ∃ a : Adr, dkA a ∧ t_d_law_address_8 [some sd, some (.int k), some d1.d, some (tx sc), some .none, some .none, none, none, none, none, none] = .rt a.d by
    obtain ⟨a, ha, e⟩ := h
    refine ⟨a, ha, ?_⟩
    simp [hc0, hdk, e1]
    simp [e]
  obtain ⟨x, d2, e2, j0, j1, hd2⟩ := draw_ok d1 3 (by omega) (by omega) (by omega)
  unfold t_d_law_address_8
  rw [at_sSeq]
  by_cases hx : 0 < x
  · obtain ⟨y1, d3, f1, k0, k1, hd3⟩ := draw_ok d2 6 (by omega) (by omega) (by omega)
    obtain ⟨y2, d4, f2, l0, l1, hd4⟩ := draw_ok d3 60 (by omega) (by omega) (by omega)
    obtain ⟨y3, d5, f3, m0, m1, hd5⟩ := draw_ok d4 8 (by omega) (by omega) (by omega)
    have hsz : ∃ size : Int, 0 ≤ size ∧ size < 60 ∧ atI [PyData.int y1, PyData.int y2] (if y3 = 5 then 1 else 0) = some (.int size) := by
      by_cases h5 : y3 = 5
      · exact ⟨y2, l0, l1, by rw [if_pos h5]; rfl⟩
      · exact ⟨y1, k0, by omega, by rw [if_neg h5]; rfl⟩
    obtain ⟨size, s0, s1, esz⟩ := hsz
    obtain ⟨h, d6, f4, h1, h2, hd6⟩ := some_ok d5 (1 + size) (by omega) (by omega) (by omega)
    obtain ⟨z1, d7, f5, n0, n1, hd7⟩ := draw_ok d6 65536 (by omega) (by omega) (by omega)
    obtain ⟨z2, d8, f6, o0, o1, hd8⟩ := draw_ok d7 10 (by omega) (by omega) (by omega)
    obtain ⟨z3, d9, f7, p0, p1, hd9⟩ := draw_ok d8 4 (by omega) (by omega) (by omega)
    have hdr : ∃ dr : Option Int, (∀ x, dr = some x → 0 ≤ x ∧ x < 65536) ∧ atI [PyData.none, PyData.int z1, PyData.int z2, PyData.int 65535] z3 = some (oI dr) := by
      obtain h3 | h3 | h3 | h3 : z3 = 0 ∨ z3 = 1 ∨ z3 = 2 ∨ z3 = 3 := by omega
      · exact ⟨none, (fun x h => by cases h), by rw [h3]; rfl⟩
      · exact ⟨some z1, (fun x h => by cases h; exact ⟨n0, n1⟩), by rw [h3]; rfl⟩
      · exact ⟨some z2, (fun x h => by cases h; exact ⟨o0, by omega⟩), by rw [h3]; rfl⟩
      · exact ⟨some 65535, (fun x h => by cases h; exact ⟨by omega, by omega⟩), by rw [h3]; rfl⟩
    obtain ⟨dr, hdr, edr⟩ := hdr
    obtain ⟨a, ha, e7⟩ := daddr7 (some sd) (some (.int k)) d9 sc (some h) dr hsc (by omega) (fun h' hh => by cases hh; exact ⟨⟨h1, by intro z; subst z; simp at h2; omega, by omega⟩, by omega⟩) (fun x hx => ⟨(hdr x hx).1, (hdr x hx).2, by simp⟩)
    refine ⟨a, ha, ?_⟩
    rw [← e7]
    generalize hdo : oI dr = od at *
    simp [e2, hx, f1, f2, f3, esz, f4, f5, f6, f7, edr, oT]
  · obtain ⟨a, ha, e7⟩ := daddr7 (some sd) (some (.int k)) d2 sc none none hsc (by omega) (fun h' hh => by cases hh) (fun x hx => by cases hx)
    refine ⟨a, ha, ?_⟩
    rw [← e7]
    simp [e2, hx, oT, oI]
end Wp

set_option Elab.async false
set_option linter.all false
set_option maxRecDepth 100000
set_option maxHeartbeats 4000000
namespace Wp
open PySem PySem.Spec PyProof.Rows L2 Wm
def t_show_way_1 : En → Out :=
  (sSeq (sIf (tAn (tB (eVar 3)) (tB (e2 gtD (eBlt lenD (aCons (eVar 2) aNil)) (eC (.int 0)))))
      (sAug 4 addI (eC (tx [47])))
      sNx)
    (sRet (eVar 4)))
def t_show_way_2 : En → Out :=
  (sSeq (sIf (tB (eVar 1))
      (sSet 4 (e2 addD (eC (tx [47])) (eVar 4)))
      sNx)
    t_show_way_1)
def t_show_way_3 : En → Out :=
  (sSeq (sSet 4 (eM1 joinD (eC (tx [47])) (eLc (eIt iSeq (eVar 2)) [5] (gNm 5) cYes (eCall 1 g_written (aCons (eVar 5) aNil)))))
    t_show_way_2)
def f_show_way : En → Out :=
  (sSeq (sUnp (gTp 3 (gsCons (gNm 1) (gsCons (gNm 2) (gsCons (gNm 3) gsNil)))) (eVar 0))
    t_show_way_3)
def g_show_way : List D → Rs D := runF 6 f_show_way
def f_show_pair : En → Out :=
  (sSeq (sUnp (gTp 2 (gsCons (gNm 1) (gsCons (gNm 2) gsNil))) (eVar 0))
    (sSeq (sIf (tB (e2 isD (eVar 2) (eC .none)))
      (sRet (eCall 1 g_written (aCons (eVar 1) aNil)))
      sNx)
    (sRet (e2 addD (e2 addD (eCall 1 g_written (aCons (eVar 1) aNil)) (eC (tx [61]))) (eCall 1 g_written (aCons (eVar 2) aNil))))))
def g_show_pair : List D → Rs D := runF 3 f_show_pair
def t_show_1 : En → Out :=
  (sSeq (sIf (tB (e2 isntD (eVar 6) (eC .none)))
      (sAug 7 addI (e2 addD (eC (tx [35])) (eCall 1 g_written (aCons (eVar 6) aNil))))
      sNx)
    (sRet (eVar 7)))
def t_show_2 : En → Out :=
  (sSeq (sIf (tB (e2 isntD (eVar 5) (eC .none)))
      (sAug 7 addI (e2 addD (eC (tx [63])) (eM1 joinD (eC (tx [38])) (eLc (eIt iSeq (eVar 5)) [8] (gNm 8) cYes (eCall 1 g_show_pair (aCons (eVar 8) aNil))))))
      sNx)
    t_show_1)
def t_show_3 : En → Out :=
  (sSeq (sAug 7 addI (eCall 1 g_show_way (aCons (eVar 4) aNil)))
    t_show_2)
def t_show_4 : En → Out :=
  (sSeq (sIf (tB (e2 isntD (eVar 3) (eC .none)))
      (sAug 7 addI (e2 addD (eC (tx [58])) (eBlt strD (aCons (eVar 3) aNil))))
      sNx)
    t_show_3)
def t_show_5 : En → Out :=
  (sSeq (sIf (tB (e2 isntD (eVar 2) (eC .none)))
      (sAug 7 addI (e2 addD (eC (tx [47, 47])) (eCall 1 g_written (aCons (eVar 2) aNil))))
      sNx)
    t_show_4)
def t_show_6 : En → Out :=
  (sSeq (sIf (tB (e2 neD (eVar 1) (eC (tx []))))
      (sAug 7 addI (e2 addD (eVar 1) (eC (tx [58]))))
      sNx)
    t_show_5)
def t_show_7 : En → Out :=
  (sSeq (sSet 7 (eC (tx [])))
    t_show_6)
def f_show : En → Out :=
  (sSeq (sUnp (gTp 6 (gsCons (gNm 1) (gsCons (gNm 2) (gsCons (gNm 3) (gsCons (gNm 4) (gsCons (gNm 5) (gsCons (gNm 6) gsNil))))))) (eVar 0))
    t_show_7)
def g_show : List D → Rs D := runF 9 f_show
def f__law_pair_shown : En → Out :=
  (sSeq (sIf (tB (e2 isD (e2 ixD (eVar 0) (eC (.int 1))) (eC .none)))
      (sRet (eCall 1 g__law_written (aCons (e2 ixD (eVar 0) (eC (.int 0))) aNil)))
      sNx)
    (sRet (e2 addD (e2 addD (eCall 1 g__law_written (aCons (e2 ixD (eVar 0) (eC (.int 0))) aNil)) (eC (tx [61]))) (eCall 1 g__law_written (aCons (e2 ixD (eVar 0) (eC (.int 1))) aNil)))))
def g__law_pair_shown : List D → Rs D := runF 1 f__law_pair_shown
def b__law_shown_1 : En → Out :=
  (sSet 7 (e2 addD (e2 addD (eVar 7) (e2 mulD (eC (tx [47])) (eBlt intD (aCons (e2 gtD (eVar 8) (eC (.int 0))) aNil)))) (eCall 1 g__law_written (aCons (e2 ixD (e2 ixD (eVar 4) (eC (.int 1))) (eVar 8)) aNil))))
def t__law_shown_2 : En → Out :=
  (sSeq (sIf (tB (e2 isntD (eVar 6) (eC .none)))
      (sSet 7 (e2 addD (e2 addD (eVar 7) (eC (tx [35]))) (eCall 1 g__law_written (aCons (eVar 6) aNil))))
      sNx)
    (sRet (eVar 7)))
def t__law_shown_3 : En → Out :=
  (sSeq (sIf (tB (e2 isntD (eVar 5) (eC .none)))
      (sSet 7 (e2 addD (e2 addD (eVar 7) (eC (tx [63]))) (eM1 joinD (eC (tx [38])) (eLc (eIt iSeq (eVar 5)) [9] (gNm 9) cYes (eCall 1 g__law_pair_shown (aCons (eVar 9) aNil))))))
      sNx)
    t__law_shown_2)
def t__law_shown_4 : En → Out :=
  (sSeq (sIf (tAn (tB (e2 ixD (eVar 4) (eC (.int 2)))) (tB (e2 neD (e2 ixD (eVar 4) (eC (.int 1))) (eTup aNil))))
      (sSet 7 (e2 addD (eVar 7) (eC (tx [47]))))
      sNx)
    t__law_shown_3)
def t__law_shown_5 : En → Out :=
  (sSeq (sFor (iRange1 (eBlt lenD (aCons (e2 ixD (eVar 4) (eC (.int 1))) aNil))) (gNm 8)
      b__law_shown_1)
    t__law_shown_4)
def t__law_shown_6 : En → Out :=
  (sSeq (sIf (tB (e2 ixD (eVar 4) (eC (.int 0))))
      (sSet 7 (e2 addD (eVar 7) (eC (tx [47]))))
      sNx)
    t__law_shown_5)
def t__law_shown_7 : En → Out :=
  (sSeq (sIf (tB (e2 isntD (eVar 3) (eC .none)))
      (sSet 7 (e2 addD (e2 addD (eVar 7) (eC (tx [58]))) (eBlt strD (aCons (eVar 3) aNil))))
      sNx)
    t__law_shown_6)
def t__law_shown_8 : En → Out :=
  (sSeq (sIf (tB (e2 isntD (eVar 2) (eC .none)))
      (sSet 7 (e2 addD (e2 addD (eVar 7) (eC (tx [47, 47]))) (eCall 1 g__law_written (aCons (eVar 2) aNil))))
      sNx)
    t__law_shown_7)
def t__law_shown_9 : En → Out :=
  (sSeq (sIf (tB (e2 neD (eVar 1) (eC (tx []))))
      (sSet 7 (e2 addD (eVar 1) (eC (tx [58]))))
      sNx)
    t__law_shown_8)
def t__law_shown_10 : En → Out :=
  (sSeq (sSet 7 (eC (tx [])))
    t__law_shown_9)
def f__law_shown : En → Out :=
  (sSeq (sUnp (gTp 6 (gsCons (gNm 1) (gsCons (gNm 2) (gsCons (gNm 3) (gsCons (gNm 4) (gsCons (gNm 5) (gsCons (gNm 6) gsNil))))))) (eVar 0))
    t__law_shown_10)
def g__law_shown : List D → Rs D := runF 10 f__law_shown
end Wp

set_option Elab.async false
set_option linter.all false
set_option maxRecDepth 100000
set_option maxHeartbeats 4000000
namespace Wp
open PySem PySem.Spec PyProof.Rows L2 Wm
/-! ### good addresses, and their texts -/
structure gdA (a : Adr) : Prop where
  sc : a.sc = [] ∨ okSch a.sc
  ho : ∀ h, a.ho = some h → okN h ∧ h.length ≤ 60
  dr : ∀ x, a.dr = some x → 0 ≤ x ∧ x < 65536 ∧ a.ho ≠ none
  w : (∀ l ∈ a.w.s, okN l) ∧ a.w.s.length ≤ 900
  q : ∀ l, a.q = some l → (∀ p ∈ l, okPr p) ∧ l.length ≤ 900
  m : okVo a.m
  inv : Inv a
theorem dkA.g {a : Adr} (h : dkA a) : gdA a where
  sc := h.sc
  ho := h.ho
  dr := h.dr
  w := ⟨fun l hl => (h.w.1 l hl).1, by have := h.w.2; omega⟩
  q := fun l hl => ⟨fun p hp => by
    obtain ⟨⟨h1, _⟩, h2⟩ := (h.q l hl).1 p hp
    refine ⟨h1, ?_⟩
    cases e : p.2 with
    | none => trivial
    | some v => exact ⟨(h2 v e).1, by have := (h2 v e).2; omega⟩, by have := (h.q l hl).2; omega⟩
  m := by
    cases e : a.m with
    | none => trivial
    | some v => exact ⟨(h.m v e).1, by have := (h.m v e).2; omega⟩
  inv := h.inv
theorem okG.gd {a : Adr} {n : Nat} (h : okG a n) (hn : n ≤ 900) (hs : ∀ l ∈ a.w.s, okN l) : gdA a where
  sc := h.sc
  ho := fun x hx => ⟨(h.ho x hx).1, by have := (h.ho x hx).2; omega⟩
  dr := h.dr
  w := ⟨hs, by have := h.len; omega⟩
  q := fun l hl => by have := h.q; rw [hl] at this; exact ⟨this.1, by have := this.2; omega⟩
  m := h.m
  inv := h.inv
def scL (s : Tx) : List Nat := if s = [] then [] else s ++ [58]
def hoL : Option Tx → List Nat
  | some h => 47 :: 47 :: wr h
  | none => []
def drL : Option Int → List Nat
  | some x => 58 :: figs x.toNat
  | none => []
def wyL (w : Way) : List Nat := (if w.r = true then [47] else []) ++ (joinL [47] (w.s.map wr) ++ (if w.e = true ∧ w.s ≠ [] then [47] else []))
def prL (p : Tx × Option Tx) : List Nat := match p.2 with
  | some v => wr p.1 ++ 61 :: wr v
  | none => wr p.1
def quL : Option (List (Tx × Option Tx)) → List Nat
  | some l => 63 :: joinL [38] (l.map prL)
  | none => []
def maL : Option Tx → List Nat
  | some m => 35 :: wr m
  | none => []
def shL (a : Adr) : List Nat := scL a.sc ++ (hoL a.ho ++ (drL a.dr ++ (wyL a.w ++ (quL a.q ++ maL a.m))))
/-! ### lengths -/
theorem joinL_len (c : Nat) (k : Nat) : ∀ {xs : List (List Nat)}, (∀ x ∈ xs, x.length ≤ k) → (joinL [c] xs).length ≤ (k + 1) * xs.length
  | [], _ => by simp [joinL]
  | [x], h => by have := h x (by simp); simp [joinL]; omega
  | x :: y :: r, h => by
    have := h x (by simp)
    have ih := joinL_len c k (xs := y :: r) (fun z hz => h z (by simp [hz]))
    simp only [joinL_cons, List.length_append, List.length_cons, List.length_nil] at ih ⊢
    rw [Nat.mul_add (k + 1) (r.length + 1) 1]
    omega
theorem sum_len (k : Nat) : ∀ {xs : List (List Nat)}, (∀ x ∈ xs, x.length ≤ k) → (xs.map List.length).sum ≤ k * xs.length
  | [], _ => by simp
  | x :: r, h => by
    have := h x (by simp)
    have ih := sum_len k (xs := r) (fun z hz => h z (by simp [hz]))
    simp only [List.map_cons, List.sum_cons, List.length_cons]
    rw [Nat.mul_add k r.length 1]
    omega
theorem joinD_L (s : List Nat) (ls : List (List Nat)) (k : Nat) (h : ∀ x ∈ ls, x.length ≤ k) (hb : (k + s.length) * ls.length ≤ 16777216) : joinD ⟨s.toArray⟩ (.list (ls.map tx)) = .ok (tx (joinL s ls)) := by
  have := sum_len k h
  refine joinS_tx s ls ?_
  rw [Nat.add_mul] at hb
  have e : s.length * ls.length = ls.length * s.length := Nat.mul_comm _ _
  omega
theorem wr_len' {l : Tx} {n : Nat} (h : l.length ≤ n) : (wr l).length ≤ 3 * n := by
  have := len_wr l; omega
theorem prL_len {p : Tx × Option Tx} {n : Nat} (h : p.1.length ≤ n) (h2 : ∀ v, p.2 = some v → v.length ≤ n) : (prL p).length ≤ 6 * n + 1 := by
  unfold prL
  have := wr_len' h
  cases e : p.2 with
  | none => simp; omega
  | some v => have := wr_len' (h2 v e); simp; omega
theorem hoL_len {a : Adr} (h : gdA a) : (hoL a.ho).length ≤ 182 := by
  cases e : a.ho with
  | none => simp [hoL]
  | some x => have := (h.ho x e).2; have := wr_len' this; simp [hoL]; omega
theorem scL_len {a : Adr} (h : gdA a) : (scL a.sc).length ≤ 9 := by
  unfold scL
  split
  · simp
  · rename_i n
    rcases h.sc with e | ⟨c, r, e, _, _, h8⟩
    · exact absurd e n
    · rw [e]; simp; omega
theorem drL_len {a : Adr} (h : gdA a) : (drL a.dr).length ≤ 6 := by
  cases e : a.dr with
  | none => simp [drL]
  | some x =>
    obtain ⟨h0, h1, _⟩ := h.dr x e
    have := figs_len (n := x.toNat) (k := 5) (by decide) (by omega)
    simp only [drL, List.length_cons]
    omega
theorem wyL_len' (w : Way) (n k : Nat) (h : ∀ l ∈ w.s, l.length ≤ n) (hk : w.s.length ≤ k) : (wyL w).length ≤ (3 * n + 1) * k + 2 := by
  have h1 := joinL_len 47 (3 * n) (xs := w.s.map wr) (fun x hx => by
    obtain ⟨l, hl, rfl⟩ := List.mem_map.mp hx
    exact wr_len' (h l hl))
  have h2 : (3 * n + 1) * (w.s.map wr).length ≤ (3 * n + 1) * k := Nat.mul_le_mul_left _ (by simpa using hk)
  unfold wyL
  simp only [List.length_append]
  have a1 : (if w.r = true then [47] else []).length ≤ 1 := by split <;> simp
  have a2 : (if w.e = true ∧ w.s ≠ [] then [47] else []).length ≤ 1 := by split <;> simp
  omega
theorem wyL_len {a : Adr} (h : gdA a) : (wyL a.w).length ≤ 2700902 :=
  Nat.le_trans (wyL_len' a.w 1000 900 (fun l hl => (h.w.1 l hl).2.2) h.w.2) (by decide)
theorem quL_len' (q : Option (List (Tx × Option Tx))) (n k : Nat) (h : ∀ l, q = some l → (∀ p ∈ l, p.1.length ≤ n ∧ ∀ v, p.2 = some v → v.length ≤ n) ∧ l.length ≤ k) : (quL q).length ≤ (6 * n + 2) * k + 1 := by
  cases q with
  | none => simp [quL]
  | some l =>
    obtain ⟨h1, h2⟩ := h l rfl
    have h3 := joinL_len 38 (6 * n + 1) (xs := l.map prL) (fun x hx => by
      obtain ⟨p, hp, rfl⟩ := List.mem_map.mp hx
      exact prL_len (h1 p hp).1 (h1 p hp).2)
    have h4 : (6 * n + 1 + 1) * (l.map prL).length ≤ (6 * n + 2) * k := Nat.mul_le_mul_left _ (by simpa using h2)
    simp only [quL, List.length_cons]
    omega
theorem okPr.lens {p : Tx × Option Tx} (h : okPr p) : p.1.length ≤ 1000 ∧ ∀ v, p.2 = some v → v.length ≤ 1000 := by
  refine ⟨h.1.2.2, fun v hv => ?_⟩
  have := h.2
  rw [hv] at this
  exact this.2
theorem quL_len {a : Adr} (h : gdA a) : (quL a.q).length ≤ 5401801 :=
  Nat.le_trans (quL_len' a.q 1000 900 (fun l hl => ⟨fun p hp => ((h.q l hl).1 p hp).lens, (h.q l hl).2⟩)) (by decide)
theorem maL_len {a : Adr} (h : gdA a) : (maL a.m).length ≤ 3001 := by
  have := h.m
  cases e : a.m with
  | none => simp [maL]
  | some v => rw [e] at this; have := wr_len' this.2; simp [maL]; omega
theorem dkA.len {a : Adr} (h : dkA a) : (shL a).length ≤ 9000 := by
  have h1 := hoL_len h.g
  have h2 := scL_len h.g
  have h3 := drL_len h.g
  have h4 := wyL_len' a.w 60 40 (fun l hl => (h.w.1 l hl).2) h.w.2
  have h5 := quL_len' a.q 6 20 (fun l hl => ⟨fun p hp => ⟨((h.q l hl).1 p hp).1.2, fun v hv => (((h.q l hl).1 p hp).2 v hv).2⟩, (h.q l hl).2⟩)
  have h6 : (maL a.m).length ≤ 181 := by
    cases e : a.m with
    | none => simp [maL]
    | some v => have := wr_len' (h.m v e).2; simp [maL]; omega
  unfold shL
  simp only [List.length_append]
  omega
/-! ### show -/
theorem show_way_ok (w : Way) (h1 : ∀ l ∈ w.s, okN l) (h2 : w.s.length ≤ 900) : g_show_way [w.d] = .ok (tx (wyL w)) := by
  have elc : lcL (gNm 5) cYes (eCall 1 g_written (aCons (eVar 5) aNil)) [some w.d, some (.bool w.r), some (.tuple (w.s.map tx)), some (.bool w.e), none, none] (w.s.map tx) = .ok ((w.s.map wr).map tx) := by
    rw [List.map_map]
    apply lcL_map
    intro l hl
    have := h1 l hl
    refine ⟨_, rfl, rfl, ?_⟩
    simp [written_ok l this.1 (by have := this.2.2; omega)]
  have ej := joinD_L [47] (w.s.map wr) 3000 (fun x hx => by
    obtain ⟨l, hl, rfl⟩ := List.mem_map.mp hx
    exact wr_len' (h1 l hl).2.2) (by simp; omega)
  have hl := wyL_len' w 1000 900 (fun l hl => (h1 l hl).2.2) h2
  have hj : (joinL [47] (w.s.map wr)).length ≤ 3000000 := by
    have h1 := joinL_len 47 (3 * 1000) (xs := w.s.map wr) (fun x hx => by
      obtain ⟨l, hl, rfl⟩ := List.mem_map.mp hx
      exact wr_len' (h1 l hl).2.2)
    simp at h1
    have : 3001 * w.s.length ≤ 3001 * 900 := Nat.mul_le_mul_left _ h2
    omega
  have es : (0 < w.s.length) ↔ w.s ≠ [] := by cases w.s <;> simp
  unfold g_show_way f_show_way t_show_way_3 t_show_way_2 t_show_way_1
  rw [runF_eq]
  unfold wyL
  obtain ⟨r, s, e⟩ := w
  simp only [Way.d] at *
  have e3 : (PyData.tuple (s.map tx)) = .tuple (s.map tx) := rfl
  generalize joinL [47] (s.map wr) = j at *
  generalize (s.map wr).map tx = y at *
  have ln : lenD [PyData.tuple (s.map tx)] = .ok (.int s.length) := by simp
  have zl : (s.map tx).length ≤ 16777216 := by simp; omega
  generalize s.map tx = z at *
  by_cases hs : s = []
  · subst hs
    cases r <;> cases e <;> simp (disch := omega) [elc, ej, ln, if_pos, zl]
  · have hp : 0 < s.length := es.mpr hs
    cases r <;> cases e <;> simp (disch := omega) [elc, ej, ln, if_pos, hs, hp, zl]
theorem show_pair_ok (p : Tx × Option Tx) (h : okPr p) : g_show_pair [pD p] = .ok (tx (prL p)) := by
  obtain ⟨n, v⟩ := p
  have w1 := written_ok n h.1.1 (by have := h.1.2.2; simp only at this; omega)
  have l1 := wr_len' h.1.2.2
  unfold g_show_pair f_show_pair
  rw [runF_eq]
  unfold pD
  cases v with
  | none => simp [oT, w1, prL]
  | some v =>
    have w2 := written_ok v h.2.1 (by have : v.length ≤ 1000 := h.2.2; omega)
    have l2 := wr_len' h.2.2
    simp only at l1
    simp (disch := omega) [oT, w1, w2, prL, if_pos]
theorem eVar_of {i : Nat} {d : D} {ρ : En} (h : ρ[i]? = some (some d)) : eVar i ρ = .ok d := by unfold eVar; rw [h]
def shQ (l : List (Tx × Option Tx)) : En → Rs D := eM1 joinD (eC (tx [38])) (eLc (eIt iSeq (eVar 5)) [8] (gNm 8) cYes (eCall 1 g_show_pair (aCons (eVar 8) aNil)))
theorem prs_join (l : List (Tx × Option Tx)) (h : ∀ p ∈ l, okPr p) (hl : l.length ≤ 900) : joinD ⟨[38].toArray⟩ (.list ((l.map prL).map tx)) = .ok (tx (joinL [38] (l.map prL))) :=
  joinD_L [38] (l.map prL) 6001 (fun x hx => by
    obtain ⟨p, hp, rfl⟩ := List.mem_map.mp hx
    exact prL_len (h p hp).lens.1 (h p hp).lens.2) (by simp; omega)
theorem prs_len (l : List (Tx × Option Tx)) (h : ∀ p ∈ l, okPr p) (hl : l.length ≤ 900) : (joinL [38] (l.map prL)).length ≤ 5500000 := by
  have h3 := joinL_len 38 6001 (xs := l.map prL) (fun x hx => by
    obtain ⟨p, hp, rfl⟩ := List.mem_map.mp hx
    exact prL_len (h p hp).lens.1 (h p hp).lens.2)
  simp at h3
  have : 6002 * l.length ≤ 6002 * 900 := Nat.mul_le_mul_left _ hl
  omega
section
variable (x0 : Option D) (a : Adr) (ha : gdA a)
include ha
theorem sh1 (x8 : Option D) (acc : List Nat) (hl : acc.length ≤ 16000000) : t_show_1 [x0, some (tx a.sc), some (oT a.ho), some (oI a.dr), some a.w.d, some (qD a.q), some (oT a.m), some (tx acc), x8] = .rt (tx (acc ++ maL a.m)) := by
  have hm := ha.m
  unfold t_show_1
  cases e : a.m with
  | none => simp [oT, maL]
  | some m =>
    rw [e] at hm
    have w1 := written_ok m hm.1 (by have := hm.2; omega)
    have l1 := wr_len' hm.2
    simp (disch := omega) [oT, w1, if_pos, maL]
theorem sh2 (acc : List Nat) (hl : acc.length ≤ 8000000) : t_show_2 [x0, some (tx a.sc), some (oT a.ho), some (oI a.dr), some a.w.d, some (qD a.q), some (oT a.m), some (tx acc), none] = .rt (tx (acc ++ (quL a.q ++ maL a.m))) := by
  have hq := ha.q
  have e1 := fun acc' h => sh1 x0 a ha none acc' h
  unfold t_show_2
  cases e : a.q with
  | none =>
    have := e1 acc (by omega)
    rw [e] at this
    simp [qD] at this ⊢
    simp [this, quL]
  | some l =>
    obtain ⟨h1, h2⟩ := hq l e
    have lp := prs_len l h1 h2
    have := e1 (acc ++ (63 :: joinL [38] (l.map prL))) (by simp; omega)
    rw [e] at this
    have elc : ∀ ρ : En, ρ[8]? = some none → ρ.length = 9 → lcL (gNm 8) cYes (eCall 1 g_show_pair (aCons (eVar 8) aNil)) ρ (l.map pD) = .ok ((l.map prL).map tx) := by
      intro ρ h8 h9
      rw [List.map_map]
      apply lcL_map
      intro p hp
      refine ⟨_, rfl, rfl, ?_⟩
      have : (ρ.set 8 (some (pD p)))[8]? = some (some (pD p)) := by simp [h9]
      simp [eVar_of this, show_pair_ok p (h1 p hp)]
    have ej := prs_join l h1 h2
    have elc' := elc [x0, some (tx a.sc), some (oT a.ho), some (oI a.dr), some a.w.d, some (qD (some l)), some (oT a.m), some (tx acc), none] rfl rfl
    simp only [qD, quL] at this elc' ⊢
    generalize joinL [38] (l.map prL) = j at *
    generalize (l.map prL).map tx = y at *
    have zl : (l.map pD).length ≤ 16777216 := by simp; omega
    generalize l.map pD = z at *
    try simp at ej
    simp (disch := omega) [elc', ej, if_pos, zl]
    simpa using this
theorem sh3 (acc : List Nat) (hl : acc.length ≤ 5000000) : t_show_3 [x0, some (tx a.sc), some (oT a.ho), some (oI a.dr), some a.w.d, some (qD a.q), some (oT a.m), some (tx acc), none] = .rt (tx (acc ++ (wyL a.w ++ (quL a.q ++ maL a.m)))) := by
  have h2 := wyL_len ha
  have e1 := sh2 x0 a ha (acc ++ wyL a.w) (by simp; omega)
  have e2 := show_way_ok a.w ha.w.1 ha.w.2
  unfold t_show_3
  generalize a.w.d = wd at *
  simp (disch := omega) [e2, if_pos, e1]
theorem sh4 (acc : List Nat) (hl : acc.length ≤ 4000000) : t_show_4 [x0, some (tx a.sc), some (oT a.ho), some (oI a.dr), some a.w.d, some (qD a.q), some (oT a.m), some (tx acc), none] = .rt (tx (acc ++ (drL a.dr ++ (wyL a.w ++ (quL a.q ++ maL a.m))))) := by
  have hd := drL_len ha
  have e1 := sh3 x0 a ha (acc ++ drL a.dr) (by simp; omega)
  have hh := ha.dr
  unfold t_show_4
  cases e : a.dr with
  | none => rw [e] at e1; simp [oI, drL] at e1 ⊢; exact e1
  | some x =>
    rw [e] at e1 hd
    obtain ⟨h0, h1, _⟩ := hh x e
    obtain ⟨n, rfl⟩ : ∃ n : Nat, x = n := ⟨x.toNat, by omega⟩
    have es := strD_n n (by omega)
    simp only [oI, drL, Int.toNat_natCast, List.length_cons] at e1 hd es ⊢
    generalize figs n = f at *
    simp (disch := omega) [es, if_pos]
    simpa using e1
theorem sh5 (acc : List Nat) (hl : acc.length ≤ 3000000) : t_show_5 [x0, some (tx a.sc), some (oT a.ho), some (oI a.dr), some a.w.d, some (qD a.q), some (oT a.m), some (tx acc), none] = .rt (tx (acc ++ (hoL a.ho ++ (drL a.dr ++ (wyL a.w ++ (quL a.q ++ maL a.m)))))) := by
  have hd := hoL_len ha
  have e1 := sh4 x0 a ha (acc ++ hoL a.ho) (by simp; omega)
  have hh := ha.ho
  unfold t_show_5
  cases e : a.ho with
  | none => rw [e] at e1; simp [oT, hoL] at e1 ⊢; exact e1
  | some x =>
    rw [e] at e1 hd
    have w1 := written_ok x (hh x e).1.1 (by have := (hh x e).2; omega)
    simp only [oT, hoL, List.length_cons] at e1 hd ⊢
    simp (disch := omega) [w1, if_pos]
    simpa using e1
theorem sh6 : t_show_6 [x0, some (tx a.sc), some (oT a.ho), some (oI a.dr), some a.w.d, some (qD a.q), some (oT a.m), some (tx []), none] = .rt (tx (shL a)) := by
  have hd := scL_len ha
  have e1 := sh5 x0 a ha (scL a.sc) (by omega)
  unfold t_show_6 shL
  by_cases e : a.sc = []
  · rw [e] at e1 ⊢
    simp [scL] at e1 ⊢
    exact e1
  · have e3 : scL a.sc = a.sc ++ [58] := by unfold scL; rw [if_neg e]
    rw [e3] at e1 hd ⊢
    simp at hd
    simp (disch := omega) [e, if_pos]
    simpa using e1
end
theorem show_ok (a : Adr) (ha : gdA a) : g_show [a.d] = .ok (tx (shL a)) := by
  have e1 := sh6 (some a.d) a ha
  unfold g_show f_show t_show_7
  rw [runF_eq]
  unfold Adr.d at e1 ⊢
  simp [e1]
end Wp

set_option Elab.async false
set_option linter.all false
set_option maxRecDepth 100000
set_option maxHeartbeats 4000000
namespace Wp
open PySem PySem.Spec PyProof.Rows L2 Wm
def b__law_loose_1 : En → Out :=
  (sSeq (sSet 5 (e2 modD (e2 mulD (e2 addD (e2 addD (eVar 2) (e2 mulD (e2 mulD (eC (.int 31)) (eVar 4)) (eVar 4))) (eVar 4)) (eC (.int 69621))) (eC (.int 2147483629))))
    (sSeq (sSet 5 (e2 fdivD (e2 modD (e2 mulD (eVar 5) (e2 addD (eVar 5) (eC (.int 48271)))) (eC (.int 2147483587))) (eC (.int 4))))
    (sSeq (sSet 6 (e2 ixD (eVar 0) (eVar 4)))
    (sIf (tAn (tOr' (tB (eCall 1 g__law_plain (aCons (eVar 6) aNil))) (tB (e2 inD (eVar 6) (eVar 1)))) (tB (e2 gtD (e2 modD (eVar 5) (eC (.int 3))) (eC (.int 0)))))
      (sSet 3 (e2 addD (eVar 3) (eVar 6)))
      (sIf (tB (e2 eqD (e2 modD (e2 fdivD (eVar 5) (eC (.int 3))) (eC (.int 2))) (eC (.int 0))))
      (sSet 3 (e2 addD (e2 addD (eVar 3) (eC (tx [126]))) (eCall 1 g__law_hex (aCons (eVar 6) aNil))))
      (sSet 3 (e2 addD (e2 addD (eVar 3) (eC (tx [126]))) (eM0 upperD (eCall 1 g__law_hex (aCons (eVar 6) aNil))))))))))
def f__law_loose : En → Out :=
  (sSeq (sSet 3 (eC (tx [])))
    (sSeq (sFor (iRange1 (eBlt lenD (aCons (eVar 0) aNil))) (gNm 4)
      b__law_loose_1)
    (sRet (eVar 3))))
def g__law_loose : List D → Rs D := runF 7 f__law_loose
def b__law_loose_question_1 : En → Out :=
  (sSeq (sUnp (gTp 2 (gsCons (gNm 4) (gsCons (gNm 5) gsNil))) (e2 ixD (eVar 0) (eVar 3)))
    (sSeq (sSet 6 (eCall 3 g__law_loose (aCons (eVar 4) (aCons (eC (tx [33, 36, 39, 40, 41, 42, 44, 59, 64, 43, 47, 63, 58])) (aCons (e2 addD (eVar 1) (e2 mulD (eC (.int 7)) (eVar 3))) aNil)))))
    (sSeq (sIf (tB (e2 isntD (eVar 5) (eC .none)))
      (sSet 6 (e2 addD (e2 addD (eVar 6) (eC (tx [61]))) (eCall 3 g__law_loose (aCons (eVar 5) (aCons (eC (tx [33, 36, 39, 40, 41, 42, 44, 59, 64, 43, 47, 63, 58])) (aCons (e2 addD (eVar 1) (e2 mulD (eC (.int 11)) (eVar 3))) aNil))))))
      sNx)
    (sApp 2 (eVar 6)))))
def f__law_loose_question : En → Out :=
  (sSeq (sSet 2 (eLst aNil))
    (sSeq (sFor (iRange1 (eBlt lenD (aCons (eVar 0) aNil))) (gNm 3)
      b__law_loose_question_1)
    (sRet (e2 addD (eC (tx [63])) (eM1 joinD (eC (tx [38])) (eVar 2))))))
def g__law_loose_question : List D → Rs D := runF 7 f__law_loose_question
def t__law_loosely_1 : En → Out :=
  (sSeq (sIf (tB (e2 isntD (eVar 7) (eC .none)))
      (sSet 8 (e2 addD (e2 addD (eVar 8) (eC (tx [35]))) (eCall 3 g__law_loose (aCons (eVar 7) (aCons (eC (tx [33, 36, 39, 40, 41, 42, 44, 59, 64, 38, 61, 43, 47, 63, 58])) (aCons (eVar 1) aNil))))))
      sNx)
    (sRet (eVar 8)))
def t__law_loosely_2 : En → Out :=
  (sSeq (sIf (tB (e2 isntD (eVar 6) (eC .none)))
      (sSet 8 (e2 addD (eVar 8) (eCall 2 g__law_loose_question (aCons (eVar 6) (aCons (eVar 1) aNil)))))
      sNx)
    t__law_loosely_1)
def t__law_loosely_3 : En → Out :=
  (sSeq (sIf (tAn (tB (e2 ixD (eVar 5) (eC (.int 2)))) (tB (e2 neD (eVar 10) (eTup aNil))))
      (sSet 8 (e2 addD (eVar 8) (eC (tx [47]))))
      sNx)
    t__law_loosely_2)
def t__law_loosely_4 : En → Out :=
  (sSeq (sSet 8 (e2 addD (eVar 8) (eM1 joinD (eC (tx [47])) (eLc (iRange1 (eBlt lenD (aCons (eVar 10) aNil))) [11] (gNm 11) cYes (eCall 3 g__law_loose (aCons (e2 ixD (eVar 10) (eVar 11)) (aCons (eC (tx [33, 36, 39, 40, 41, 42, 44, 59, 64, 38, 61, 43])) (aCons (e2 addD (eVar 1) (e2 mulD (eC (.int 13)) (eVar 11))) aNil))))))))
    t__law_loosely_3)
def t__law_loosely_5 : En → Out :=
  (sSeq (sSet 10 (e2 ixD (eVar 5) (eC (.int 1))))
    t__law_loosely_4)
def t__law_loosely_6 : En → Out :=
  (sSeq (sIf (tAn (tB (e2 ixD (eVar 5) (eC (.int 0)))) (tNo (tB (eVar 9))))
      (sSet 8 (e2 addD (eVar 8) (eC (tx [47]))))
      sNx)
    t__law_loosely_5)
def t__law_loosely_7 : En → Out :=
  (sSeq (sSet 9 (eAn (e2 neD (eVar 8) (eC (tx []))) (eAn (e2 eqD (e2 ixD (eVar 5) (eC (.int 1))) (eTup aNil)) (e2 eqD (e2 modD (eVar 1) (eC (.int 2))) (eC (.int 0))))))
    t__law_loosely_6)
def t__law_loosely_8 : En → Out :=
  (sSeq (sIf (tB (e2 isntD (eVar 4) (eC .none)))
      (sSet 8 (e2 addD (e2 addD (eVar 8) (eC (tx [58]))) (eBlt strD (aCons (eVar 4) aNil))))
      sNx)
    t__law_loosely_7)
def t__law_loosely_9 : En → Out :=
  (sSeq (sIf (tB (e2 isntD (eVar 3) (eC .none)))
      (sSet 8 (e2 addD (e2 addD (eVar 8) (eC (tx [47, 47]))) (eCall 3 g__law_loose (aCons (eVar 3) (aCons (eC (tx [])) (aCons (eVar 1) aNil))))))
      sNx)
    t__law_loosely_8)
def t__law_loosely_10 : En → Out :=
  (sSeq (sIf (tB (e2 neD (eVar 2) (eC (tx []))))
      (sSet 8 (e2 addD (eVar 2) (eC (tx [58]))))
      sNx)
    t__law_loosely_9)
def t__law_loosely_11 : En → Out :=
  (sSeq (sSet 8 (eC (tx [])))
    t__law_loosely_10)
def f__law_loosely : En → Out :=
  (sSeq (sUnp (gTp 6 (gsCons (gNm 2) (gsCons (gNm 3) (gsCons (gNm 4) (gsCons (gNm 5) (gsCons (gNm 6) (gsCons (gNm 7) gsNil))))))) (eVar 0))
    t__law_loosely_11)
def g__law_loosely : List D → Rs D := runF 12 f__law_loosely
def f__law_same_kinds (rr : List D → Rs D) : En → Out :=
  (sSeq (sIf (tB (eIsi "tuple" (eVar 1)))
      (sSeq (sIf (tOr' (tNo (tB (eIsi "tuple" (eVar 0)))) (tB (e2 neD (eBlt lenD (aCons (eVar 0) aNil)) (eBlt lenD (aCons (eVar 1) aNil)))))
      (sRet (eC (.bool false)))
      sNx)
    (sRet (eBlt allD (aCons (eLc (eIt2 iZip (eVar 0) (eVar 1)) [2, 3] (gTp 2 (gsCons (gNm 2) (gsCons (gNm 3) gsNil))) cYes (eCall 2 rr (aCons (eVar 2) (aCons (eVar 3) aNil)))) aNil))))
      sNx)
    (sSeq (sIf (tB (e2 isD (eVar 1) (eC .none)))
      (sRet (e2 isD (eVar 0) (eC .none)))
      sNx)
    (sSeq (sIf (tB (eIsi "int" (eVar 1)))
      (sRet (eAn (eIsi "int" (eVar 0)) (eAn (e2 eqD (eIsi "bool" (eVar 0)) (eIsi "bool" (eVar 1))) (e2 eqD (eVar 0) (eVar 1)))))
      sNx)
    (sRet (eAn (eIsi "str" (eVar 0)) (e2 eqD (eVar 0) (eVar 1)))))))
def gN__law_same_kinds : Nat → List D → Rs D
  | 0 => fun _ => .bad
  | n+1 => runF 4 (f__law_same_kinds (gN__law_same_kinds n))
def g__law_same_kinds : List D → Rs D := gN__law_same_kinds 6
end Wp

set_option Elab.async false
set_option linter.all false
set_option maxRecDepth 100000
set_option maxHeartbeats 4000000
namespace Wp
open PySem PySem.Spec PyProof.Rows L2 Wm
/-! ### the law's own text of an address -/
theorem lpair_shown_ok (p : Tx × Option Tx) (h : okPr p) : g__law_pair_shown [pD p] = .ok (tx (prL p)) := by
  obtain ⟨n, v⟩ := p
  have w1 := lwritten_ok n h.1.1 (by have := h.1.2.2; simp only at this; omega)
  have l1 := wr_len' h.1.2.2
  unfold g__law_pair_shown f__law_pair_shown
  rw [runF_eq]
  unfold pD
  cases v with
  | none => simp [oT, w1, prL]
  | some v =>
    have w2 := lwritten_ok v h.2.1 (by have : v.length ≤ 1000 := h.2.2; omega)
    have l2 := wr_len' h.2.2
    simp only at l1
    simp (disch := omega) [oT, w1, w2, prL, if_pos]
theorem lsh_turn (x0 x1 x2 x3 x5 x6 o9 : Option D) (wd : D) (z : List D) (l : Tx) (k : Nat) (acc : List Nat) (i1 : ixD wd (.int 1) = .ok (.tuple z)) (hz : atI z (k : Int) = some (tx l)) (hl : okN l) (ha : acc.length ≤ 10000000) :
    b__law_shown_1 [x0, x1, x2, x3, some wd, x5, x6, some (tx acc), some (.int k), o9] = .nx [x0, x1, x2, x3, some wd, x5, x6, some (tx (acc ++ ((if k = 0 then [] else [47]) ++ wr l))), some (.int k), o9] := by
  have w1 := lwritten_ok l hl.1 (by have := hl.2.2; omega)
  have l1 := wr_len' hl.2.2
  unfold b__law_shown_1
  by_cases hk : k = 0
  · subst hk
    have m0 := mulD_s [47] 0 (by simp) (by omega) (by omega)
    simp at m0 hz
    simp (disch := omega) [i1, hz, w1, if_pos, m0]
  · have m1 := mulD_s [47] 1 (by simp) (by omega) (by omega)
    simp at m1
    have hp : (0 : Int) < k := by omega
    simp (disch := omega) [i1, hz, w1, if_pos, m1, hk, hp, Nat.pos_of_ne_zero hk]
theorem joinL_fm (s : List Nat) : ∀ (x : List Nat) (xs : List (List Nat)), joinL s (x :: xs) = x ++ xs.flatMap (fun y => s ++ y)
  | x, [] => by simp [joinL]
  | x, y :: r => by rw [joinL_cons, joinL_fm s y r]; simp
theorem lsh_loop (x0 x1 x2 x3 x5 x6 o9 : Option D) (wd : D) (S : List Tx) (i1 : ixD wd (.int 1) = .ok (.tuple (S.map tx))) (hS : ∀ l ∈ S, okN l) : ∀ (s pre : List Tx) (acc : List Nat) (o8 : Option D), S = pre ++ s → acc.length + 3001 * s.length ≤ 9000000 →
    ∃ o8', forL (gNm 8) b__law_shown_1 (rangeD (pre.length : Int) s.length) [x0, x1, x2, x3, some wd, x5, x6, some (tx acc), o8, o9] = .nx [x0, x1, x2, x3, some wd, x5, x6, some (tx (acc ++ (if pre = [] then joinL [47] (s.map wr) else (s.map wr).flatMap fun y => [47] ++ y))), o8', o9]
  | [], pre, acc, o8, _, _ => ⟨o8, by simp [joinL, rangeD, forL]⟩
  | l :: s, pre, acc, o8, hs, hl => by
    have hz : atI (S.map tx) (pre.length : Int) = some (tx l) := by
      rw [hs, List.map_append, List.map_cons]
      have := atI_mid (pre.map tx) (tx l) (s.map tx)
      simpa using this
    have h1 := hS l (by rw [hs]; simp)
    have l1 := wr_len' h1.2.2
    simp only [List.length_cons] at hl
    have t := lsh_turn x0 x1 x2 x3 x5 x6 o9 wd _ l pre.length acc i1 hz h1 (by omega)
    have lt : ((if pre.length = 0 then [] else [47]) ++ wr l : List Nat).length ≤ 3001 := by
      rw [List.length_append]
      split <;> simp <;> omega
    obtain ⟨o8', ih⟩ := lsh_loop x0 x1 x2 x3 x5 x6 o9 wd S i1 hS s (pre ++ [l]) (acc ++ ((if pre.length = 0 then [] else [47]) ++ wr l)) (some (.int pre.length)) (by rw [hs]; simp) (by rw [List.length_append]; omega)
    refine ⟨o8', ?_⟩
    rw [List.length_cons, rangeD_cons, forL_name]
    show oLoop (b__law_shown_1 [x0, x1, x2, x3, some wd, x5, x6, some (tx acc), some (.int pre.length), o9]) _ = _
    rw [t, oLoop_nx]
    have e : (((pre ++ [l]).length : Nat) : Int) = (pre.length : Int) + 1 := by simp
    rw [e] at ih
    rw [ih]
    have e2 : (if pre ++ [l] = [] then joinL [47] (s.map wr) else (s.map wr).flatMap fun y => [47] ++ y) = (s.map wr).flatMap fun y => [47] ++ y := by
      rw [if_neg (by simp)]
    rw [e2]
    by_cases hp : pre = []
    · subst hp
      rw [if_pos rfl, List.map_cons, joinL_fm]
      simp
    · have : pre.length ≠ 0 := by simpa using hp
      rw [if_neg hp, if_neg this]
      simp
section
variable (x0 : Option D) (a : Adr) (ha : gdA a)
include ha
theorem lsh2 (x8 : Option D) (acc : List Nat) (hl : acc.length ≤ 16000000) : t__law_shown_2 [x0, some (tx a.sc), some (oT a.ho), some (oI a.dr), some a.w.d, some (qD a.q), some (oT a.m), some (tx acc), x8, none] = .rt (tx (acc ++ maL a.m)) := by
  have hm := ha.m
  unfold t__law_shown_2
  cases e : a.m with
  | none => simp [oT, maL]
  | some m =>
    rw [e] at hm
    have w1 := lwritten_ok m hm.1 (by have := hm.2; omega)
    have l1 := wr_len' hm.2
    simp (disch := omega) [oT, w1, if_pos, maL]
theorem lsh3 (x8 : Option D) (acc : List Nat) (hl : acc.length ≤ 8000000) : t__law_shown_3 [x0, some (tx a.sc), some (oT a.ho), some (oI a.dr), some a.w.d, some (qD a.q), some (oT a.m), some (tx acc), x8, none] = .rt (tx (acc ++ (quL a.q ++ maL a.m))) := by
  have hq := ha.q
  have e1 := fun acc' h => lsh2 x0 a ha x8 acc' h
  unfold t__law_shown_3
  cases e : a.q with
  | none =>
    have := e1 acc (by omega)
    rw [e] at this
    simp [qD] at this ⊢
    simp [this, quL]
  | some l =>
    obtain ⟨h1, h2⟩ := hq l e
    have lp := prs_len l h1 h2
    have := e1 (acc ++ (63 :: joinL [38] (l.map prL))) (by simp; omega)
    rw [e] at this
    have elc : ∀ ρ : En, ρ[9]? = some none → ρ.length = 10 → lcL (gNm 9) cYes (eCall 1 g__law_pair_shown (aCons (eVar 9) aNil)) ρ (l.map pD) = .ok ((l.map prL).map tx) := by
      intro ρ h8 h9
      rw [List.map_map]
      apply lcL_map
      intro p hp
      refine ⟨_, rfl, rfl, ?_⟩
      have : (ρ.set 9 (some (pD p)))[9]? = some (some (pD p)) := by simp [h9]
      simp [eVar_of this, lpair_shown_ok p (h1 p hp)]
    have ej := prs_join l h1 h2
    have elc' := elc [x0, some (tx a.sc), some (oT a.ho), some (oI a.dr), some a.w.d, some (qD (some l)), some (oT a.m), some (tx acc), x8, none] rfl rfl
    simp only [qD, quL] at this elc' ⊢
    generalize joinL [38] (l.map prL) = j at *
    generalize (l.map prL).map tx = y at *
    have zl : (l.map pD).length ≤ 16777216 := by simp; omega
    generalize l.map pD = z at *
    try simp at ej
    simp (disch := omega) [elc', ej, if_pos, zl]
    simpa using this
theorem lsh6 (acc : List Nat) (hl : acc.length ≤ 4000000) : t__law_shown_6 [x0, some (tx a.sc), some (oT a.ho), some (oI a.dr), some a.w.d, some (qD a.q), some (oT a.m), some (tx acc), none, none] = .rt (tx (acc ++ (wyL a.w ++ (quL a.q ++ maL a.m)))) := by
  have hw := wyL_len ha
  have s2 := ha.w.2
  have nt := neD_tup (a := a.w.s) (b := []) (fun l hl => in_okT (ha.w.1 l hl).1 (ha.w.1 l hl).2.2) (by simp)
  have i0 : ixD a.w.d (.int 0) = .ok (.bool a.w.r) := rfl
  have i1 : ixD a.w.d (.int 1) = .ok (.tuple (a.w.s.map tx)) := rfl
  have i2 : ixD a.w.d (.int 2) = .ok (.bool a.w.e) := rfl
  let p1 : List Nat := if a.w.r = true then [47] else []
  let p3 : List Nat := if a.w.e = true ∧ a.w.s ≠ [] then [47] else []
  have hp1 : p1.length ≤ 1 := by simp only [p1]; split <;> simp
  have hj : (joinL [47] (a.w.s.map wr)).length ≤ 3000000 := by
    have h1 := joinL_len 47 (3 * 1000) (xs := a.w.s.map wr) (fun x hx => by
      obtain ⟨l, hl, rfl⟩ := List.mem_map.mp hx
      exact wr_len' (ha.w.1 l hl).2.2)
    simp at h1
    have : 3001 * a.w.s.length ≤ 3001 * 900 := Nat.mul_le_mul_left _ s2
    omega
  obtain ⟨o8, lp⟩ := lsh_loop x0 (some (tx a.sc)) (some (oT a.ho)) (some (oI a.dr)) (some (qD a.q)) (some (oT a.m)) none a.w.d a.w.s i1 ha.w.1 a.w.s [] (acc ++ p1) none rfl (by rw [List.length_append]; omega)
  rw [if_pos rfl] at lp
  have e3 := lsh3 x0 a ha o8 (acc ++ p1 ++ joinL [47] (a.w.s.map wr) ++ p3) (by
    have : p3.length ≤ 1 := by simp only [p3]; split <;> simp
    simp only [List.length_append]; omega)
  have e4 : t__law_shown_4 [x0, some (tx a.sc), some (oT a.ho), some (oI a.dr), some a.w.d, some (qD a.q), some (oT a.m), some (tx (acc ++ p1 ++ joinL [47] (a.w.s.map wr))), o8, none] = t__law_shown_3 [x0, some (tx a.sc), some (oT a.ho), some (oI a.dr), some a.w.d, some (qD a.q), some (oT a.m), some (tx (acc ++ p1 ++ joinL [47] (a.w.s.map wr) ++ p3)), o8, none] := by
    have la : (acc ++ p1 ++ joinL [47] (a.w.s.map wr)).length ≤ 8000000 := by simp only [List.length_append]; omega
    unfold t__law_shown_4
    simp only [p3]
    generalize acc ++ p1 ++ joinL [47] (a.w.s.map wr) = z at *
    generalize a.w.d = wd at *
    simp only [List.map_nil] at nt
    generalize PyData.tuple (a.w.s.map tx) = y at *
    cases he : a.w.e <;> by_cases hs : a.w.s = [] <;> (simp only [he, hs, decide_true, decide_false, Bool.not_true, Bool.not_false] at i2 nt; simp (disch := omega) [i1, i2, nt, if_pos, hs])
  have e5 : t__law_shown_6 [x0, some (tx a.sc), some (oT a.ho), some (oI a.dr), some a.w.d, some (qD a.q), some (oT a.m), some (tx acc), none, none] = t__law_shown_5 [x0, some (tx a.sc), some (oT a.ho), some (oI a.dr), some a.w.d, some (qD a.q), some (oT a.m), some (tx (acc ++ p1)), none, none] := by
    unfold t__law_shown_6
    simp only [p1]
    generalize a.w.d = wd at *
    cases hr : a.w.r <;> (rw [hr] at i0; simp (disch := omega) [i0, if_pos])
  have e6 : t__law_shown_5 [x0, some (tx a.sc), some (oT a.ho), some (oI a.dr), some a.w.d, some (qD a.q), some (oT a.m), some (tx (acc ++ p1)), none, none] = t__law_shown_4 [x0, some (tx a.sc), some (oT a.ho), some (oI a.dr), some a.w.d, some (qD a.q), some (oT a.m), some (tx (acc ++ p1 ++ joinL [47] (a.w.s.map wr))), o8, none] := by
    unfold t__law_shown_5
    have hs : small62 (a.w.s.length : Int) = true := by unfold small62; simp; omega
    have hln : lenD [PyData.tuple (a.w.s.map tx)] = .ok (.int a.w.s.length) := by simp
    generalize joinL [47] (a.w.s.map wr) = j at *
    generalize a.w.d = wd at *
    generalize acc ++ p1 = z at *
    generalize PyData.tuple (a.w.s.map tx) = y at *
    simp at lp
    simp [i1, hln, rgK, hs, lp]
  rw [e5, e6, e4, e3]
  unfold wyL
  simp [p1, p3]
theorem lsh7 (acc : List Nat) (hl : acc.length ≤ 3900000) : t__law_shown_7 [x0, some (tx a.sc), some (oT a.ho), some (oI a.dr), some a.w.d, some (qD a.q), some (oT a.m), some (tx acc), none, none] = .rt (tx (acc ++ (drL a.dr ++ (wyL a.w ++ (quL a.q ++ maL a.m))))) := by
  have hd := drL_len ha
  have e1 := lsh6 x0 a ha (acc ++ drL a.dr) (by simp; omega)
  have hh := ha.dr
  unfold t__law_shown_7
  cases e : a.dr with
  | none => rw [e] at e1; simp [oI, drL] at e1 ⊢; exact e1
  | some x =>
    rw [e] at e1 hd
    obtain ⟨h0, h1, _⟩ := hh x e
    obtain ⟨n, rfl⟩ : ∃ n : Nat, x = n := ⟨x.toNat, by omega⟩
    have es := strD_n n (by omega)
    simp only [oI, drL, Int.toNat_natCast, List.length_cons] at e1 hd es ⊢
    generalize figs n = f at *
    simp (disch := omega) [es, if_pos]
    simpa using e1
theorem lsh8 (acc : List Nat) (hl : acc.length ≤ 3000000) : t__law_shown_8 [x0, some (tx a.sc), some (oT a.ho), some (oI a.dr), some a.w.d, some (qD a.q), some (oT a.m), some (tx acc), none, none] = .rt (tx (acc ++ (hoL a.ho ++ (drL a.dr ++ (wyL a.w ++ (quL a.q ++ maL a.m)))))) := by
  have hd := hoL_len ha
  have e1 := lsh7 x0 a ha (acc ++ hoL a.ho) (by simp; omega)
  have hh := ha.ho
  unfold t__law_shown_8
  cases e : a.ho with
  | none => rw [e] at e1; simp [oT, hoL] at e1 ⊢; exact e1
  | some x =>
    rw [e] at e1 hd
    have w1 := lwritten_ok x (hh x e).1.1 (by have := (hh x e).2; omega)
    simp only [oT, hoL, List.length_cons] at e1 hd ⊢
    simp (disch := omega) [w1, if_pos]
    simpa using e1
end
theorem lshown_ok (a : Adr) (ha : gdA a) : g__law_shown [a.d] = .ok (tx (shL a)) := by
  have hd := scL_len ha
  have e1 := lsh8 (some a.d) a ha (scL a.sc) (by omega)
  unfold g__law_shown f__law_shown t__law_shown_10 t__law_shown_9
  rw [runF_eq]
  unfold shL
  have ed : a.d = .tuple [tx a.sc, oT a.ho, oI a.dr, a.w.d, qD a.q, oT a.m] := rfl
  rw [ed] at e1 ⊢
  by_cases e : a.sc = []
  · rw [e] at e1 ⊢
    simp [scL] at e1 ⊢
    simp [e1]
  · have e3 : scL a.sc = a.sc ++ [58] := by unfold scL; rw [if_neg e]
    rw [e3] at e1 hd ⊢
    simp at hd
    simp at e1
    simp (disch := omega) [e, if_pos, e1]
/-! ### what is shown is written -/
theorem enc_tok_all : ∀ c ∈ T, pln c = false → dg (c / 16) ∈ [50, 51, 52, 53, 54, 55] ∧ dg (c % 16) < 128 ∧ dg (c % 16) ≠ 58 := by decide
theorem enc_tok (fr : List Nat) {c : Nat} (h : c ∈ T) : Tok fr (enc c) c := by
  unfold enc
  cases e : pln c with
  | true =>
    rw [if_pos rfl]
    exact .sign (.inl e) (by intro z; subst z; revert e; decide) (T128 c h)
  | false =>
    rw [if_neg (by simp)]
    obtain ⟨h1, h2, h3⟩ := enc_tok_all c h e
    exact .pair h1 h2 h3 (sgn_back h)
theorem wr_Wt (fr : List Nat) : ∀ {l : Tx}, (∀ c ∈ l, c ∈ T) → Wt fr (wr l) l
  | [], _ => .nil
  | c :: l, h => by
    rw [wr_cons]
    exact .cons (enc_tok fr (h c (by simp))) (wr_Wt fr fun z hz => h z (by simp [hz]))
theorem wr_Wts (fr : List Nat) : ∀ {ls : List Tx}, (∀ l ∈ ls, okN l) → Wts fr (ls.map wr) ls
  | [], _ => .nil
  | l :: ls, h => .cons (wr_Wt fr (h l (by simp)).1) (h l (by simp)).2.1 (wr_Wts fr fun z hz => h z (by simp [hz]))
theorem stT_join (e : Bool) : ∀ xs : List (List Nat), stT e xs = joinL [47] xs ++ (if e = true ∧ xs ≠ [] then [47] else [])
  | [] => by simp [stT, joinL]
  | [x] => by cases e <;> simp [stT, joinL]
  | x :: y :: r => by
    show x ++ 47 :: stT e (y :: r) = _
    rw [stT_join e (y :: r), joinL_cons]
    cases e <;> simp
theorem way_WaT {a : Adr} (hi : Inv a) {xs : List (List Nat)} (ws : Wts INS xs a.w.s) : WaT (held a) a.w ((if a.w.r = true then [47] else []) ++ stT a.w.e xs) := by
  obtain ⟨root, ends⟩ := hi
  have hh : held a = true → a.w.r = true := by
    intro h
    apply root
    unfold held at h
    simp only [Bool.or_eq_true, decide_eq_true_eq, Option.isSome_iff_ne_none] at h
    exact h
  generalize held a = hb at *
  obtain ⟨r, s, e⟩ := (⟨a.w.r, a.w.s, a.w.e⟩ : Way)
  generalize a.w = w at *
  obtain ⟨r, s, e⟩ := w
  simp only at *
  cases r with
  | true =>
    simp only [if_true]
    exact .root ws ends
  | false =>
    simp only [Bool.false_eq_true, if_false, List.nil_append]
    have hb0 : hb = false := by
      cases hb with
      | false => rfl
      | true => exact absurd (hh rfl) (by simp)
    subst hb0
    by_cases hs : s = []
    · subst hs
      have := ends rfl
      subst this
      cases ws
      exact .none
    · exact .rel rfl ws hs
theorem prs_PrsW : ∀ {l : List (Tx × Option Tx)}, (∀ p ∈ l, okPr p) → PrsW (l.map prL) l
  | [], _ => .nil
  | (n, v) :: l, h => by
    have hp := h (n, v) (by simp)
    refine .cons ?_ (prs_PrsW fun z hz => h z (by simp [hz]))
    cases v with
    | none => exact .one (wr_Wt INP hp.1.1) hp.1.2.1
    | some v => exact .two (wr_Wt INP hp.1.1) hp.1.2.1 (wr_Wt INP hp.2.1)
theorem shL_Wrt {a : Adr} (ha : gdA a) : Wrt a (shL a) where
  ex := by
    refine ⟨scL a.sc, hoL a.ho ++ drL a.dr, wyL a.w, quL a.q, maL a.m, by unfold shL; simp, ?_, ?_, ?_, ?_, ?_⟩
    · unfold scL
      by_cases e : a.sc = []
      · rw [e, if_pos rfl]; exact .none
      · rw [if_neg e]
        rcases ha.sc with h | h
        · exact absurd h e
        · exact .sc h
    · have hh := ha.ho
      have hd := ha.dr
      generalize a.ho = ho at *
      generalize a.dr = dr at *
      cases ho with
      | none =>
        cases dr with
        | none => exact .none
        | some x => exact absurd rfl (hd x rfl).2.2
      | some h =>
        obtain ⟨h1, h2⟩ := hh h rfl
        cases dr with
        | none =>
          simp only [hoL, drL, List.append_nil]
          exact .house (wr_Wt [] h1.1) h1.2.1 h2
        | some x =>
          obtain ⟨h3, h4, _⟩ := hd x rfl
          obtain ⟨n, rfl⟩ : ∃ n : Nat, x = n := ⟨x.toNat, by omega⟩
          simp only [hoL, drL, Int.toNat_natCast, List.cons_append]
          exact .door (wr_Wt [] h1.1) h1.2.1 h2 (by omega)
    · have := way_WaT ha.inv (wr_Wts INS ha.w.1)
      rw [stT_join] at this
      unfold wyL
      simpa using this
    · have hq := ha.q
      generalize a.q = q at *
      cases q with
      | none => exact .none
      | some l => exact .some (prs_PrsW (hq l rfl).1)
    · have hm := ha.m
      generalize a.m = m at *
      cases m with
      | none => exact .none
      | some m => exact .some (wr_Wt _ hm.1)
  ls := by have := ha.w.2; omega
  lq := fun l hl => by have := (ha.q l hl).2; omega
/-! ### of the same kinds -/
theorem sk_str (n : Nat) (l : Tx) : gN__law_same_kinds (n + 1) [tx l, tx l] = .ok (.bool true) := by
  show runF 4 (f__law_same_kinds (gN__law_same_kinds n)) _ = _
  unfold f__law_same_kinds
  rw [runF_eq]
  simp
theorem sk_none (n : Nat) : gN__law_same_kinds (n + 1) [.none, .none] = .ok (.bool true) := by
  show runF 4 (f__law_same_kinds (gN__law_same_kinds n)) _ = _
  unfold f__law_same_kinds
  rw [runF_eq]
  simp
theorem sk_bool (n : Nat) (b : Bool) : gN__law_same_kinds (n + 1) [.bool b, .bool b] = .ok (.bool true) := by
  show runF 4 (f__law_same_kinds (gN__law_same_kinds n)) _ = _
  unfold f__law_same_kinds
  rw [runF_eq]
  simp
theorem sk_int (n : Nat) (b : Int) : gN__law_same_kinds (n + 1) [.int b, .int b] = .ok (.bool true) := by
  show runF 4 (f__law_same_kinds (gN__law_same_kinds n)) _ = _
  unfold f__law_same_kinds
  rw [runF_eq]
  simp
theorem zip_self : ∀ ds : List D, zipD ds ds = ds.map fun d => .tuple [d, d]
  | [] => rfl
  | d :: ds => by rw [zipD_cons, zip_self ds]; rfl
theorem sk_tup (n : Nat) (ds : List D) (hl : ds.length ≤ 16777216) (h : ∀ d ∈ ds, gN__law_same_kinds (n + 1) [d, d] = .ok (.bool true)) : gN__law_same_kinds (n + 2) [.tuple ds, .tuple ds] = .ok (.bool true) := by
  have elc : lcL (gTp 2 (gsCons (gNm 2) (gsCons (gNm 3) gsNil))) cYes (eCall 2 (gN__law_same_kinds (n + 1)) (aCons (eVar 2) (aCons (eVar 3) aNil))) [some (.tuple ds), some (.tuple ds), none, none] (zipD ds ds) = .ok (ds.map fun _ => .bool true) := by
    rw [zip_self]
    apply lcL_map
    intro d hd
    refine ⟨[some (.tuple ds), some (.tuple ds), some d, some d], by simp, rfl, ?_⟩
    simp [h d hd]
  have ea := allD_map (fun _ : D => true) ds
  have zl : (zipD ds ds).length ≤ 16777216 := by rw [zip_self]; simpa using hl
  have ea' : ds.all (fun _ => true) = true := by simp
  rw [ea'] at ea
  show runF 4 (f__law_same_kinds (gN__law_same_kinds (n + 1))) _ = _
  unfold f__law_same_kinds
  rw [runF_eq]
  generalize ds.map (fun _ => PyData.bool true) = y at *
  simp [elc, ea, zl]
theorem sk_oT (n : Nat) (o : Option Tx) : gN__law_same_kinds (n + 1) [oT o, oT o] = .ok (.bool true) := by
  cases o with
  | none => exact sk_none n
  | some l => exact sk_str n l
theorem skind_ok (a : Adr) (h1 : a.w.s.length ≤ 10000) (h2 : ∀ l, a.q = some l → l.length ≤ 10000) : g__law_same_kinds [a.d, a.d] = .ok (.bool true) := by
  show gN__law_same_kinds 6 _ = _
  unfold Adr.d
  refine sk_tup 4 _ (by simp) fun d hd => ?_
  simp only [List.mem_cons, List.not_mem_nil, or_false] at hd
  rcases hd with rfl | rfl | rfl | rfl | rfl | rfl
  · exact sk_str 4 _
  · exact sk_oT 4 _
  · cases a.dr with
    | none => exact sk_none 4
    | some i => exact sk_int 4 i
  · unfold Way.d
    refine sk_tup 3 _ (by simp) fun d hd => ?_
    simp only [List.mem_cons, List.not_mem_nil, or_false] at hd
    rcases hd with rfl | rfl | rfl
    · exact sk_bool 3 _
    · refine sk_tup 2 _ (by simp; omega) fun d hd => ?_
      obtain ⟨l, _, rfl⟩ := List.mem_map.mp hd
      exact sk_str 2 _
    · exact sk_bool 3 _
  · cases hq : a.q with
    | none => exact sk_none 4
    | some l =>
      have := h2 l hq
      refine sk_tup 3 _ (by simp; omega) fun d hd => ?_
      obtain ⟨p, _, rfl⟩ := List.mem_map.mp hd
      refine sk_tup 2 _ (by simp) fun d hd => ?_
      simp only [List.mem_cons, List.not_mem_nil, or_false] at hd
      rcases hd with rfl | rfl
      · exact sk_str 2 _
      · exact sk_oT 2 _
  · exact sk_oT 4 _
end Wp

set_option Elab.async false
set_option linter.all false
set_option maxRecDepth 100000
set_option maxHeartbeats 4000000
namespace Wp
open PySem PySem.Spec PyProof.Rows L2 Wm
/-! ### lengths of what writes an address -/
structure szA (n1 k1 n2 k2 n3 : Nat) (a : Adr) : Prop where
  s : ∀ l ∈ a.w.s, l.length ≤ n1
  ns : a.w.s.length ≤ k1
  q : ∀ l, a.q = some l → (∀ p ∈ l, p.1.length ≤ n2 ∧ ∀ v, p.2 = some v → v.length ≤ n2) ∧ l.length ≤ k2
  m : ∀ m, a.m = some m → m.length ≤ n3
def szB (n1 k1 n2 k2 n3 : Nat) : Nat := 200 + ((3 * n1 + 1) * k1 + 2) + ((6 * n2 + 2) * k2 + 1) + (3 * n3 + 1)
theorem dkA.sz {a : Adr} (h : dkA a) : szA 60 40 6 20 60 a where
  s := fun l hl => (h.w.1 l hl).2
  ns := h.w.2
  q := fun l hl => ⟨fun p hp => ⟨((h.q l hl).1 p hp).1.2, fun v hv => (((h.q l hl).1 p hp).2 v hv).2⟩, (h.q l hl).2⟩
  m := fun m hm => (h.m m hm).2
theorem gdA.sz {a : Adr} (h : gdA a) : szA 1000 900 1000 900 1000 a where
  s := fun l hl => (h.w.1 l hl).2.2
  ns := h.w.2
  q := fun l hl => ⟨fun p hp => ((h.q l hl).1 p hp).lens, (h.q l hl).2⟩
  m := fun m hm => by have := h.m; rw [hm] at this; exact this.2
theorem Wts.lens {fr : List Nat} {n : Nat} {xs ls : List (List Nat)} (ws : Wts fr xs ls) (h : ∀ l ∈ ls, l.length ≤ n) : xs.length = ls.length ∧ ∀ x ∈ xs, x.length ≤ 3 * n := by
  induction ws with
  | nil => simp
  | @cons x l xs ls w hne ws ih =>
    obtain ⟨i1, i2⟩ := ih fun z hz => h z (by simp [hz])
    refine ⟨by simp [i1], fun z hz => ?_⟩
    rcases List.mem_cons.mp hz with rfl | hz
    · have := w.len; have := h l (by simp); omega
    · exact i2 z hz
theorem stT_len {fr : List Nat} {n k : Nat} {xs ls : List (List Nat)} (ws : Wts fr xs ls) (h : ∀ l ∈ ls, l.length ≤ n) (hk : ls.length ≤ k) (e : Bool) : (stT e xs).length ≤ (3 * n + 1) * k + 1 := by
  obtain ⟨i1, i2⟩ := ws.lens h
  have := joinL_len 47 (3 * n) i2
  have h2 : (3 * n + 1) * xs.length ≤ (3 * n + 1) * k := Nat.mul_le_mul_left _ (by omega)
  rw [stT_join, List.length_append]
  split <;> simp <;> omega
theorem PrW.lens {x : List Nat} {p : Tx × Option Tx} {n : Nat} (w : PrW x p) (h : p.1.length ≤ n) (h2 : ∀ v, p.2 = some v → v.length ≤ n) : x.length ≤ 6 * n + 1 := by
  cases w with
  | one w _ => have := w.len; simp only at h; omega
  | two w _ w2 => have := w.len; have := w2.len; have := h2 _ rfl; simp only at h; simp; omega
theorem PrsW.lens {xs : List (List Nat)} {l : List (Tx × Option Tx)} {n : Nat} (ws : PrsW xs l) (h : ∀ p ∈ l, p.1.length ≤ n ∧ ∀ v, p.2 = some v → v.length ≤ n) : ∀ x ∈ xs, x.length ≤ 6 * n + 1 := by
  induction ws with
  | nil => simp
  | @cons x q xs qs w ws ih =>
    intro z hz
    rcases List.mem_cons.mp hz with rfl | hz
    · have := h q (by simp); exact w.lens this.1 this.2
    · exact ih (fun p hp => h p (by simp [hp])) z hz
theorem ScT.len {s : Tx} {t : List Nat} (h : ScT s t) : t.length ≤ 9 := by
  cases h with
  | none => simp
  | sc h => obtain ⟨c, r, rfl, _, _, h8⟩ := h; simp; omega
theorem HoT.len {h : Option Tx} {d : Option Int} {t : List Nat} (w : HoT h d t) : t.length ≤ 188 := by
  cases w with
  | none => simp
  | house w _ h60 => have := w.len; simp; omega
  | @door x h n w _ h60 hn => have := w.len; have : (figs n).length ≤ 5 := figs_len (by decide) (by omega); simp; omega
theorem WaT.len {b : Bool} {w : Way} {t : List Nat} {n k : Nat} (h : WaT b w t) (hs : ∀ l ∈ w.s, l.length ≤ n) (hk : w.s.length ≤ k) : t.length ≤ (3 * n + 1) * k + 2 := by
  cases h with
  | none => simp
  | @root xs ls e ws h => have := stT_len ws hs hk e; simp; omega
  | @rel xs ls e hh ws h => have := stT_len ws hs hk e; omega
theorem quT_len {q : Option (List (Tx × Option Tx))} {t : List Nat} {n k : Nat} (w : QuT q t) (h : ∀ l, q = some l → (∀ p ∈ l, p.1.length ≤ n ∧ ∀ v, p.2 = some v → v.length ≤ n) ∧ l.length ≤ k) : t.length ≤ (6 * n + 2) * k + 1 := by
  cases w with
  | none => simp
  | @some xs qs ws =>
    obtain ⟨h1, h2⟩ := h qs rfl
    have h3 := joinL_len 38 (6 * n + 1) (ws.lens h1)
    have h4 : (6 * n + 1 + 1) * xs.length ≤ (6 * n + 2) * k := Nat.mul_le_mul_left _ (by have := ws.len; omega)
    simp only [List.length_cons]
    omega
theorem maT_len {m : Option Tx} {t : List Nat} {n : Nat} (w : MaT m t) (h : ∀ m', m = some m' → m'.length ≤ n) : t.length ≤ 3 * n + 1 := by
  cases w with
  | none => simp
  | some w => have := w.len; have := h _ rfl; simp; omega
theorem Wrt.len {a : Adr} {t : List Nat} {n1 k1 n2 k2 n3 : Nat} (h : Wrt a t) (s : szA n1 k1 n2 k2 n3 a) : t.length ≤ szB n1 k1 n2 k2 n3 := by
  obtain ⟨t1, t2, t3, t4, t5, rfl, h1, h2, h3, h4, h5⟩ := h.ex
  have := h1.len
  have := h2.len
  have := h3.len s.s s.ns
  have := quT_len h4 s.q
  have := maT_len h5 s.m
  simp only [List.length_append]
  unfold szB
  omega
/-! ### texts written loosely -/
theorem up_all : ∀ c ∈ T, up1 (dg (c / 16)) ∈ [50, 51, 52, 53, 54, 55] ∧ up1 (dg (c % 16)) < 128 ∧ up1 (dg (c % 16)) ≠ 58 ∧ dg (c / 16) ∈ [50, 51, 52, 53, 54, 55] ∧ dg (c % 16) < 128 ∧ dg (c % 16) ≠ 58 := by decide
theorem dig128 : ∀ a ∈ [50, 51, 52, 53, 54, 55], a < 128 := by decide
theorem sgn_up {c : Nat} (h : c ∈ T) : sgn (up1 (dg (c / 16))) (up1 (dg (c % 16))) = some c := by
  obtain ⟨_, _, k1, k2, _⟩ := back_all c h
  obtain ⟨k5, k6, _⟩ := up_all c h
  have e := signF_sgn _ _ (dig128 _ k5) k6
  rw [k1, k2, signF_back h] at e
  cases hs : sgn (up1 (dg (c / 16))) (up1 (dg (c % 16))) with
  | none => rw [hs] at e; cases e
  | some s =>
    rw [hs] at e
    have : tx [c] = tx [s] := e
    simp at this
    rw [this]
theorem loose_turn (l fr : Tx) (cl : Int) (acc : List Nat) (k c : Nat) (o5 o6 : Option D) (hll : l.length ≤ 1000) (hk : k ≤ 100000) (hz : atI l (k : Int) = some c) (hc : c ∈ T) (hf : 126 ∉ fr) (ha : acc.length ≤ 10000000) :
    ∃ u p5 p6, b__law_loose_1 [some (tx l), some (tx fr), some (.int cl), some (tx acc), some (.int k), o5, o6] = .nx [some (tx l), some (tx fr), some (.int cl), some (tx (acc ++ u)), some (.int k), p5, p6] ∧ Tok fr u c := by
  have b31 : big 31 = true := by decide
  have bk : big (k : Int) = true := by unfold big; simp; omega
  have bq : big 69621 = true := by decide
  generalize hn1 : (cl + 31 * (k : Int) * k + k) * 69621 = n1
  obtain ⟨i0, i1⟩ := fmod_range n1 (b := 2147483629) (by decide)
  have bn : big (n1.fmod 2147483629) = true := by unfold big; simp; omega
  generalize hn2 : ((n1.fmod 2147483629 * (n1.fmod 2147483629 + 48271)).fmod 2147483587).fdiv 4 = n2
  obtain ⟨d1, d2, d3, d4, d5, d6⟩ := up_all c hc
  have hx := hex_ok hc
  have up := upperD_s [dg (c / 16), dg (c % 16)] (by simp [d5, dig128 _ d4]) (by simp)
  simp only [List.map_cons, List.map_nil] at up
  have pl := lplain_ok c (T128 c hc)
  have hin : inD (tx [c]) (tx fr) = .ok (.bool (decide (c ∈ fr))) := inD_s _ _
  have c126 : pln c = true → c ≠ 126 := by
    intro h z; subst z; revert h; decide
  unfold b__law_loose_1
  by_cases h3 : 0 < n2.fmod 3
  · by_cases hp : pln c = true ∨ c ∈ fr
    · refine ⟨[c], some (.int n2), some (tx [c]), ?_, .sign hp ?_ (T128 c hc)⟩
      · by_cases hp1 : pln c = true
        · simp (disch := omega) [if_pos, b31, bk, bq, hn1, bn, hn2, hz, pl, hp1, h3]
        · have hp2 : c ∈ fr := by rcases hp with h | h; exact absurd h hp1; exact h
          simp only [Bool.not_eq_true] at hp1
          simp (disch := omega) [if_pos, b31, bk, bq, hn1, bn, hn2, hz, pl, hp1, hp2, hin, h3]
      · rcases hp with h | h
        · exact c126 h
        · intro z; subst z; exact hf h
    · have hp1 : pln c = false := by
        cases h : pln c with
        | false => rfl
        | true => exact absurd (.inl h) hp
      have hp2 : c ∉ fr := fun h => hp (.inr h)
      by_cases h2 : (n2.fdiv 3).fmod 2 = 0
      · refine ⟨[126, dg (c / 16), dg (c % 16)], some (.int n2), some (tx [c]), ?_, .pair d4 d5 d6 (sgn_back hc)⟩
        simp (disch := omega) [if_pos, b31, bk, bq, hn1, bn, hn2, hz, pl, hp1, hp2, hin, h3, h2, hx]
      · refine ⟨[126, up1 (dg (c / 16)), up1 (dg (c % 16))], some (.int n2), some (tx [c]), ?_, .pair d1 d2 d3 (sgn_up hc)⟩
        simp (disch := omega) [if_pos, b31, bk, bq, hn1, bn, hn2, hz, pl, hp1, hp2, hin, h3, h2, hx, up]
  · have key : ∀ A : En → Rs Bool, A [some (tx l), some (tx fr), some (.int cl), some (tx acc), some (.int k), some (.int n2), some (tx [c])] = .ok (pln c || decide (c ∈ fr)) → (tAn A (tB (e2 gtD (e2 modD (eVar 5) (eC (.int 3))) (eC (.int 0))))) [some (tx l), some (tx fr), some (.int cl), some (tx acc), some (.int k), some (.int n2), some (tx [c])] = .ok false := by
      intro A hA
      rw [at_tAn, hA]
      cases (pln c || decide (c ∈ fr)) <;> simp [h3]
    have hA : (tOr' (tB (eCall 1 g__law_plain (aCons (eVar 6) aNil))) (tB (e2 inD (eVar 6) (eVar 1)))) [some (tx l), some (tx fr), some (.int cl), some (tx acc), some (.int k), some (.int n2), some (tx [c])] = .ok (pln c || decide (c ∈ fr)) := by
      cases h : pln c <;> (rw [h] at pl; simp [pl, hin])
    have kk := key _ hA
    by_cases h2 : (n2.fdiv 3).fmod 2 = 0
    · refine ⟨[126, dg (c / 16), dg (c % 16)], some (.int n2), some (tx [c]), ?_, .pair d4 d5 d6 (sgn_back hc)⟩
      generalize hAA : (tAn (tOr' (tB (eCall 1 g__law_plain (aCons (eVar 6) aNil))) (tB (e2 inD (eVar 6) (eVar 1)))) (tB (e2 gtD (e2 modD (eVar 5) (eC (.int 3))) (eC (.int 0))))) = AA at kk ⊢
      simp (disch := omega) [if_pos, b31, bk, bq, hn1, bn, hn2, hz, kk, h2, hx]
    · refine ⟨[126, up1 (dg (c / 16)), up1 (dg (c % 16))], some (.int n2), some (tx [c]), ?_, .pair d1 d2 d3 (sgn_up hc)⟩
      generalize hAA : (tAn (tOr' (tB (eCall 1 g__law_plain (aCons (eVar 6) aNil))) (tB (e2 inD (eVar 6) (eVar 1)))) (tB (e2 gtD (e2 modD (eVar 5) (eC (.int 3))) (eC (.int 0))))) = AA at kk ⊢
      simp (disch := omega) [if_pos, b31, bk, bq, hn1, bn, hn2, hz, kk, h2, hx, up]
theorem loose_loop (l fr : Tx) (cl : Int) (hl : l.length ≤ 1000) (hT : ∀ c ∈ l, c ∈ T) (hf : 126 ∉ fr) : ∀ (s pre : Tx) (acc : List Nat) (o4 o5 o6 : Option D), l = pre ++ s → acc.length + 3 * s.length ≤ 100000 →
    ∃ u p4 p5 p6, forL (gNm 4) b__law_loose_1 (rangeD (pre.length : Int) s.length) [some (tx l), some (tx fr), some (.int cl), some (tx acc), o4, o5, o6] = .nx [some (tx l), some (tx fr), some (.int cl), some (tx (acc ++ u)), p4, p5, p6] ∧ Wt fr u s
  | [], pre, acc, o4, o5, o6, _, _ => ⟨[], o4, o5, o6, by simp [rangeD, forL], .nil⟩
  | c :: s, pre, acc, o4, o5, o6, hs, ha => by
    have hz : atI l (pre.length : Int) = some c := by rw [hs]; exact atI_mid pre c s
    have hp : pre.length ≤ 100000 := by
      have : l.length = (pre ++ c :: s).length := by rw [← hs]
      simp at this; omega
    simp only [List.length_cons] at ha
    obtain ⟨u, p5, p6, e, t⟩ := loose_turn l fr cl acc pre.length c o5 o6 hl hp hz (hT c (by rw [hs]; simp)) hf (by omega)
    have tl := t.len
    obtain ⟨v, q4, q5, q6, ih, w⟩ := loose_loop l fr cl hl hT hf s (pre ++ [c]) (acc ++ u) (some (.int pre.length)) p5 p6 (by rw [hs]; simp) (by simp; omega)
    refine ⟨u ++ v, q4, q5, q6, ?_, .cons t w⟩
    rw [List.length_cons, rangeD_cons, forL_name]
    show oLoop (b__law_loose_1 [some (tx l), some (tx fr), some (.int cl), some (tx acc), some (.int pre.length), o5, o6]) _ = _
    rw [e, oLoop_nx]
    have e2 : (((pre ++ [c]).length : Nat) : Int) = (pre.length : Int) + 1 := by simp
    rw [e2] at ih
    rw [ih, List.append_assoc]
theorem loose_ok (l fr : Tx) (cl : Int) (hl : l.length ≤ 1000) (hT : ∀ c ∈ l, c ∈ T) (hf : 126 ∉ fr) : ∃ u, g__law_loose [tx l, tx fr, .int cl] = .ok (tx u) ∧ Wt fr u l := by
  obtain ⟨u, p4, p5, p6, e, w⟩ := loose_loop l fr cl hl hT hf l [] [] none none none rfl (by simp; omega)
  refine ⟨u, ?_, w⟩
  have hs : small62 (l.length : Int) = true := by unfold small62; simp; omega
  unfold g__law_loose f__law_loose
  rw [runF_eq]
  simp at e
  simp (disch := omega) [rgK, hs, e, if_pos]
/-! ### questions -/
theorem lq_turn (l : List (Tx × Option Tx)) (cl : Int) (xs : List (List Nat)) (k : Nat) (p : Tx × Option Tx) (o4 o5 o6 : Option D) (hll : l.length ≤ 900) (hk : k ≤ 1000) (hz : atI (l.map pD) (k : Int) = some (pD p)) (hp : okPr p) (hxs : xs.length ≤ 1000) :
    ∃ x p4 p5 p6, b__law_loose_question_1 [some (.tuple (l.map pD)), some (.int cl), some (.list (xs.map tx)), some (.int k), o4, o5, o6] = .nx [some (.tuple (l.map pD)), some (.int cl), some (.list ((xs ++ [x]).map tx)), some (.int k), p4, p5, p6] ∧ PrW x p := by
  obtain ⟨n, v⟩ := p
  have b7 : big 7 = true := by decide
  have b11 : big 11 = true := by decide
  obtain ⟨u, eu, wu⟩ := loose_ok n [33, 36, 39, 40, 41, 42, 44, 59, 64, 43, 47, 63, 58] (cl + 7 * k) hp.1.2.2 hp.1.1 (by decide)
  have ul := wu.len
  have nl := hp.1.2.2
  simp only at nl
  unfold b__law_loose_question_1
  cases v with
  | none =>
    refine ⟨u, some (tx n), some .none, some (tx u), ?_, .one wu hp.1.2.1⟩
    rw [show pD (n, none) = .tuple [tx n, .none] from rfl] at hz
    generalize l.map pD = z at *
    simp (disch := omega) [hz, b7, eu, if_pos]
  | some v =>
    obtain ⟨y, ey, wy⟩ := loose_ok v [33, 36, 39, 40, 41, 42, 44, 59, 64, 43, 47, 63, 58] (cl + 11 * k) hp.2.2 hp.2.1 (by decide)
    have yl := wy.len
    have vl := hp.2.2
    refine ⟨u ++ 61 :: y, some (tx n), some (tx v), some (tx (u ++ 61 :: y)), ?_, .two wu hp.1.2.1 wy⟩
    rw [show pD (n, some v) = .tuple [tx n, tx v] from rfl] at hz
    generalize l.map pD = z at *
    simp (disch := omega) [hz, b7, b11, eu, ey, if_pos]
theorem lq_loop (l : List (Tx × Option Tx)) (cl : Int) (hl : l.length ≤ 900) (hT : ∀ p ∈ l, okPr p) : ∀ (s pre : List (Tx × Option Tx)) (xs : List (List Nat)) (o3 o4 o5 o6 : Option D), l = pre ++ s → xs.length + s.length ≤ 1000 →
    ∃ ys p3 p4 p5 p6, forL (gNm 3) b__law_loose_question_1 (rangeD (pre.length : Int) s.length) [some (.tuple (l.map pD)), some (.int cl), some (.list (xs.map tx)), o3, o4, o5, o6] = .nx [some (.tuple (l.map pD)), some (.int cl), some (.list ((xs ++ ys).map tx)), p3, p4, p5, p6] ∧ PrsW ys s
  | [], pre, xs, o3, o4, o5, o6, _, _ => ⟨[], o3, o4, o5, o6, by simp [rangeD, forL], .nil⟩
  | p :: s, pre, xs, o3, o4, o5, o6, hs, ha => by
    have hz : atI (l.map pD) (pre.length : Int) = some (pD p) := by
      rw [hs, List.map_append, List.map_cons]
      have := atI_mid (pre.map pD) (pD p) (s.map pD)
      simpa using this
    have hp : pre.length ≤ 1000 := by
      have : l.length = (pre ++ p :: s).length := by rw [← hs]
      simp at this; omega
    simp only [List.length_cons] at ha
    obtain ⟨x, p4, p5, p6, e, t⟩ := lq_turn l cl xs pre.length p o4 o5 o6 hl hp hz (hT p (by rw [hs]; simp)) (by omega)
    obtain ⟨ys, q3, q4, q5, q6, ih, w⟩ := lq_loop l cl hl hT s (pre ++ [p]) (xs ++ [x]) (some (.int pre.length)) p4 p5 p6 (by rw [hs]; simp) (by simp; omega)
    refine ⟨x :: ys, q3, q4, q5, q6, ?_, .cons t w⟩
    rw [List.length_cons, rangeD_cons, forL_name]
    show oLoop (b__law_loose_question_1 [some (.tuple (l.map pD)), some (.int cl), some (.list (xs.map tx)), some (.int pre.length), o4, o5, o6]) _ = _
    rw [e, oLoop_nx]
    have e2 : (((pre ++ [p]).length : Nat) : Int) = (pre.length : Int) + 1 := by simp
    rw [e2] at ih
    rw [ih, List.append_assoc]
    rfl
theorem lquestion_ok (l : List (Tx × Option Tx)) (cl : Int) (hl : l.length ≤ 900) (hT : ∀ p ∈ l, okPr p) : ∃ t, g__law_loose_question [.tuple (l.map pD), .int cl] = .ok (tx t) ∧ QuT (some l) t := by
  obtain ⟨ys, p3, p4, p5, p6, e, w⟩ := lq_loop l cl hl hT l [] [] none none none none rfl (by simp; omega)
  have yl := w.lens (n := 1000) (fun p hp => (hT p hp).lens)
  have yn := w.len
  refine ⟨63 :: joinL [38] ys, ?_, .some w⟩
  have ej := joinD_L [38] ys 6001 yl (by simp; omega)
  have jl := joinL_len 38 6001 yl
  have jl2 : (joinL [38] ys).length ≤ 6002 * 900 := Nat.le_trans jl (Nat.mul_le_mul_left _ (by omega))
  have hs : small62 (l.length : Int) = true := by unfold small62; simp; omega
  have ln : lenD [PyData.tuple (l.map pD)] = .ok (.int l.length) := by simp
  unfold g__law_loose_question f__law_loose_question
  rw [runF_eq]
  simp only [List.map_nil, List.nil_append, List.length_nil, Int.natCast_zero] at e
  generalize joinL [38] ys = j at *
  generalize ys.map tx = y at *
  generalize PyData.tuple (l.map pD) = z at *
  try simp at e
  try simp at ej
  simp (disch := omega) [rgK, hs, ln, e, ej, if_pos]
/-! ### addresses -/
theorem lsteps_ok (fr : Tx) (cl : Int) (S : List Tx) (hS : ∀ l ∈ S, okN l) (hn : S.length ≤ 900) (hf : 126 ∉ fr) : ∀ (s pre : List Tx), S = pre ++ s →
    ∃ ys, Wts fr ys s ∧ ∀ ρ : En, ρ[1]? = some (some (.int cl)) → ρ[10]? = some (some (.tuple (S.map tx))) → ρ.length = 12 → lcL (gNm 11) cYes (eCall 3 g__law_loose (aCons (e2 ixD (eVar 10) (eVar 11)) (aCons (eC (tx fr)) (aCons (e2 addD (eVar 1) (e2 mulD (eC (.int 13)) (eVar 11))) aNil)))) ρ (rangeD (pre.length : Int) s.length) = .ok (ys.map tx)
  | [], pre, _ => ⟨[], .nil, fun _ _ _ _ => rfl⟩
  | l :: s, pre, hs => by
    have hz : atI (S.map tx) (pre.length : Int) = some (tx l) := by
      rw [hs, List.map_append, List.map_cons]
      have := atI_mid (pre.map tx) (tx l) (s.map tx)
      simpa using this
    have hl := hS l (by rw [hs]; simp)
    have b13 : big 13 = true := by decide
    obtain ⟨u, eu, wu⟩ := loose_ok l fr (cl + 13 * pre.length) hl.2.2 hl.1 hf
    obtain ⟨ys, w, ih⟩ := lsteps_ok fr cl S hS hn hf s (pre ++ [l]) (by rw [hs]; simp)
    refine ⟨u :: ys, .cons wu hl.2.1 w, fun ρ h1 h10 h11 => ?_⟩
    have ih := ih ρ h1 h10 h11
    have q2 : (((pre ++ [l]).length : Nat) : Int) = (pre.length : Int) + 1 := by simp
    rw [q2] at ih
    rw [List.length_cons, rangeD_cons, lcL_cons]
    have g1 : (ρ.set 11 (some (.int pre.length)))[1]? = some (some (.int cl)) := by rw [List.getElem?_set_ne (by decide)]; exact h1
    have g10 : (ρ.set 11 (some (.int pre.length)))[10]? = some (some (.tuple (S.map tx))) := by rw [List.getElem?_set_ne (by decide)]; exact h10
    have g11 : (ρ.set 11 (some (.int pre.length)))[11]? = some (some (.int pre.length)) := by rw [List.getElem?_set_self (by omega)]
    have gn : gNm 11 (.int pre.length) ρ = .ok (ρ.set 11 (some (.int pre.length))) := rfl
    have v1 := eVar_of g1
    have v10 := eVar_of g10
    have v11 := eVar_of g11
    generalize ρ.set 11 (some (.int pre.length)) = ρ' at *
    have ec : eCall 3 g__law_loose (aCons (e2 ixD (eVar 10) (eVar 11)) (aCons (eC (tx fr)) (aCons (e2 addD (eVar 1) (e2 mulD (eC (.int 13)) (eVar 11))) aNil))) ρ' = .ok (tx u) := by
      have zl : (S.map tx).length ≤ 16777216 := by simp; omega
      generalize S.map tx = z at *
      simp [v1, v10, v11, hz, b13, eu, zl]
    rw [gn, noEx_ok, ok_bind, show cYes ρ' = .ok true from rfl, noEx_ok, ok_bind, if_pos rfl, ec, noEx_ok, ok_bind, ih]
    rfl
theorem Tok.mono {fr gr u : List Nat} {c : Nat} (t : Tok fr u c) (h : ∀ z ∈ fr, z ∈ gr) : Tok gr u c := by
  cases t with
  | sign h0 h1 h2 => exact .sign (h0.imp id (h c)) h1 h2
  | pair a b c d => exact .pair a b c d
theorem Wt.mono {fr gr x l : List Nat} (w : Wt fr x l) (h : ∀ z ∈ fr, z ∈ gr) : Wt gr x l := by
  induction w with
  | nil => exact .nil
  | cons t w ih => exact .cons (t.mono h) ih
end Wp

set_option Elab.async false
set_option linter.all false
set_option maxRecDepth 100000
set_option maxHeartbeats 4000000
namespace Wp
open PySem PySem.Spec PyProof.Rows L2 Wm
section
variable (x0 : Option D) (cl : Int) (a : Adr) (ha : gdA a)
include ha
theorem loo1 (x9 x10 x11 : Option D) : ∃ t5, MaT a.m t5 ∧ ∀ acc : List Nat, acc.length ≤ 16000000 → t__law_loosely_1 [x0, some (.int cl), some (tx a.sc), some (oT a.ho), some (oI a.dr), some a.w.d, some (qD a.q), some (oT a.m), some (tx acc), x9, x10, x11] = .rt (tx (acc ++ t5)) := by
  have hm := ha.m
  unfold t__law_loosely_1
  cases e : a.m with
  | none => exact ⟨[], .none, fun acc hl => by simp [oT]⟩
  | some m =>
    rw [e] at hm
    obtain ⟨u, eu, wu⟩ := loose_ok m [33, 36, 39, 40, 41, 42, 44, 59, 64, 38, 61, 43, 47, 63, 58] cl hm.2 hm.1 (by decide)
    have ul := wu.len
    have ml : m.length ≤ 1000 := hm.2
    refine ⟨35 :: u, .some (wu.mono ?_), fun acc hl => ?_⟩
    · intro c hc; revert c; decide
    · simp (disch := omega) [oT, eu, if_pos]
theorem loo2 (x9 x10 x11 : Option D) : ∃ t4 t5, QuT a.q t4 ∧ MaT a.m t5 ∧ ∀ acc : List Nat, acc.length ≤ 8000000 → t__law_loosely_2 [x0, some (.int cl), some (tx a.sc), some (oT a.ho), some (oI a.dr), some a.w.d, some (qD a.q), some (oT a.m), some (tx acc), x9, x10, x11] = .rt (tx (acc ++ (t4 ++ t5))) := by
  obtain ⟨t5, h5, e5⟩ := loo1 x0 cl a ha x9 x10 x11
  unfold t__law_loosely_2
  cases e : a.q with
  | none =>
    refine ⟨[], t5, .none, h5, fun acc hl => ?_⟩
    have := e5 acc (by omega)
    rw [e] at this
    simp only [qD] at this ⊢
    simp [this]
  | some l =>
    obtain ⟨h1, h2⟩ := ha.q l e
    obtain ⟨t4, e4, w4⟩ := lquestion_ok l cl h2 h1
    have l4 := quT_len w4 (n := 1000) (k := 900) (fun l' hl' => by cases hl'; exact ⟨fun p hp => (h1 p hp).lens, h2⟩)
    refine ⟨t4, t5, w4, h5, fun acc hl => ?_⟩
    have := e5 (acc ++ t4) (by simp; omega)
    rw [e] at this
    simp only [qD] at this ⊢
    have nn : isntD (.tuple (l.map pD)) .none = .ok (.bool true) := rfl
    generalize PyData.tuple (l.map pD) = z at *
    simp (disch := omega) [nn, e4, if_pos]
    simpa using this
/-- the way and what is behind it -/
theorem loo6 (x9 : Bool) : ∃ ys t4 t5, Wts INS ys a.w.s ∧ QuT a.q t4 ∧ MaT a.m t5 ∧ ∀ acc : List Nat, acc.length ≤ 4000000 → t__law_loosely_6 [x0, some (.int cl), some (tx a.sc), some (oT a.ho), some (oI a.dr), some a.w.d, some (qD a.q), some (oT a.m), some (tx acc), some (.bool x9), none, none] = .rt (tx (acc ++ (((if a.w.r = true ∧ x9 = false then [47] else []) ++ stT a.w.e ys) ++ (t4 ++ t5)))) := by
  obtain ⟨t4, t5, h4, h5, eq2⟩ := loo2 x0 cl a ha (some (.bool x9)) (some (.tuple (a.w.s.map tx))) none
  obtain ⟨s1, s2⟩ := ha.w
  have nt := neD_tup (a := a.w.s) (b := []) (fun l hl => in_okT (s1 l hl).1 (s1 l hl).2.2) (by simp)
  have i0 : ixD a.w.d (.int 0) = .ok (.bool a.w.r) := rfl
  have i1 : ixD a.w.d (.int 1) = .ok (.tuple (a.w.s.map tx)) := rfl
  have i2 : ixD a.w.d (.int 2) = .ok (.bool a.w.e) := rfl
  let ρ : List Nat → En := fun acc => [x0, some (.int cl), some (tx a.sc), some (oT a.ho), some (oI a.dr), some a.w.d, some (qD a.q), some (oT a.m), some (tx acc), some (.bool x9), some (.tuple (a.w.s.map tx)), none]
  have hst : ∃ ys, Wts INS ys a.w.s ∧ ∀ acc, lcL (gNm 11) cYes (eCall 3 g__law_loose (aCons (e2 ixD (eVar 10) (eVar 11)) (aCons (eC (tx INS)) (aCons (e2 addD (eVar 1) (e2 mulD (eC (.int 13)) (eVar 11))) aNil)))) (ρ acc) (rangeD 0 a.w.s.length) = .ok (ys.map tx) := by
    obtain ⟨ys, w, e⟩ := lsteps_ok INS cl a.w.s s1 s2 (by decide) a.w.s [] rfl
    exact ⟨ys, w, fun acc => e (ρ acc) rfl rfl rfl⟩
  obtain ⟨ys, wy, ey⟩ := hst
  obtain ⟨yn, yl⟩ := wy.lens (n := 1000) (fun l hl => (s1 l hl).2.2)
  have ej := joinD_L [47] ys 3000 yl (by simp; omega)
  have jl := joinL_len 47 3000 yl
  have jl2 : (joinL [47] ys).length ≤ 3001 * 900 := Nat.le_trans jl (Nat.mul_le_mul_left _ (by omega))
  have hys : ys ≠ [] ↔ a.w.s ≠ [] := by
    constructor
    · intro h z; rw [z] at yn; exact h (List.length_eq_zero_iff.mp yn)
    · intro h z; rw [z] at yn; exact h (List.length_eq_zero_iff.mp yn.symm)
  refine ⟨ys, t4, t5, wy, h4, h5, fun acc hl => ?_⟩
  let p1 : List Nat := if a.w.r = true ∧ x9 = false then [47] else []
  let p3 : List Nat := if a.w.e = true ∧ ys ≠ [] then [47] else []
  have l1 : p1.length ≤ 1 := by simp only [p1]; split <;> simp
  have l3 : p3.length ≤ 1 := by simp only [p3]; split <;> simp
  have k6 : t__law_loosely_6 [x0, some (.int cl), some (tx a.sc), some (oT a.ho), some (oI a.dr), some a.w.d, some (qD a.q), some (oT a.m), some (tx acc), some (.bool x9), none, none] = t__law_loosely_5 [x0, some (.int cl), some (tx a.sc), some (oT a.ho), some (oI a.dr), some a.w.d, some (qD a.q), some (oT a.m), some (tx (acc ++ p1)), some (.bool x9), none, none] := by
    unfold t__law_loosely_6
    simp only [p1]
    generalize a.w.d = wd at *
    cases hr : a.w.r <;> cases x9 <;> (rw [hr] at i0; simp (disch := omega) [i0, if_pos])
  have k5 : t__law_loosely_5 [x0, some (.int cl), some (tx a.sc), some (oT a.ho), some (oI a.dr), some a.w.d, some (qD a.q), some (oT a.m), some (tx (acc ++ p1)), some (.bool x9), none, none] = t__law_loosely_4 (ρ (acc ++ p1)) := by
    unfold t__law_loosely_5
    simp only [ρ]
    generalize a.w.d = wd at *
    generalize PyData.tuple (a.w.s.map tx) = y at *
    simp [i1]
  have k4 : t__law_loosely_4 (ρ (acc ++ p1)) = t__law_loosely_3 (ρ (acc ++ p1 ++ joinL [47] ys)) := by
    have la : (acc ++ p1).length ≤ 4000001 := by simp; omega
    have ey' := ey (acc ++ p1)
    have hs : small62 (a.w.s.length : Int) = true := by unfold small62; simp; omega
    have ln : lenD [PyData.tuple (a.w.s.map tx)] = .ok (.int a.w.s.length) := by simp
    unfold t__law_loosely_4
    simp only [ρ] at ey' ⊢
    unfold INS at ey'
    generalize a.w.d = wd at *
    generalize PyData.tuple (a.w.s.map tx) = y at *
    have rl : (rangeD 0 a.w.s.length).length ≤ 16777216 := by unfold rangeD; simp; omega
    generalize acc ++ p1 = z at *
    generalize joinL [47] ys = j at *
    generalize ys.map tx = yt at *
    try simp at ej
    simp (disch := omega) [ln, rgK, hs, ey', ej, if_pos, rl]
  have k3 : t__law_loosely_3 (ρ (acc ++ p1 ++ joinL [47] ys)) = t__law_loosely_2 (ρ (acc ++ p1 ++ joinL [47] ys ++ p3)) := by
    have la : (acc ++ p1 ++ joinL [47] ys).length ≤ 8000001 := by simp only [List.length_append]; omega
    unfold t__law_loosely_3
    simp only [ρ, p3]
    generalize acc ++ p1 ++ joinL [47] ys = z at *
    generalize a.w.d = wd at *
    simp only [List.map_nil] at nt
    generalize PyData.tuple (a.w.s.map tx) = y at *
    cases he : a.w.e with
    | false => rw [he] at i2; simp [i2]
    | true =>
      rw [he] at i2
      by_cases hs : a.w.s = []
      · have hy : ¬ ys ≠ [] := fun h => hys.mp h hs
        simp only [hs, decide_true, Bool.not_true] at nt
        simp (disch := omega) [i2, nt, if_pos, hy]
      · have hy : ys ≠ [] := hys.mpr hs
        simp only [hs, decide_false, Bool.not_false] at nt
        simp (disch := omega) [i2, nt, if_pos, hy]
  have k2 := eq2 (acc ++ p1 ++ joinL [47] ys ++ p3) (by simp only [List.length_append]; omega)
  rw [k6, k5, k4, k3, k2, stT_join]
  simp [p1, p3]
theorem loo7 (acc : List Nat) (hl : acc.length ≤ 1000000) (hh : acc ≠ [] ↔ held a = true) : ∃ t3 t4 t5, WaT (held a) a.w t3 ∧ QuT a.q t4 ∧ MaT a.m t5 ∧ t__law_loosely_7 [x0, some (.int cl), some (tx a.sc), some (oT a.ho), some (oI a.dr), some a.w.d, some (qD a.q), some (oT a.m), some (tx acc), none, none, none] = .rt (tx (acc ++ (t3 ++ (t4 ++ t5)))) := by
  have et := eqD_tup (a := a.w.s) (b := []) (fun l hl => in_okT (ha.w.1 l hl).1 (ha.w.1 l hl).2.2) (by simp)
  have i1 : ixD a.w.d (.int 1) = .ok (.tuple (a.w.s.map tx)) := rfl
  have key : ∀ b : Bool, ∃ ys t4 t5, Wts INS ys a.w.s ∧ QuT a.q t4 ∧ MaT a.m t5 ∧ (b = (decide (acc ≠ []) && (decide (a.w.s = []) && decide (cl.fmod 2 = 0))) → t__law_loosely_7 [x0, some (.int cl), some (tx a.sc), some (oT a.ho), some (oI a.dr), some a.w.d, some (qD a.q), some (oT a.m), some (tx acc), none, none, none] = .rt (tx (acc ++ (((if a.w.r = true ∧ b = false then [47] else []) ++ stT a.w.e ys) ++ (t4 ++ t5))))) := by
    intro b
    obtain ⟨ys, t4, t5, wy, h4, h5, e6⟩ := loo6 x0 cl a ha b
    refine ⟨ys, t4, t5, wy, h4, h5, fun hb => ?_⟩
    rw [← e6 acc (by omega)]
    unfold t__law_loosely_7
    subst hb
    generalize a.w.d = wd at *
    simp only [List.map_nil] at et
    generalize PyData.tuple (a.w.s.map tx) = y at *
    by_cases h1 : acc = []
    · simp [h1]
    · by_cases h2 : a.w.s = []
      · simp only [h2, decide_true] at et
        simp [h1, h2, i1, et]
      · simp only [h2, decide_false] at et
        simp [h1, h2, i1, et]
  obtain ⟨ys, t4, t5, wy, h4, h5, e7⟩ := key (decide (acc ≠ []) && (decide (a.w.s = []) && decide (cl.fmod 2 = 0)))
  have e7 := e7 rfl
  have hw := way_WaT ha.inv wy
  cases hb : (decide (acc ≠ []) && (decide (a.w.s = []) && decide (cl.fmod 2 = 0))) with
  | false =>
    rw [hb] at e7
    simp only [and_true] at e7
    exact ⟨_, t4, t5, hw, h4, h5, e7⟩
  | true =>
    rw [hb] at e7
    simp only [Bool.true_eq_false, and_false, if_false, List.nil_append] at e7
    simp only [Bool.and_eq_true, decide_eq_true_eq] at hb
    obtain ⟨b1, b2, _⟩ := hb
    have hd := hh.mp b1
    have hr : a.w.r = true := by
      apply ha.inv.root
      unfold held at hd
      simpa [Option.isSome_iff_ne_none] using hd
    have he := ha.inv.ends b2
    refine ⟨[], t4, t5, ?_, h4, h5, ?_⟩
    · have : a.w = ⟨held a, [], held a⟩ := by
        rw [hd]
        generalize a.w = w at *
        obtain ⟨r, s, e⟩ := w
        simp only at b2 hr he
        rw [he, hr, b2]
      have k := WaT.none (held := held a)
      rw [← this] at k
      exact k
    · rw [e7]
      rw [b2] at wy
      cases wy
      rfl
end
theorem loosely_ok (a : Adr) (ha : gdA a) (cl : Int) : ∃ t, g__law_loosely [a.d, .int cl] = .ok (tx t) ∧ Wrt a t := by
  have hh := ha.ho
  have hd := ha.dr
  have e : ∃ t1 t2, ScT a.sc t1 ∧ HoT a.ho a.dr t2 ∧ (t1 ++ t2 ≠ [] ↔ held a = true) ∧ (t1 ++ t2).length ≤ 1000000 ∧ g__law_loosely [a.d, .int cl] = runK (t__law_loosely_7 [some a.d, some (.int cl), some (tx a.sc), some (oT a.ho), some (oI a.dr), some a.w.d, some (qD a.q), some (oT a.m), some (tx (t1 ++ t2)), none, none, none]) := by
    have scs : ∃ t1, ScT a.sc t1 ∧ (t1 ≠ [] ↔ a.sc ≠ []) ∧ ∀ x9, t__law_loosely_10 [some a.d, some (.int cl), some (tx a.sc), some (oT a.ho), some (oI a.dr), some a.w.d, some (qD a.q), some (oT a.m), some (tx []), none, none, none] = t__law_loosely_9 [some a.d, some (.int cl), some (tx a.sc), some (oT a.ho), some (oI a.dr), some a.w.d, some (qD a.q), some (oT a.m), some (tx t1), x9, none, none] ∨ x9 ≠ none := by
      have l0 := scL_len ha
      refine ⟨scL a.sc, ?_, ?_, fun x9 => ?_⟩
      · unfold scL
        by_cases e : a.sc = []
        · rw [e, if_pos rfl]; exact .none
        · rw [if_neg e]
          rcases ha.sc with h | h
          · exact absurd h e
          · exact .sc h
      · unfold scL; split <;> simp [*]
      · by_cases hx : x9 = none
        · subst hx
          left
          unfold t__law_loosely_10
          by_cases e : a.sc = []
          · rw [e]; simp [scL]
          · have e3 : scL a.sc = a.sc ++ [58] := by unfold scL; rw [if_neg e]
            rw [e3] at l0 ⊢
            simp at l0
            simp (disch := omega) [e, if_pos]
        · exact .inr hx
    obtain ⟨t1, h1, n1, k10⟩ := scs
    have k10 : t__law_loosely_10 [some a.d, some (.int cl), some (tx a.sc), some (oT a.ho), some (oI a.dr), some a.w.d, some (qD a.q), some (oT a.m), some (tx []), none, none, none] = t__law_loosely_9 [some a.d, some (.int cl), some (tx a.sc), some (oT a.ho), some (oI a.dr), some a.w.d, some (qD a.q), some (oT a.m), some (tx t1), none, none, none] := by
      rcases k10 none with h | h
      · exact h
      · exact absurd rfl h
    have l1 := h1.len
    have hos : ∃ t2, HoT a.ho a.dr t2 ∧ (t2 ≠ [] ↔ a.ho ≠ none) ∧ t__law_loosely_9 [some a.d, some (.int cl), some (tx a.sc), some (oT a.ho), some (oI a.dr), some a.w.d, some (qD a.q), some (oT a.m), some (tx t1), none, none, none] = t__law_loosely_7 [some a.d, some (.int cl), some (tx a.sc), some (oT a.ho), some (oI a.dr), some a.w.d, some (qD a.q), some (oT a.m), some (tx (t1 ++ t2)), none, none, none] := by
      unfold t__law_loosely_9 t__law_loosely_8
      cases e1 : a.ho with
      | none =>
        cases e2 : a.dr with
        | none => exact ⟨[], .none, by simp, by simp [oT, oI]⟩
        | some x => exact absurd e1 (hd x e2).2.2
      | some h =>
        obtain ⟨g1, g2⟩ := hh h e1
        obtain ⟨u, eu, wu⟩ := loose_ok h [] cl g1.2.2 g1.1 (by simp)
        have ul := wu.len
        cases e2 : a.dr with
        | none =>
          refine ⟨47 :: 47 :: u, .house wu g1.2.1 g2, by simp, ?_⟩
          simp (disch := omega) [oT, oI, eu, if_pos]
        | some x =>
          obtain ⟨d0, d1, _⟩ := hd x e2
          obtain ⟨n, rfl⟩ : ∃ n : Nat, x = n := ⟨x.toNat, by omega⟩
          have es := strD_n n (by omega)
          have fl : (figs n).length ≤ 5 := figs_len (by decide) (by omega)
          refine ⟨47 :: 47 :: (u ++ 58 :: figs n), .door wu g1.2.1 g2 (by omega), by simp, ?_⟩
          generalize figs n = f at *
          simp (disch := omega) [oT, oI, eu, es, if_pos]
    obtain ⟨t2, h2, n2, k9⟩ := hos
    have l2 := h2.len
    refine ⟨t1, t2, h1, h2, ?_, by simp; omega, ?_⟩
    · unfold held
      rw [Bool.or_eq_true, decide_eq_true_eq, Option.isSome_iff_ne_none, ← n1, ← n2]
      cases t1 <;> cases t2 <;> simp
    · rw [← k9, ← k10]
      unfold g__law_loosely f__law_loosely t__law_loosely_11
      rw [runF_eq]
      have ed : a.d = .tuple [tx a.sc, oT a.ho, oI a.dr, a.w.d, qD a.q, oT a.m] := rfl
      rw [ed]
      simp
  obtain ⟨t1, t2, h1, h2, hn, hl, e⟩ := e
  obtain ⟨t3, t4, t5, h3, h4, h5, e7⟩ := loo7 (some a.d) cl a ha (t1 ++ t2) hl hn
  refine ⟨t1 ++ (t2 ++ (t3 ++ (t4 ++ t5))), ?_, ⟨⟨t1, t2, t3, t4, t5, rfl, h1, h2, h3, h4, h5⟩, by have := ha.w.2; omega, fun l hl => by have := (ha.q l hl).2; omega⟩⟩
  rw [e, e7]
  simp
theorem gdA.okA {a : Adr} (h : gdA a) : Wp.okA a where
  sc := by
    rcases h.sc with e | e
    · rw [e]; exact ⟨by simp, by simp⟩
    · exact e.t
  ho := by
    cases e : a.ho with
    | none => trivial
    | some x => exact (h.ho x e).1.t
  w := ⟨fun l hl => (h.w.1 l hl).t, h.w.2⟩
  q := by
    cases e : a.q with
    | none => trivial
    | some l => exact ⟨fun p hp => ⟨((h.q l e).1 p hp).1.t, okVo.t ((h.q l e).1 p hp).2⟩, by have := (h.q l e).2; omega⟩
  m := h.m.t
end Wp

set_option Elab.async false
set_option linter.all false
set_option maxRecDepth 100000
set_option maxHeartbeats 4000000
namespace Wp
open PySem PySem.Spec PyProof.Rows L2 Wm
def f_ais_step : En → Out :=
  (sRet (eAn (eCall 1 g_is_text (aCons (eVar 0) aNil)) (e2 neD (eVar 0) (eC (tx [])))))
def g_ais_step : List D → Rs D := runF 1 f_ais_step
def f_is_scheme : En → Out :=
  (sSeq (sIf (tOr' (tNo (tB (eCall 1 g_is_text (aCons (eVar 0) aNil)))) (tB (e2 gtD (eBlt lenD (aCons (eVar 0) aNil)) (eC (.int 8)))))
      (sRet (eC (.bool false)))
      sNx)
    (sSeq (sIf (tB (e2 eqD (eVar 0) (eC (tx []))))
      (sRet (eC (.bool true)))
      sNx)
    (sSeq (sIf (tB (e2 notInD (e2 ixD (eVar 0) (eC (.int 0))) (e2 addD (eC k_LETTERS) (eC k_GREAT))))
      (sRet (eC (.bool false)))
      sNx)
    (sRet (eBlt allD (aCons (eLc (eIt iSeq (eVar 0)) [1] (gNm 1) cYes (e2 inD (eVar 1) (e2 addD (e2 addD (eC k_LETTERS) (eC k_GREAT)) (eC k_FIGURES)))) aNil))))))
def g_is_scheme : List D → Rs D := runF 2 f_is_scheme
def f_is_door : En → Out :=
  (sRet (eAn (eIsi "int" (eVar 0)) (eAn (eNo (eIsi "bool" (eVar 0))) (eChain leD leD (eC (.int 0)) (eVar 0) (eC (.int 65535))))))
def g_is_door : List D → Rs D := runF 1 f_is_door
def f_is_house : En → Out :=
  (sSeq (sIf (tB (e2 isD (eVar 0) (eC .none)))
      (sRet (e2 isD (eVar 1) (eC .none)))
      sNx)
    (sSeq (sIf (tOr' (tNo (tB (eCall 1 g_ais_step (aCons (eVar 0) aNil)))) (tB (e2 gtD (eBlt lenD (aCons (eVar 0) aNil)) (eC (.int 60)))))
      (sRet (eC (.bool false)))
      sNx)
    (sRet (eOr (e2 isD (eVar 1) (eC .none)) (eCall 1 g_is_door (aCons (eVar 1) aNil))))))
def g_is_house : List D → Rs D := runF 2 f_is_house
def f_is_way : En → Out :=
  (sSeq (sIf (tOr' (tNo (tB (eIsi "tuple" (eVar 0)))) (tOr' (tB (e2 neD (eBlt lenD (aCons (eVar 0) aNil)) (eC (.int 3)))) (tNo (tB (eIsi "tuple" (e2 ixD (eVar 0) (eC (.int 1))))))))
      (sRet (eC (.bool false)))
      sNx)
    (sSeq (sIf (tOr' (tNo (tB (eIsi "bool" (e2 ixD (eVar 0) (eC (.int 0)))))) (tNo (tB (eIsi "bool" (e2 ixD (eVar 0) (eC (.int 2)))))))
      (sRet (eC (.bool false)))
      sNx)
    (sSeq (sIf (tB (e2 eqD (e2 ixD (eVar 0) (eC (.int 1))) (eTup aNil)))
      (sRet (e2 eqD (e2 ixD (eVar 0) (eC (.int 0))) (e2 ixD (eVar 0) (eC (.int 2)))))
      sNx)
    (sRet (eBlt allD (aCons (eLc (eIt iSeq (e2 ixD (eVar 0) (eC (.int 1)))) [1] (gNm 1) cYes (eCall 1 g_ais_step (aCons (eVar 1) aNil))) aNil))))))
def g_is_way : List D → Rs D := runF 2 f_is_way
def f_is_pair : En → Out :=
  (sSeq (sIf (tOr' (tNo (tB (eIsi "tuple" (eVar 0)))) (tOr' (tB (e2 neD (eBlt lenD (aCons (eVar 0) aNil)) (eC (.int 2)))) (tNo (tB (eCall 1 g_ais_step (aCons (e2 ixD (eVar 0) (eC (.int 0))) aNil))))))
      (sRet (eC (.bool false)))
      sNx)
    (sRet (eOr (e2 isD (e2 ixD (eVar 0) (eC (.int 1))) (eC .none)) (eCall 1 g_is_text (aCons (e2 ixD (eVar 0) (eC (.int 1))) aNil)))))
def g_is_pair : List D → Rs D := runF 1 f_is_pair
def f_is_question : En → Out :=
  (sRet (eAn (eIsi "tuple" (eVar 0)) (eBlt allD (aCons (eLc (eIt iSeq (eVar 0)) [1] (gNm 1) cYes (eCall 1 g_is_pair (aCons (eVar 1) aNil))) aNil))))
def g_is_question : List D → Rs D := runF 2 f_is_question
def t_is_address_1 : En → Out :=
  (sSeq (sIf (tAn (tB (e2 isntD (eVar 5) (eC .none))) (tNo (tB (eCall 1 g_is_question (aCons (eVar 5) aNil)))))
      (sRet (eC (.bool false)))
      sNx)
    (sRet (eOr (e2 isD (eVar 6) (eC .none)) (eCall 1 g_is_text (aCons (eVar 6) aNil)))))
def t_is_address_2 : En → Out :=
  (sSeq (sIf (tAn (tNo (tB (e2 ixD (eVar 4) (eC (.int 0))))) (tOr' (tB (e2 neD (eVar 1) (eC (tx [])))) (tB (e2 isntD (eVar 2) (eC .none)))))
      (sRet (eC (.bool false)))
      sNx)
    t_is_address_1)
def t_is_address_3 : En → Out :=
  (sSeq (sIf (tOr' (tNo (tB (eCall 1 g_is_scheme (aCons (eVar 1) aNil)))) (tOr' (tNo (tB (eCall 2 g_is_house (aCons (eVar 2) (aCons (eVar 3) aNil))))) (tNo (tB (eCall 1 g_is_way (aCons (eVar 4) aNil))))))
      (sRet (eC (.bool false)))
      sNx)
    t_is_address_2)
def t_is_address_4 : En → Out :=
  (sSeq (sUnp (gTp 6 (gsCons (gNm 1) (gsCons (gNm 2) (gsCons (gNm 3) (gsCons (gNm 4) (gsCons (gNm 5) (gsCons (gNm 6) gsNil))))))) (eVar 0))
    t_is_address_3)
def f_is_address : En → Out :=
  (sSeq (sIf (tOr' (tNo (tB (eIsi "tuple" (eVar 0)))) (tB (e2 neD (eBlt lenD (aCons (eVar 0) aNil)) (eC (.int 6)))))
      (sRet (eC (.bool false)))
      sNx)
    t_is_address_4)
def g_is_address : List D → Rs D := runF 7 f_is_address
end Wp

set_option Elab.async false
set_option linter.all false
set_option maxRecDepth 100000
set_option maxHeartbeats 4000000
namespace Wp
open PySem PySem.Spec PyProof.Rows L2 Wm
/-! ### is_address of good addresses -/
def ATL : Tx := [97, 98, 99, 100, 101, 102, 103, 104, 105, 106, 107, 108, 109, 110, 111, 112, 113, 114, 115, 116, 117, 118, 119, 120, 121, 122, 65, 66, 67, 68, 69, 70, 71, 72, 73, 74, 75, 76, 77, 78, 79, 80, 81, 82, 83, 84, 85, 86, 87, 88, 89, 90, 48, 49, 50, 51, 52, 53, 54, 55, 56, 57, 45, 95, 46, 32, 33, 34, 35, 36, 38, 39, 40, 41, 42, 43, 44, 47, 58, 59, 60, 61, 62, 63, 64, 91, 92, 93, 94, 96, 123, 124, 125, 126]
theorem atl_ok : addD k_PLAIN k_OTHERS = .ok (tx ATL) := by
  unfold k_PLAIN k_OTHERS
  rw [addD_s]
  rfl
theorem atl_T : ∀ c, c < 128 → decide (c ∈ ATL) = decide (c ∈ T) := by decide +kernel
def inT (l : Tx) : Bool := l.all fun c => decide (c ∈ T)
theorem inT_of {l : Tx} (h : ∀ c ∈ l, c ∈ T) : inT l = true := by
  unfold inT
  rw [List.all_eq_true]
  intro c hc
  exact decide_eq_true (h c hc)
theorem atext_ok (s : Tx) (h : okT s) : g_is_text [tx s] = .ok (.bool (inT s)) := by
  have lc := lcL_signs (i := 1) (elt := e2 inD (eVar 1) (e2 addD (eC k_PLAIN) (eC k_OTHERS))) (ρ0 := [some (tx s), none]) (fun c => decide (c ∈ T)) (l := s) (fun c hc => by
    have := atl_T c (h.1 c hc)
    show e2 inD (eVar 1) (e2 addD (eC k_PLAIN) (eC k_OTHERS)) [some (tx s), some (tx [c])] = _
    simp only [at_e2, eVar_1, eVar_0, at_eC, k2_ok, k2'_ok, atl_ok, inD_s, this])
  have la := allD_map (fun c => decide (c ∈ T)) s
  have hl := h.2
  unfold g_is_text f_is_text inT
  rw [runF_eq]
  simp (disch := omega) [if_pos, lc, la]
theorem astep_ok (s : Tx) (h : okT s) : g_ais_step [tx s] = .ok (.bool (inT s && decide (s ≠ []))) := by
  have h1 := atext_ok s h
  unfold g_ais_step f_ais_step
  rw [runF_eq]
  cases hb : inT s with
  | false => rw [hb] at h1; simp [h1]
  | true =>
    rw [hb] at h1
    by_cases hs : s = []
    · subst hs; simp [h1]
    · simp [h1, hs]
theorem k_lets2 : e2 addD (eC k_LETTERS) (eC k_GREAT) = fun _ => .ok (tx LET) := by
  funext ρ
  unfold k_LETTERS k_GREAT LET
  simp
theorem LEF_T : ∀ c ∈ LEF, c ∈ T := by decide
theorem ascheme_ok (s : Tx) (h : s = [] ∨ okSch s) : g_is_scheme [tx s] = .ok (.bool true) := by
  unfold g_is_scheme f_is_scheme
  rw [runF_eq]
  rcases h with rfl | h
  · have h1 := atext_ok [] ⟨by simp, by simp⟩
    have : inT [] = true := rfl
    rw [this] at h1
    simp [h1]
  · have ht := h.t
    have hne := h.ne
    obtain ⟨c, r, rfl, hc, hr, h8⟩ := h
    have h1 := atext_ok (c :: r) ht
    have hall : ∀ z ∈ c :: r, z ∈ LEF := by
      intro z hz
      rcases List.mem_cons.mp hz with rfl | hz
      · exact LET_LEF hc
      · exact hr z hz
    rw [inT_of (fun z hz => LEF_T z (hall z hz))] at h1
    have lc := lcL_signs (i := 1) (elt := e2 inD (eVar 1) (e2 addD (e2 addD (eC k_LETTERS) (eC k_GREAT)) (eC k_FIGURES))) (ρ0 := [some (tx (c :: r)), none]) (fun c => decide (c ∈ LEF)) (l := c :: r) (fun z hz => by
      have e := lets_ok [some (tx (c :: r)), some (tx [z])]
      show e2 inD (eVar 1) (e2 addD (e2 addD (eC k_LETTERS) (eC k_GREAT)) (eC k_FIGURES)) [some (tx (c :: r)), some (tx [z])] = _
      generalize e2 addD (e2 addD (eC k_LETTERS) (eC k_GREAT)) (eC k_FIGURES) = fe at e ⊢
      simp [e])
    have la := allD_map (fun c => decide (c ∈ LEF)) (c :: r)
    have ea : (c :: r).all (fun c => decide (c ∈ LEF)) = true := by
      rw [List.all_eq_true]; intro z hz; exact decide_eq_true (hall z hz)
    rw [ea] at la
    have hz : (c :: r)[0]? = some c := rfl
    have he : ∀ ρ, e2 addD (eC k_LETTERS) (eC k_GREAT) ρ = .ok (tx LET) := fun ρ => by rw [k_lets2]
    have hn : notInD (tx [c]) (tx LET) = .ok (.bool false) := by rw [notInD_s]; simpa using hc
    have hl : (c :: r).length ≤ 8 := by simp; omega
    generalize e2 addD (eC k_LETTERS) (eC k_GREAT) = fe at *
    generalize (c :: r).map (fun c => PyData.bool (decide (c ∈ LEF))) = y at *
    generalize hk : c :: r = l at *
    simp (disch := omega) [h1, if_pos, hne, hz, hn, lc, la, he, show ¬ (8 : Int) < (l.length : Int) by omega]
theorem adoor_ok (x : Int) : g_is_door [.int x] = .ok (.bool (decide (0 ≤ x) && decide (x ≤ 65535))) := by
  unfold g_is_door f_is_door
  rw [runF_eq]
  by_cases h1 : 0 ≤ x <;> by_cases h2 : x ≤ 65535 <;> simp [h1, h2]
theorem ahouse_ok (a : Adr) (ha : gdA a) : g_is_house [oT a.ho, oI a.dr] = .ok (.bool true) := by
  unfold g_is_house f_is_house
  rw [runF_eq]
  have hh := ha.ho
  have hd := ha.dr
  generalize a.ho = ho at *
  generalize a.dr = dr at *
  cases ho with
  | none =>
    cases dr with
    | none => simp [oT, oI]
    | some x => exact absurd rfl (hd x rfl).2.2
  | some h =>
    obtain ⟨g1, g2⟩ := hh h rfl
    have h1 := astep_ok h g1.t
    rw [inT_of g1.1, decide_eq_true g1.2.1] at h1
    cases dr with
    | none => simp (disch := omega) [oT, oI, h1, if_pos, show ¬ (60 : Int) < (h.length : Int) by omega]
    | some x =>
      obtain ⟨d1, d2, _⟩ := hd x rfl
      have h2 := adoor_ok x
      rw [decide_eq_true d1, decide_eq_true (by omega : x ≤ 65535)] at h2
      simp (disch := omega) [oT, oI, h1, h2, if_pos, show ¬ (60 : Int) < (h.length : Int) by omega]
theorem away_ok (w : Way) (h : ∀ l ∈ w.s, okN l) (hn : w.s.length ≤ 900) (hi : w.s = [] → w.e = w.r) : g_is_way [w.d] = .ok (.bool true) := by
  have et := eqD_tup (a := w.s) (b := []) (fun l hl => in_okT (h l hl).1 (h l hl).2.2) (by simp)
  have elc : lcL (gNm 1) cYes (eCall 1 g_ais_step (aCons (eVar 1) aNil)) [some w.d, none] (w.s.map tx) = .ok (w.s.map fun _ => .bool true) := by
    apply lcL_map
    intro l hl
    have g := h l hl
    have h1 := astep_ok l g.t
    rw [inT_of g.1, decide_eq_true g.2.1] at h1
    exact ⟨_, rfl, rfl, by simp [h1]⟩
  have la := allD_map (fun _ : Tx => true) w.s
  have ea : w.s.all (fun _ => true) = true := by simp
  rw [ea] at la
  have zl : (w.s.map tx).length ≤ 16777216 := by simp; omega
  obtain ⟨r, s, e⟩ := w
  simp only at *
  unfold g_is_way f_is_way
  rw [runF_eq]
  unfold Way.d at elc ⊢
  simp only [List.map_nil] at et
  simp only at elc
  have et' : eqR (.tuple (s.map tx)) (.tuple []) = .ok (.bool (decide (s = []))) := by rw [← eqD_tt]; exact et
  generalize s.map (fun _ => PyData.bool true) = y at *
  generalize s.map tx = z at *
  by_cases hs : s = []
  · have := hi hs
    subst this
    simp only [hs, decide_true] at et'
    simp [et']
  · simp only [hs, decide_false] at et'
    simp [et', elc, la, zl]
theorem apair_ok (p : Tx × Option Tx) (h : okPr p) : g_is_pair [pD p] = .ok (.bool true) := by
  obtain ⟨n, v⟩ := p
  have h1 := astep_ok n h.1.t
  rw [inT_of h.1.1, decide_eq_true h.1.2.1] at h1
  unfold g_is_pair f_is_pair
  rw [runF_eq]
  unfold pD
  cases v with
  | none => simp [oT, h1]
  | some v =>
    have h2 := atext_ok v (okV.t h.2)
    rw [inT_of h.2.1] at h2
    simp [oT, h1, h2]
theorem aquestion_ok (l : List (Tx × Option Tx)) (h : ∀ p ∈ l, okPr p) (hn : l.length ≤ 900) : g_is_question [.tuple (l.map pD)] = .ok (.bool true) := by
  have elc : lcL (gNm 1) cYes (eCall 1 g_is_pair (aCons (eVar 1) aNil)) [some (.tuple (l.map pD)), none] (l.map pD) = .ok (l.map fun _ => .bool true) := by
    apply lcL_map
    intro p hp
    exact ⟨_, rfl, rfl, by simp [apair_ok p (h p hp)]⟩
  have la := allD_map (fun _ : Tx × Option Tx => true) l
  have ea : l.all (fun _ => true) = true := by simp
  rw [ea] at la
  have zl : (l.map pD).length ≤ 16777216 := by simp; omega
  unfold g_is_question f_is_question
  rw [runF_eq]
  generalize l.map (fun _ => PyData.bool true) = y at *
  generalize l.map pD = z at *
  simp [elc, la, zl]
theorem isaddr_ok (a : Adr) (ha : gdA a) : g_is_address [a.d] = .ok (.bool true) := by
  have h1 := ascheme_ok a.sc ha.sc
  have h2 := ahouse_ok a ha
  have h3 := away_ok a.w ha.w.1 ha.w.2 ha.inv.ends
  have i0 : ixD a.w.d (.int 0) = .ok (.bool a.w.r) := rfl
  have hr := ha.inv.root
  unfold g_is_address f_is_address t_is_address_4 t_is_address_3
  rw [runF_eq]
  have ed : a.d = .tuple [tx a.sc, oT a.ho, oI a.dr, a.w.d, qD a.q, oT a.m] := rfl
  have tail : runK (t_is_address_2 [some a.d, some (tx a.sc), some (oT a.ho), some (oI a.dr), some a.w.d, some (qD a.q), some (oT a.m)]) = .ok (.bool true) := by
    have t1 : runK (t_is_address_1 [some a.d, some (tx a.sc), some (oT a.ho), some (oI a.dr), some a.w.d, some (qD a.q), some (oT a.m)]) = .ok (.bool true) := by
      unfold t_is_address_1
      have hm := ha.m
      have hq := ha.q
      generalize a.d = da at *
      generalize a.m = m at *
      generalize a.q = q at *
      have m1 : ∀ v, m = some v → g_is_text [tx v] = .ok (.bool true) := by
        intro v hv
        subst hv
        have := atext_ok v (okV.t hm)
        rw [inT_of hm.1] at this
        exact this
      cases q with
      | none =>
        cases m with
        | none => simp [qD, oT]
        | some v => simp [qD, oT, m1 v rfl]
      | some l =>
        have q1 := aquestion_ok l (hq l rfl).1 (hq l rfl).2
        have nn : isntD (.tuple (l.map pD)) .none = .ok (.bool true) := rfl
        simp only [qD]
        generalize PyData.tuple (l.map pD) = z at *
        cases m with
        | none => simp [nn, q1, oT]
        | some v => simp [nn, q1, oT, m1 v rfl]
    rw [← t1]
    unfold t_is_address_2
    generalize a.d = da at *
    generalize a.w.d = wd at *
    cases hr' : a.w.r with
    | true => rw [hr'] at i0; simp [i0]
    | false =>
      rw [hr'] at i0
      have g1 : a.sc = [] := by
        by_cases z : a.sc = []
        · exact z
        · have := hr (.inl z); rw [hr'] at this; cases this
      have g2 : a.ho = none := by
        by_cases z : a.ho = none
        · exact z
        · have := hr (.inr z); rw [hr'] at this; cases this
      simp [i0, g1, g2, oT]
  rw [ed] at tail ⊢
  generalize tx a.sc = dsc at *
  generalize oT a.ho = dho at *
  generalize oI a.dr = ddr at *
  generalize a.w.d = dw at *
  generalize qD a.q = dq at *
  generalize oT a.m = dm at *
  simp [h1, h2, h3]
  exact tail
end Wp

set_option Elab.async false
set_option linter.all false
set_option maxRecDepth 100000
set_option maxHeartbeats 4000000
namespace Wp
open PySem PySem.Spec PyProof.Rows L2 Wm
theorem back_sub : ∀ ss : List Tx, ∀ z ∈ (back ss).1, z ∈ ss
  | [], z, h => by simp [back] at h
  | s :: ss, z, h => by
    have ih := back_sub ss z
    rw [back] at h
    split at h
    · exact List.mem_cons_of_mem _ (ih h)
    · split at h
      · exact List.mem_cons_of_mem _ (ih h)
      · split at h
        · exact List.mem_cons_of_mem _ (ih h)
        · rcases List.mem_cons.mp h with rfl | h
          · exact List.mem_cons_self
          · exact List.mem_cons_of_mem _ (ih h)
theorem gone_sub {w : Way} (h : w.r = true) : ∀ z ∈ (gone w).s, z ∈ w.s := by
  unfold gone
  split
  · exact fun z hz => hz
  · split
    · intro z hz
      simp only at hz
      rw [left_back, h] at hz
      simp [dots] at hz
      exact back_sub _ _ hz
    · simp
theorem hold_sub {w : Way} (h : w.r = true) : ∀ z ∈ hold w, z ∈ w.s := by
  unfold hold
  split
  · exact gone_sub h
  · exact fun z hz => gone_sub h z ((List.dropLast_sublist _).subset hz)
theorem behind_r {old w : Way} (h : old.r = true) : (behind old w).r = true := by
  unfold behind
  split
  · assumption
  · split
    · exact h
    · rfl
theorem behind_all {old w : Way} (p : Tx → Prop) (h : old.r = true) (h1 : ∀ z ∈ old.s, p z) (h2 : ∀ z ∈ w.s, p z) : ∀ z ∈ (behind old w).s, p z := by
  unfold behind
  split
  · exact h2
  · split
    · exact h1
    · intro z hz
      rcases List.mem_append.mp hz with m | m
      · exact h1 z (hold_sub h z m)
      · exact h2 z m
theorem behind_ends {old w : Way} (h : old.s = [] → old.e = true) (h' : w.r = true → w.s = [] → w.e = true) : (behind old w).s = [] → (behind old w).e = true := by
  unfold behind
  split
  · exact h' (by assumption)
  · split
    · exact h
    · intro z; simp at z; simp_all
/-- what is told by resolving: whole, without dots -/
structure Whl (f : Adr) : Prop where
  sc : f.sc ≠ []
  r : f.w.r = true
  st : ∀ z ∈ f.w.s, z ≠ [] ∧ isdot z = false
  e : f.w.s = [] → f.w.e = true
  g : gone f.w = f.w
theorem resv_fix {x f : Adr} (h : Whl f) : resv x f = f := by
  unfold resv behind
  rw [if_pos h.r, h.g]
  have h1 := h.sc
  have h2 := h.r
  simp [h1, h2]
theorem resv_whl {b a : Adr} (hs : b.sc ≠ []) (hb : Inv b) (ha : Inv a) (nb : ∀ z ∈ b.w.s, z ≠ []) (na : ∀ z ∈ a.w.s, z ≠ []) : Whl (resv b a) := by
  have br : b.w.r = true := hb.root (.inl hs)
  have hr := behind_r (old := b.w) (w := a.w) br
  refine ⟨?_, ?_, ?_, ?_, gone_gone _⟩
  · unfold resv
    simp only
    split
    · exact hs
    · assumption
  · show (gone _).r = true
    rw [gone_r]; exact hr
  · intro z hz
    exact ⟨behind_all (fun z => z ≠ []) br nb na z (gone_sub hr z hz), gone_nodot hr z hz⟩
  · exact gone_ends _ (behind_ends (fun z => by rw [hb.ends z, br]) (fun r z => by rw [ha.ends z, r]))
theorem inDots3 (s : Tx) (h : s ≠ []) (h' : isdot s = false) : inD (tx s) (.tuple [tx [], tx [46], tx [46, 46]]) = .ok (.bool false) := by
  have e : ∀ a : List Nat, ((⟨a.toArray⟩ : Str) == ⟨s.toArray⟩) = decide (s = a) := fun a => by
    by_cases h : s = a
    · subst h; simp
    · rw [decide_eq_false h]
      apply beq_eq_false_iff_ne.mpr
      intro z
      apply h
      have := congrArg (fun x => x.cps.toList) z
      simpa using this.symm
  have : inB (tx s) (.tuple [tx [], tx [46], tx [46, 46]]) = some false := by
    show some (((⟨[].toArray⟩ : Str) == ⟨s.toArray⟩) || (((⟨[46].toArray⟩ : Str) == ⟨s.toArray⟩) || (((⟨[46, 46].toArray⟩ : Str) == ⟨s.toArray⟩) || false))) = _
    rw [e, e, e]
    unfold isdot one two at h'
    simp at h' ⊢
    exact ⟨h, h'.1, h'.2⟩
  unfold inD
  rw [this]
end Wp

set_option Elab.async false
set_option linter.all false
set_option maxRecDepth 100000
set_option maxHeartbeats 4000000
namespace Wp
open PySem PySem.Spec PyProof.Rows L2 Wm
/-! ### equality of what is told, as equality of data -/
instance : DecidableEq Way := fun a b => decidable_of_iff (a.r = b.r ∧ a.s = b.s ∧ a.e = b.e) (by cases a; cases b; simp)
instance : DecidableEq Adr := fun a b => decidable_of_iff (a.sc = b.sc ∧ a.ho = b.ho ∧ a.dr = b.dr ∧ a.w = b.w ∧ a.q = b.q ∧ a.m = b.m) (by cases a; cases b; simp)
/-- f tells things apart -/
def Tells {α : Type} [DecidableEq α] (f : α → D) : Prop := ∀ a b, PyData.eqv (f a) (f b) = decide (a = b)
theorem tells_tx : Tells (tx : Tx → D) := eqv_tx
theorem eqv_t (xs ys : List D) : PyData.eqv (.tuple xs) (.tuple ys) = PyData.eqvAll xs ys := rfl
theorem eqv_l (xs ys : List D) : PyData.eqv (.list xs) (.list ys) = PyData.eqvAll xs ys := rfl
theorem eqvAll_c (x y : D) (xs ys : List D) : PyData.eqvAll (x :: xs) (y :: ys) = (PyData.eqv x y && PyData.eqvAll xs ys) := rfl
theorem eqvAll_n : PyData.eqvAll [] [] = true := rfl
theorem eqv_b (a b : Bool) : PyData.eqv (.bool a) (.bool b) = decide (a = b) := by cases a <;> cases b <;> rfl
theorem eqv_i (a b : Int) : PyData.eqv (.int a) (.int b) = decide (a = b) := by
  show (a == b) = _
  rw [Bool.eq_iff_iff]; simp
theorem eqvAll_map {α : Type} [DecidableEq α] {f : α → D} (h : Tells f) : ∀ a b : List α, PyData.eqvAll (a.map f) (b.map f) = decide (a = b)
  | [], [] => rfl
  | [], _ :: _ => rfl
  | _ :: _, [] => rfl
  | x :: xs, y :: ys => by
    rw [List.map_cons, List.map_cons, eqvAll_c, h, eqvAll_map h xs ys]
    simp
theorem tells_oT : Tells oT := fun a b => by
  cases a <;> cases b <;> simp [oT, eqv_tx] <;> rfl
theorem tells_oI : Tells oI := fun a b => by
  cases a <;> cases b <;> simp [oI, eqv_i] <;> rfl
theorem tells_pD : Tells pD := fun a b => by
  obtain ⟨a, x⟩ := a
  obtain ⟨b, y⟩ := b
  simp [pD, eqv_t, eqvAll_c, eqvAll_n, eqv_tx, tells_oT x y]
theorem tells_qD : Tells qD := fun a b => by
  cases a <;> cases b <;> simp only [qD, eqv_t, eqvAll_map tells_pD] <;> first | rfl | simp
theorem tells_way : Tells Way.d := fun a b => by
  obtain ⟨a, x, c⟩ := a
  obtain ⟨b, y, d⟩ := b
  simp only [Way.d, eqv_t, eqvAll_c, eqvAll_n, eqv_b, eqvAll_map tells_tx, Bool.and_true, Way.mk.injEq]
  rw [Bool.eq_iff_iff]; simp
theorem tells_adr : Tells Adr.d := fun a b => by
  obtain ⟨a1, a2, a3, a4, a5, a6⟩ := a
  obtain ⟨b1, b2, b3, b4, b5, b6⟩ := b
  simp only [Adr.d, eqv_t, eqvAll_c, eqvAll_n, eqv_tx, tells_oT a2 b2, tells_oI a3 b3, tells_way a4 b4, tells_qD a5 b5, tells_oT a6 b6, Bool.and_true, Adr.mk.injEq]
  rw [Bool.eq_iff_iff]; simp
theorem eqR_tells {α : Type} [DecidableEq α] {f : α → D} (h : Tells f) {a b : α} {k j : Nat} (ha : shp k (f a)) (hb : shp j (f b)) (hk : k ≤ 64 := by decide) (hj : j ≤ 64 := by decide) : eqR (f a) (f b) = .ok (.bool (decide (a = b))) := by
  rw [eqR_ok ha hb hk hj, h]
theorem neR_tells {α : Type} [DecidableEq α] {f : α → D} (h : Tells f) {a b : α} {k j : Nat} (ha : shp k (f a)) (hb : shp j (f b)) (hk : k ≤ 64 := by decide) (hj : j ≤ 64 := by decide) : neR (f a) (f b) = .ok (.bool (!decide (a = b))) := by
  rw [neR_ok ha hb hk hj, h]
theorem neD_adr {a b : Adr} (ha : okA a) (hb : okA b) : neD a.d b.d = .ok (.bool (!decide (a = b))) := by
  have := neR_tells tells_adr (shp_adr ha) (shp_adr hb)
  unfold Adr.d at this ⊢
  rw [neD_tt]
  exact this
theorem eqD_adr {a b : Adr} (ha : okA a) (hb : okA b) : eqD a.d b.d = .ok (.bool (decide (a = b))) := by
  have := eqR_tells tells_adr (shp_adr ha) (shp_adr hb)
  unfold Adr.d at this ⊢
  rw [eqD_tt]
  exact this
theorem neD_way {a b : Way} (ha : okS a.s) (hb : okS b.s) : neD a.d b.d = .ok (.bool (!decide (a = b))) := by
  have := neR_tells tells_way (shp_way ha) (shp_way hb)
  unfold Way.d at this ⊢
  rw [neD_tt]
  exact this
theorem eqD_way {a b : Way} (ha : okS a.s) (hb : okS b.s) : eqD a.d b.d = .ok (.bool (decide (a = b))) := by
  have := eqR_tells tells_way (shp_way ha) (shp_way hb)
  unfold Way.d at this ⊢
  rw [eqD_tt]
  exact this
theorem eqD_oT {a b : Option Tx} : eqD (oT a) (oT b) = .ok (.bool (decide (a = b))) := by
  cases a <;> cases b <;> simp [oT]
theorem neD_oT {a b : Option Tx} : neD (oT a) (oT b) = .ok (.bool (!decide (a = b))) := by
  cases a <;> cases b <;> simp [oT]
end Wp

set_option Elab.async false
set_option linter.all false
set_option maxRecDepth 100000
set_option maxHeartbeats 4000000
namespace K12
open PySem PySem.Spec PyProof.Rows L2 Wm Wp
def b__law_long_1 : En → Out :=
  (sSeq (sSet 4 (e2 modD (e2 mulD (e2 addD (eVar 0) (e2 mulD (e2 mulD (eC (.int 7)) (eVar 3)) (eVar 3))) (eC (.int 48271))) (eC (.int 2147483647))))
    (sApp 2 (e2 ixD (eVar 1) (e2 modD (e2 fdivD (e2 modD (e2 mulD (eVar 4) (e2 addD (eVar 4) (eC (.int 69621)))) (eC (.int 2147483629))) (eC (.int 4))) (eC (.int 94))))))
def t__law_long_2 : En → Out :=
  (sSeq (sIf (tB (e2 eqD (e2 modD (e2 fdivD (eVar 0) (eC (.int 8))) (eC (.int 2))) (eC (.int 0))))
      (sRet (eTup (aCons (eC (tx [])) (aCons (eC .none) (aCons (eC .none) (aCons (eTup (aCons (eC (.bool true)) (aCons (eBlt tupD (aCons (eVar 2) aNil)) (aCons (e2 eqD (e2 modD (e2 fdivD (eVar 0) (eC (.int 4000))) (eC (.int 2))) (eC (.int 0))) aNil)))) (aCons (eC .none) (aCons (eC .none) aNil))))))))
      sNx)
    (sRet (eTup (aCons (eC (tx [])) (aCons (eC .none) (aCons (eC .none) (aCons (eTup (aCons (eC (.bool false)) (aCons (eTup aNil) (aCons (eC (.bool false)) aNil)))) (aCons (eBlt tupD (aCons (eLc (eIt iSeq (eVar 2)) [5] (gNm 5) cYes (eTup (aCons (eVar 5) (aCons (eC .none) aNil)))) aNil)) (aCons (eC .none) aNil)))))))))
def t__law_long_3 : En → Out :=
  (sSeq (sFor (iRange1 (e2 addD (eC (.int 60)) (e2 modD (e2 fdivD (eVar 0) (eC (.int 16))) (eC (.int 241))))) (gNm 3)
      b__law_long_1)
    t__law_long_2)
def t__law_long_4 : En → Out :=
  (sSeq (sSet 2 (eLst aNil))
    t__law_long_3)
def f__law_long : En → Out :=
  (sSeq (sSet 1 (eCall0 g__law_table))
    t__law_long_4)
def g__law_long : List D → Rs D := runF 6 f__law_long
def t_law_1 : En → Out :=
  (sSeq (sIf (tOr' (tNo (tB (eCall 2 g__law_same_kinds (aCons (eCall 1 g_read (aCons (eVar 4) aNil)) (aCons (eVar 2) aNil))))) (tNo (tB (eCall 2 g__law_same_kinds (aCons (eCall 1 g_read (aCons (eCall 1 g__law_shown (aCons (eVar 3) aNil)) aNil)) (aCons (eVar 3) aNil))))))
      (sRet (eC (.bool false)))
      sNx)
    (sRet (eCall 2 g__law_same_kinds (aCons (eCall 1 g_read (aCons (eVar 4) aNil)) (aCons (eVar 2) aNil)))))
def t_law_2 : En → Out :=
  (sSeq (sSet 4 (eCall 1 g__law_shown (aCons (eVar 2) aNil)))
    t_law_1)
def t_law_3 : En → Out :=
  (sSeq (sSet 3 (eCall 2 g_d_law_address (aCons (eVar 0) (aCons (eC (.int 9)) aNil))))
    t_law_2)
def t_law_4 : En → Out :=
  (sSeq (sSet 2 (eCall 2 g_d_law_address (aCons (eVar 0) (aCons (eC (.int 0)) aNil))))
    t_law_3)
def t_law_5 : En → Out :=
  (sSeq (sIf (tAn (tB (e2 eqD (e2 modD (eCall 2 g__law_cell_at (aCons (eVar 0) (aCons (eC (.int 18)) aNil))) (eC (.int 8))) (eC (.int 5)))) (tNo (tB (eCall 2 g__law_same_kinds (aCons (eCall 1 g_read (aCons (eCall 1 g__law_shown (aCons (eVar 1) aNil)) aNil)) (aCons (eVar 1) aNil))))))
      (sRet (eC (.bool false)))
      sNx)
    t_law_4)
def f_law : En → Out :=
  (sSeq (sSet 1 (eCall 1 g__law_long (aCons (eCall 2 g__law_cell_at (aCons (eVar 0) (aCons (eC (.int 18)) aNil))) aNil)))
    t_law_5)
def g_law : List D → Rs D := runF 5 f_law
end K12

set_option Elab.async false
set_option linter.all false
set_option maxRecDepth 100000
set_option maxHeartbeats 4000000
namespace K12
open PySem PySem.Spec PyProof.Rows L2 Wm Wp
def topS (i : Nat) : Stmt := PySem.Challenge.pw_waymark_k12_what_is_shown_is_read.main.body.getD i (.Pass ⟨0, 0, 0, 0⟩)
section
variable {P : Program} {w : World} {K : PySem.W.Frag} {mg : Str → Option Value} {base : Heap} {f : Addr} {fd : FuncData} {aReader aDesk : Addr}
theorem sc_sign_of : FnScope ["figures", "high", "low", "number"] ["figures"] (defScope (topS 11)) := ⟨rfl, rfl, rfl, by decide +kernel, rfl, by decide +kernel, by decide +kernel⟩
theorem ok_sign_of (g_SIXTEEN : Glb K mg "SIXTEEN" k_SIXTEEN) (g_LEFT_OUT : Glb K mg "LEFT_OUT" k_LEFT_OUT) (g_SIGNS : Glb K mg "SIGNS" k_SIGNS) (m_len : mg "len" = none) (m_min : mg "min" = none) (m_int : mg "int" = none) (F : Fun K "sign_of" "sign_of" (topS 11) f fd) (hm : mg "sign_of" = some (.ref f)) : Cal P w K mg base 1 "sign_of" false 1 g_sign_of :=
  cal_of (k := 0) F sc_sign_of hm (F.binds fun _ _ _ _ _ _ us hl => match us, hl with | [_], _ => rfl) rfl fun cdv A outer s H E C => ⟨[], (ss_cons (ss_if (st_cmp (op_neA C.u64) neS ((se_blt call_len lenS m_len (sab_cons (((se_var 0)).bb) sab_nil))).bb (se_int).bb (nomark _))
      (ss_one (ss_ret se_non))
      ss_nil)
    (ss_cons (ss_set 1 (se_find ((se_g g_SIXTEEN)).bb ((se_lower ((se_ix ix_seq ixS ((se_var 0)).bb (se_int).bb)).bb)).bb) C.nd)
    (ss_cons (ss_set 2 (se_find ((se_g g_SIXTEEN)).bb ((se_lower ((se_ix ix_seq ixS ((se_var 0)).bb (se_int).bb)).bb)).bb) C.nd)
    (ss_cons (ss_set 3 (se_op op_addA addS ((se_op op_mulA mulS (se_int).bb ((se_var 1)).bb)).bb ((se_var 2)).bb) C.nd)
    (ss_cons (ss_if (SW.t (sw_or (st_cmp op_lt cmpS ((se_blt (call_min2 C.calm) minS m_min (sab_cons (((se_var 1)).bb) (sab_cons (((se_var 2)).bb) sab_nil)))).bb (se_int).bb (nomark _)) (sw_or (st_cmp (op_eqA C.u64) eqS ((se_var 3)).bb ((se_g g_LEFT_OUT)).bb (nomark _)) (sw_or1 (st_not (st_chain op_le cmpS op_le cmpS (se_int).bb ((se_var 3)).bb (se_int).bb))))))
      (ss_one (ss_ret se_non))
      ss_nil)
    (ss_one (ss_ret (se_ix ix_seq ixS ((se_g g_SIGNS)).bb ((se_op op_sub subS ((se_op op_sub subS ((se_var 3)).bb (se_int).bb)).bb ((se_bty call_intA intS m_int (sab_cons (((se_cmp op_gt cmpS ((se_var 3)).bb ((se_g g_LEFT_OUT)).bb (nomark _))).bb) sab_nil))).bb)).bb))))))))⟩
theorem sc_Reader___init__ : FnScope ["self", "text"] ["self", "text"] (defScope (inClass (topS 17) 0)) := ⟨rfl, rfl, rfl, by decide +kernel, rfl, by decide +kernel, by decide +kernel⟩
theorem ok_Reader___init__ (T_Reader : ClsT K mg 1 aReader) (F : Fun K "__init__" "Reader.__init__" (inClass (topS 17) 0) f fd) (hm : Mk K aReader f) : CalI P w K mg base 1 aReader 1 2 g_Reader___init__ :=
  calI_of (k := 0) F sc_Reader___init__ hm (F.binds fun _ _ _ _ _ _ us hl => match us, hl with | [_, _], _ => rfl) rfl fun cdv A outer s H E C => ⟨[100, 1000], rfl, (ss_cons (ss_fldX 0 0 0 T_Reader (sx_se (se_var 1)))
    (ss_one (ss_fldX 0 0 1 T_Reader (sx_se (se_int)))))⟩
theorem sc_Reader_sees : FnScope ["self", "signs"] ["self", "signs"] (defScope (inClass (topS 17) 1)) := ⟨rfl, rfl, rfl, by decide +kernel, rfl, by decide +kernel, by decide +kernel⟩
theorem ok_Reader_sees (T_Reader : ClsT K mg 1 aReader) (m_len : mg "len" = none) (F : Fun K "sees" "Reader.sees" (inClass (topS 17) 1) f fd) (hm : Meth K aReader "sees" f) : CalMt P w K mg base 1 aReader "sees" 1 2 g_Reader_sees :=
  calMt_of (k := 0) F sc_Reader_sees hm (F.binds fun _ _ _ _ _ _ us hl => match us, hl with | [_, _], _ => rfl) rfl fun cdv A outer s H E C => ⟨[100, 1000], rfl, (ss_one (ss_rx (sx_se (se_and (se_cmp op_lt cmpS ((se_fld 0 0 1 T_Reader)).bb ((se_blt call_len lenS m_len (sab_cons (((se_fld 0 0 0 T_Reader)).bb) sab_nil))).bb (nomark _)) (se_one (se_cmp (op_inA C.u65) inS ((se_ix ix_seq ixS ((se_fld 0 0 0 T_Reader)).bb ((se_fld 0 0 1 T_Reader)).bb)).bb ((se_var 1)).bb (by rfl)))))))⟩
theorem sc_Reader_at_end : FnScope ["self"] ["self"] (defScope (inClass (topS 17) 2)) := ⟨rfl, rfl, rfl, by decide +kernel, rfl, by decide +kernel, by decide +kernel⟩
theorem ok_Reader_at_end (T_Reader : ClsT K mg 1 aReader) (m_len : mg "len" = none) (F : Fun K "at_end" "Reader.at_end" (inClass (topS 17) 2) f fd) (hm : Meth K aReader "at_end" f) : CalMt P w K mg base 1 aReader "at_end" 1 1 g_Reader_at_end :=
  calMt_of (k := 0) F sc_Reader_at_end hm (F.binds fun _ _ _ _ _ _ us hl => match us, hl with | [_], _ => rfl) rfl fun cdv A outer s H E C => ⟨[100, 1000], rfl, (ss_one (ss_rx (sx_se (se_cmp op_ge cmpS ((se_fld 0 0 1 T_Reader)).bb ((se_blt call_len lenS m_len (sab_cons (((se_fld 0 0 0 T_Reader)).bb) sab_nil))).bb (nomark _)))))⟩
theorem sc_Reader_pair : FnScope ["self", "sign"] ["self"] (defScope (inClass (topS 17) 3)) := ⟨rfl, rfl, rfl, by decide +kernel, rfl, by decide +kernel, by decide +kernel⟩
theorem ok_Reader_pair (c_sign_of : Cal P w K mg base 1 "sign_of" false 1 g_sign_of) (T_Reader : ClsT K mg 1 aReader) (m_len : mg "len" = none) (F : Fun K "pair" "Reader.pair" (inClass (topS 17) 3) f fd) (hm : Meth K aReader "pair" f) : CalMt P w K mg base 2 aReader "pair" 1 1 g_Reader_pair :=
  calMt_of (k := 1) F sc_Reader_pair hm (F.binds fun _ _ _ _ _ _ us hl => match us, hl with | [_], _ => rfl) rfl fun cdv A outer s H E C => ⟨[100, 1000], rfl, (ss_cons (ss_if (SW.t (sw_and (st_cmp op_lt cmpS ((se_op op_addA addS ((se_fld 0 0 1 T_Reader)).bb (se_int).bb)).bb ((se_blt call_len lenS m_len (sab_cons (((se_fld 0 0 0 T_Reader)).bb) sab_nil))).bb (nomark _)) (sw_and1 (st_cmp (op_notInA C.u65) notInS ((se_ix ix_seq ixS ((se_fld 0 0 0 T_Reader)).bb ((se_op op_addA addS ((se_fld 0 0 1 T_Reader)).bb (se_int).bb)).bb)).bb ((se_str (y := ⟨[50, 51, 52, 53, 54, 55].toArray⟩) (by decide +kernel))).bb (by rfl)))))
      (ss_one ss_never)
      ss_nil)
    (ss_cons (ss_if (st_cmp op_ge cmpS ((se_op op_addA addS ((se_fld 0 0 1 T_Reader)).bb (se_int).bb)).bb ((se_blt call_len lenS m_len (sab_cons (((se_fld 0 0 0 T_Reader)).bb) sab_nil))).bb (nomark _))
      (ss_one ss_never)
      ss_nil)
    (ss_cons (ss_set 1 (se_call C c_sign_of (sa_cons (se_slice ((se_fld 0 0 0 T_Reader)).bb (so_some (se_op op_addA addS ((se_fld 0 0 1 T_Reader)).bb (se_int).bb)) (so_some (se_op op_addA addS ((se_fld 0 0 1 T_Reader)).bb (se_int).bb))) sa_nil)) C.nd)
    (ss_cons (ss_if (st_cmp op_isA isS ((se_var 1)).bb (se_non).bb (nomark _))
      (ss_one ss_never)
      ss_nil)
    (ss_cons (ss_fldAugX 0 0 1 T_Reader iop_catA addIS se_int)
    (ss_one (ss_rx (sx_se (se_var 1)))))))))⟩
theorem sc_Reader_sign : FnScope ["self", "free"] ["self", "free"] (defScope (inClass (topS 17) 4)) := ⟨rfl, rfl, rfl, by decide +kernel, rfl, by decide +kernel, by decide +kernel⟩
theorem ok_Reader_sign (c_Reader_sees : CalMt P w K mg base 1 aReader "sees" 1 2 g_Reader_sees) (c_Reader_pair : CalMt P w K mg base 2 aReader "pair" 1 1 g_Reader_pair) (g_PLAIN : Glb K mg "PLAIN" k_PLAIN) (T_Reader : ClsT K mg 1 aReader) (F : Fun K "sign" "Reader.sign" (inClass (topS 17) 4) f fd) (hm : Meth K aReader "sign" f) : CalMt P w K mg base 3 aReader "sign" 1 2 g_Reader_sign :=
  calMt_of (k := 2) F sc_Reader_sign hm (F.binds fun _ _ _ _ _ _ us hl => match us, hl with | [_, _], _ => rfl) rfl fun cdv A outer s H E C => ⟨[100, 1000], rfl, (ss_cons (ss_ifX (sxc_val (sx_meth 0 0 T_Reader C c_Reader_sees (sxa_cons (sx_se (se_str (y := ⟨[126].toArray⟩) (by decide +kernel))) sxa_nil)))
      (ss_one (ss_rx (sx_meth0 0 0 T_Reader C c_Reader_pair)))
      ss_nil)
    (ss_cons (ss_ifX (sxc_not (sxc_val (sx_meth 0 0 T_Reader C c_Reader_sees (sxa_cons (sx_se (se_op op_addA addS ((se_g g_PLAIN)).bb ((se_var 1)).bb)) sxa_nil))))
      (ss_one ss_never)
      ss_nil)
    (ss_cons (ss_fldAugX 0 0 1 T_Reader iop_catA addIS se_int)
    (ss_one (ss_rx (sx_se (se_ix ix_seq ixS ((se_fld 0 0 0 T_Reader)).bb ((se_op op_sub subS ((se_fld 0 0 1 T_Reader)).bb (se_int).bb)).bb)))))))⟩
theorem sc_Reader_part : FnScope ["self", "free", "ends", "most", "found"] ["self", "free", "ends", "most"] (defScope (inClass (topS 17) 5)) := ⟨rfl, rfl, rfl, by decide +kernel, rfl, by decide +kernel, by decide +kernel⟩
theorem ok_Reader_part (c_Reader_sign : CalMt P w K mg base 3 aReader "sign" 1 2 g_Reader_sign) (c_Reader_at_end : CalMt P w K mg base 1 aReader "at_end" 1 1 g_Reader_at_end) (c_Reader_sees : CalMt P w K mg base 1 aReader "sees" 1 2 g_Reader_sees) (T_Reader : ClsT K mg 1 aReader) (m_len : mg "len" = none) (F : Fun K "part" "Reader.part" (inClass (topS 17) 5) f fd) (hm : Meth K aReader "part" f) : CalMt P w K mg base 4 aReader "part" 1 4 g_Reader_part :=
  calMt_of (k := 3) F sc_Reader_part hm (F.binds fun _ _ _ _ _ _ us hl => match us, hl with | [_, _, _, _], _ => rfl) rfl fun cdv A outer s H E C => ⟨[100, 1000], rfl, (ss_cons (ss_setX 4 (sx_meth 0 0 T_Reader C c_Reader_sign (sxa_cons (sx_se (se_var 1)) sxa_nil)) C.nd)
    (ss_cons (ss_whileX C.hp (SXW.t (sxw_and (sxc_not (sxc_val (sx_meth0 0 0 T_Reader C c_Reader_at_end))) (sxw_and1 (sxc_not (sxc_val (sx_meth 0 0 T_Reader C c_Reader_sees (sxa_cons (sx_se (se_var 2)) sxa_nil)))))))
      (ss_cons (ss_if (st_cmp (op_eqA C.u64) eqS ((se_blt call_len lenS m_len (sab_cons (((se_var 4)).bb) sab_nil))).bb ((se_var 3)).bb (nomark _))
      (ss_one ss_never)
      ss_nil)
    (ss_one (ss_augX 4 iop_catA addIS (sx_meth 0 0 T_Reader C c_Reader_sign (sxa_cons (sx_se (se_var 1)) sxa_nil)) C.nd))))
    (ss_one (ss_rx (sx_se (se_var 4))))))⟩
theorem sc_read_scheme : FnScope ["reader", "text", "many"] ["reader"] (defScope (topS 18)) := ⟨rfl, rfl, rfl, by decide +kernel, rfl, by decide +kernel, by decide +kernel⟩
theorem ok_read_scheme (g_LETTERS : Glb K mg "LETTERS" k_LETTERS) (g_GREAT : Glb K mg "GREAT" k_GREAT) (g_FIGURES : Glb K mg "FIGURES" k_FIGURES) (T_Reader : ClsT K mg 1 aReader) (m_len : mg "len" = none) (F : Fun K "read_scheme" "read_scheme" (topS 18) f fd) (hm : mg "read_scheme" = some (.ref f)) : CalX P w K mg base 1 "read_scheme" 1 0 1 g_read_scheme :=
  calX_of (k := 0) F sc_read_scheme hm (F.binds fun _ _ _ _ _ _ us hl => match us, hl with | [_], _ => rfl) rfl fun cdv A outer s H E C => ⟨[100, 1000], rfl, (ss_cons (ss_set 1 (se_fld 0 0 0 T_Reader) C.nd)
    (ss_cons (ss_set 2 se_int C.nd)
    (ss_cons (ss_while C.hp (SW.t (sw_and (st_cmp op_lt cmpS ((se_var 2)).bb ((se_blt call_len lenS m_len (sab_cons (((se_var 1)).bb) sab_nil))).bb (nomark _)) (sw_and1 (st_cmp (op_inA C.u65) inS ((se_ix ix_seq ixS ((se_var 1)).bb ((se_var 2)).bb)).bb ((se_op op_addA addS ((se_op op_addA addS ((se_g g_LETTERS)).bb ((se_g g_GREAT)).bb)).bb ((se_g g_FIGURES)).bb)).bb (by rfl)))))
      (ss_one (ss_aug 2 iop_catA addIS se_int C.nd)))
    (ss_cons (ss_if (SW.t (sw_or (st_cmp (op_neA C.u64) neS ((se_slice ((se_var 1)).bb (so_some (se_var 2)) (so_some (se_op op_addA addS ((se_var 2)).bb (se_int).bb)))).bb ((se_str (y := ⟨[58].toArray⟩) (by decide +kernel))).bb (nomark _)) (sw_or (st_cmp op_lt cmpS ((se_var 2)).bb (se_int).bb (nomark _)) (sw_or (st_cmp op_gt cmpS ((se_var 2)).bb (se_int).bb (nomark _)) (sw_or1 (st_cmp (op_inA C.u65) inS ((se_ix ix_seq ixS ((se_var 1)).bb (se_int).bb)).bb ((se_g g_FIGURES)).bb (by rfl)))))))
      (ss_one (ss_rx (sx_se (se_str (y := ⟨[].toArray⟩) (by decide +kernel)))))
      ss_nil)
    (ss_cons (ss_fldX 0 0 1 T_Reader (sx_se (se_op op_addA addS ((se_var 2)).bb (se_int).bb)))
    (ss_one (ss_rx (sx_se (se_slice ((se_var 1)).bb so_none (so_some (se_var 2)))))))))))⟩
theorem sc_read_door : FnScope ["reader", "door", "more"] ["reader"] (defScope (topS 19)) := ⟨rfl, rfl, rfl, by decide +kernel, rfl, by decide +kernel, by decide +kernel⟩
theorem ok_read_door (c_Reader_sees : CalMt P w K mg base 1 aReader "sees" 1 2 g_Reader_sees) (c_Reader_at_end : CalMt P w K mg base 1 aReader "at_end" 1 1 g_Reader_at_end) (g_FIGURES : Glb K mg "FIGURES" k_FIGURES) (g_MOST_DOOR : Glb K mg "MOST_DOOR" k_MOST_DOOR) (T_Reader : ClsT K mg 1 aReader) (m_int : mg "int" = none) (F : Fun K "read_door" "read_door" (topS 19) f fd) (hm : mg "read_door" = some (.ref f)) : CalX P w K mg base 2 "read_door" 1 0 1 g_read_door :=
  calX_of (k := 1) F sc_read_door hm (F.binds fun _ _ _ _ _ _ us hl => match us, hl with | [_], _ => rfl) rfl fun cdv A outer s H E C => ⟨[100, 1000], rfl, (ss_cons (ss_ifX (sxc_not (sxc_val (sx_meth 0 0 T_Reader C c_Reader_sees (sxa_cons (sx_se (se_g g_FIGURES)) sxa_nil))))
      (ss_one ss_never)
      ss_nil)
    (ss_cons (ss_set 1 (se_bty call_intA intS m_int (sab_cons (((se_ix ix_seq ixS ((se_fld 0 0 0 T_Reader)).bb ((se_fld 0 0 1 T_Reader)).bb)).bb) sab_nil)) C.nd)
    (ss_cons (ss_fldAugX 0 0 1 T_Reader iop_catA addIS se_int)
    (ss_cons (ss_whileX C.hp (sxc_val (sx_meth 0 0 T_Reader C c_Reader_sees (sxa_cons (sx_se (se_g g_FIGURES)) sxa_nil)))
      (ss_cons (ss_set 2 (se_op op_addA addS ((se_op op_mulA mulS (se_int).bb ((se_var 1)).bb)).bb ((se_bty call_intA intS m_int (sab_cons (((se_ix ix_seq ixS ((se_fld 0 0 0 T_Reader)).bb ((se_fld 0 0 1 T_Reader)).bb)).bb) sab_nil))).bb) C.nd)
    (ss_cons (ss_if (SW.t (sw_or (st_cmp (op_eqA C.u64) eqS ((se_var 1)).bb (se_int).bb (nomark _)) (sw_or1 (st_cmp op_gt cmpS ((se_var 2)).bb ((se_g g_MOST_DOOR)).bb (nomark _)))))
      (ss_one ss_never)
      ss_nil)
    (ss_cons (ss_set 1 (se_var 2) C.nd)
    (ss_one (ss_fldAugX 0 0 1 T_Reader iop_catA addIS se_int))))))
    (ss_cons (ss_ifX (SXW.t (sxw_and (sxc_not (sxc_val (sx_meth0 0 0 T_Reader C c_Reader_at_end))) (sxw_and1 (sxc_not (sxc_val (sx_meth 0 0 T_Reader C c_Reader_sees (sxa_cons (sx_se (se_str (y := ⟨[47, 63, 35].toArray⟩) (by decide +kernel))) sxa_nil)))))))
      (ss_one ss_never)
      ss_nil)
    (ss_one (ss_rx (sx_se (se_var 1)))))))))⟩
theorem sc_read_house : FnScope ["reader", "house"] ["reader"] (defScope (topS 20)) := ⟨rfl, rfl, rfl, by decide +kernel, rfl, by decide +kernel, by decide +kernel⟩
theorem ok_read_house (c_Reader_part : CalMt P w K mg base 4 aReader "part" 1 4 g_Reader_part) (c_Reader_sees : CalMt P w K mg base 1 aReader "sees" 1 2 g_Reader_sees) (c_read_door : CalX P w K mg base 2 "read_door" 1 0 1 g_read_door) (g_MOST_IN_HOUSE : Glb K mg "MOST_IN_HOUSE" k_MOST_IN_HOUSE) (T_Reader : ClsT K mg 1 aReader) (F : Fun K "read_house" "read_house" (topS 20) f fd) (hm : mg "read_house" = some (.ref f)) : CalX P w K mg base 5 "read_house" 1 0 1 g_read_house :=
  calX_of (k := 4) F sc_read_house hm (F.binds fun _ _ _ _ _ _ us hl => match us, hl with | [_], _ => rfl) rfl fun cdv A outer s H E C => ⟨[100, 1000], rfl, (ss_cons (ss_if (st_cmp (op_neA C.u64) neS ((se_slice ((se_fld 0 0 0 T_Reader)).bb (so_some (se_fld 0 0 1 T_Reader)) (so_some (se_op op_addA addS ((se_fld 0 0 1 T_Reader)).bb (se_int).bb)))).bb ((se_str (y := ⟨[47, 47].toArray⟩) (by decide +kernel))).bb (nomark _))
      (ss_one (ss_rx (sx_se (se_tup (sa_cons (se_non) (sa_cons (se_non) sa_nil))))))
      ss_nil)
    (ss_cons (ss_fldAugX 0 0 1 T_Reader iop_catA addIS se_int)
    (ss_cons (ss_setX 1 (sx_meth 0 0 T_Reader C c_Reader_part (sxa_cons (sx_se (se_str (y := ⟨[].toArray⟩) (by decide +kernel))) (sxa_cons (sx_se (se_str (y := ⟨[58, 47, 63, 35].toArray⟩) (by decide +kernel))) (sxa_cons (sx_se (se_g g_MOST_IN_HOUSE)) sxa_nil)))) C.nd)
    (ss_cons (ss_ifX (sxc_not (sxc_val (sx_meth 0 0 T_Reader C c_Reader_sees (sxa_cons (sx_se (se_str (y := ⟨[58].toArray⟩) (by decide +kernel))) sxa_nil))))
      (ss_one (ss_rx (sx_se (se_tup (sa_cons (se_var 1) (sa_cons (se_non) sa_nil))))))
      ss_nil)
    (ss_cons (ss_fldAugX 0 0 1 T_Reader iop_catA addIS se_int)
    (ss_one (ss_rx (sx_tup (sxa_cons (sx_se (se_var 1)) (sxa_cons (sx_io C c_read_door (sxq_here 0 sxa_nil)) sxa_nil))))))))))⟩
theorem sc_read_steps : FnScope ["reader", "rooted", "steps", "ends"] ["reader", "rooted"] (defScope (topS 21)) := ⟨rfl, rfl, rfl, by decide +kernel, rfl, by decide +kernel, by decide +kernel⟩
theorem ok_read_steps (c_Reader_part : CalMt P w K mg base 4 aReader "part" 1 4 g_Reader_part) (c_Reader_sees : CalMt P w K mg base 1 aReader "sees" 1 2 g_Reader_sees) (c_Reader_at_end : CalMt P w K mg base 1 aReader "at_end" 1 1 g_Reader_at_end) (g_IN_STEPS : Glb K mg "IN_STEPS" k_IN_STEPS) (T_Reader : ClsT K mg 1 aReader) (m_len : mg "len" = none) (m_tuple : mg "tuple" = none) (F : Fun K "read_steps" "read_steps" (topS 21) f fd) (hm : mg "read_steps" = some (.ref f)) : CalX P w K mg base 5 "read_steps" 1 0 2 g_read_steps :=
  calX_of (k := 4) F sc_read_steps hm (F.binds fun _ _ _ _ _ _ us hl => match us, hl with | [_, _], _ => rfl) rfl fun cdv A outer s H E C => ⟨[100, 1000], rfl, (ss_cons (ss_setM 2 (sm_lst sa_nil) C.nd)
    (ss_cons (ss_set 3 (se_var 1) C.nd)
    (ss_cons (ss_whileX C.hp (SXW.t (sxw_and (sxc_not (sxc_val (sx_meth0 0 0 T_Reader C c_Reader_at_end))) (sxw_and1 (sxc_not (sxc_val (sx_meth 0 0 T_Reader C c_Reader_sees (sxa_cons (sx_se (se_str (y := ⟨[63, 35].toArray⟩) (by decide +kernel))) sxa_nil)))))))
      (ss_cons (ss_appX 2 (sx_meth 0 0 T_Reader C c_Reader_part (sxa_cons (sx_se (se_g g_IN_STEPS)) (sxa_cons (sx_se (se_str (y := ⟨[47, 63, 35].toArray⟩) (by decide +kernel))) (sxa_cons (sx_se (se_blt call_len lenS m_len (sab_cons (((se_fld 0 0 0 T_Reader)).bb) sab_nil))) sxa_nil)))))
    (ss_cons (ss_setX 3 (sx_meth 0 0 T_Reader C c_Reader_sees (sxa_cons (sx_se (se_str (y := ⟨[47].toArray⟩) (by decide +kernel))) sxa_nil)) C.nd)
    (ss_one (ss_if (st_val (se_var 3))
      (ss_one (ss_fldAugX 0 0 1 T_Reader iop_catA addIS se_int))
      ss_nil)))))
    (ss_one (ss_rx (sx_se (se_tup (sa_cons (se_var 1) (sa_cons (se_bty call_tuple_of tupS m_tuple (sab_cons (sb_own 2) sab_nil)) (sa_cons (se_var 3) sa_nil))))))))))⟩
theorem sc_read_way : FnScope ["reader", "held"] ["reader", "held"] (defScope (topS 22)) := ⟨rfl, rfl, rfl, by decide +kernel, rfl, by decide +kernel, by decide +kernel⟩
theorem ok_read_way (c_Reader_at_end : CalMt P w K mg base 1 aReader "at_end" 1 1 g_Reader_at_end) (c_Reader_sees : CalMt P w K mg base 1 aReader "sees" 1 2 g_Reader_sees) (c_read_steps : CalX P w K mg base 5 "read_steps" 1 0 2 g_read_steps) (T_Reader : ClsT K mg 1 aReader) (F : Fun K "read_way" "read_way" (topS 22) f fd) (hm : mg "read_way" = some (.ref f)) : CalX P w K mg base 6 "read_way" 1 0 2 g_read_way :=
  calX_of (k := 5) F sc_read_way hm (F.binds fun _ _ _ _ _ _ us hl => match us, hl with | [_, _], _ => rfl) rfl fun cdv A outer s H E C => ⟨[100, 1000], rfl, (ss_cons (ss_ifX (SXW.t (sxw_or (sxc_val (sx_meth0 0 0 T_Reader C c_Reader_at_end)) (sxw_or1 (sxc_val (sx_meth 0 0 T_Reader C c_Reader_sees (sxa_cons (sx_se (se_str (y := ⟨[63, 35].toArray⟩) (by decide +kernel))) sxa_nil))))))
      (ss_one (ss_rx (sx_se (se_tup (sa_cons (se_var 1) (sa_cons (se_tup sa_nil) (sa_cons (se_var 1) sa_nil)))))))
      ss_nil)
    (ss_cons (ss_ifX (sxc_val (sx_meth 0 0 T_Reader C c_Reader_sees (sxa_cons (sx_se (se_str (y := ⟨[47].toArray⟩) (by decide +kernel))) sxa_nil)))
      (ss_cons (ss_fldAugX 0 0 1 T_Reader iop_catA addIS se_int)
    (ss_one (ss_rx (sx_io C c_read_steps (sxq_here 0 (sxa_cons (sx_se (se_bl)) sxa_nil))))))
      ss_nil)
    (ss_cons (ss_if (st_val (se_var 1))
      (ss_one ss_never)
      ss_nil)
    (ss_one (ss_rx (sx_io C c_read_steps (sxq_here 0 (sxa_cons (sx_se (se_bl)) sxa_nil))))))))⟩
theorem sc_read_question : FnScope ["reader", "pairs", "more", "name", "value"] ["reader"] (defScope (topS 23)) := ⟨rfl, rfl, rfl, by decide +kernel, rfl, by decide +kernel, by decide +kernel⟩
theorem ok_read_question (c_Reader_sees : CalMt P w K mg base 1 aReader "sees" 1 2 g_Reader_sees) (c_Reader_at_end : CalMt P w K mg base 1 aReader "at_end" 1 1 g_Reader_at_end) (c_Reader_part : CalMt P w K mg base 4 aReader "part" 1 4 g_Reader_part) (g_IN_PAIRS : Glb K mg "IN_PAIRS" k_IN_PAIRS) (T_Reader : ClsT K mg 1 aReader) (m_len : mg "len" = none) (m_tuple : mg "tuple" = none) (F : Fun K "read_question" "read_question" (topS 23) f fd) (hm : mg "read_question" = some (.ref f)) : CalX P w K mg base 5 "read_question" 1 0 1 g_read_question :=
  calX_of (k := 4) F sc_read_question hm (F.binds fun _ _ _ _ _ _ us hl => match us, hl with | [_], _ => rfl) rfl fun cdv A outer s H E C => ⟨[100, 1000], rfl, (ss_cons (ss_ifX (sxc_not (sxc_val (sx_meth 0 0 T_Reader C c_Reader_sees (sxa_cons (sx_se (se_str (y := ⟨[63].toArray⟩) (by decide +kernel))) sxa_nil))))
      (ss_one (ss_rx (sx_se (se_non))))
      ss_nil)
    (ss_cons (ss_fldAugX 0 0 1 T_Reader iop_catA addIS se_int)
    (ss_cons (ss_setM 1 (sm_lst sa_nil) C.nd)
    (ss_cons (ss_setX 2 (sx_and (sx_not (sx_meth0 0 0 T_Reader C c_Reader_at_end)) (sx_one (sx_not (sx_meth 0 0 T_Reader C c_Reader_sees (sxa_cons (sx_se (se_str (y := ⟨[35].toArray⟩) (by decide +kernel))) sxa_nil))))) C.nd)
    (ss_cons (ss_while C.hp (st_val (se_var 2))
      (ss_cons (ss_setX 3 (sx_meth 0 0 T_Reader C c_Reader_part (sxa_cons (sx_se (se_g g_IN_PAIRS)) (sxa_cons (sx_se (se_str (y := ⟨[38, 61, 35].toArray⟩) (by decide +kernel))) (sxa_cons (sx_se (se_blt call_len lenS m_len (sab_cons (((se_fld 0 0 0 T_Reader)).bb) sab_nil))) sxa_nil)))) C.nd)
    (ss_cons (ss_set 4 se_non C.nd)
    (ss_cons (ss_ifX (sxc_val (sx_meth 0 0 T_Reader C c_Reader_sees (sxa_cons (sx_se (se_str (y := ⟨[61].toArray⟩) (by decide +kernel))) sxa_nil)))
      (ss_cons (ss_fldAugX 0 0 1 T_Reader iop_catA addIS se_int)
    (ss_cons (ss_set 4 (se_str (y := ⟨[].toArray⟩) (by decide +kernel)) C.nd)
    (ss_one (ss_ifX (SXW.t (sxw_and (sxc_not (sxc_val (sx_meth0 0 0 T_Reader C c_Reader_at_end))) (sxw_and1 (sxc_not (sxc_val (sx_meth 0 0 T_Reader C c_Reader_sees (sxa_cons (sx_se (se_str (y := ⟨[38, 35].toArray⟩) (by decide +kernel))) sxa_nil)))))))
      (ss_one (ss_setX 4 (sx_meth 0 0 T_Reader C c_Reader_part (sxa_cons (sx_se (se_g g_IN_PAIRS)) (sxa_cons (sx_se (se_str (y := ⟨[38, 35].toArray⟩) (by decide +kernel))) (sxa_cons (sx_se (se_blt call_len lenS m_len (sab_cons (((se_fld 0 0 0 T_Reader)).bb) sab_nil))) sxa_nil)))) C.nd))
      ss_nil))))
      ss_nil)
    (ss_cons (ss_app 1 (se_tup (sa_cons (se_var 3) (sa_cons (se_var 4) sa_nil))))
    (ss_cons (ss_setX 2 (sx_meth 0 0 T_Reader C c_Reader_sees (sxa_cons (sx_se (se_str (y := ⟨[38].toArray⟩) (by decide +kernel))) sxa_nil)) C.nd)
    (ss_one (ss_if (st_val (se_var 2))
      (ss_one (ss_fldAugX 0 0 1 T_Reader iop_catA addIS se_int))
      ss_nil))))))))
    (ss_one (ss_rx (sx_se (se_bty call_tuple_of tupS m_tuple (sab_cons (sb_own 1) sab_nil))))))))))⟩
theorem sc_read_mark : FnScope ["reader"] ["reader"] (defScope (topS 24)) := ⟨rfl, rfl, rfl, by decide +kernel, rfl, by decide +kernel, by decide +kernel⟩
theorem ok_read_mark (c_Reader_sees : CalMt P w K mg base 1 aReader "sees" 1 2 g_Reader_sees) (c_Reader_at_end : CalMt P w K mg base 1 aReader "at_end" 1 1 g_Reader_at_end) (c_Reader_part : CalMt P w K mg base 4 aReader "part" 1 4 g_Reader_part) (g_IN_STEPS : Glb K mg "IN_STEPS" k_IN_STEPS) (g_IN_PAIRS : Glb K mg "IN_PAIRS" k_IN_PAIRS) (T_Reader : ClsT K mg 1 aReader) (m_len : mg "len" = none) (F : Fun K "read_mark" "read_mark" (topS 24) f fd) (hm : mg "read_mark" = some (.ref f)) : CalX P w K mg base 5 "read_mark" 1 0 1 g_read_mark :=
  calX_of (k := 4) F sc_read_mark hm (F.binds fun _ _ _ _ _ _ us hl => match us, hl with | [_], _ => rfl) rfl fun cdv A outer s H E C => ⟨[100, 1000], rfl, (ss_cons (ss_ifX (sxc_not (sxc_val (sx_meth 0 0 T_Reader C c_Reader_sees (sxa_cons (sx_se (se_str (y := ⟨[35].toArray⟩) (by decide +kernel))) sxa_nil))))
      (ss_one (ss_rx (sx_se (se_non))))
      ss_nil)
    (ss_cons (ss_fldAugX 0 0 1 T_Reader iop_catA addIS se_int)
    (ss_cons (ss_ifX (sxc_val (sx_meth0 0 0 T_Reader C c_Reader_at_end))
      (ss_one (ss_rx (sx_se (se_str (y := ⟨[].toArray⟩) (by decide +kernel)))))
      ss_nil)
    (ss_one (ss_rx (sx_meth 0 0 T_Reader C c_Reader_part (sxa_cons (sx_se (se_op op_addA addS ((se_g g_IN_STEPS)).bb ((se_g g_IN_PAIRS)).bb)) (sxa_cons (sx_se (se_str (y := ⟨[].toArray⟩) (by decide +kernel))) (sxa_cons (sx_se (se_blt call_len lenS m_len (sab_cons (((se_fld 0 0 0 T_Reader)).bb) sab_nil))) sxa_nil)))))))))⟩
theorem sc_read : FnScope ["text", "reader", "scheme", "house", "door", "way", "question", "mark"] ["text"] (defScope (topS 25)) := ⟨rfl, rfl, rfl, by decide +kernel, rfl, by decide +kernel, by decide +kernel⟩
theorem ok_read (c_Reader___init__ : CalI P w K mg base 1 aReader 1 2 g_Reader___init__) (c_read_scheme : CalX P w K mg base 1 "read_scheme" 1 0 1 g_read_scheme) (c_read_house : CalX P w K mg base 5 "read_house" 1 0 1 g_read_house) (c_read_way : CalX P w K mg base 6 "read_way" 1 0 2 g_read_way) (c_read_question : CalX P w K mg base 5 "read_question" 1 0 1 g_read_question) (c_read_mark : CalX P w K mg base 5 "read_mark" 1 0 1 g_read_mark) (T_Reader : ClsT K mg 1 aReader) (m_isinstance : mg "isinstance" = none) (m_str : mg "str" = none) (F : Fun K "read" "read" (topS 25) f fd) (hm : mg "read" = some (.ref f)) : Cal P w K mg base 7 "read" false 1 g_read :=
  cal_ofW (wp := [1]) (k := 6) F sc_read hm (F.binds fun _ _ _ _ _ _ us hl => match us, hl with | [_], _ => rfl) rfl fun cdv A outer s H E C => ⟨[], (ss_cons (ss_if (st_not (st_val (se_isi (n := "str") ((se_var 0)).bb m_isinstance m_str)))
      (ss_one ss_never)
      ss_nil)
    (ss_cons (ss_mk 0 1 T_Reader C c_Reader___init__ (sxa_cons (sx_se (se_var 0)) sxa_nil))
    (ss_cons (ss_setX 2 (sx_io C c_read_scheme (sxq_here 1 sxa_nil)) C.nd)
    (ss_cons (ss_unpX (sx_io C c_read_house (sxq_here 1 sxa_nil)) (sg_tup C.calm (sgs_cons (sg_name 3 C.nd) (sgs_cons (sg_name 4 C.nd) sgs_nil))))
    (ss_cons (ss_setX 5 (sx_io C c_read_way (sxq_here 1 (sxa_cons (sx_se (se_or (se_cmp (op_neA C.u64) neS ((se_var 2)).bb ((se_str (y := ⟨[].toArray⟩) (by decide +kernel))).bb (nomark _)) (se_one (se_cmp op_isntA isntS ((se_var 3)).bb (se_non).bb (nomark _))))) sxa_nil))) C.nd)
    (ss_cons (ss_setX 6 (sx_io C c_read_question (sxq_here 1 sxa_nil)) C.nd)
    (ss_cons (ss_setX 7 (sx_io C c_read_mark (sxq_here 1 sxa_nil)) C.nd)
    (ss_one (ss_ret (se_tup (sa_cons (se_var 2) (sa_cons (se_var 3) (sa_cons (se_var 4) (sa_cons (se_var 5) (sa_cons (se_var 6) (sa_cons (se_var 7) sa_nil))))))))))))))))⟩
theorem sc__law_cell_at : FnScope ["_law_script", "_law_k"] ["_law_script", "_law_k"] (defScope (topS 27)) := ⟨rfl, rfl, rfl, by decide +kernel, rfl, by decide +kernel, by decide +kernel⟩
theorem ok__law_cell_at (m_len : mg "len" = none) (F : Fun K "_law_cell_at" "_law_cell_at" (topS 27) f fd) (hm : mg "_law_cell_at" = some (.ref f)) : Cal P w K mg base 1 "_law_cell_at" false 2 g__law_cell_at :=
  cal_of (k := 0) F sc__law_cell_at hm (F.binds fun _ _ _ _ _ _ us hl => match us, hl with | [_, _], _ => rfl) rfl fun cdv A outer s H E C => ⟨[], (ss_cons (ss_if (st_cmp op_lt cmpS ((se_var 1)).bb ((se_blt call_len lenS m_len (sab_cons (((se_var 0)).bb) sab_nil))).bb (nomark _))
      (ss_one (ss_ret (se_ix ix_seq ixS ((se_var 0)).bb ((se_var 1)).bb)))
      ss_nil)
    (ss_one (ss_ret se_int)))⟩
theorem sc__law_table : FnScope ["_law_found"] [] (defScope (topS 28)) := ⟨rfl, rfl, rfl, by decide +kernel, rfl, by decide +kernel, by decide +kernel⟩
theorem ok__law_table  (F : Fun K "_law_table" "_law_table" (topS 28) f fd) (hm : mg "_law_table" = some (.ref f)) : Cal P w K mg base 1 "_law_table" false 0 g__law_table :=
  cal_of (k := 0) F sc__law_table hm (F.binds fun _ _ _ _ _ _ us hl => match us, hl with | [], _ => rfl) rfl fun cdv A outer s H E C => ⟨[], (ss_cons (ss_set 0 (se_str (y := ⟨[32, 33, 34, 35, 36, 38, 39, 40, 41, 42, 43, 44, 45, 46, 47, 48, 49, 50, 51, 52, 53, 54, 55, 56, 57, 58, 59, 60, 61, 62, 63, 64, 65, 66, 67, 68, 69, 70, 71, 72, 73, 74, 75, 76, 77, 78, 79, 80, 81, 82, 83, 84, 85, 86, 87, 88, 89, 90, 91, 92, 93, 94, 95, 96].toArray⟩) (by decide +kernel)) C.nd)
    (ss_one (ss_ret (se_op op_addA addS ((se_var 0)).bb ((se_str (y := ⟨[97, 98, 99, 100, 101, 102, 103, 104, 105, 106, 107, 108, 109, 110, 111, 112, 113, 114, 115, 116, 117, 118, 119, 120, 121, 122, 123, 124, 125, 126].toArray⟩) (by decide +kernel))).bb))))⟩
theorem sc__law_hex : FnScope ["_law_sign", "_law_at", "_law_number"] ["_law_sign"] (defScope (topS 29)) := ⟨rfl, rfl, rfl, by decide +kernel, rfl, by decide +kernel, by decide +kernel⟩
theorem ok__law_hex (c__law_table : Cal P w K mg base 1 "_law_table" false 0 g__law_table) (m_int : mg "int" = none) (F : Fun K "_law_hex" "_law_hex" (topS 29) f fd) (hm : mg "_law_hex" = some (.ref f)) : Cal P w K mg base 2 "_law_hex" false 1 g__law_hex :=
  cal_of (k := 1) F sc__law_hex hm (F.binds fun _ _ _ _ _ _ us hl => match us, hl with | [_], _ => rfl) rfl fun cdv A outer s H E C => ⟨[], (ss_cons (ss_set 1 (se_sindex ((se_call0 C c__law_table)).bb ((se_var 0)).bb) C.nd)
    (ss_cons (ss_set 2 (se_op op_addA addS ((se_op op_addA addS (se_int).bb ((se_var 1)).bb)).bb ((se_bty call_intA intS m_int (sab_cons (((se_cmp op_gt cmpS ((se_var 1)).bb (se_int).bb (nomark _))).bb) sab_nil))).bb) C.nd)
    (ss_one (ss_ret (se_op op_addA addS ((se_ix ix_seq ixS ((se_str (y := ⟨[48, 49, 50, 51, 52, 53, 54, 55, 56, 57, 97, 98, 99, 100, 101, 102].toArray⟩) (by decide +kernel))).bb ((se_op op_fdivN fdivS ((se_var 2)).bb (se_int).bb)).bb)).bb ((se_ix ix_seq ixS ((se_str (y := ⟨[48, 49, 50, 51, 52, 53, 54, 55, 56, 57, 97, 98, 99, 100, 101, 102].toArray⟩) (by decide +kernel))).bb ((se_op op_modN modS ((se_var 2)).bb (se_int).bb)).bb)).bb)))))⟩
theorem sc__law_plain : FnScope ["_law_sign"] ["_law_sign"] (defScope (topS 30)) := ⟨rfl, rfl, rfl, by decide +kernel, rfl, by decide +kernel, by decide +kernel⟩
theorem ok__law_plain  (F : Fun K "_law_plain" "_law_plain" (topS 30) f fd) (hm : mg "_law_plain" = some (.ref f)) : Cal P w K mg base 1 "_law_plain" false 1 g__law_plain :=
  cal_of (k := 0) F sc__law_plain hm (F.binds fun _ _ _ _ _ _ us hl => match us, hl with | [_], _ => rfl) rfl fun cdv A outer s H E C => ⟨[], (ss_one (ss_ret (se_or (se_isalnum ((se_var 0)).bb) (se_one (se_cmp (op_inA C.u65) inS ((se_var 0)).bb ((se_str (y := ⟨[45, 95, 46].toArray⟩) (by decide +kernel))).bb (by rfl))))))⟩
theorem sc__law_deck : FnScope ["_law_cell"] ["_law_cell"] (defScope (topS 31)) := ⟨rfl, rfl, rfl, by decide +kernel, rfl, by decide +kernel, by decide +kernel⟩
theorem ok__law_deck  (F : Fun K "_law_deck" "_law_deck" (topS 31) f fd) (hm : mg "_law_deck" = some (.ref f)) : Cal P w K mg base 1 "_law_deck" true 1 g__law_deck :=
  cal_of (k := 0) F sc__law_deck hm (F.binds fun _ _ _ _ _ _ us hl => match us, hl with | [_], _ => rfl) rfl fun cdv A outer s H E C => ⟨[], (ss_one (ss_retM (sm_lst (sa_cons (se_op op_modN modS ((se_var 0)).bb (se_int).bb) (sa_cons (se_op op_fdivN fdivS ((se_var 0)).bb (se_int).bb) (sa_cons (se_int) sa_nil))))))⟩
theorem sc__law_draw : FnScope ["_law_deck_here", "_law_most", "_law_mixed", "_law_found"] ["_law_deck_here", "_law_most"] (defScope (topS 32)) := ⟨rfl, rfl, rfl, by decide +kernel, rfl, by decide +kernel, by decide +kernel⟩
theorem ok__law_draw  (F : Fun K "_law_draw" "_law_draw" (topS 32) f fd) (hm : mg "_law_draw" = some (.ref f)) : CalX P w K mg base 1 "_law_draw" 0 0 2 g__law_draw :=
  calX_of (k := 0) F sc__law_draw hm (F.binds fun _ _ _ _ _ _ us hl => match us, hl with | [_, _], _ => rfl) rfl fun cdv A outer s H E C => ⟨[0, 1000], rfl, (ss_cons (ss_if (st_cmp (op_eqA C.u64) eqS ((se_ix ix_seq ixS (sb_own 0) (se_int).bb)).bb (se_int).bb (nomark _))
      (ss_cons (ss_set 3 (se_op op_modN modS ((se_ix ix_seq ixS (sb_own 0) (se_int).bb)).bb ((se_var 1)).bb) C.nd)
    (ss_cons (ss_itm 0 (se_op op_fdivN fdivS ((se_ix ix_seq ixS (sb_own 0) (se_int).bb)).bb ((se_var 1)).bb) se_int)
    (ss_one (ss_rx (sx_se (se_var 3))))))
      ss_nil)
    (ss_cons (ss_itm 0 (se_op op_addA addS ((se_ix ix_seq ixS (sb_own 0) (se_int).bb)).bb (se_int).bb) se_int)
    (ss_cons (ss_set 2 (se_op op_modN modS ((se_op op_mulA mulS ((se_op op_addA addS ((se_ix ix_seq ixS (sb_own 0) (se_int).bb)).bb ((se_op op_mulA mulS ((se_op op_mulA mulS (se_int).bb ((se_ix ix_seq ixS (sb_own 0) (se_int).bb)).bb)).bb ((se_ix ix_seq ixS (sb_own 0) (se_int).bb)).bb)).bb)).bb (se_int).bb)).bb (se_int).bb) C.nd)
    (ss_one (ss_rx (sx_se (se_op op_modN modS ((se_op op_fdivN fdivS ((se_op op_modN modS ((se_op op_mulA mulS ((se_var 2)).bb ((se_op op_addA addS ((se_var 2)).bb (se_int).bb)).bb)).bb (se_int).bb)).bb (se_int).bb)).bb ((se_var 1)).bb)))))))⟩
theorem sc__law_some : FnScope ["_law_deck_here", "_law_size", "_law_some_here", "_law_found", "_law_k"] ["_law_deck_here", "_law_size"] (defScope (topS 33)) := ⟨rfl, rfl, rfl, by decide +kernel, rfl, by decide +kernel, by decide +kernel⟩
theorem ok__law_some (c__law_table : Cal P w K mg base 1 "_law_table" false 0 g__law_table) (c__law_draw : CalX P w K mg base 1 "_law_draw" 0 0 2 g__law_draw) (m_len : mg "len" = none) (m_range : mg "range" = none) (F : Fun K "_law_some" "_law_some" (topS 33) f fd) (hm : mg "_law_some" = some (.ref f)) : CalX P w K mg base 2 "_law_some" 0 0 2 g__law_some :=
  calX_of (k := 1) F sc__law_some hm (F.binds fun _ _ _ _ _ _ us hl => match us, hl with | [_, _], _ => rfl) rfl fun cdv A outer s H E C => ⟨[0, 1000], rfl, (ss_cons (ss_setX 2 (sx_ix ix_seq ixS (sx_se (((sm_lst (sa_cons (se_call0 C c__law_table) (sa_cons (se_call0 C c__law_table) (sa_cons (se_str (y := ⟨[97, 98, 99, 88, 89, 90, 48, 49, 57, 45, 95, 46].toArray⟩) (by decide +kernel)) (sa_cons (se_str (y := ⟨[47, 63, 35, 58, 38, 61, 126, 46, 64, 32, 43].toArray⟩) (by decide +kernel)) (sa_cons (se_str (y := ⟨[97, 65, 46, 126].toArray⟩) (by decide +kernel)) sa_nil))))))).se)) (sx_io C c__law_draw (sxq_here 0 (sxa_cons (sx_se (se_int)) sxa_nil)))) C.nd)
    (ss_cons (ss_set 3 (se_str (y := ⟨[].toArray⟩) (by decide +kernel)) C.nd)
    (ss_cons (ss_for C.hp C.calm (si_range1 (se_var 1) m_range) (sg_name 4 C.nd)
      (ss_one (ss_setX 3 (sx_op op_addA addS (sx_se (se_var 3)) (sx_ix ix_seq ixS (sx_se (se_var 2)) (sx_io C c__law_draw (sxq_here 0 (sxa_cons (sx_se (se_blt call_len lenS m_len (sab_cons (((se_var 2)).bb) sab_nil))) sxa_nil))))) C.nd)))
    (ss_one (ss_rx (sx_se (se_var 3)))))))⟩
theorem sc__law_scheme : FnScope ["_law_deck_here", "_law_letters", "_law_size", "_law_found", "_law_k"] ["_law_deck_here"] (defScope (topS 34)) := ⟨rfl, rfl, rfl, by decide +kernel, rfl, by decide +kernel, by decide +kernel⟩
theorem ok__law_scheme (c__law_draw : CalX P w K mg base 1 "_law_draw" 0 0 2 g__law_draw) (m_int : mg "int" = none) (m_range : mg "range" = none) (F : Fun K "_law_scheme" "_law_scheme" (topS 34) f fd) (hm : mg "_law_scheme" = some (.ref f)) : CalX P w K mg base 2 "_law_scheme" 0 0 1 g_d_law_scheme :=
  calX_of (k := 1) F sc__law_scheme hm (F.binds fun _ _ _ _ _ _ us hl => match us, hl with | [_], _ => rfl) rfl fun cdv A outer s H E C => ⟨[0, 1000], rfl, (ss_cons (ss_set 1 (se_str (y := ⟨[97, 98, 99, 100, 101, 102, 103, 104, 105, 106, 107, 108, 109, 110, 111, 112, 113, 114, 115, 116, 117, 118, 119, 120, 121, 122, 65, 66, 67, 68, 69, 70, 71, 72, 73, 74, 75, 76, 77, 78, 79, 80, 81, 82, 83, 84, 85, 86, 87, 88, 89, 90].toArray⟩) (by decide +kernel)) C.nd)
    (ss_cons (ss_setX 2 (sx_io C c__law_draw (sxq_here 0 (sxa_cons (sx_se (se_int)) sxa_nil))) C.nd)
    (ss_cons (ss_set 3 (se_str (y := ⟨[].toArray⟩) (by decide +kernel)) C.nd)
    (ss_cons (ss_for C.hp C.calm (si_range1 (se_op op_mulA mulS ((se_var 2)).bb ((se_bty call_intA intS m_int (sab_cons (((se_cmp op_lt cmpS ((se_var 2)).bb (se_int).bb (nomark _))).bb) sab_nil))).bb) m_range) (sg_name 4 C.nd)
      (ss_one (ss_setX 3 (sx_op op_addA addS (sx_se (se_var 3)) (sx_ix ix_seq ixS (sx_se (se_op op_addA addS ((se_var 1)).bb ((se_str (y := ⟨[48, 49, 50, 51, 52, 53, 54, 55, 56, 57].toArray⟩) (by decide +kernel))).bb)) (sx_io C c__law_draw (sxq_here 0 (sxa_cons (sx_se (se_op op_addA addS (se_int).bb ((se_op op_mulA mulS (se_int).bb ((se_bty call_intA intS m_int (sab_cons (((se_cmp op_gt cmpS ((se_var 4)).bb (se_int).bb (nomark _))).bb) sab_nil))).bb)).bb)) sxa_nil))))) C.nd)))
    (ss_one (ss_rx (sx_se (se_var 3))))))))⟩
theorem sc__law_steps : FnScope ["_law_deck_here", "_law_many", "_law_steps_here", "_law_k", "_law_size"] ["_law_deck_here"] (defScope (topS 35)) := ⟨rfl, rfl, rfl, by decide +kernel, rfl, by decide +kernel, by decide +kernel⟩
theorem ok__law_steps (c__law_draw : CalX P w K mg base 1 "_law_draw" 0 0 2 g__law_draw) (c__law_some : CalX P w K mg base 2 "_law_some" 0 0 2 g__law_some) (m_int : mg "int" = none) (m_range : mg "range" = none) (m_tuple : mg "tuple" = none) (F : Fun K "_law_steps" "_law_steps" (topS 35) f fd) (hm : mg "_law_steps" = some (.ref f)) : CalX P w K mg base 3 "_law_steps" 0 0 1 g_d_law_steps :=
  calX_of (k := 2) F sc__law_steps hm (F.binds fun _ _ _ _ _ _ us hl => match us, hl with | [_], _ => rfl) rfl fun cdv A outer s H E C => ⟨[0, 1000], rfl, (ss_cons (ss_setX 1 (sx_ix ix_seq ixS (sx_lst (sxa_cons (sx_io C c__law_draw (sxq_here 0 (sxa_cons (sx_se (se_int)) sxa_nil))) (sxa_cons (sx_se (se_int)) sxa_nil))) (sx_bty call_intA intS m_int (sxa_cons (sx_cmp (op_eqA C.u64) eqS (sx_io C c__law_draw (sxq_here 0 (sxa_cons (sx_se (se_int)) sxa_nil))) (sx_se (se_int)) (nomark _)) sxa_nil))) C.nd)
    (ss_cons (ss_setM 2 (sm_lst sa_nil) C.nd)
    (ss_cons (ss_for C.hp C.calm (si_range1 (se_var 1) m_range) (sg_name 3 C.nd)
      (ss_cons (ss_setX 4 (sx_op op_addA addS (sx_se (se_int)) (sx_io C c__law_draw (sxq_here 0 (sxa_cons (sx_se (se_int)) sxa_nil)))) C.nd)
    (ss_cons (ss_ifX (SXW.t (sxw_and (sxc_sc (st_cmp op_lt cmpS ((se_var 1)).bb (se_int).bb (nomark _))) (sxw_and (sxc_sc (st_cmp (op_eqA C.u64) eqS ((se_var 3)).bb (se_int).bb (nomark _))) (sxw_and1 (sxc_cmp (op_eqA C.u64) eqS (sx_io C c__law_draw (sxq_here 0 (sxa_cons (sx_se (se_int)) sxa_nil))) (sx_se (se_int)) (nomark _))))))
      (ss_one (ss_setX 4 (sx_op op_addA addS (sx_se (se_int)) (sx_io C c__law_draw (sxq_here 0 (sxa_cons (sx_se (se_int)) sxa_nil)))) C.nd))
      ss_nil)
    (ss_one (ss_appX 2 (sx_io C c__law_some (sxq_here 0 (sxa_cons (sx_se (se_var 4)) sxa_nil))))))))
    (ss_one (ss_rx (sx_se (se_bty call_tuple_of tupS m_tuple (sab_cons (sb_own 2) sab_nil))))))))⟩
theorem sc__law_question : FnScope ["_law_deck_here", "_law_many", "_law_pairs", "_law_k", "_law_name", "_law_value"] ["_law_deck_here"] (defScope (topS 36)) := ⟨rfl, rfl, rfl, by decide +kernel, rfl, by decide +kernel, by decide +kernel⟩
theorem ok__law_question (c__law_draw : CalX P w K mg base 1 "_law_draw" 0 0 2 g__law_draw) (c__law_some : CalX P w K mg base 2 "_law_some" 0 0 2 g__law_some) (m_int : mg "int" = none) (m_range : mg "range" = none) (m_tuple : mg "tuple" = none) (F : Fun K "_law_question" "_law_question" (topS 36) f fd) (hm : mg "_law_question" = some (.ref f)) : CalX P w K mg base 3 "_law_question" 0 0 1 g_d_law_question :=
  calX_of (k := 2) F sc__law_question hm (F.binds fun _ _ _ _ _ _ us hl => match us, hl with | [_], _ => rfl) rfl fun cdv A outer s H E C => ⟨[0, 1000], rfl, (ss_cons (ss_ifX (sxc_cmp (op_eqA C.u64) eqS (sx_io C c__law_draw (sxq_here 0 (sxa_cons (sx_se (se_int)) sxa_nil))) (sx_se (se_int)) (nomark _))
      (ss_one (ss_rx (sx_se (se_non))))
      ss_nil)
    (ss_cons (ss_setX 1 (sx_ix ix_seq ixS (sx_lst (sxa_cons (sx_io C c__law_draw (sxq_here 0 (sxa_cons (sx_se (se_int)) sxa_nil))) (sxa_cons (sx_se (se_int)) sxa_nil))) (sx_bty call_intA intS m_int (sxa_cons (sx_cmp (op_eqA C.u64) eqS (sx_io C c__law_draw (sxq_here 0 (sxa_cons (sx_se (se_int)) sxa_nil))) (sx_se (se_int)) (nomark _)) sxa_nil))) C.nd)
    (ss_cons (ss_setM 2 (sm_lst sa_nil) C.nd)
    (ss_cons (ss_for C.hp C.calm (si_range1 (se_var 1) m_range) (sg_name 3 C.nd)
      (ss_cons (ss_setX 4 (sx_io C c__law_some (sxq_here 0 (sxa_cons (sx_op op_addA addS (sx_se (se_int)) (sx_io C c__law_draw (sxq_here 0 (sxa_cons (sx_se (se_int)) sxa_nil)))) sxa_nil))) C.nd)
    (ss_cons (ss_set 5 se_non C.nd)
    (ss_cons (ss_ifX (sxc_cmp op_gt cmpS (sx_io C c__law_draw (sxq_here 0 (sxa_cons (sx_se (se_int)) sxa_nil))) (sx_se (se_int)) (nomark _))
      (ss_one (ss_setX 5 (sx_io C c__law_some (sxq_here 0 (sxa_cons (sx_io C c__law_draw (sxq_here 0 (sxa_cons (sx_se (se_int)) sxa_nil))) sxa_nil))) C.nd))
      ss_nil)
    (ss_one (ss_app 2 (se_tup (sa_cons (se_var 4) (sa_cons (se_var 5) sa_nil)))))))))
    (ss_one (ss_rx (sx_se (se_bty call_tuple_of tupS m_tuple (sab_cons (sb_own 2) sab_nil)))))))))⟩
theorem sc__law_address : FnScope ["_law_script", "_law_start", "_law_deck_here", "_law_scheme_here", "_law_house", "_law_door", "_law_steps_here", "_law_rooted", "_law_ends", "_law_question_here", "_law_mark"] ["_law_script", "_law_start"] (defScope (topS 37)) := ⟨rfl, rfl, rfl, by decide +kernel, rfl, by decide +kernel, by decide +kernel⟩
theorem ok__law_address (c__law_deck : Cal P w K mg base 1 "_law_deck" true 1 g__law_deck) (c__law_cell_at : Cal P w K mg base 1 "_law_cell_at" false 2 g__law_cell_at) (c__law_scheme : CalX P w K mg base 2 "_law_scheme" 0 0 1 g_d_law_scheme) (c__law_draw : CalX P w K mg base 1 "_law_draw" 0 0 2 g__law_draw) (c__law_some : CalX P w K mg base 2 "_law_some" 0 0 2 g__law_some) (c__law_steps : CalX P w K mg base 3 "_law_steps" 0 0 1 g_d_law_steps) (c__law_question : CalX P w K mg base 3 "_law_question" 0 0 1 g_d_law_question) (m_int : mg "int" = none) (F : Fun K "_law_address" "_law_address" (topS 37) f fd) (hm : mg "_law_address" = some (.ref f)) : Cal P w K mg base 4 "_law_address" false 2 g_d_law_address :=
  cal_of (k := 3) F sc__law_address hm (F.binds fun _ _ _ _ _ _ us hl => match us, hl with | [_, _], _ => rfl) rfl fun cdv A outer s H E C => ⟨[], (ss_cons (ss_setM 2 (sm_call C c__law_deck (sa_cons (se_call C c__law_cell_at (sa_cons (se_var 0) (sa_cons (se_var 1) sa_nil))) sa_nil)) C.nd)
    (ss_cons (ss_setX 3 (sx_io C c__law_scheme (sxq_here 2 sxa_nil)) C.nd)
    (ss_cons (ss_set 4 se_non C.nd)
    (ss_cons (ss_set 5 se_non C.nd)
    (ss_cons (ss_ifX (sxc_cmp op_gt cmpS (sx_io C c__law_draw (sxq_here 2 (sxa_cons (sx_se (se_int)) sxa_nil))) (sx_se (se_int)) (nomark _))
      (ss_cons (ss_setX 4 (sx_io C c__law_some (sxq_here 2 (sxa_cons (sx_op op_addA addS (sx_se (se_int)) (sx_ix ix_seq ixS (sx_lst (sxa_cons (sx_io C c__law_draw (sxq_here 2 (sxa_cons (sx_se (se_int)) sxa_nil))) (sxa_cons (sx_io C c__law_draw (sxq_here 2 (sxa_cons (sx_se (se_int)) sxa_nil))) sxa_nil))) (sx_bty call_intA intS m_int (sxa_cons (sx_cmp (op_eqA C.u64) eqS (sx_io C c__law_draw (sxq_here 2 (sxa_cons (sx_se (se_int)) sxa_nil))) (sx_se (se_int)) (nomark _)) sxa_nil)))) sxa_nil))) C.nd)
    (ss_one (ss_setX 5 (sx_ix ix_seq ixS (sx_lst (sxa_cons (sx_se (se_non)) (sxa_cons (sx_io C c__law_draw (sxq_here 2 (sxa_cons (sx_se (se_int)) sxa_nil))) (sxa_cons (sx_io C c__law_draw (sxq_here 2 (sxa_cons (sx_se (se_int)) sxa_nil))) (sxa_cons (sx_se (se_int)) sxa_nil))))) (sx_io C c__law_draw (sxq_here 2 (sxa_cons (sx_se (se_int)) sxa_nil)))) C.nd)))
      ss_nil)
    (ss_cons (ss_setX 6 (sx_io C c__law_steps (sxq_here 2 sxa_nil)) C.nd)
    (ss_cons (ss_setX 7 (sx_or (sx_se (se_cmp (op_neA C.u64) neS ((se_var 3)).bb ((se_str (y := ⟨[].toArray⟩) (by decide +kernel))).bb (nomark _))) (sx_or (sx_se (se_cmp op_isntA isntS ((se_var 4)).bb (se_non).bb (nomark _))) (sx_one (sx_cmp (op_eqA C.u64) eqS (sx_io C c__law_draw (sxq_here 2 (sxa_cons (sx_se (se_int)) sxa_nil))) (sx_se (se_int)) (nomark _))))) C.nd)
    (ss_cons (ss_set 8 (se_var 7) C.nd)
    (ss_cons (ss_if (st_cmp (op_neA C.u64) neS ((se_var 6)).bb ((se_tup sa_nil)).bb (nomark _))
      (ss_one (ss_setX 8 (sx_cmp (op_eqA C.u64) eqS (sx_io C c__law_draw (sxq_here 2 (sxa_cons (sx_se (se_int)) sxa_nil))) (sx_se (se_int)) (nomark _)) C.nd))
      ss_nil)
    (ss_cons (ss_setX 9 (sx_io C c__law_question (sxq_here 2 sxa_nil)) C.nd)
    (ss_cons (ss_set 10 se_non C.nd)
    (ss_cons (ss_ifX (sxc_cmp op_gt cmpS (sx_io C c__law_draw (sxq_here 2 (sxa_cons (sx_se (se_int)) sxa_nil))) (sx_se (se_int)) (nomark _))
      (ss_one (ss_setX 10 (sx_io C c__law_some (sxq_here 2 (sxa_cons (sx_ix ix_seq ixS (sx_lst (sxa_cons (sx_io C c__law_draw (sxq_here 2 (sxa_cons (sx_se (se_int)) sxa_nil))) (sxa_cons (sx_io C c__law_draw (sxq_here 2 (sxa_cons (sx_se (se_int)) sxa_nil))) sxa_nil))) (sx_bty call_intA intS m_int (sxa_cons (sx_cmp (op_eqA C.u64) eqS (sx_io C c__law_draw (sxq_here 2 (sxa_cons (sx_se (se_int)) sxa_nil))) (sx_se (se_int)) (nomark _)) sxa_nil))) sxa_nil))) C.nd))
      ss_nil)
    (ss_one (ss_ret (se_tup (sa_cons (se_var 3) (sa_cons (se_var 4) (sa_cons (se_var 5) (sa_cons (se_tup (sa_cons (se_var 7) (sa_cons (se_var 6) (sa_cons (se_var 8) sa_nil)))) (sa_cons (se_var 9) (sa_cons (se_var 10) sa_nil)))))))))))))))))))))⟩
theorem sc__law_written : FnScope ["_law_text", "_law_found", "_law_sign"] ["_law_text"] (defScope (topS 38)) := ⟨rfl, rfl, rfl, by decide +kernel, rfl, by decide +kernel, by decide +kernel⟩
theorem ok__law_written (c__law_plain : Cal P w K mg base 1 "_law_plain" false 1 g__law_plain) (c__law_hex : Cal P w K mg base 2 "_law_hex" false 1 g__law_hex) (F : Fun K "_law_written" "_law_written" (topS 38) f fd) (hm : mg "_law_written" = some (.ref f)) : Cal P w K mg base 3 "_law_written" false 1 g__law_written :=
  cal_of (k := 2) F sc__law_written hm (F.binds fun _ _ _ _ _ _ us hl => match us, hl with | [_], _ => rfl) rfl fun cdv A outer s H E C => ⟨[], (ss_cons (ss_set 1 (se_str (y := ⟨[].toArray⟩) (by decide +kernel)) C.nd)
    (ss_cons (ss_for C.hp C.calm (si_seq (se_var 0)) (sg_name 2 C.nd)
      (ss_one (ss_if (st_val (se_call C c__law_plain (sa_cons (se_var 2) sa_nil)))
      (ss_one (ss_set 1 (se_op op_addA addS ((se_var 1)).bb ((se_var 2)).bb) C.nd))
      (ss_one (ss_set 1 (se_op op_addA addS ((se_op op_addA addS ((se_var 1)).bb ((se_str (y := ⟨[126].toArray⟩) (by decide +kernel))).bb)).bb ((se_call C c__law_hex (sa_cons (se_var 2) sa_nil))).bb) C.nd)))))
    (ss_one (ss_ret (se_var 1)))))⟩
theorem sc__law_pair_shown : FnScope ["_law_pair"] ["_law_pair"] (defScope (topS 39)) := ⟨rfl, rfl, rfl, by decide +kernel, rfl, by decide +kernel, by decide +kernel⟩
theorem ok__law_pair_shown (c__law_written : Cal P w K mg base 3 "_law_written" false 1 g__law_written) (F : Fun K "_law_pair_shown" "_law_pair_shown" (topS 39) f fd) (hm : mg "_law_pair_shown" = some (.ref f)) : Cal P w K mg base 4 "_law_pair_shown" false 1 g__law_pair_shown :=
  cal_of (k := 3) F sc__law_pair_shown hm (F.binds fun _ _ _ _ _ _ us hl => match us, hl with | [_], _ => rfl) rfl fun cdv A outer s H E C => ⟨[], (ss_cons (ss_if (st_cmp op_isA isS ((se_ix ix_seq ixS ((se_var 0)).bb (se_int).bb)).bb (se_non).bb (nomark _))
      (ss_one (ss_ret (se_call C c__law_written (sa_cons (se_ix ix_seq ixS ((se_var 0)).bb (se_int).bb) sa_nil))))
      ss_nil)
    (ss_one (ss_ret (se_op op_addA addS ((se_op op_addA addS ((se_call C c__law_written (sa_cons (se_ix ix_seq ixS ((se_var 0)).bb (se_int).bb) sa_nil))).bb ((se_str (y := ⟨[61].toArray⟩) (by decide +kernel))).bb)).bb ((se_call C c__law_written (sa_cons (se_ix ix_seq ixS ((se_var 0)).bb (se_int).bb) sa_nil))).bb))))⟩
theorem sc__law_shown : FnScope ["_law_address_here", "_law_scheme_here", "_law_house", "_law_door", "_law_way", "_law_question_here", "_law_mark", "_law_found", "_law_k", "_law_pair"] ["_law_address_here"] (defScope (topS 40)) := ⟨rfl, rfl, rfl, by decide +kernel, rfl, by decide +kernel, by decide +kernel⟩
theorem ok__law_shown (c__law_written : Cal P w K mg base 3 "_law_written" false 1 g__law_written) (c__law_pair_shown : Cal P w K mg base 4 "_law_pair_shown" false 1 g__law_pair_shown) (m_str : mg "str" = none) (m_int : mg "int" = none) (m_range : mg "range" = none) (m_len : mg "len" = none) (F : Fun K "_law_shown" "_law_shown" (topS 40) f fd) (hm : mg "_law_shown" = some (.ref f)) : Cal P w K mg base 5 "_law_shown" false 1 g__law_shown :=
  cal_of (k := 4) F sc__law_shown hm (F.binds fun _ _ _ _ _ _ us hl => match us, hl with | [_], _ => rfl) rfl fun cdv A outer s H E C => ⟨[], (ss_cons (ss_unp (se_var 0) (sg_tup C.calm (sgs_cons (sg_name 1 C.nd) (sgs_cons (sg_name 2 C.nd) (sgs_cons (sg_name 3 C.nd) (sgs_cons (sg_name 4 C.nd) (sgs_cons (sg_name 5 C.nd) (sgs_cons (sg_name 6 C.nd) sgs_nil))))))))
    (ss_cons (ss_set 7 (se_str (y := ⟨[].toArray⟩) (by decide +kernel)) C.nd)
    (ss_cons (ss_if (st_cmp (op_neA C.u64) neS ((se_var 1)).bb ((se_str (y := ⟨[].toArray⟩) (by decide +kernel))).bb (nomark _))
      (ss_one (ss_set 7 (se_op op_addA addS ((se_var 1)).bb ((se_str (y := ⟨[58].toArray⟩) (by decide +kernel))).bb) C.nd))
      ss_nil)
    (ss_cons (ss_if (st_cmp op_isntA isntS ((se_var 2)).bb (se_non).bb (nomark _))
      (ss_one (ss_set 7 (se_op op_addA addS ((se_op op_addA addS ((se_var 7)).bb ((se_str (y := ⟨[47, 47].toArray⟩) (by decide +kernel))).bb)).bb ((se_call C c__law_written (sa_cons (se_var 2) sa_nil))).bb) C.nd))
      ss_nil)
    (ss_cons (ss_if (st_cmp op_isntA isntS ((se_var 3)).bb (se_non).bb (nomark _))
      (ss_one (ss_set 7 (se_op op_addA addS ((se_op op_addA addS ((se_var 7)).bb ((se_str (y := ⟨[58].toArray⟩) (by decide +kernel))).bb)).bb ((se_bty call_strA strS m_str (sab_cons (((se_var 3)).bb) sab_nil))).bb) C.nd))
      ss_nil)
    (ss_cons (ss_if (st_val (se_ix ix_seq ixS ((se_var 4)).bb (se_int).bb))
      (ss_one (ss_set 7 (se_op op_addA addS ((se_var 7)).bb ((se_str (y := ⟨[47].toArray⟩) (by decide +kernel))).bb) C.nd))
      ss_nil)
    (ss_cons (ss_for C.hp C.calm (si_range1 (se_blt call_len lenS m_len (sab_cons (((se_ix ix_seq ixS ((se_var 4)).bb (se_int).bb)).bb) sab_nil)) m_range) (sg_name 8 C.nd)
      (ss_one (ss_set 7 (se_op op_addA addS ((se_op op_addA addS ((se_var 7)).bb ((se_op op_mulA mulS ((se_str (y := ⟨[47].toArray⟩) (by decide +kernel))).bb ((se_bty call_intA intS m_int (sab_cons (((se_cmp op_gt cmpS ((se_var 8)).bb (se_int).bb (nomark _))).bb) sab_nil))).bb)).bb)).bb ((se_call C c__law_written (sa_cons (se_ix ix_seq ixS ((se_ix ix_seq ixS ((se_var 4)).bb (se_int).bb)).bb ((se_var 8)).bb) sa_nil))).bb) C.nd)))
    (ss_cons (ss_if (SW.t (sw_and (st_val (se_ix ix_seq ixS ((se_var 4)).bb (se_int).bb)) (sw_and1 (st_cmp (op_neA C.u64) neS ((se_ix ix_seq ixS ((se_var 4)).bb (se_int).bb)).bb ((se_tup sa_nil)).bb (nomark _)))))
      (ss_one (ss_set 7 (se_op op_addA addS ((se_var 7)).bb ((se_str (y := ⟨[47].toArray⟩) (by decide +kernel))).bb) C.nd))
      ss_nil)
    (ss_cons (ss_if (st_cmp op_isntA isntS ((se_var 5)).bb (se_non).bb (nomark _))
      (ss_one (ss_set 7 (se_op op_addA addS ((se_op op_addA addS ((se_var 7)).bb ((se_str (y := ⟨[63].toArray⟩) (by decide +kernel))).bb)).bb ((se_join ((se_str (y := ⟨[38].toArray⟩) (by decide +kernel))).bb ((sm_lc [("_law_pair", 9)] C (si_seq (se_var 5)) (fun _ _ _ _ _ C => (sg_name 9 C.nd)) (fun _ _ _ _ _ C => sifs_nil) (fun _ _ _ _ _ C => (se_call C c__law_pair_shown (sa_cons (se_var 9) sa_nil)))).se).bb)).bb) C.nd))
      ss_nil)
    (ss_cons (ss_if (st_cmp op_isntA isntS ((se_var 6)).bb (se_non).bb (nomark _))
      (ss_one (ss_set 7 (se_op op_addA addS ((se_op op_addA addS ((se_var 7)).bb ((se_str (y := ⟨[35].toArray⟩) (by decide +kernel))).bb)).bb ((se_call C c__law_written (sa_cons (se_var 6) sa_nil))).bb) C.nd))
      ss_nil)
    (ss_one (ss_ret (se_var 7)))))))))))))⟩
theorem sc__law_same_kinds : FnScope ["_law_found", "_law_due", "_law_one", "_law_other"] ["_law_found", "_law_due"] (defScope (topS 41)) := ⟨rfl, rfl, rfl, by decide +kernel, rfl, by decide +kernel, by decide +kernel⟩
theorem ok0__law_same_kinds {k : Nat} (F : Fun K "_law_same_kinds" "_law_same_kinds" (topS 41) f fd) (hm : mg "_law_same_kinds" = some (.ref f)) : Cal P w K mg base (k + 1) "_law_same_kinds" false 2 (fun _ => .bad) :=
  cal_none F sc__law_same_kinds hm (F.binds fun _ _ _ _ _ _ us hl => match us, hl with | [_, _], _ => rfl) rfl
theorem ok__law_same_kinds {k : Nat} {rr : List D → Rs D} (m_isinstance : mg "isinstance" = none) (m_tuple : mg "tuple" = none) (m_len : mg "len" = none) (m_all : mg "all" = none) (m_zip : mg "zip" = none) (m_int : mg "int" = none) (m_bool : mg "bool" = none) (m_str : mg "str" = none) (c_self : Cal P w K mg base k "_law_same_kinds" false 2 rr) (hk : 1 ≤ k) (F : Fun K "_law_same_kinds" "_law_same_kinds" (topS 41) f fd) (hm : mg "_law_same_kinds" = some (.ref f)) : Cal P w K mg base (k + 1) "_law_same_kinds" false 2 (runF 4 (f__law_same_kinds rr)) :=
  cal_of (k := k) F sc__law_same_kinds hm (F.binds fun _ _ _ _ _ _ us hl => match us, hl with | [_, _], _ => rfl) rfl fun cdv A outer s H E C => ⟨[], (ss_cons (ss_if (st_val (se_isi (n := "tuple") ((se_var 1)).bb m_isinstance m_tuple))
      (ss_cons (ss_if (SW.t (sw_or (st_not (st_val (se_isi (n := "tuple") ((se_var 0)).bb m_isinstance m_tuple))) (sw_or1 (st_cmp (op_neA C.u64) neS ((se_blt call_len lenS m_len (sab_cons (((se_var 0)).bb) sab_nil))).bb ((se_blt call_len lenS m_len (sab_cons (((se_var 1)).bb) sab_nil))).bb (nomark _)))))
      (ss_one (ss_ret se_bl))
      ss_nil)
    (ss_one (ss_ret (se_blt (cr_all C.calm) allS m_all (sab_cons (((sm_lc [("_law_one", 2), ("_law_other", 3)] C (si_zip (se_var 0) (se_var 1) m_zip) (fun _ _ _ _ _ C => (sg_tup C.calm (sgs_cons (sg_name 2 C.nd) (sgs_cons (sg_name 3 C.nd) sgs_nil)))) (fun _ _ _ _ _ C => sifs_nil) (fun _ _ _ _ _ C => (se_call C c_self (sa_cons (se_var 2) (sa_cons (se_var 3) sa_nil)) (hj := Nat.le_refl _)))).se).bb) sab_nil)))))
      ss_nil)
    (ss_cons (ss_if (st_cmp op_isA isS ((se_var 1)).bb (se_non).bb (nomark _))
      (ss_one (ss_ret (se_cmp op_isA isS ((se_var 0)).bb (se_non).bb (nomark _))))
      ss_nil)
    (ss_cons (ss_if (st_val (se_isi (n := "int") ((se_var 1)).bb m_isinstance m_int))
      (ss_one (ss_ret (se_and (se_isi (n := "int") ((se_var 0)).bb m_isinstance m_int) (se_and (se_cmp (op_eqA C.u64) eqS ((se_isi (n := "bool") ((se_var 0)).bb m_isinstance m_bool)).bb ((se_isi (n := "bool") ((se_var 1)).bb m_isinstance m_bool)).bb (nomark _)) (se_one (se_cmp (op_eqA C.u64) eqS ((se_var 0)).bb ((se_var 1)).bb (nomark _)))))))
      ss_nil)
    (ss_one (ss_ret (se_and (se_isi (n := "str") ((se_var 0)).bb m_isinstance m_str) (se_one (se_cmp (op_eqA C.u64) eqS ((se_var 0)).bb ((se_var 1)).bb (nomark _)))))))))⟩
theorem sc__law_long : FnScope ["_law_cell", "_law_table_here", "_law_some_here", "_law_k", "_law_number", "_law_sign"] ["_law_cell"] (defScope (topS 42)) := ⟨rfl, rfl, rfl, by decide +kernel, rfl, by decide +kernel, by decide +kernel⟩
theorem ok__law_long (c__law_table : Cal P w K mg base 1 "_law_table" false 0 g__law_table) (m_range : mg "range" = none) (m_tuple : mg "tuple" = none) (F : Fun K "_law_long" "_law_long" (topS 42) f fd) (hm : mg "_law_long" = some (.ref f)) : Cal P w K mg base 2 "_law_long" false 1 g__law_long :=
  cal_of (k := 1) F sc__law_long hm (F.binds fun _ _ _ _ _ _ us hl => match us, hl with | [_], _ => rfl) rfl fun cdv A outer s H E C => ⟨[], (ss_cons (ss_set 1 (se_call0 C c__law_table) C.nd)
    (ss_cons (ss_setM 2 (sm_lst sa_nil) C.nd)
    (ss_cons (ss_for C.hp C.calm (si_range1 (se_op op_addA addS (se_int).bb ((se_op op_modN modS ((se_op op_fdivN fdivS ((se_var 0)).bb (se_int).bb)).bb (se_int).bb)).bb) m_range) (sg_name 3 C.nd)
      (ss_cons (ss_set 4 (se_op op_modN modS ((se_op op_mulA mulS ((se_op op_addA addS ((se_var 0)).bb ((se_op op_mulA mulS ((se_op op_mulA mulS (se_int).bb ((se_var 3)).bb)).bb ((se_var 3)).bb)).bb)).bb (se_int).bb)).bb (se_int).bb) C.nd)
    (ss_one (ss_app 2 (se_ix ix_seq ixS ((se_var 1)).bb ((se_op op_modN modS ((se_op op_fdivN fdivS ((se_op op_modN modS ((se_op op_mulA mulS ((se_var 4)).bb ((se_op op_addA addS ((se_var 4)).bb (se_int).bb)).bb)).bb (se_int).bb)).bb (se_int).bb)).bb (se_int).bb)).bb)))))
    (ss_cons (ss_if (st_cmp (op_eqA C.u64) eqS ((se_op op_modN modS ((se_op op_fdivN fdivS ((se_var 0)).bb (se_int).bb)).bb (se_int).bb)).bb (se_int).bb (nomark _))
      (ss_one (ss_ret (se_tup (sa_cons (se_str (y := ⟨[].toArray⟩) (by decide +kernel)) (sa_cons (se_non) (sa_cons (se_non) (sa_cons (se_tup (sa_cons (se_bl) (sa_cons (se_bty call_tuple_of tupS m_tuple (sab_cons (sb_own 2) sab_nil)) (sa_cons (se_cmp (op_eqA C.u64) eqS ((se_op op_modN modS ((se_op op_fdivN fdivS ((se_var 0)).bb (se_int).bb)).bb (se_int).bb)).bb (se_int).bb (nomark _)) sa_nil)))) (sa_cons (se_non) (sa_cons (se_non) sa_nil)))))))))
      ss_nil)
    (ss_one (SS.ahead (own' := []) (ss_ret (se_tup (sa_cons (se_str (y := ⟨[].toArray⟩) (by decide +kernel)) (sa_cons (se_non) (sa_cons (se_non) (sa_cons (se_tup (sa_cons (se_bl) (sa_cons (se_tup sa_nil) (sa_cons (se_bl) sa_nil)))) (sa_cons (se_bty call_tuple_of tupS m_tuple (sab_cons (((sm_lc [("_law_sign", 5)] C (si_seq (se_var 2)) (fun _ _ _ _ _ C => (sg_name 5 C.nd)) (fun _ _ _ _ _ C => sifs_nil) (fun _ _ _ _ _ C => (se_tup (sa_cons (se_var 5) (sa_cons (se_non) sa_nil))))).se).bb) sab_nil)) (sa_cons (se_non) sa_nil)))))))) rfl))))))⟩
theorem sc_law : FnScope ["_law_script", "_law_long_here", "_law_one", "_law_other", "_law_text"] ["_law_script"] (defScope (topS 43)) := ⟨rfl, rfl, rfl, by decide +kernel, rfl, by decide +kernel, by decide +kernel⟩
theorem ok_law (c__law_long : Cal P w K mg base 2 "_law_long" false 1 g__law_long) (c__law_cell_at : Cal P w K mg base 1 "_law_cell_at" false 2 g__law_cell_at) (c__law_same_kinds : Cal P w K mg base 7 "_law_same_kinds" false 2 g__law_same_kinds) (c_read : Cal P w K mg base 7 "read" false 1 g_read) (c__law_shown : Cal P w K mg base 5 "_law_shown" false 1 g__law_shown) (c__law_address : Cal P w K mg base 4 "_law_address" false 2 g_d_law_address) (F : Fun K "law" "law" (topS 43) f fd) : FnOk P w K mg base (L2.CX P w) 8 f fd ["_law_script"] (spF K mg false 1 g_law) :=
  fnok_of (k := 7) F sc_law rfl fun cdv A outer s H E C => ⟨[], (ss_cons (ss_set 1 (se_call C c__law_long (sa_cons (se_call C c__law_cell_at (sa_cons (se_var 0) (sa_cons (se_int) sa_nil))) sa_nil)) C.nd)
    (ss_cons (ss_if (SW.t (sw_and (st_cmp (op_eqA C.u64) eqS ((se_op op_modN modS ((se_call C c__law_cell_at (sa_cons (se_var 0) (sa_cons (se_int) sa_nil)))).bb (se_int).bb)).bb (se_int).bb (nomark _)) (sw_and1 (st_not (st_val (se_call C c__law_same_kinds (sa_cons (se_call C c_read (sa_cons (se_call C c__law_shown (sa_cons (se_var 1) sa_nil)) sa_nil)) (sa_cons (se_var 1) sa_nil))))))))
      (ss_one (ss_ret se_bl))
      ss_nil)
    (ss_cons (ss_set 2 (se_call C c__law_address (sa_cons (se_var 0) (sa_cons (se_int) sa_nil))) C.nd)
    (ss_cons (ss_set 3 (se_call C c__law_address (sa_cons (se_var 0) (sa_cons (se_int) sa_nil))) C.nd)
    (ss_cons (ss_set 4 (se_call C c__law_shown (sa_cons (se_var 2) sa_nil)) C.nd)
    (ss_cons (ss_if (SW.t (sw_or (st_not (st_val (se_call C c__law_same_kinds (sa_cons (se_call C c_read (sa_cons (se_var 4) sa_nil)) (sa_cons (se_var 2) sa_nil))))) (sw_or1 (st_not (st_val (se_call C c__law_same_kinds (sa_cons (se_call C c_read (sa_cons (se_call C c__law_shown (sa_cons (se_var 3) sa_nil)) sa_nil)) (sa_cons (se_var 3) sa_nil))))))))
      (ss_one (ss_ret se_bl))
      ss_nil)
    (ss_one (ss_ret (se_call C c__law_same_kinds (sa_cons (se_call C c_read (sa_cons (se_var 4) sa_nil)) (sa_cons (se_var 2) sa_nil)))))))))))⟩
end
end K12

set_option Elab.async false
set_option linter.all false
set_option maxRecDepth 100000
set_option maxHeartbeats 4000000
namespace K12
open PySem PySem.Spec PyProof.Rows L2 Wm Wp
theorem turn (c : Int) (S : List Nat) (k : Nat) (o4 : Option D) (hk : k ≤ 1000) (hS : S.length ≤ 1000) : ∃ s p4, s ∈ T ∧ b__law_long_1 [some (.int c), some (tx T), some (.list (S.map fun c => tx [c])), some (.int k), o4, none] = .nx [some (.int c), some (tx T), some (.list ((S ++ [s]).map fun c => tx [c])), some (.int k), p4, none] := by
  have b7 : big 7 = true := by decide
  have bk : big (k : Int) = true := by unfold big; simp; omega
  have bq : big 48271 = true := by decide
  generalize hn1 : (c + 7 * (k : Int) * k) * 48271 = n1
  obtain ⟨i0, i1⟩ := fmod_range n1 (b := 2147483647) (by decide)
  have bn : big (n1.fmod 2147483647) = true := by unfold big; simp; omega
  generalize hn2 : ((n1.fmod 2147483647 * (n1.fmod 2147483647 + 69621)).fmod 2147483629).fdiv 4 = n2
  obtain ⟨j0, j1⟩ := fmod_range n2 (b := 94) (by decide)
  obtain ⟨s, es, hs, _⟩ := atI_mem (l := T) j0 (by rw [lT]; exact j1)
  refine ⟨s, some (.int (n1.fmod 2147483647)), hs, ?_⟩
  unfold b__law_long_1
  have lt := lT
  generalize T = t at *
  simp (disch := omega) [b7, bk, bq, hn1, bn, hn2, es, if_pos]
theorem loop (c : Int) : ∀ (j : Nat) (lo : Nat) (S : List Nat) (o3 o4 : Option D), lo + j ≤ 900 → S.length + j ≤ 900 → (∀ s ∈ S, s ∈ T) →
    ∃ (S' : List Nat) (p3 p4 : Option D), (∀ s ∈ S', s ∈ T) ∧ S'.length = S.length + j ∧ forL (gNm 3) b__law_long_1 (rangeD (lo : Int) j) [some (.int c), some (tx T), some (.list (S.map fun c => tx [c])), o3, o4, none] = .nx [some (.int c), some (tx T), some (.list (S'.map fun c => tx [c])), p3, p4, none]
  | 0, lo, S, o3, o4, _, _, h => ⟨S, o3, o4, h, rfl, rfl⟩
  | j + 1, lo, S, o3, o4, hl, hs, h => by
    obtain ⟨s, q4, h1, e⟩ := turn c S lo o4 (by omega) (by omega)
    obtain ⟨S', p3, p4, g1, g2, g3⟩ := loop c j (lo + 1) (S ++ [s]) (some (.int lo)) q4 (by omega) (by simp; omega) (fun z hz => by
      rcases List.mem_append.mp hz with m | m
      · exact h z m
      · rw [List.mem_singleton.mp m]; exact h1)
    refine ⟨S', p3, p4, g1, by rw [g2]; simp; omega, ?_⟩
    rw [rangeD_cons, forL_name]
    show oLoop (b__law_long_1 [some (.int c), some (tx T), some (.list (S.map fun c => tx [c])), some (.int lo), o4, none]) _ = _
    rw [e, oLoop_nx]
    exact g3
theorem one_okN {c : Nat} (h : c ∈ T) : okN [c] := ⟨by simpa using h, by simp, by simp⟩
theorem long_ok (c : Int) : ∃ a : Adr, g__law_long [.int c] = .ok a.d ∧ gdA a ∧ szA 1 300 1 300 1 a := by
  obtain ⟨i0, i1⟩ := fmod_range (c.fdiv 16) (b := 241) (by decide)
  obtain ⟨S, p3, p4, h1, h2, h3⟩ := loop c (60 + (c.fdiv 16).fmod 241).toNat 0 [] none none (by omega) (by simp; omega) (by simp)
  simp only [List.map_nil, List.length_nil] at h2 h3
  have hs : small62 (60 + (c.fdiv 16).fmod 241) = true := by unfold small62; simp; omega
  have head : g__law_long [.int c] = runK (t__law_long_2 [some (.int c), some (tx T), some (.list (S.map fun c => tx [c])), p3, p4, none]) := by
    unfold g__law_long f__law_long t__law_long_4 t__law_long_3
    rw [runF_eq]
    have tb := table_ok
    generalize T = t at *
    simp at h3
    simp [tb, rgK, hs, h3]
  rw [head]
  have emT : (S.map fun c => tx [c]) = (S.map fun c => [c]).map tx := by rw [List.map_map]; rfl
  have lS : S.length ≤ 300 := by omega
  have zl : (S.map fun c => tx [c]).length ≤ 16777216 := by simp; omega
  unfold t__law_long_2
  by_cases h8 : (c.fdiv 8).fmod 2 = 0
  · refine ⟨⟨[], none, none, ⟨true, S.map fun c => [c], decide ((c.fdiv 4000).fmod 2 = 0)⟩, none, none⟩, ?_, ⟨.inl rfl, by simp, by simp, ⟨?_, by simp; omega⟩, by simp, trivial, ⟨fun _ => rfl, ?_⟩⟩, ⟨?_, by simp; omega, by simp, by simp⟩⟩
    · unfold Adr.d Way.d
      rw [emT] at zl ⊢
      generalize (S.map fun c => [c]).map tx = z at *
      simp [h8, zl, oT, oI, qD]
    · intro l hl
      obtain ⟨s, hs, rfl⟩ := List.mem_map.mp hl
      exact one_okN (h1 s hs)
    · intro h
      have : S = [] := by simpa using h
      rw [this] at h2
      simp at h2
      omega
    · intro l hl
      obtain ⟨s, hs, rfl⟩ := List.mem_map.mp hl
      simp
  · have elc : lcL (gNm 5) cYes (eTup (aCons (eVar 5) (aCons (eC .none) aNil))) [some (.int c), some (tx T), some (.list (S.map fun c => tx [c])), p3, p4, none] (S.map fun c => tx [c]) = .ok ((S.map fun c => (([c], none) : Tx × Option Tx)).map pD) := by
      rw [List.map_map]
      apply lcL_map
      intro s hs
      exact ⟨_, rfl, rfl, by simp [pD, oT]⟩
    refine ⟨⟨[], none, none, ⟨false, [], false⟩, some (S.map fun c => ([c], none)), none⟩, ?_, ⟨.inl rfl, by simp, by simp, ⟨by simp, by simp⟩, ?_, trivial, ⟨?_, fun _ => rfl⟩⟩, ⟨by simp, by simp, ?_, by simp⟩⟩
    · unfold Adr.d Way.d
      have zl2 : ((S.map fun c => (([c], none) : Tx × Option Tx)).map pD).length ≤ 16777216 := by simp; omega
      simp only [qD]
      generalize (S.map fun c => (([c], none) : Tx × Option Tx)).map pD = y at *
      generalize (S.map fun c => tx [c]) = z at *
      generalize T = t at *
      simp [h8, zl, oT, oI, elc, zl2]
    · intro l hl
      cases hl
      refine ⟨fun p hp => ?_, by simp; omega⟩
      obtain ⟨s, hs, rfl⟩ := List.mem_map.mp hp
      exact ⟨one_okN (h1 s hs), trivial⟩
    · intro h
      rcases h with h | h <;> simp at h
    · intro l hl
      cases hl
      refine ⟨fun p hp => ?_, by simp; omega⟩
      obtain ⟨s, hs, rfl⟩ := List.mem_map.mp hp
      exact ⟨by simp, fun v hv => by cases hv⟩
theorem good (a : Adr) (h : gdA a) {n1 k1 n2 k2 n3 : Nat} (s : szA n1 k1 n2 k2 n3 a) (hb : szB n1 k1 n2 k2 n3 ≤ 900000) : g_read [tx (shL a)] = .ok a.d ∧ g__law_shown [a.d] = .ok (tx (shL a)) ∧ g__law_same_kinds [a.d, a.d] = .ok (.bool true) :=
  ⟨read_ok (shL_Wrt h) (Nat.le_trans ((shL_Wrt h).len s) hb), lshown_ok a h, skind_ok a (by have := h.w.2; omega) (fun l hl => by have := (h.q l hl).2; omega)⟩
theorem hlaw (ns : List Int) (hn : ns.length ≤ 63) : g_law [.list (ns.map PyData.int)] = .ok (.bool true) := by
  obtain ⟨a, ha, ea⟩ := daddr_ok ns 0
  obtain ⟨b, hb, eb⟩ := daddr_ok ns 9
  have ec := cell_ok ns 18
  obtain ⟨x, ex, hx, sx⟩ := long_ok (cell ns 18)
  obtain ⟨a1, a2, a3⟩ := good a ha.g ha.sz (by decide)
  obtain ⟨b1, b2, b3⟩ := good b hb.g hb.sz (by decide)
  obtain ⟨x1, x2, x3⟩ := good x hx sx (by decide)
  unfold g_law f_law t_law_5 t_law_4 t_law_3 t_law_2 t_law_1
  rw [runF_eq]
  generalize a.d = da at *
  generalize b.d = db at *
  generalize x.d = dx at *
  simp at ea eb ec
  by_cases h : (cell ns 18).fmod 8 = 5
  · simp [ec, ex, h, x1, x2, x3, ea, eb, a1, a2, a3, b1, b2, b3]
  · simp [ec, ex, h, ea, eb, a1, a2, a3, b1, b2, b3]
end K12

set_option Elab.async false
set_option linter.all false
set_option maxRecDepth 100000
set_option maxHeartbeats 4000000
namespace K12
open PySem PySem.Spec PyProof.Rows L2 Wm Wp
theorem all_mk {l : PySem.W.OpenLaw} {w : World} {K : PySem.W.Frag} {h : Heap} {mg : Str → Option Value} {fa : Addr} (X : K.In h) (G : h.Ns mainGlobals mg) (hfa : mg "law" = some (.ref fa))
    {f0 : Addr} {od0 an0 : Option Addr} {sl0 : Array (Option Value)} {oc0 kV0 dc0 pm0 cd0 ct0 : Value}
    {f1 : Addr} {od1 an1 : Option Addr} {sl1 : Array (Option Value)} {oc1 kV1 dc1 pm1 cd1 ct1 : Value}
    {f2 : Addr} {od2 an2 : Option Addr} {sl2 : Array (Option Value)} {oc2 kV2 dc2 pm2 cd2 ct2 : Value}
    {f3 : Addr} {od3 an3 : Option Addr} {sl3 : Array (Option Value)} {oc3 kV3 dc3 pm3 cd3 ct3 : Value}
    {f4 : Addr} {od4 an4 : Option Addr} {sl4 : Array (Option Value)} {oc4 kV4 dc4 pm4 cd4 ct4 : Value}
    {f5 : Addr} {od5 an5 : Option Addr} {sl5 : Array (Option Value)} {oc5 kV5 dc5 pm5 cd5 ct5 : Value}
    {f6 : Addr} {od6 an6 : Option Addr} {sl6 : Array (Option Value)} {oc6 kV6 dc6 pm6 cd6 ct6 : Value}
    {f7 : Addr} {od7 an7 : Option Addr} {sl7 : Array (Option Value)} {oc7 kV7 dc7 pm7 cd7 ct7 : Value}
    {f8 : Addr} {od8 an8 : Option Addr} {sl8 : Array (Option Value)} {oc8 kV8 dc8 pm8 cd8 ct8 : Value}
    {f9 : Addr} {od9 an9 : Option Addr} {sl9 : Array (Option Value)} {oc9 kV9 dc9 pm9 cd9 ct9 : Value}
    {f10 : Addr} {od10 an10 : Option Addr} {sl10 : Array (Option Value)} {oc10 kV10 dc10 pm10 cd10 ct10 : Value}
    {f11 : Addr} {od11 an11 : Option Addr} {sl11 : Array (Option Value)} {oc11 kV11 dc11 pm11 cd11 ct11 : Value}
    {f12 : Addr} {od12 an12 : Option Addr} {sl12 : Array (Option Value)} {oc12 kV12 dc12 pm12 cd12 ct12 : Value}
    {f13 : Addr} {od13 an13 : Option Addr} {sl13 : Array (Option Value)} {oc13 kV13 dc13 pm13 cd13 ct13 : Value}
    {f14 : Addr} {od14 an14 : Option Addr} {sl14 : Array (Option Value)} {oc14 kV14 dc14 pm14 cd14 ct14 : Value}
    {f15 : Addr} {od15 an15 : Option Addr} {sl15 : Array (Option Value)} {oc15 kV15 dc15 pm15 cd15 ct15 : Value}
    {f16 : Addr} {od16 an16 : Option Addr} {sl16 : Array (Option Value)} {oc16 kV16 dc16 pm16 cd16 ct16 : Value}
    {f17 : Addr} {od17 an17 : Option Addr} {sl17 : Array (Option Value)} {oc17 kV17 dc17 pm17 cd17 ct17 : Value}
    {f18 : Addr} {od18 an18 : Option Addr} {sl18 : Array (Option Value)} {oc18 kV18 dc18 pm18 cd18 ct18 : Value}
    {f19 : Addr} {od19 an19 : Option Addr} {sl19 : Array (Option Value)} {oc19 kV19 dc19 pm19 cd19 ct19 : Value}
    {f20 : Addr} {od20 an20 : Option Addr} {sl20 : Array (Option Value)} {oc20 kV20 dc20 pm20 cd20 ct20 : Value}
    {f21 : Addr} {od21 an21 : Option Addr} {sl21 : Array (Option Value)} {oc21 kV21 dc21 pm21 cd21 ct21 : Value}
    {f22 : Addr} {od22 an22 : Option Addr} {sl22 : Array (Option Value)} {oc22 kV22 dc22 pm22 cd22 ct22 : Value}
    {f23 : Addr} {od23 an23 : Option Addr} {sl23 : Array (Option Value)} {oc23 kV23 dc23 pm23 cd23 ct23 : Value}
    {f24 : Addr} {od24 an24 : Option Addr} {sl24 : Array (Option Value)} {oc24 kV24 dc24 pm24 cd24 ct24 : Value}
    {f25 : Addr} {od25 an25 : Option Addr} {sl25 : Array (Option Value)} {oc25 kV25 dc25 pm25 cd25 ct25 : Value}
    {f26 : Addr} {od26 an26 : Option Addr} {sl26 : Array (Option Value)} {oc26 kV26 dc26 pm26 cd26 ct26 : Value}
    {f27 : Addr} {od27 an27 : Option Addr} {sl27 : Array (Option Value)} {oc27 kV27 dc27 pm27 cd27 ct27 : Value}
    {f28 : Addr} {od28 an28 : Option Addr} {sl28 : Array (Option Value)} {oc28 kV28 dc28 pm28 cd28 ct28 : Value}
    {f29 : Addr} {od29 an29 : Option Addr} {sl29 : Array (Option Value)} {oc29 kV29 dc29 pm29 cd29 ct29 : Value}
    {f30 : Addr} {od30 an30 : Option Addr} {sl30 : Array (Option Value)} {oc30 kV30 dc30 pm30 cd30 ct30 : Value}
    {f31 : Addr} {od31 an31 : Option Addr} {sl31 : Array (Option Value)} {oc31 kV31 dc31 pm31 cd31 ct31 : Value}
    {aReader : Addr}
    {t_SIXTEEN : Tok}
    {t_LEFT_OUT : Tok}
    {t_SIGNS : Tok}
    {t_PLAIN : Tok}
    {t_LETTERS : Tok}
    {t_GREAT : Tok}
    {t_FIGURES : Tok}
    {t_MOST_DOOR : Tok}
    {t_MOST_IN_HOUSE : Tok}
    {t_IN_STEPS : Tok}
    {t_IN_PAIRS : Tok}
    (a0 : PySem.W.nsIn K mainGlobals "sign_of" = some (some (.ref f0)))
    (l0 : K.lookup f0 = some ⟨oc0, od0, .func (PySem.W.fnOf "sign_of" "sign_of" (defArgs (topS 11)) (defBody (topS 11)) (defScope (topS 11)) .none kV0 dc0 pm0 an0 cd0 ct0), sl0⟩)
    (c0 : PySem.W.codeIn K cd0 "sign_of" = true) (k0 : PySem.W.keepIn K (.ref f0) = true)
    (a1 : PySem.W.findIn K (.ref aReader) "__init__" = some (some (.ref f1))) (i1 : PySem.W.isFn K (.ref f1) = true)
    (l1 : K.lookup f1 = some ⟨oc1, od1, .func (PySem.W.fnOf "__init__" "Reader.__init__" (defArgs (inClass (topS 17) 0)) (defBody (inClass (topS 17) 0)) (defScope (inClass (topS 17) 0)) .none kV1 dc1 pm1 an1 cd1 ct1), sl1⟩)
    (c1 : PySem.W.codeIn K cd1 "Reader.__init__" = true) (k1 : PySem.W.keepIn K (.ref f1) = true)
    (a2 : PySem.W.findIn K (.ref aReader) "sees" = some (some (.ref f2))) (i2 : PySem.W.isFn K (.ref f2) = true)
    (l2 : K.lookup f2 = some ⟨oc2, od2, .func (PySem.W.fnOf "sees" "Reader.sees" (defArgs (inClass (topS 17) 1)) (defBody (inClass (topS 17) 1)) (defScope (inClass (topS 17) 1)) .none kV2 dc2 pm2 an2 cd2 ct2), sl2⟩)
    (c2 : PySem.W.codeIn K cd2 "Reader.sees" = true) (k2 : PySem.W.keepIn K (.ref f2) = true)
    (a3 : PySem.W.findIn K (.ref aReader) "at_end" = some (some (.ref f3))) (i3 : PySem.W.isFn K (.ref f3) = true)
    (l3 : K.lookup f3 = some ⟨oc3, od3, .func (PySem.W.fnOf "at_end" "Reader.at_end" (defArgs (inClass (topS 17) 2)) (defBody (inClass (topS 17) 2)) (defScope (inClass (topS 17) 2)) .none kV3 dc3 pm3 an3 cd3 ct3), sl3⟩)
    (c3 : PySem.W.codeIn K cd3 "Reader.at_end" = true) (k3 : PySem.W.keepIn K (.ref f3) = true)
    (a4 : PySem.W.findIn K (.ref aReader) "pair" = some (some (.ref f4))) (i4 : PySem.W.isFn K (.ref f4) = true)
    (l4 : K.lookup f4 = some ⟨oc4, od4, .func (PySem.W.fnOf "pair" "Reader.pair" (defArgs (inClass (topS 17) 3)) (defBody (inClass (topS 17) 3)) (defScope (inClass (topS 17) 3)) .none kV4 dc4 pm4 an4 cd4 ct4), sl4⟩)
    (c4 : PySem.W.codeIn K cd4 "Reader.pair" = true) (k4 : PySem.W.keepIn K (.ref f4) = true)
    (a5 : PySem.W.findIn K (.ref aReader) "sign" = some (some (.ref f5))) (i5 : PySem.W.isFn K (.ref f5) = true)
    (l5 : K.lookup f5 = some ⟨oc5, od5, .func (PySem.W.fnOf "sign" "Reader.sign" (defArgs (inClass (topS 17) 4)) (defBody (inClass (topS 17) 4)) (defScope (inClass (topS 17) 4)) .none kV5 dc5 pm5 an5 cd5 ct5), sl5⟩)
    (c5 : PySem.W.codeIn K cd5 "Reader.sign" = true) (k5 : PySem.W.keepIn K (.ref f5) = true)
    (a6 : PySem.W.findIn K (.ref aReader) "part" = some (some (.ref f6))) (i6 : PySem.W.isFn K (.ref f6) = true)
    (l6 : K.lookup f6 = some ⟨oc6, od6, .func (PySem.W.fnOf "part" "Reader.part" (defArgs (inClass (topS 17) 5)) (defBody (inClass (topS 17) 5)) (defScope (inClass (topS 17) 5)) .none kV6 dc6 pm6 an6 cd6 ct6), sl6⟩)
    (c6 : PySem.W.codeIn K cd6 "Reader.part" = true) (k6 : PySem.W.keepIn K (.ref f6) = true)
    (a7 : PySem.W.nsIn K mainGlobals "read_scheme" = some (some (.ref f7)))
    (l7 : K.lookup f7 = some ⟨oc7, od7, .func (PySem.W.fnOf "read_scheme" "read_scheme" (defArgs (topS 18)) (defBody (topS 18)) (defScope (topS 18)) .none kV7 dc7 pm7 an7 cd7 ct7), sl7⟩)
    (c7 : PySem.W.codeIn K cd7 "read_scheme" = true) (k7 : PySem.W.keepIn K (.ref f7) = true)
    (a8 : PySem.W.nsIn K mainGlobals "read_door" = some (some (.ref f8)))
    (l8 : K.lookup f8 = some ⟨oc8, od8, .func (PySem.W.fnOf "read_door" "read_door" (defArgs (topS 19)) (defBody (topS 19)) (defScope (topS 19)) .none kV8 dc8 pm8 an8 cd8 ct8), sl8⟩)
    (c8 : PySem.W.codeIn K cd8 "read_door" = true) (k8 : PySem.W.keepIn K (.ref f8) = true)
    (a9 : PySem.W.nsIn K mainGlobals "read_house" = some (some (.ref f9)))
    (l9 : K.lookup f9 = some ⟨oc9, od9, .func (PySem.W.fnOf "read_house" "read_house" (defArgs (topS 20)) (defBody (topS 20)) (defScope (topS 20)) .none kV9 dc9 pm9 an9 cd9 ct9), sl9⟩)
    (c9 : PySem.W.codeIn K cd9 "read_house" = true) (k9 : PySem.W.keepIn K (.ref f9) = true)
    (a10 : PySem.W.nsIn K mainGlobals "read_steps" = some (some (.ref f10)))
    (l10 : K.lookup f10 = some ⟨oc10, od10, .func (PySem.W.fnOf "read_steps" "read_steps" (defArgs (topS 21)) (defBody (topS 21)) (defScope (topS 21)) .none kV10 dc10 pm10 an10 cd10 ct10), sl10⟩)
    (c10 : PySem.W.codeIn K cd10 "read_steps" = true) (k10 : PySem.W.keepIn K (.ref f10) = true)
    (a11 : PySem.W.nsIn K mainGlobals "read_way" = some (some (.ref f11)))
    (l11 : K.lookup f11 = some ⟨oc11, od11, .func (PySem.W.fnOf "read_way" "read_way" (defArgs (topS 22)) (defBody (topS 22)) (defScope (topS 22)) .none kV11 dc11 pm11 an11 cd11 ct11), sl11⟩)
    (c11 : PySem.W.codeIn K cd11 "read_way" = true) (k11 : PySem.W.keepIn K (.ref f11) = true)
    (a12 : PySem.W.nsIn K mainGlobals "read_question" = some (some (.ref f12)))
    (l12 : K.lookup f12 = some ⟨oc12, od12, .func (PySem.W.fnOf "read_question" "read_question" (defArgs (topS 23)) (defBody (topS 23)) (defScope (topS 23)) .none kV12 dc12 pm12 an12 cd12 ct12), sl12⟩)
    (c12 : PySem.W.codeIn K cd12 "read_question" = true) (k12 : PySem.W.keepIn K (.ref f12) = true)
    (a13 : PySem.W.nsIn K mainGlobals "read_mark" = some (some (.ref f13)))
    (l13 : K.lookup f13 = some ⟨oc13, od13, .func (PySem.W.fnOf "read_mark" "read_mark" (defArgs (topS 24)) (defBody (topS 24)) (defScope (topS 24)) .none kV13 dc13 pm13 an13 cd13 ct13), sl13⟩)
    (c13 : PySem.W.codeIn K cd13 "read_mark" = true) (k13 : PySem.W.keepIn K (.ref f13) = true)
    (a14 : PySem.W.nsIn K mainGlobals "read" = some (some (.ref f14)))
    (l14 : K.lookup f14 = some ⟨oc14, od14, .func (PySem.W.fnOf "read" "read" (defArgs (topS 25)) (defBody (topS 25)) (defScope (topS 25)) .none kV14 dc14 pm14 an14 cd14 ct14), sl14⟩)
    (c14 : PySem.W.codeIn K cd14 "read" = true) (k14 : PySem.W.keepIn K (.ref f14) = true)
    (a15 : PySem.W.nsIn K mainGlobals "_law_cell_at" = some (some (.ref f15)))
    (l15 : K.lookup f15 = some ⟨oc15, od15, .func (PySem.W.fnOf "_law_cell_at" "_law_cell_at" (defArgs (topS 27)) (defBody (topS 27)) (defScope (topS 27)) .none kV15 dc15 pm15 an15 cd15 ct15), sl15⟩)
    (c15 : PySem.W.codeIn K cd15 "_law_cell_at" = true) (k15 : PySem.W.keepIn K (.ref f15) = true)
    (a16 : PySem.W.nsIn K mainGlobals "_law_table" = some (some (.ref f16)))
    (l16 : K.lookup f16 = some ⟨oc16, od16, .func (PySem.W.fnOf "_law_table" "_law_table" (defArgs (topS 28)) (defBody (topS 28)) (defScope (topS 28)) .none kV16 dc16 pm16 an16 cd16 ct16), sl16⟩)
    (c16 : PySem.W.codeIn K cd16 "_law_table" = true) (k16 : PySem.W.keepIn K (.ref f16) = true)
    (a17 : PySem.W.nsIn K mainGlobals "_law_hex" = some (some (.ref f17)))
    (l17 : K.lookup f17 = some ⟨oc17, od17, .func (PySem.W.fnOf "_law_hex" "_law_hex" (defArgs (topS 29)) (defBody (topS 29)) (defScope (topS 29)) .none kV17 dc17 pm17 an17 cd17 ct17), sl17⟩)
    (c17 : PySem.W.codeIn K cd17 "_law_hex" = true) (k17 : PySem.W.keepIn K (.ref f17) = true)
    (a18 : PySem.W.nsIn K mainGlobals "_law_plain" = some (some (.ref f18)))
    (l18 : K.lookup f18 = some ⟨oc18, od18, .func (PySem.W.fnOf "_law_plain" "_law_plain" (defArgs (topS 30)) (defBody (topS 30)) (defScope (topS 30)) .none kV18 dc18 pm18 an18 cd18 ct18), sl18⟩)
    (c18 : PySem.W.codeIn K cd18 "_law_plain" = true) (k18 : PySem.W.keepIn K (.ref f18) = true)
    (a19 : PySem.W.nsIn K mainGlobals "_law_deck" = some (some (.ref f19)))
    (l19 : K.lookup f19 = some ⟨oc19, od19, .func (PySem.W.fnOf "_law_deck" "_law_deck" (defArgs (topS 31)) (defBody (topS 31)) (defScope (topS 31)) .none kV19 dc19 pm19 an19 cd19 ct19), sl19⟩)
    (c19 : PySem.W.codeIn K cd19 "_law_deck" = true) (k19 : PySem.W.keepIn K (.ref f19) = true)
    (a20 : PySem.W.nsIn K mainGlobals "_law_draw" = some (some (.ref f20)))
    (l20 : K.lookup f20 = some ⟨oc20, od20, .func (PySem.W.fnOf "_law_draw" "_law_draw" (defArgs (topS 32)) (defBody (topS 32)) (defScope (topS 32)) .none kV20 dc20 pm20 an20 cd20 ct20), sl20⟩)
    (c20 : PySem.W.codeIn K cd20 "_law_draw" = true) (k20 : PySem.W.keepIn K (.ref f20) = true)
    (a21 : PySem.W.nsIn K mainGlobals "_law_some" = some (some (.ref f21)))
    (l21 : K.lookup f21 = some ⟨oc21, od21, .func (PySem.W.fnOf "_law_some" "_law_some" (defArgs (topS 33)) (defBody (topS 33)) (defScope (topS 33)) .none kV21 dc21 pm21 an21 cd21 ct21), sl21⟩)
    (c21 : PySem.W.codeIn K cd21 "_law_some" = true) (k21 : PySem.W.keepIn K (.ref f21) = true)
    (a22 : PySem.W.nsIn K mainGlobals "_law_scheme" = some (some (.ref f22)))
    (l22 : K.lookup f22 = some ⟨oc22, od22, .func (PySem.W.fnOf "_law_scheme" "_law_scheme" (defArgs (topS 34)) (defBody (topS 34)) (defScope (topS 34)) .none kV22 dc22 pm22 an22 cd22 ct22), sl22⟩)
    (c22 : PySem.W.codeIn K cd22 "_law_scheme" = true) (k22 : PySem.W.keepIn K (.ref f22) = true)
    (a23 : PySem.W.nsIn K mainGlobals "_law_steps" = some (some (.ref f23)))
    (l23 : K.lookup f23 = some ⟨oc23, od23, .func (PySem.W.fnOf "_law_steps" "_law_steps" (defArgs (topS 35)) (defBody (topS 35)) (defScope (topS 35)) .none kV23 dc23 pm23 an23 cd23 ct23), sl23⟩)
    (c23 : PySem.W.codeIn K cd23 "_law_steps" = true) (k23 : PySem.W.keepIn K (.ref f23) = true)
    (a24 : PySem.W.nsIn K mainGlobals "_law_question" = some (some (.ref f24)))
    (l24 : K.lookup f24 = some ⟨oc24, od24, .func (PySem.W.fnOf "_law_question" "_law_question" (defArgs (topS 36)) (defBody (topS 36)) (defScope (topS 36)) .none kV24 dc24 pm24 an24 cd24 ct24), sl24⟩)
    (c24 : PySem.W.codeIn K cd24 "_law_question" = true) (k24 : PySem.W.keepIn K (.ref f24) = true)
    (a25 : PySem.W.nsIn K mainGlobals "_law_address" = some (some (.ref f25)))
    (l25 : K.lookup f25 = some ⟨oc25, od25, .func (PySem.W.fnOf "_law_address" "_law_address" (defArgs (topS 37)) (defBody (topS 37)) (defScope (topS 37)) .none kV25 dc25 pm25 an25 cd25 ct25), sl25⟩)
    (c25 : PySem.W.codeIn K cd25 "_law_address" = true) (k25 : PySem.W.keepIn K (.ref f25) = true)
    (a26 : PySem.W.nsIn K mainGlobals "_law_written" = some (some (.ref f26)))
    (l26 : K.lookup f26 = some ⟨oc26, od26, .func (PySem.W.fnOf "_law_written" "_law_written" (defArgs (topS 38)) (defBody (topS 38)) (defScope (topS 38)) .none kV26 dc26 pm26 an26 cd26 ct26), sl26⟩)
    (c26 : PySem.W.codeIn K cd26 "_law_written" = true) (k26 : PySem.W.keepIn K (.ref f26) = true)
    (a27 : PySem.W.nsIn K mainGlobals "_law_pair_shown" = some (some (.ref f27)))
    (l27 : K.lookup f27 = some ⟨oc27, od27, .func (PySem.W.fnOf "_law_pair_shown" "_law_pair_shown" (defArgs (topS 39)) (defBody (topS 39)) (defScope (topS 39)) .none kV27 dc27 pm27 an27 cd27 ct27), sl27⟩)
    (c27 : PySem.W.codeIn K cd27 "_law_pair_shown" = true) (k27 : PySem.W.keepIn K (.ref f27) = true)
    (a28 : PySem.W.nsIn K mainGlobals "_law_shown" = some (some (.ref f28)))
    (l28 : K.lookup f28 = some ⟨oc28, od28, .func (PySem.W.fnOf "_law_shown" "_law_shown" (defArgs (topS 40)) (defBody (topS 40)) (defScope (topS 40)) .none kV28 dc28 pm28 an28 cd28 ct28), sl28⟩)
    (c28 : PySem.W.codeIn K cd28 "_law_shown" = true) (k28 : PySem.W.keepIn K (.ref f28) = true)
    (a29 : PySem.W.nsIn K mainGlobals "_law_same_kinds" = some (some (.ref f29)))
    (l29 : K.lookup f29 = some ⟨oc29, od29, .func (PySem.W.fnOf "_law_same_kinds" "_law_same_kinds" (defArgs (topS 41)) (defBody (topS 41)) (defScope (topS 41)) .none kV29 dc29 pm29 an29 cd29 ct29), sl29⟩)
    (c29 : PySem.W.codeIn K cd29 "_law_same_kinds" = true) (k29 : PySem.W.keepIn K (.ref f29) = true)
    (a30 : PySem.W.nsIn K mainGlobals "_law_long" = some (some (.ref f30)))
    (l30 : K.lookup f30 = some ⟨oc30, od30, .func (PySem.W.fnOf "_law_long" "_law_long" (defArgs (topS 42)) (defBody (topS 42)) (defScope (topS 42)) .none kV30 dc30 pm30 an30 cd30 ct30), sl30⟩)
    (c30 : PySem.W.codeIn K cd30 "_law_long" = true) (k30 : PySem.W.keepIn K (.ref f30) = true)
    (a31 : PySem.W.nsIn K mainGlobals "law" = some (some (.ref f31)))
    (l31 : K.lookup f31 = some ⟨oc31, od31, .func (PySem.W.fnOf "law" "law" (defArgs (topS 43)) (defBody (topS 43)) (defScope (topS 43)) .none kV31 dc31 pm31 an31 cd31 ct31), sl31⟩)
    (c31 : PySem.W.codeIn K cd31 "law" = true) (k31 : PySem.W.keepIn K (.ref f31) = true)
    (nc_Reader : PySem.W.nsIn K mainGlobals "Reader" = some (some (.ref aReader)))
    (pg_Reader : PySem.W.plainGet K aReader Str.empty = true)
    (hd_Reader : PySem.W.hasDictIn K aReader = true)
    (po_Reader : PySem.W.plainOver K aReader = true)
    (sa_Reader : PySem.W.findIn K (.ref aReader) "__setattr__" = some (some (.builtin "object.__setattr__")))
    (mk_Reader : PySem.W.makesIn K aReader = true)
    (kc_Reader : PySem.W.keepIn K (.ref aReader) = true)
    (n0_Reader : PySem.W.findIn K (.ref aReader) "text" = some none)
    (n1_Reader : PySem.W.findIn K (.ref aReader) "here" = some none)
    (b_SIXTEEN : PySem.W.nsIn K mainGlobals "SIXTEEN" = some (some (.str ⟨[48, 49, 50, 51, 52, 53, 54, 55, 56, 57, 97, 98, 99, 100, 101, 102].toArray⟩ t_SIXTEEN)))
    (b_LEFT_OUT : PySem.W.nsIn K mainGlobals "LEFT_OUT" = some (some (.int 37 t_LEFT_OUT)))
    (b_SIGNS : PySem.W.nsIn K mainGlobals "SIGNS" = some (some (.str ⟨[32, 33, 34, 35, 36, 38, 39, 40, 41, 42, 43, 44, 45, 46, 47, 48, 49, 50, 51, 52, 53, 54, 55, 56, 57, 58, 59, 60, 61, 62, 63, 64, 65, 66, 67, 68, 69, 70, 71, 72, 73, 74, 75, 76, 77, 78, 79, 80, 81, 82, 83, 84, 85, 86, 87, 88, 89, 90, 91, 92, 93, 94, 95, 96, 97, 98, 99, 100, 101, 102, 103, 104, 105, 106, 107, 108, 109, 110, 111, 112, 113, 114, 115, 116, 117, 118, 119, 120, 121, 122, 123, 124, 125, 126].toArray⟩ t_SIGNS)))
    (b_PLAIN : PySem.W.nsIn K mainGlobals "PLAIN" = some (some (.str ⟨[97, 98, 99, 100, 101, 102, 103, 104, 105, 106, 107, 108, 109, 110, 111, 112, 113, 114, 115, 116, 117, 118, 119, 120, 121, 122, 65, 66, 67, 68, 69, 70, 71, 72, 73, 74, 75, 76, 77, 78, 79, 80, 81, 82, 83, 84, 85, 86, 87, 88, 89, 90, 48, 49, 50, 51, 52, 53, 54, 55, 56, 57, 45, 95, 46].toArray⟩ t_PLAIN)))
    (b_LETTERS : PySem.W.nsIn K mainGlobals "LETTERS" = some (some (.str ⟨[97, 98, 99, 100, 101, 102, 103, 104, 105, 106, 107, 108, 109, 110, 111, 112, 113, 114, 115, 116, 117, 118, 119, 120, 121, 122].toArray⟩ t_LETTERS)))
    (b_GREAT : PySem.W.nsIn K mainGlobals "GREAT" = some (some (.str ⟨[65, 66, 67, 68, 69, 70, 71, 72, 73, 74, 75, 76, 77, 78, 79, 80, 81, 82, 83, 84, 85, 86, 87, 88, 89, 90].toArray⟩ t_GREAT)))
    (b_FIGURES : PySem.W.nsIn K mainGlobals "FIGURES" = some (some (.str ⟨[48, 49, 50, 51, 52, 53, 54, 55, 56, 57].toArray⟩ t_FIGURES)))
    (b_MOST_DOOR : PySem.W.nsIn K mainGlobals "MOST_DOOR" = some (some (.int 65535 t_MOST_DOOR)))
    (b_MOST_IN_HOUSE : PySem.W.nsIn K mainGlobals "MOST_IN_HOUSE" = some (some (.int 60 t_MOST_IN_HOUSE)))
    (b_IN_STEPS : PySem.W.nsIn K mainGlobals "IN_STEPS" = some (some (.str ⟨[33, 36, 39, 40, 41, 42, 44, 59, 64, 38, 61, 43].toArray⟩ t_IN_STEPS)))
    (b_IN_PAIRS : PySem.W.nsIn K mainGlobals "IN_PAIRS" = some (some (.str ⟨[33, 36, 39, 40, 41, 42, 44, 59, 64, 43, 47, 63, 58].toArray⟩ t_IN_PAIRS)))
    (z_len : PySem.W.nsIn K mainGlobals "len" = some none)
    (z_min : PySem.W.nsIn K mainGlobals "min" = some none)
    (z_int : PySem.W.nsIn K mainGlobals "int" = some none)
    (z_tuple : PySem.W.nsIn K mainGlobals "tuple" = some none)
    (z_isinstance : PySem.W.nsIn K mainGlobals "isinstance" = some none)
    (z_str : PySem.W.nsIn K mainGlobals "str" = some none)
    (z_range : PySem.W.nsIn K mainGlobals "range" = some none)
    (z_all : PySem.W.nsIn K mainGlobals "all" = some none)
    (z_zip : PySem.W.nsIn K mainGlobals "zip" = some none)
    (z_bool : PySem.W.nsIn K mainGlobals "bool" = some none) :
    ∃ fd : FuncData, (∀ (s : Shared) (v : Value), BindsTo s fd ⟨[v], []⟩ [("_law_script", v)]) ∧ ∀ base : Heap, K.In base → base.Ns mainGlobals mg → FnOk l.prog w K mg base (L2.CX l.prog w) 8 fa fd ["_law_script"] (spL K) := by
  have e := hfa.symm.trans (PySem.W.mg_of X G a31)
  cases e
  refine ⟨PySem.W.fnOf "law" "law" (defArgs (topS 43)) (defBody (topS 43)) (defScope (topS 43)) .none kV31 dc31 pm31 an31 cd31 ct31, fun s v => .of_eq rfl, fun base _ _ => ?_⟩
  have T_Reader : ClsT K mg 1 aReader := ⟨nc_Reader, PySem.W.mg_of X G nc_Reader, ⟨pg_Reader, hd_Reader, po_Reader, sa_Reader⟩, List.forall_mem_cons.mpr ⟨n0_Reader, List.forall_mem_cons.mpr ⟨n1_Reader, (fun _ z => nomatch z)⟩⟩⟩
  have g_SIXTEEN : Glb K mg "SIXTEEN" k_SIXTEEN := .str (PySem.W.mg_of X G b_SIXTEEN)
  have g_LEFT_OUT : Glb K mg "LEFT_OUT" k_LEFT_OUT := .int (PySem.W.mg_of X G b_LEFT_OUT)
  have g_SIGNS : Glb K mg "SIGNS" k_SIGNS := .str (PySem.W.mg_of X G b_SIGNS)
  have g_PLAIN : Glb K mg "PLAIN" k_PLAIN := .str (PySem.W.mg_of X G b_PLAIN)
  have g_LETTERS : Glb K mg "LETTERS" k_LETTERS := .str (PySem.W.mg_of X G b_LETTERS)
  have g_GREAT : Glb K mg "GREAT" k_GREAT := .str (PySem.W.mg_of X G b_GREAT)
  have g_FIGURES : Glb K mg "FIGURES" k_FIGURES := .str (PySem.W.mg_of X G b_FIGURES)
  have g_MOST_DOOR : Glb K mg "MOST_DOOR" k_MOST_DOOR := .int (PySem.W.mg_of X G b_MOST_DOOR)
  have g_MOST_IN_HOUSE : Glb K mg "MOST_IN_HOUSE" k_MOST_IN_HOUSE := .int (PySem.W.mg_of X G b_MOST_IN_HOUSE)
  have g_IN_STEPS : Glb K mg "IN_STEPS" k_IN_STEPS := .str (PySem.W.mg_of X G b_IN_STEPS)
  have g_IN_PAIRS : Glb K mg "IN_PAIRS" k_IN_PAIRS := .str (PySem.W.mg_of X G b_IN_PAIRS)
  have m_len : mg "len" = none := PySem.W.mg_none_of X G z_len
  have m_min : mg "min" = none := PySem.W.mg_none_of X G z_min
  have m_int : mg "int" = none := PySem.W.mg_none_of X G z_int
  have m_tuple : mg "tuple" = none := PySem.W.mg_none_of X G z_tuple
  have m_isinstance : mg "isinstance" = none := PySem.W.mg_none_of X G z_isinstance
  have m_str : mg "str" = none := PySem.W.mg_none_of X G z_str
  have m_range : mg "range" = none := PySem.W.mg_none_of X G z_range
  have m_all : mg "all" = none := PySem.W.mg_none_of X G z_all
  have m_zip : mg "zip" = none := PySem.W.mg_none_of X G z_zip
  have m_bool : mg "bool" = none := PySem.W.mg_none_of X G z_bool
  have c_sign_of : Cal l.prog w K mg base 1 "sign_of" false 1 g_sign_of := ok_sign_of g_SIXTEEN g_LEFT_OUT g_SIGNS m_len m_min m_int (fun_mk (st := topS 11) l0 c0 k0) (PySem.W.mg_of X G a0)
  have c_Reader___init__ := ok_Reader___init__ (P := l.prog) (w := w) (base := base) T_Reader (fun_mk (st := (inClass (topS 17) 0)) l1 c1 k1) ⟨mk_Reader, a1, i1, kc_Reader⟩
  have c_Reader_sees := ok_Reader_sees (P := l.prog) (w := w) (base := base) T_Reader m_len (fun_mk (st := (inClass (topS 17) 1)) l2 c2 k2) ⟨a2, i2, k2⟩
  have c_Reader_at_end := ok_Reader_at_end (P := l.prog) (w := w) (base := base) T_Reader m_len (fun_mk (st := (inClass (topS 17) 2)) l3 c3 k3) ⟨a3, i3, k3⟩
  have c_Reader_pair := ok_Reader_pair (P := l.prog) (w := w) (base := base) c_sign_of T_Reader m_len (fun_mk (st := (inClass (topS 17) 3)) l4 c4 k4) ⟨a4, i4, k4⟩
  have c_Reader_sign := ok_Reader_sign (P := l.prog) (w := w) (base := base) c_Reader_sees c_Reader_pair g_PLAIN T_Reader (fun_mk (st := (inClass (topS 17) 4)) l5 c5 k5) ⟨a5, i5, k5⟩
  have c_Reader_part := ok_Reader_part (P := l.prog) (w := w) (base := base) c_Reader_sign c_Reader_at_end c_Reader_sees T_Reader m_len (fun_mk (st := (inClass (topS 17) 5)) l6 c6 k6) ⟨a6, i6, k6⟩
  have c_read_scheme := ok_read_scheme (P := l.prog) (w := w) (base := base) g_LETTERS g_GREAT g_FIGURES T_Reader m_len (fun_mk (st := topS 18) l7 c7 k7) (PySem.W.mg_of X G a7)
  have c_read_door := ok_read_door (P := l.prog) (w := w) (base := base) c_Reader_sees c_Reader_at_end g_FIGURES g_MOST_DOOR T_Reader m_int (fun_mk (st := topS 19) l8 c8 k8) (PySem.W.mg_of X G a8)
  have c_read_house := ok_read_house (P := l.prog) (w := w) (base := base) c_Reader_part c_Reader_sees c_read_door g_MOST_IN_HOUSE T_Reader (fun_mk (st := topS 20) l9 c9 k9) (PySem.W.mg_of X G a9)
  have c_read_steps := ok_read_steps (P := l.prog) (w := w) (base := base) c_Reader_part c_Reader_sees c_Reader_at_end g_IN_STEPS T_Reader m_len m_tuple (fun_mk (st := topS 21) l10 c10 k10) (PySem.W.mg_of X G a10)
  have c_read_way := ok_read_way (P := l.prog) (w := w) (base := base) c_Reader_at_end c_Reader_sees c_read_steps T_Reader (fun_mk (st := topS 22) l11 c11 k11) (PySem.W.mg_of X G a11)
  have c_read_question := ok_read_question (P := l.prog) (w := w) (base := base) c_Reader_sees c_Reader_at_end c_Reader_part g_IN_PAIRS T_Reader m_len m_tuple (fun_mk (st := topS 23) l12 c12 k12) (PySem.W.mg_of X G a12)
  have c_read_mark := ok_read_mark (P := l.prog) (w := w) (base := base) c_Reader_sees c_Reader_at_end c_Reader_part g_IN_STEPS g_IN_PAIRS T_Reader m_len (fun_mk (st := topS 24) l13 c13 k13) (PySem.W.mg_of X G a13)
  have c_read : Cal l.prog w K mg base 7 "read" false 1 g_read := ok_read c_Reader___init__ c_read_scheme c_read_house c_read_way c_read_question c_read_mark T_Reader m_isinstance m_str (fun_mk (st := topS 25) l14 c14 k14) (PySem.W.mg_of X G a14)
  have c__law_cell_at : Cal l.prog w K mg base 1 "_law_cell_at" false 2 g__law_cell_at := ok__law_cell_at m_len (fun_mk (st := topS 27) l15 c15 k15) (PySem.W.mg_of X G a15)
  have c__law_table : Cal l.prog w K mg base 1 "_law_table" false 0 g__law_table := ok__law_table  (fun_mk (st := topS 28) l16 c16 k16) (PySem.W.mg_of X G a16)
  have c__law_hex : Cal l.prog w K mg base 2 "_law_hex" false 1 g__law_hex := ok__law_hex c__law_table m_int (fun_mk (st := topS 29) l17 c17 k17) (PySem.W.mg_of X G a17)
  have c__law_plain : Cal l.prog w K mg base 1 "_law_plain" false 1 g__law_plain := ok__law_plain  (fun_mk (st := topS 30) l18 c18 k18) (PySem.W.mg_of X G a18)
  have c__law_deck : Cal l.prog w K mg base 1 "_law_deck" true 1 g__law_deck := ok__law_deck  (fun_mk (st := topS 31) l19 c19 k19) (PySem.W.mg_of X G a19)
  have c__law_draw := ok__law_draw (P := l.prog) (w := w) (base := base)  (fun_mk (st := topS 32) l20 c20 k20) (PySem.W.mg_of X G a20)
  have c__law_some := ok__law_some (P := l.prog) (w := w) (base := base) c__law_table c__law_draw m_len m_range (fun_mk (st := topS 33) l21 c21 k21) (PySem.W.mg_of X G a21)
  have c__law_scheme := ok__law_scheme (P := l.prog) (w := w) (base := base) c__law_draw m_int m_range (fun_mk (st := topS 34) l22 c22 k22) (PySem.W.mg_of X G a22)
  have c__law_steps := ok__law_steps (P := l.prog) (w := w) (base := base) c__law_draw c__law_some m_int m_range m_tuple (fun_mk (st := topS 35) l23 c23 k23) (PySem.W.mg_of X G a23)
  have c__law_question := ok__law_question (P := l.prog) (w := w) (base := base) c__law_draw c__law_some m_int m_range m_tuple (fun_mk (st := topS 36) l24 c24 k24) (PySem.W.mg_of X G a24)
  have c__law_address : Cal l.prog w K mg base 4 "_law_address" false 2 g_d_law_address := ok__law_address c__law_deck c__law_cell_at c__law_scheme c__law_draw c__law_some c__law_steps c__law_question m_int (fun_mk (st := topS 37) l25 c25 k25) (PySem.W.mg_of X G a25)
  have c__law_written : Cal l.prog w K mg base 3 "_law_written" false 1 g__law_written := ok__law_written c__law_plain c__law_hex (fun_mk (st := topS 38) l26 c26 k26) (PySem.W.mg_of X G a26)
  have c__law_pair_shown : Cal l.prog w K mg base 4 "_law_pair_shown" false 1 g__law_pair_shown := ok__law_pair_shown c__law_written (fun_mk (st := topS 39) l27 c27 k27) (PySem.W.mg_of X G a27)
  have c__law_shown : Cal l.prog w K mg base 5 "_law_shown" false 1 g__law_shown := ok__law_shown c__law_written c__law_pair_shown m_str m_int m_range m_len (fun_mk (st := topS 40) l28 c28 k28) (PySem.W.mg_of X G a28)
  have r29_0 : Cal l.prog w K mg base 1 "_law_same_kinds" false 2 (fun _ => .bad) := ok0__law_same_kinds (k := 0) (fun_mk (st := topS 41) l29 c29 k29) (PySem.W.mg_of X G a29)
  have r29_1 := ok__law_same_kinds m_isinstance m_tuple m_len m_all m_zip m_int m_bool m_str r29_0 (by decide) (fun_mk (st := topS 41) l29 c29 k29) (PySem.W.mg_of X G a29)
  have r29_2 := ok__law_same_kinds m_isinstance m_tuple m_len m_all m_zip m_int m_bool m_str r29_1 (by decide) (fun_mk (st := topS 41) l29 c29 k29) (PySem.W.mg_of X G a29)
  have r29_3 := ok__law_same_kinds m_isinstance m_tuple m_len m_all m_zip m_int m_bool m_str r29_2 (by decide) (fun_mk (st := topS 41) l29 c29 k29) (PySem.W.mg_of X G a29)
  have r29_4 := ok__law_same_kinds m_isinstance m_tuple m_len m_all m_zip m_int m_bool m_str r29_3 (by decide) (fun_mk (st := topS 41) l29 c29 k29) (PySem.W.mg_of X G a29)
  have r29_5 := ok__law_same_kinds m_isinstance m_tuple m_len m_all m_zip m_int m_bool m_str r29_4 (by decide) (fun_mk (st := topS 41) l29 c29 k29) (PySem.W.mg_of X G a29)
  have r29_6 := ok__law_same_kinds m_isinstance m_tuple m_len m_all m_zip m_int m_bool m_str r29_5 (by decide) (fun_mk (st := topS 41) l29 c29 k29) (PySem.W.mg_of X G a29)
  have c__law_same_kinds : Cal l.prog w K mg base 7 "_law_same_kinds" false 2 g__law_same_kinds := r29_6
  have c__law_long : Cal l.prog w K mg base 2 "_law_long" false 1 g__law_long := ok__law_long c__law_table m_range m_tuple (fun_mk (st := topS 42) l30 c30 k30) (PySem.W.mg_of X G a30)
  exact law_of (ok_law c__law_long c__law_cell_at c__law_same_kinds c_read c__law_shown c__law_address (fun_mk (st := topS 43) l31 c31 k31)) hlaw
end K12
open PySem PySem.W PyProof.Rows
set_option maxHeartbeats 0 in
theorem PySem.Challenge.cw_waymark_k12_what_is_shown_is_read_holds : PySem.Challenge.rw_waymark_k12_what_is_shown_is_read.Holds := by
  w_on; o_law; k_head; (case hw => w_witness2)
  k_fill
  refine L2.walk_of (l := PySem.Challenge.rw_waymark_k12_what_is_shown_is_read) (n := 63) (k := 8) (x := "_law_script") (CX := fun w => L2.CX PySem.Challenge.rw_waymark_k12_what_is_shown_is_read.prog w) (sp := fun w => Wm.spL _) rfl (by decide) rfl ⟨rfl, by decide, by decide⟩ (fun w h Y => PySem.W.kIn_of Y) ?F (fun _ _ a ns hl _ hS => ⟨a, ns, rfl, hS, hl, fun _ => rfl⟩) (fun _ _ _ _ _ h => Wm.no_cx h)
  case F =>
    intro w mg fa h KX G hmg
    refine' K12.all_mk KX G hmg ?a0 ?l0 ?c0 ?k0 ?a1 ?i1 ?l1 ?c1 ?k1 ?a2 ?i2 ?l2 ?c2 ?k2 ?a3 ?i3 ?l3 ?c3 ?k3 ?a4 ?i4 ?l4 ?c4 ?k4 ?a5 ?i5 ?l5 ?c5 ?k5 ?a6 ?i6 ?l6 ?c6 ?k6 ?a7 ?l7 ?c7 ?k7 ?a8 ?l8 ?c8 ?k8 ?a9 ?l9 ?c9 ?k9 ?a10 ?l10 ?c10 ?k10 ?a11 ?l11 ?c11 ?k11 ?a12 ?l12 ?c12 ?k12 ?a13 ?l13 ?c13 ?k13 ?a14 ?l14 ?c14 ?k14 ?a15 ?l15 ?c15 ?k15 ?a16 ?l16 ?c16 ?k16 ?a17 ?l17 ?c17 ?k17 ?a18 ?l18 ?c18 ?k18 ?a19 ?l19 ?c19 ?k19 ?a20 ?l20 ?c20 ?k20 ?a21 ?l21 ?c21 ?k21 ?a22 ?l22 ?c22 ?k22 ?a23 ?l23 ?c23 ?k23 ?a24 ?l24 ?c24 ?k24 ?a25 ?l25 ?c25 ?k25 ?a26 ?l26 ?c26 ?k26 ?a27 ?l27 ?c27 ?k27 ?a28 ?l28 ?c28 ?k28 ?a29 ?l29 ?c29 ?k29 ?a30 ?l30 ?c30 ?k30 ?a31 ?l31 ?c31 ?k31 ?nc_Reader ?pg_Reader ?hd_Reader ?po_Reader ?sa_Reader ?mk_Reader ?kc_Reader ?n0_Reader ?n1_Reader ?b_SIXTEEN ?b_LEFT_OUT ?b_SIGNS ?b_PLAIN ?b_LETTERS ?b_GREAT ?b_FIGURES ?b_MOST_DOOR ?b_MOST_IN_HOUSE ?b_IN_STEPS ?b_IN_PAIRS ?z_len ?z_min ?z_int ?z_tuple ?z_isinstance ?z_str ?z_range ?z_all ?z_zip ?z_bool
    (case nc_Reader => k_is)
    (case a0 => k_is)
    (case l0 => k_is)
    (case c0 => k_is)
    (case k0 => k_is)
    (case a1 => k_is)
    (case i1 => k_is)
    (case l1 => k_is)
    (case c1 => k_is)
    (case k1 => k_is)
    (case a2 => k_is)
    (case i2 => k_is)
    (case l2 => k_is)
    (case c2 => k_is)
    (case k2 => k_is)
    (case a3 => k_is)
    (case i3 => k_is)
    (case l3 => k_is)
    (case c3 => k_is)
    (case k3 => k_is)
    (case a4 => k_is)
    (case i4 => k_is)
    (case l4 => k_is)
    (case c4 => k_is)
    (case k4 => k_is)
    (case a5 => k_is)
    (case i5 => k_is)
    (case l5 => k_is)
    (case c5 => k_is)
    (case k5 => k_is)
    (case a6 => k_is)
    (case i6 => k_is)
    (case l6 => k_is)
    (case c6 => k_is)
    (case k6 => k_is)
    (case a7 => k_is)
    (case l7 => k_is)
    (case c7 => k_is)
    (case k7 => k_is)
    (case a8 => k_is)
    (case l8 => k_is)
    (case c8 => k_is)
    (case k8 => k_is)
    (case a9 => k_is)
    (case l9 => k_is)
    (case c9 => k_is)
    (case k9 => k_is)
    (case a10 => k_is)
    (case l10 => k_is)
    (case c10 => k_is)
    (case k10 => k_is)
    (case a11 => k_is)
    (case l11 => k_is)
    (case c11 => k_is)
    (case k11 => k_is)
    (case a12 => k_is)
    (case l12 => k_is)
    (case c12 => k_is)
    (case k12 => k_is)
    (case a13 => k_is)
    (case l13 => k_is)
    (case c13 => k_is)
    (case k13 => k_is)
    (case a14 => k_is)
    (case l14 => k_is)
    (case c14 => k_is)
    (case k14 => k_is)
    (case a15 => k_is)
    (case l15 => k_is)
    (case c15 => k_is)
    (case k15 => k_is)
    (case a16 => k_is)
    (case l16 => k_is)
    (case c16 => k_is)
    (case k16 => k_is)
    (case a17 => k_is)
    (case l17 => k_is)
    (case c17 => k_is)
    (case k17 => k_is)
    (case a18 => k_is)
    (case l18 => k_is)
    (case c18 => k_is)
    (case k18 => k_is)
    (case a19 => k_is)
    (case l19 => k_is)
    (case c19 => k_is)
    (case k19 => k_is)
    (case a20 => k_is)
    (case l20 => k_is)
    (case c20 => k_is)
    (case k20 => k_is)
    (case a21 => k_is)
    (case l21 => k_is)
    (case c21 => k_is)
    (case k21 => k_is)
    (case a22 => k_is)
    (case l22 => k_is)
    (case c22 => k_is)
    (case k22 => k_is)
    (case a23 => k_is)
    (case l23 => k_is)
    (case c23 => k_is)
    (case k23 => k_is)
    (case a24 => k_is)
    (case l24 => k_is)
    (case c24 => k_is)
    (case k24 => k_is)
    (case a25 => k_is)
    (case l25 => k_is)
    (case c25 => k_is)
    (case k25 => k_is)
    (case a26 => k_is)
    (case l26 => k_is)
    (case c26 => k_is)
    (case k26 => k_is)
    (case a27 => k_is)
    (case l27 => k_is)
    (case c27 => k_is)
    (case k27 => k_is)
    (case a28 => k_is)
    (case l28 => k_is)
    (case c28 => k_is)
    (case k28 => k_is)
    (case a29 => k_is)
    (case l29 => k_is)
    (case c29 => k_is)
    (case k29 => k_is)
    (case a30 => k_is)
    (case l30 => k_is)
    (case c30 => k_is)
    (case k30 => k_is)
    (case a31 => k_is)
    (case l31 => k_is)
    (case c31 => k_is)
    (case k31 => k_is)
    (case pg_Reader => k_is)
    (case hd_Reader => k_is)
    (case po_Reader => k_is)
    (case sa_Reader => k_is)
    (case mk_Reader => k_is)
    (case kc_Reader => k_is)
    (case n0_Reader => k_is)
    (case n1_Reader => k_is)
    (case b_SIXTEEN => k_is)
    (case b_LEFT_OUT => k_is)
    (case b_SIGNS => k_is)
    (case b_PLAIN => k_is)
    (case b_LETTERS => k_is)
    (case b_GREAT => k_is)
    (case b_FIGURES => k_is)
    (case b_MOST_DOOR => k_is)
    (case b_MOST_IN_HOUSE => k_is)
    (case b_IN_STEPS => k_is)
    (case b_IN_PAIRS => k_is)
    (case z_len => k_is)
    (case z_min => k_is)
    (case z_int => k_is)
    (case z_tuple => k_is)
    (case z_isinstance => k_is)
    (case z_str => k_is)
    (case z_range => k_is)
    (case z_all => k_is)
    (case z_zip => k_is)
    (case z_bool => k_is)
