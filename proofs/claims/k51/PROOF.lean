import PyProof.Rows.All
import HandS.ForMost
import HandS.ForExc
import HandS.Deep
import HandS.IsInst
import HandS.CallSlots
import HandS.TupAny
import HandS.TupMul
import HandS.TupLe
import HandS.Style
import HandS.Walk
import HandS.Zip
import HandS.Rev
import HandS.RaiseMore
import HandS.Replace
import HandS.StrMore
import HandS.Strs
import HandS.Defaults
import HandS.Conv
import HandS.Codes
import KE.GoesZip
import KE.GoesMore
import KE.GoesEnum
import KE.DatumOrd
import HandS.ReCall
import HandS.Text
import HandS.ExcInit
import HandS.ExcField
import HandS.ExcIs
import PySem.Challenge.RW_waymark_k51_patterns_shown_and_read
set_option Elab.async false
set_option linter.all false
set_option maxRecDepth 100000
/-! WmBase: a layer of value semantics over the hand layer: each expression, statement and def computes a plain Lean function of data. -/
namespace Wm
open PySem PySem.Spec PyProof.Rows L2

abbrev D := PyData
abbrev En := List (Option D)

/-- a result: a value, an exception (class, fields), or nothing known -/
inductive Rs (α : Type) where
  | ok (a : α)
  | ex (c : Str) (fs : List (Str × D))
  | bad
def Rs.bind {α β : Type} (r : Rs α) (k : α → Rs β) : Rs β := match r with
  | .ok a => k a
  | .ex c fs => .ex c fs
  | .bad => .bad
instance : Monad Rs where
  pure := Rs.ok
  bind := Rs.bind
/-- so that a rule is used as a step, not as a reckoning -/
theorem nrfl {α : Sort u} {a b : α} (h : a = b) : a = b := h
@[simp] theorem ok_bind {α β : Type} (a : α) (k : α → Rs β) : (Rs.ok a >>= k) = k a := nrfl rfl
@[simp] theorem ex_bind {α β : Type} (c : Str) (fs : List (Str × D)) (k : α → Rs β) : ((Rs.ex c fs : Rs α) >>= k) = .ex c fs := nrfl rfl
@[simp] theorem bad_bind {α β : Type} (k : α → Rs β) : ((Rs.bad : Rs α) >>= k) = .bad := nrfl rfl
@[simp] theorem pure_ok {α : Type} (a : α) : (pure a : Rs α) = .ok a := nrfl rfl
@[simp] theorem bind_assoc' {α β γ : Type} (r : Rs α) (k : α → Rs β) (l : β → Rs γ) : ((r >>= k) >>= l) = (r >>= fun a => k a >>= l) := by cases r <;> rfl

/-! ### heaps -/
theorem same_upd {H : Hp} {p : Addr} {o : HO} (h : H p = none) : Same H (upd H p o) := fun b x e => by
  rw [upd_ne (ne_of_none e h)]; exact e
theorem sqt_same {K : PySem.W.Frag} {H H' : Hp} {a : Addr} {xs : List V} (e : Same H H') (h : SqT K H a xs) : SqT K H' a xs := by
  rcases h with (h | ⟨o, h⟩) | h
  · exact .inl (.inl (e _ _ h))
  · exact .inl (.inr ⟨o, e _ _ h⟩)
  · exact .inr h
theorem rd_same {H H' : Hp} {a : Addr} {u : HO} (e : Same H H') (h : Rd H a u) : Rd H' a u := by
  rcases h with h | ⟨o, h⟩
  · exact .inl (e _ _ h)
  · exact .inr ⟨o, e _ _ h⟩
/-- at a: an exception of the class cls, its dict at d -/
def exh (a : Addr) (cls : Value) (d : Option Addr) : HO := .ext fun h => ∃ o : Obj, h.get? a = some o ∧ Zc cls d o ∧ ∃ vs, o.data = .fields vs
/-- an exception as data: its class, its fields -/
def excD (c : Str) (fs : List (Str × PyData)) : PyData := .dict ((.none, .str c) :: fs.map fun p => (.str p.1, p.2))
/-- is it one -/
def exB : PyData → Bool
  | .dict ((.none, _) :: _) => true
  | _ => false
/-! what a value stands for -/
mutual
inductive Dq (K : PySem.W.Frag) (H : Hp) : V → PyData → Prop
  | non : Dq K H .non .none
  | bl (b : Bool) : Dq K H (.bl b) (.bool b)
  | int (i : Int) : Dq K H (.int i) (.int i)
  | str (x : Str) : Dq K H (.str x) (.str x)
  | lst {a : Addr} {xs : List V} {ds : List PyData} : SqL K H a xs → DqAll K H xs ds → Dq K H (.ref a) (.list ds)
  | tup {a : Addr} {xs : List V} {ds : List PyData} : SqT K H a xs → DqAll K H xs ds → Dq K H (.ref a) (.tuple ds)
  | dct {a : Addr} {ks : List Str} {vs : List V} {ds : List PyData} : H a = some (.dK ((ks.map Sum.inr).zip vs)) → ks.length = vs.length → DqAll K H vs ds → Dq K H (.ref a) (.dict ((ks.map PyData.str).zip ds))
  | exc0 {a C : Addr} {c : Str} : H a = some (exh a (.ref C) none) → PySem.W.nsIn K mainGlobals c = some (some (.ref C)) → Dq K H (.ref a) (excD c [])
  | exc1 {a C p : Addr} {c : Str} {fs : List (Str × PyData)} {vs : List V} : H a = some (exh a (.ref C) (some p)) → PySem.W.nsIn K mainGlobals c = some (some (.ref C)) → H p = some (.xd (List.zip (fs.map (·.1)) vs)) → DqAll K H vs (fs.map (·.2)) → Dq K H (.ref a) (excD c fs)
inductive DqAll (K : PySem.W.Frag) (H : Hp) : List V → List PyData → Prop
  | nil : DqAll K H [] []
  | cons {v : V} {vs : List V} {d : PyData} {ds : List PyData} : Dq K H v d → DqAll K H vs ds → DqAll K H (v :: vs) (d :: ds)
end
mutual
/-- no dict in it -/
def ndB : PyData → Bool
  | .list xs | .tuple xs => ndAll xs
  | .dict _ => false
  | _ => true
def ndAll : List PyData → Bool
  | [] => true
  | x :: xs => ndB x && ndAll xs
end
mutual
theorem nd_lay : ∀ d : PyData, d.canLay0 = true → ndB d = true
  | .none, _ => rfl
  | .bool _, _ => rfl
  | .int _, _ => rfl
  | .str _, _ => rfl
  | .list xs, c => by rw [PyData.canLay0] at c; rw [ndB]; exact ndAll_lay xs c
  | .tuple xs, c => by rw [PyData.canLay0] at c; rw [ndB]; exact ndAll_lay xs c
  | .dict _, c => by rw [PyData.canLay0] at c; cases c
theorem ndAll_lay : ∀ ds : List PyData, PyData.canLayAll0 ds = true → ndAll ds = true
  | [], _ => rfl
  | d :: ds, c => by
    rw [PyData.canLayAll0, Bool.and_eq_true] at c
    rw [ndAll, nd_lay d c.1, ndAll_lay ds c.2]
    rfl
end
mutual
theorem Dq.dp {K : PySem.W.Frag} {H : Hp} : ∀ {v : V} {d : D}, Dq K H v d → ndB d = true → Dp K H v d
  | _, _, .non, _ => .non
  | _, _, .bl b, _ => .bl b
  | _, _, .int i, _ => .int i
  | _, _, .str x, _ => .str x
  | _, _, .lst h r, c => .lst h (DqAll.dp r (by rw [ndB] at c; exact c))
  | _, _, .tup h r, c => .tup h (DqAll.dp r (by rw [ndB] at c; exact c))
  | _, _, .dct _ _ _, c => by rw [ndB] at c; cases c
  | _, _, .exc0 _ _, c => by rw [excD, ndB] at c; cases c
  | _, _, .exc1 _ _ _ _, c => by rw [excD, ndB] at c; cases c
theorem DqAll.dp {K : PySem.W.Frag} {H : Hp} : ∀ {vs : List V} {ds : List D}, DqAll K H vs ds → ndAll ds = true → DpAll K H vs ds
  | _, _, .nil, _ => .nil
  | _, _, .cons a r, c => by
    rw [ndAll, Bool.and_eq_true] at c
    exact .cons (Dq.dp a c.1) (DqAll.dp r c.2)
end
mutual
theorem dq_mono {K : PySem.W.Frag} {H H' : Hp} (e : Same H H') : ∀ {v : V} {d : D}, Dq K H v d → Dq K H' v d
  | _, _, .non => .non
  | _, _, .bl b => .bl b
  | _, _, .int i => .int i
  | _, _, .str x => .str x
  | _, _, .lst h r => .lst (e.seq h) (dqAll_mono e r)
  | _, _, .tup h r => .tup (sqt_same e h) (dqAll_mono e r)
  | _, _, .dct h l r => .dct (e _ _ h) l (dqAll_mono e r)
  | _, _, .exc0 h n => .exc0 (e _ _ h) n
  | _, _, .exc1 h n l r => .exc1 (e _ _ h) n (e _ _ l) (dqAll_mono e r)
theorem dqAll_mono {K : PySem.W.Frag} {H H' : Hp} (e : Same H H') : ∀ {vs : List V} {ds : List D}, DqAll K H vs ds → DqAll K H' vs ds
  | _, _, .nil => .nil
  | _, _, .cons a r => .cons (dq_mono e a) (dqAll_mono e r)
end
theorem DqAll.length {K : PySem.W.Frag} {H : Hp} : ∀ {vs : List V} {ds : List PyData}, DqAll K H vs ds → vs.length = ds.length
  | _, _, .nil => rfl
  | _, _, .cons _ r => by simp [DqAll.length r]
theorem DqAll.append {K : PySem.W.Frag} {H : Hp} : ∀ {vs ws : List V} {ds es : List PyData}, DqAll K H vs ds → DqAll K H ws es → DqAll K H (vs ++ ws) (ds ++ es)
  | _, _, _, _, .nil, s => s
  | _, _, _, _, .cons a r, s => .cons a (DqAll.append r s)
theorem DqAll.get {K : PySem.W.Frag} {H : Hp} : ∀ {vs : List V} {ds : List PyData} {i : Nat} {d : PyData}, DqAll K H vs ds → ds[i]? = some d → ∃ v, vs[i]? = some v ∧ Dq K H v d
  | _, _, _, _, .nil, e => by simp at e
  | _, _, 0, _, .cons a r, e => ⟨_, rfl, by simp at e; subst e; exact a⟩
  | _, _, i + 1, _, .cons a r, e => by
    obtain ⟨v, h1, h2⟩ := DqAll.get (i := i) r (by simpa using e)
    exact ⟨v, by simpa using h1, h2⟩
theorem DqAll.set {K : PySem.W.Frag} {H : Hp} {v : V} {d : PyData} (h : Dq K H v d) : ∀ {vs : List V} {ds : List PyData} (i : Nat), DqAll K H vs ds → DqAll K H (vs.set i v) (ds.set i d)
  | _, _, _, .nil => .nil
  | _, _, 0, .cons _ r => .cons h r
  | _, _, i + 1, .cons a r => .cons a (DqAll.set h i r)
theorem DqAll.take {K : PySem.W.Frag} {H : Hp} : ∀ {vs : List V} {ds : List PyData} (n : Nat), DqAll K H vs ds → DqAll K H (vs.take n) (ds.take n)
  | _, _, 0, _ => .nil
  | _, _, _ + 1, .nil => .nil
  | _, _, n + 1, .cons a r => .cons a (DqAll.take n r)
theorem DqAll.drop {K : PySem.W.Frag} {H : Hp} : ∀ {vs : List V} {ds : List PyData} (n : Nat), DqAll K H vs ds → DqAll K H (vs.drop n) (ds.drop n)
  | _, _, 0, r => r
  | _, _, _ + 1, .nil => .nil
  | _, _, n + 1, .cons _ r => DqAll.drop n r

/-- the heap grows: H by new objects; Hd, the part that stands still, too; nothing of H comes into Hd -/
structure Step (H Hd H' Hd' : Hp) : Prop where
  up : Same H H'
  sub : Same Hd' H'
  keep : Same Hd Hd'
  old : ∀ a, H a ≠ none → Hd' a = Hd a
theorem Step.refl {H Hd : Hp} (s : Same Hd H) : Step H Hd H Hd := ⟨fun _ _ e => e, s, fun _ _ e => e, fun _ _ => rfl⟩
theorem Step.of {H Hd H' Hd' : Hp} (s : Same Hd H) (up : Same H H') (sub : Same Hd' H') (old : ∀ a, H a ≠ none → Hd' a = Hd a) : Step H Hd H' Hd' := ⟨up, sub, fun a o e => by
    rw [old a (by rw [s a o e]; simp)]; exact e, old⟩
theorem Step.trans {H Hd H1 Hd1 H2 Hd2 : Hp} (s : Step H Hd H1 Hd1) (t : Step H1 Hd1 H2 Hd2) : Step H Hd H2 Hd2 :=
  ⟨fun a o e => t.up a o (s.up a o e), t.sub, fun a o e => t.keep a o (s.keep a o e), fun a h => by
    have h1 : H1 a ≠ none := by
      cases e : H a with
      | none => exact absurd e h
      | some o => rw [s.up a o e]; simp
    rw [t.old a h1, s.old a h]⟩
theorem none_of_same {H H' : Hp} (s : Same H H') {p : Addr} (h : H' p = none) : H p = none := by
  cases e : H p with
  | none => rfl
  | some o => rw [s p o e] at h; cases h
/-- a new object that stands still -/
theorem Step.new {H Hd : Hp} {p : Addr} {o : HO} (s : Same Hd H) (h : H p = none) : Step H Hd (upd H p o) (upd Hd p o) :=
  .of s (same_upd h) (fun a x e => by
    by_cases z : a = p
    · subst z; rw [upd_same] at e ⊢; exact e
    · rw [upd_ne z] at e ⊢; exact s a x e) fun a n => by
    rw [upd_ne (fun z => n (by rw [z]; exact h))]
/-- a new object that is owned -/
theorem Step.own {H Hd : Hp} {p : Addr} {o : HO} (s : Same Hd H) (h : H p = none) : Step H Hd (upd H p o) Hd :=
  .of s (same_upd h) (fun a x e => same_upd h a x (s a x e)) fun _ _ => rfl

/-! the slots and the heap stand for the data. own: codes. i: slot i holds its list alone; 100 * c + i: slot i holds an object of the class c; 1000 + i: slot i stands (what the def was handed there) -/
/-- the classes: their names, their fields in the order in which they are stored -/
def cN : Nat → Str × List Str
  | 1 => ("Reader", ["text", "here"])
  | 2 => ("Desk", ["here", "known"])
  | _ => ("", [])
def obC (i j : Nat) : Bool := decide (100 ≤ j) && (decide (j < 1000) && decide (j % 100 = i))
def isObj (own : List Nat) (i : Nat) : Bool := own.any (obC i)
def drp (own : List Nat) (i : Nat) : List Nat := own.filter fun j => decide (1000 ≤ j) || decide (j % 100 ≠ i)
/-- a def's base: what stood at its entry, less what it owns; the slots that stand -/
structure Bs where
  h : Hp
  an : Nat → Option V
/-- fields: a list is the object's own -/
inductive FvAll (K : PySem.W.Frag) (H Hd : Hp) : List Addr → List V → List D → Prop
  | nil : FvAll K H Hd [] [] []
  | still {v : V} {d : D} {A : List Addr} {vs : List V} {ds : List D} : (∀ l, d ≠ .list l) → Dq K Hd v d → FvAll K H Hd A vs ds → FvAll K H Hd A (v :: vs) (d :: ds)
  | own {a : Addr} {ws : List V} {es : List D} {A : List Addr} {vs : List V} {ds : List D} : H a = some (.lst ws) → DqAll K Hd ws es → FvAll K H Hd A vs ds → FvAll K H Hd (a :: A) (.ref a :: vs) (.list es :: ds)
/-- a dict, alone -/
def OwnD (K : PySem.W.Frag) (H Hd : Hp) (a : Addr) (v : V) (d : D) : Prop := ∃ (ks : List Str) (vs : List V) (ds : List D), v = .ref a ∧ d = .dict ((ks.map PyData.str).zip ds) ∧ H a = some (.dK ((ks.map Sum.inr).zip vs)) ∧ ks.length = vs.length ∧ DqAll K Hd vs ds
/-- what is owned: at 0 a list (or a value that is none), else an object of the class -/
def Ov (K : PySem.W.Frag) (H Hd : Hp) : Nat → List Addr → V → D → Prop
  | 0, A, v, d => (∃ a vs ds, v = .ref a ∧ d = .list ds ∧ A = [a] ∧ H a = some (.lst vs) ∧ DqAll K Hd vs ds) ∨ ((∀ ds, d ≠ .list ds) ∧ ((∀ ps, d ≠ .dict ps) ∧ A = []) ∧ Dq K Hd v d) ∨ (∃ a, A = [a] ∧ OwnD K H Hd a v d)
  | c + 1, A, v, d => ∃ p C dx vs ds A', v = .ref p ∧ d = .tuple ds ∧ A = p :: dx :: A' ∧ PySem.W.nsIn K mainGlobals (cN (c + 1)).1 = some (some (.ref C)) ∧ H p = some (.ins C dx (List.zip ((cN (c + 1)).2.take ds.length) vs)) ∧ H dx = some (.own p) ∧ ds.length ≤ (cN (c + 1)).2.length ∧ FvAll K H Hd A' vs ds ∧ A'.Nodup
section
variable {K : PySem.W.Frag} {H Hd H' Hd' : Hp}
theorem FvAll.mono {A : List Addr} {vs : List V} {ds : List D} (h : FvAll K H Hd A vs ds) (k : ∀ a ∈ A, ∀ o, H a = some o → H' a = some o) (e : Same Hd Hd') : FvAll K H' Hd' A vs ds := by
  induction h with
  | nil => exact .nil
  | still n d _ ih => exact .still n (dq_mono e d) (ih k)
  | own q d _ ih => exact .own (k _ List.mem_cons_self _ q) (dqAll_mono e d) (ih fun a m => k a (List.mem_cons_of_mem _ m))
theorem FvAll.len {A : List Addr} {vs : List V} {ds : List D} (h : FvAll K H Hd A vs ds) : vs.length = ds.length := by
  induction h with
  | nil => rfl
  | still _ _ _ ih => simp [ih]
  | own _ _ _ ih => simp [ih]
theorem FvAll.there {A : List Addr} {vs : List V} {ds : List D} (h : FvAll K H Hd A vs ds) : ∀ a ∈ A, ∃ ws, H a = some (.lst ws) := by
  induction h with
  | nil => exact fun _ m => nomatch m
  | still _ _ _ ih => exact ih
  | own q _ _ ih =>
    intro a m
    rcases List.mem_cons.mp m with rfl | m
    · exact ⟨_, q⟩
    · exact ih a m
theorem OwnD.mono {a : Addr} {v : V} {d : D} (h : OwnD K H Hd a v d) (k : ∀ o, H a = some o → H' a = some o) (e : Same Hd Hd') : OwnD K H' Hd' a v d := by
  obtain ⟨ks, vs, ds, e1, e2, e3, e4, e5⟩ := h
  exact ⟨ks, vs, ds, e1, e2, k _ e3, e4, dqAll_mono e e5⟩
theorem OwnD.dq {a : Addr} {v : V} {d : D} (h : OwnD K H Hd a v d) (s : Same Hd H) : Dq K H v d := by
  obtain ⟨ks, vs, ds, rfl, rfl, e3, e4, e5⟩ := h
  exact .dct e3 e4 (dqAll_mono s e5)
theorem OwnD.nl {a : Addr} {v : V} {ds : List D} (h : OwnD K H Hd a v (.list ds)) : False := by
  obtain ⟨_, _, _, _, e, _⟩ := h
  cases e
theorem OwnD.dict {a : Addr} {v : V} {d : D} (h : OwnD K H Hd a v d) : ∃ ps, d = .dict ps := by
  obtain ⟨_, _, _, _, e, _⟩ := h
  exact ⟨_, e⟩
theorem Ov.mono {c : Nat} {A : List Addr} {v : V} {d : D} (h : Ov K H Hd c A v d) (k : ∀ a ∈ A, ∀ o, H a = some o → H' a = some o) (e : Same Hd Hd') : Ov K H' Hd' c A v d := by
  cases c with
  | zero =>
    rcases h with ⟨a, vs, ds, e1, e2, e3, e4, e5⟩ | ⟨e1, e2, e3⟩ | ⟨a, e1, e2⟩
    · subst e3; exact .inl ⟨a, vs, ds, e1, e2, rfl, k a List.mem_cons_self _ e4, dqAll_mono e e5⟩
    · exact .inr (.inl ⟨e1, e2, dq_mono e e3⟩)
    · subst e1; exact .inr (.inr ⟨a, rfl, e2.mono (k a List.mem_cons_self) e⟩)
  | succ c =>
    obtain ⟨p, C, dx, vs, ds, A', e1, e2, e3, e4, e5, e6, e7, e8, e9⟩ := h
    subst e3
    exact ⟨p, C, dx, vs, ds, A', e1, e2, rfl, e4, k p List.mem_cons_self _ e5, k dx (List.mem_cons_of_mem _ List.mem_cons_self) _ e6, e7, e8.mono (fun a m => k a (List.mem_cons_of_mem _ (List.mem_cons_of_mem _ m))) e, e9⟩
end
structure Rel (K : PySem.W.Frag) (H0 : Bs) (Hd0 : Hp) (own : List Nat) (ρ : En) (σ : L2.St) (H Hd : Hp) : Prop where
  st : Step H0.h Hd0 H Hd
  len : ρ.length = σ.length
  val : ∀ i d, ρ[i]? = some (some d) → (i < 100 → i ∉ own) → isObj own i = false → ∃ v, σ[i]? = some (some v) ∧ Dq K Hd v d
  anc : ∀ i v, H0.an i = some v → 1000 + i ∈ own ∧ σ[i]? = some (some v)
  ex : ∃ A : Nat → List Addr, (∀ j, j ∈ own → j < 1000 → ∀ d, ρ[j % 100]? = some (some d) → ∃ v, σ[j % 100]? = some (some v) ∧ Ov K H Hd (j / 100) (A j) v d) ∧
    (∀ j, j ∈ own → ∀ a ∈ A j, Hd a = none ∧ H0.h a = none ∧ H a ≠ none) ∧
    (∀ j k, j ∈ own → k ∈ own → ∀ a, a ∈ A j → a ∈ A k → j = k)
theorem Rel.step {K : PySem.W.Frag} {H0 : Bs} {Hd0 : Hp} {own : List Nat} {ρ : En} {σ : L2.St} {H Hd H' Hd' : Hp} (r : Rel K H0 Hd0 own ρ σ H Hd) (t : Step H Hd H' Hd') : Rel K H0 Hd0 own ρ σ H' Hd' where
  st := r.st.trans t
  len := r.len
  val := fun i d e n n2 => let ⟨v, h1, h2⟩ := r.val i d e n n2; ⟨v, h1, dq_mono (t.keep) h2⟩
  anc := r.anc
  ex := by
    obtain ⟨A, h1, h2, h3⟩ := r.ex
    refine ⟨A, fun j m l d e => ?_, fun j m a ma => ?_, h3⟩
    · obtain ⟨v, e1, e2⟩ := h1 j m l d e
      exact ⟨v, e1, e2.mono (fun a _ o q => t.up a o q) t.keep⟩
    · obtain ⟨q1, q2, q3⟩ := h2 j m a ma
      refine ⟨by rw [t.old a q3]; exact q1, q2, fun z => q3 ?_⟩
      cases w : H a with
      | none => rfl
      | some o => rw [t.up a o w] at z; cases z
/-- what an owned slot holds, where it is a list -/
theorem Rel.ownL {K : PySem.W.Frag} {H0 : Bs} {Hd0 : Hp} {own : List Nat} {ρ : En} {σ : L2.St} {H Hd : Hp} (r : Rel K H0 Hd0 own ρ σ H Hd) {i : Nat} {d : D} (h : ρ[i]? = some (some d)) (m : i ∈ own) (hi : i < 100) :
    (∃ (a : Addr) (vs : List V) (ds : List D), d = .list ds ∧ σ[i]? = some (some (V.ref a)) ∧ H a = some (.lst vs) ∧ Hd a = none ∧ H0.h a = none ∧ DqAll K Hd vs ds) ∨
    ((∀ ds, d ≠ .list ds) ∧ ∃ v, σ[i]? = some (some v) ∧ (Dq K Hd v d ∧ ∀ ps, d ≠ .dict ps)) ∨
    (∃ a : Addr, σ[i]? = some (some (V.ref a)) ∧ Hd a = none ∧ H0.h a = none ∧ OwnD K H Hd a (.ref a) d) := by
  obtain ⟨A, h1, h2, h3⟩ := r.ex
  have e : i % 100 = i := Nat.mod_eq_of_lt hi
  have e2 : i / 100 = 0 := Nat.div_eq_of_lt hi
  obtain ⟨v, v1, v2⟩ := h1 i m (by omega) d (by rw [e]; exact h)
  rw [e] at v1
  rw [e2] at v2
  rcases v2 with ⟨a, vs, ds, q1, q2, q3, q4, q5⟩ | ⟨q1, nd, q3⟩ | ⟨a, q1, q2⟩
  · subst q1
    obtain ⟨w1, w2, _⟩ := h2 i m a (by rw [q3]; exact List.mem_cons_self)
    exact .inl ⟨a, vs, ds, q2, v1, q4, w1, w2, q5⟩
  · exact .inr (.inl ⟨q1, v, v1, q3, nd.1⟩)
  · obtain ⟨w1, w2, _⟩ := h2 i m a (by rw [q1]; exact List.mem_cons_self)
    obtain rfl : v = .ref a := by obtain ⟨_, _, _, e, _⟩ := q2; exact e
    exact .inr (.inr ⟨a, v1, w1, w2, q2⟩)

/-- an exception: its class, its fields -/
def ExR (K : PySem.W.Frag) (mg : Str → Option Value) (H Hd : Hp) (c : Str) (fs : List (Str × D)) (cls : Value) (a : Option Addr) : Prop :=
  mg c = some cls ∧ match fs with
  | [] => a = none
  | fs => ∃ p vs, a = some p ∧ Hd p = some (.xd (List.zip (fs.map (·.1)) vs)) ∧ DqAll K Hd vs (fs.map (·.2))
theorem ExR.mono {K : PySem.W.Frag} {mg : Str → Option Value} {H Hd H' Hd' : Hp} {c : Str} {fs : List (Str × D)} {cls : Value} {a : Option Addr} (h : ExR K mg H Hd c fs cls a) (e : Same H H') (e' : Same Hd Hd') : ExR K mg H' Hd' c fs cls a := by
  obtain ⟨h1, h2⟩ := h
  refine ⟨h1, ?_⟩
  cases fs with
  | nil => exact h2
  | cons f fs =>
    obtain ⟨p, vs, e1, e2, e3⟩ := h2
    exact ⟨p, vs, e1, e' _ _ e2, dqAll_mono e' e3⟩

/-- good, or a list that a slot owns (its items good) -/
def Dv (K : PySem.W.Frag) (H Hd : Hp) (v : V) (d : D) : Prop := Dq K Hd v d ∨ (∃ (a : Addr) (vs : List V) (ds : List D), v = V.ref a ∧ d = .list ds ∧ H a = some (.lst vs) ∧ DqAll K Hd vs ds) ∨ ∃ a, OwnD K H Hd a v d
theorem Dv.step {K : PySem.W.Frag} {H Hd H' Hd' : Hp} {v : V} {d : D} (s : Same Hd H) (t : Step H Hd H' Hd') (h : Dv K H Hd v d) : Dv K H' Hd' v d := by
  rcases h with h | ⟨a, vs, ds, e1, e2, e3, e4⟩ | ⟨a, h⟩
  · exact .inl (dq_mono (t.keep) h)
  · exact .inr (.inl ⟨a, vs, ds, e1, e2, t.up _ _ e3, dqAll_mono (t.keep) e4⟩)
  · exact .inr (.inr ⟨a, h.mono (fun o q => t.up _ _ q) t.keep⟩)
theorem Dv.dp {K : PySem.W.Frag} {H Hd : Hp} {v : V} {d : D} (s : Same Hd H) (h : Dv K H Hd v d) : Dq K H v d := by
  rcases h with h | ⟨a, vs, ds, rfl, rfl, e3, e4⟩ | ⟨a, h⟩
  · exact dq_mono s h
  · exact .lst (.inl (.inl e3)) (dqAll_mono s e4)
  · exact h.dq s

/-- a list is a new one, held by none -/
def NewV (K : PySem.W.Frag) (H H' Hd' : Hp) (v : V) (d : D) : Prop := match d with
  | .list ds => ∃ p vs, v = .ref p ∧ H p = none ∧ Hd' p = none ∧ H' p = some (.lst vs) ∧ DqAll K Hd' vs ds
  | .dict ps => ∃ p, H p = none ∧ Hd' p = none ∧ OwnD K H' Hd' p v (.dict ps)
  | d => Dq K Hd' v d
section
variable (X : Cx) (W : WX)
def PoE (σ : L2.St) (H Hd : Hp) (r : Rs D) (Q : VK) : Prop := match r with
  | .ok d => ∀ v H' Hd', Step H Hd H' Hd' → Dq X.K Hd' v d → Q v H'
  | .ex c fs => ∀ cls a H' Hd', Step H Hd H' Hd' → ExR X.K X.mg H' Hd' c fs cls a → W cls a σ H'
  | .bad => False
def PoB (σ : L2.St) (H Hd : Hp) (r : Rs D) (Q : VK) : Prop := match r with
  | .ok d => ∀ v H' Hd', Step H Hd H' Hd' → Dv X.K H' Hd' v d → Q v H'
  | .ex c fs => ∀ cls a H' Hd', Step H Hd H' Hd' → ExR X.K X.mg H' Hd' c fs cls a → W cls a σ H'
  | .bad => False
def PoM (σ : L2.St) (H Hd : Hp) (r : Rs D) (Q : VK) : Prop := match r with
  | .ok d => ∀ v H' Hd', Step H Hd H' Hd' → NewV X.K H H' Hd' v d → Q v H'
  | .ex c fs => ∀ cls a H' Hd', Step H Hd H' Hd' → ExR X.K X.mg H' Hd' c fs cls a → W cls a σ H'
  | .bad => False
def PoT (σ : L2.St) (H Hd : Hp) (r : Rs Bool) (Q : Bool → Hp → Prop) : Prop := match r with
  | .ok b => ∀ H' Hd', Step H Hd H' Hd' → Q b H'
  | .ex c fs => ∀ cls a H' Hd', Step H Hd H' Hd' → ExR X.K X.mg H' Hd' c fs cls a → W cls a σ H'
  | .bad => False
def PoA (σ : L2.St) (H Hd : Hp) (r : Rs (List D)) (Q : List V → Hp → Prop) : Prop := match r with
  | .ok ds => ∀ vs H' Hd', Step H Hd H' Hd' → DqAll X.K Hd' vs ds → Q vs H'
  | .ex c fs => ∀ cls a H' Hd', Step H Hd H' Hd' → ExR X.K X.mg H' Hd' c fs cls a → W cls a σ H'
  | .bad => False
end
section
variable {X : Cx} {W : WX} {σ : L2.St} {H Hd H1 Hd1 : Hp}
theorem PoE.step {r : Rs D} {Q : VK} (h : PoE X W σ H Hd r Q) (t : Step H Hd H1 Hd1) : PoE X W σ H1 Hd1 r Q := by
  cases r with
  | ok d => exact fun v H' Hd' s => h v H' Hd' (t.trans s)
  | ex c fs => exact fun cls a H' Hd' s => h cls a H' Hd' (t.trans s)
  | bad => exact h
theorem PoB.step {r : Rs D} {Q : VK} (h : PoB X W σ H Hd r Q) (t : Step H Hd H1 Hd1) : PoB X W σ H1 Hd1 r Q := by
  cases r with
  | ok d => exact fun v H' Hd' s => h v H' Hd' (t.trans s)
  | ex c fs => exact fun cls a H' Hd' s => h cls a H' Hd' (t.trans s)
  | bad => exact h
theorem NewV.back {H H1 H' Hd' : Hp} {v : V} {d : D} (s : Same H H1) (h : NewV X.K H1 H' Hd' v d) : NewV X.K H H' Hd' v d := by
  cases d with
  | list ds => obtain ⟨p, vs, e, n, r⟩ := h; exact ⟨p, vs, e, none_of_same s n, r⟩
  | dict ps => obtain ⟨p, n, r⟩ := h; exact ⟨p, none_of_same s n, r⟩
  | _ => exact h
theorem PoM.step {r : Rs D} {Q : VK} (h : PoM X W σ H Hd r Q) (t : Step H Hd H1 Hd1) : PoM X W σ H1 Hd1 r Q := by
  cases r with
  | ok d => exact fun v H' Hd' s n => h v H' Hd' (t.trans s) (n.back t.up)
  | ex c fs => exact fun cls a H' Hd' s => h cls a H' Hd' (t.trans s)
  | bad => exact h
theorem PoT.step {r : Rs Bool} {Q : Bool → Hp → Prop} (h : PoT X W σ H Hd r Q) (t : Step H Hd H1 Hd1) : PoT X W σ H1 Hd1 r Q := by
  cases r with
  | ok d => exact fun H' Hd' s => h H' Hd' (t.trans s)
  | ex c fs => exact fun cls a H' Hd' s => h cls a H' Hd' (t.trans s)
  | bad => exact h
theorem PoA.step {r : Rs (List D)} {Q : List V → Hp → Prop} (h : PoA X W σ H Hd r Q) (t : Step H Hd H1 Hd1) : PoA X W σ H1 Hd1 r Q := by
  cases r with
  | ok d => exact fun vs H' Hd' s => h vs H' Hd' (t.trans s)
  | ex c fs => exact fun cls a H' Hd' s => h cls a H' Hd' (t.trans s)
  | bad => exact h
end

/-! ### the judgements -/
structure SE (X : Cx) (W : WX) (own : List Nat) (e : Expr) (f : En → Rs D) : Prop where
  ex : ∃ t, PE X e t ∧ ∀ H0 Hd0 ρ σ H Hd, Rel X.K H0 Hd0 own ρ σ H Hd → ∀ Q : VK, PoE X W σ H Hd (f ρ) Q → t σ H Q
structure SB (X : Cx) (W : WX) (own : List Nat) (e : Expr) (f : En → Rs D) : Prop where
  ex : ∃ t, PE X e t ∧ ∀ H0 Hd0 ρ σ H Hd, Rel X.K H0 Hd0 own ρ σ H Hd → ∀ Q : VK, PoB X W σ H Hd (f ρ) Q → t σ H Q
structure SM (X : Cx) (W : WX) (own : List Nat) (e : Expr) (f : En → Rs D) : Prop where
  ex : ∃ t, PE X e t ∧ ∀ H0 Hd0 ρ σ H Hd, Rel X.K H0 Hd0 own ρ σ H Hd → ∀ Q : VK, PoM X W σ H Hd (f ρ) Q → t σ H Q
structure SC (X : Cx) (W : WX) (own : List Nat) (e : Expr) (f : En → Rs Bool) : Prop where
  ex : ∃ t, PT X e t ∧ ∀ H0 Hd0 ρ σ H Hd, Rel X.K H0 Hd0 own ρ σ H Hd → ∀ Q : Bool → Hp → Prop, PoT X W σ H Hd (f ρ) Q → t σ H Q
/-- a chain of and, or -/
structure SW (X : Cx) (W : WX) (own : List Nat) (e : Expr) (f : En → Rs Bool) : Prop where
  ex : ∃ t, PW X e t ∧ ∀ H0 Hd0 ρ σ H Hd, Rel X.K H0 Hd0 own ρ σ H Hd → ∀ Q : Bool → Hp → Prop, PoT X W σ H Hd (f ρ) Q → t σ H Q
structure SA (X : Cx) (W : WX) (own : List Nat) (es : List Expr) (f : En → Rs (List D)) : Prop where
  ex : ∃ t, PA X es t ∧ ∀ H0 Hd0 ρ σ H Hd, Rel X.K H0 Hd0 own ρ σ H Hd → ∀ Q : List V → Hp → Prop, PoA X W σ H Hd (f ρ) Q → t σ H Q
section
variable {X : Cx} {W : WX} {own : List Nat} {e a b : Expr} {f fa fb : En → Rs D} {pos : Pos}
theorem SE.bb (h : SE X W own e f) : SB X W own e f := by
  obtain ⟨t, p, r⟩ := h.ex
  refine ⟨t, p, fun H0 Hd0 ρ σ H Hd R Q q => r H0 Hd0 ρ σ H Hd R Q ?_⟩
  cases hf : f ρ with
  | ok d => rw [hf] at q; exact fun v H' Hd' s x => q v H' Hd' s (.inl x)
  | ex c fs => rw [hf] at q; exact q
  | bad => rw [hf] at q; exact q
/-- what is new may be let stand -/
theorem NewV.still {H Hd H' Hd' : Hp} {v : V} {d : D} (s : Step H Hd H' Hd') (h : NewV X.K H H' Hd' v d) : ∃ Hd'', Step H Hd H' Hd'' ∧ Dq X.K Hd'' v d := by
  have triv : Dq X.K Hd' v d → ∃ Hd'', Step H Hd H' Hd'' ∧ Dq X.K Hd'' v d := fun h => ⟨Hd', s, h⟩
  cases d with
  | list ds =>
    obtain ⟨p, vs, rfl, n, n', e1, r1⟩ := h
    have n2 : Same Hd' (upd Hd' p (.lst vs)) := same_upd n'
    refine ⟨upd Hd' p (.lst vs), ⟨s.up, fun b x eb => ?_, fun b x e => n2 b x (s.keep b x e), fun b nb => ?_⟩, .lst (.inl (.inl upd_same)) (dqAll_mono n2 r1)⟩
    · by_cases z : b = p
      · subst z; rw [upd_same] at eb; cases eb; exact e1
      · rw [upd_ne z] at eb; exact s.sub b x eb
    · rw [upd_ne (fun z => nb (by rw [z]; exact n))]; exact s.old b nb
  | none => exact triv h
  | bool b => exact triv h
  | int b => exact triv h
  | str b => exact triv h
  | tuple b => exact triv h
  | dict b =>
    obtain ⟨p, n, n', ks, vs, ds, rfl, e0, e1, e2, r1⟩ := h
    have n2 : Same Hd' (upd Hd' p (.dK ((ks.map Sum.inr).zip vs))) := same_upd n'
    refine ⟨upd Hd' p (.dK ((ks.map Sum.inr).zip vs)), ⟨s.up, fun b x eb => ?_, fun b x e => n2 b x (s.keep b x e), fun b nb => ?_⟩, by rw [e0]; exact .dct upd_same e2 (dqAll_mono n2 r1)⟩
    · by_cases z : b = p
      · subst z; rw [upd_same] at eb; cases eb; exact e1
      · rw [upd_ne z] at eb; exact s.sub b x eb
    · rw [upd_ne (fun z => nb (by rw [z]; exact n))]; exact s.old b nb
theorem SM.se (h : SM X W own e f) : SE X W own e f := by
  obtain ⟨t, p, r⟩ := h.ex
  refine ⟨t, p, fun H0 Hd0 ρ σ H Hd R Q q => r H0 Hd0 ρ σ H Hd R Q ?_⟩
  cases hf : f ρ with
  | ok d =>
    rw [hf] at q
    intro v H' Hd' s n
    obtain ⟨Hd'', s', x⟩ := n.still s
    exact q v H' Hd'' s' x
  | ex c fs => rw [hf] at q; exact q
  | bad => rw [hf] at q; exact q
theorem SE.congr {g : En → Rs D} (h : SE X W own e f) (hg : ∀ ρ, f ρ = g ρ) : SE X W own e g := by
  have : f = g := funext hg
  subst this; exact h
end

/-! ### names, constants -/
def eVar (i : Nat) : En → Rs D := fun ρ => match ρ[i]? with
  | some (some d) => .ok d
  | _ => .bad
def eC (d : D) : En → Rs D := fun _ => .ok d
section
variable {X : Cx} {W : WX} {own : List Nat} {pos : Pos}
theorem se_var (i : Nat) {x : Str} (ho : (own.contains i || isObj own i) = false := by rfl) (hN : X.N[i]? = some x := by rfl) (hv : Vis X.env.scope x := by first | exact Or.inl rfl | exact Or.inr (Or.inl rfl) | exact Or.inr (Or.inr rfl))
    (hd : (x == ("__debug__" : Str)) = false := by rfl) (hcd : (x == ("__classdict__" : Str)) = false := by rfl) : SE X W own (.Name x pos) (eVar i) := by
  refine ⟨_, pe_var hN hv hd hcd, fun H0 Hd0 ρ σ H Hd R Q q => ?_⟩
  unfold eVar at q
  cases hi : ρ[i]? with
  | none => rw [hi] at q; exact q.elim
  | some o =>
    cases o with
    | none => rw [hi] at q; exact q.elim
    | some d =>
      rw [hi] at q
      obtain ⟨v, h1, h2⟩ := R.val i d hi (by intro _ h; rw [List.contains_iff_mem.mpr h] at ho; cases ho) (Bool.or_eq_false_iff.mp ho).2
      exact ⟨v, h1, q v H Hd (.refl R.st.sub) h2⟩
theorem sb_own (i : Nat) {x : Str} (ho : (own.contains i && decide (i < 100)) = true := by rfl) (hN : X.N[i]? = some x := by rfl) (hv : Vis X.env.scope x := by first | exact Or.inl rfl | exact Or.inr (Or.inl rfl) | exact Or.inr (Or.inr rfl))
    (hd : (x == ("__debug__" : Str)) = false := by rfl) (hcd : (x == ("__classdict__" : Str)) = false := by rfl) : SB X W own (.Name x pos) (eVar i) := by
  refine ⟨_, pe_var hN hv hd hcd, fun H0 Hd0 ρ σ H Hd R Q q => ?_⟩
  unfold eVar at q
  cases hi : ρ[i]? with
  | none => rw [hi] at q; exact q.elim
  | some o =>
    cases o with
    | none => rw [hi] at q; exact q.elim
    | some d =>
      rw [hi] at q
      rcases R.ownL hi (List.contains_iff_mem.mp (Bool.and_eq_true_iff.mp ho).1) (of_decide_eq_true (Bool.and_eq_true_iff.mp ho).2) with ⟨a, vs, ds, rfl, h2, h3, h4, h5, h6⟩ | ⟨h1, v, h2, h3⟩ | ⟨a, h1, h2, h3, h4⟩
      · exact ⟨.ref a, h2, q (.ref a) H Hd (.refl R.st.sub) (.inr (.inl ⟨a, vs, ds, rfl, rfl, h3, h6⟩))⟩
      · exact ⟨v, h2, q v H Hd (.refl R.st.sub) (.inl h3.1)⟩
      · exact ⟨.ref a, h1, q (.ref a) H Hd (.refl R.st.sub) (.inr (.inr ⟨a, h4⟩))⟩
theorem se_c {v : V} {d : D} {e : Expr} (h : PE X e (tC v)) (hd : ∀ K H, Dq K H v d) : SE X W own e (eC d) :=
  ⟨_, h, fun H0 Hd0 ρ σ H Hd R Q q => q v H Hd (.refl R.st.sub) (hd _ _)⟩
theorem se_int {i : Int} {j : Nat} : SE X W own (.Constant (.int i) j pos) (eC (.int i)) := se_c pe_int fun _ _ => .int i
theorem se_bl {b : Bool} {j : Nat} : SE X W own (.Constant (.bool b) j pos) (eC (.bool b)) := se_c pe_bl fun _ _ => .bl b
theorem se_non {j : Nat} : SE X W own (.Constant .none j pos) (eC .none) := se_c pe_non fun _ _ => .non
theorem se_str {x y : Str} {j : Nat} (h : x = y := by rfl) : SE X W own (.Constant (.str x) j pos) (eC (.str y)) := by
  subst h; exact se_c pe_str fun _ _ => .str x
/-- a module's constant -/
theorem se_glob {x : Str} {v : V} {u : Value} {d : D} (hm : X.mg x = some u) (r : RelV v u) (hd : ∀ H, Dq X.K H v d) (hg : Gl X x := by rfl) (hdb : (x == ("__debug__" : Str)) = false := by rfl) : SE X W own (.Name x pos) (eC d) :=
  ⟨_, pe_glob hg hm r hdb, fun H0 Hd0 ρ σ H Hd R Q q => q v H Hd (.refl R.st.sub) (hd _)⟩
end

/-! ### two places -/
/-- an operation on values is one on data -/
def OpS (X : Cx) (r : R2) (g : D → D → Rs D) : Prop := ∀ W σ H Hd x y dx dy, Same Hd H → Dv X.K H Hd x dx → Dv X.K H Hd y dy → ∀ Q, PoE X W σ H Hd (g dx dy) Q → r x y H Q
def e2 (g : D → D → Rs D) (fa fb : En → Rs D) : En → Rs D := fun ρ => fa ρ >>= fun x => fb ρ >>= fun y => g x y
section
variable {X : Cx} {W : WX} {own : List Nat} {a b : Expr} {fa fb : En → Rs D} {pos : Pos}
/-- two operands in a row -/
theorem run2 {ta tb : TE} {g : D → D → Rs D} {r : R2} (hr : OpS X r g)
    (ra : ∀ H0 Hd0 ρ σ H Hd, Rel X.K H0 Hd0 own ρ σ H Hd → ∀ Q : VK, PoB X W σ H Hd (fa ρ) Q → ta σ H Q)
    (rb : ∀ H0 Hd0 ρ σ H Hd, Rel X.K H0 Hd0 own ρ σ H Hd → ∀ Q : VK, PoB X W σ H Hd (fb ρ) Q → tb σ H Q)
    {H0 : Bs} {Hd0 : Hp} {ρ : En} {σ : L2.St} {H Hd : Hp} (R : Rel X.K H0 Hd0 own ρ σ H Hd) {Q : VK} (q : PoE X W σ H Hd (e2 g fa fb ρ) Q) : tOp r ta tb σ H Q := by
  show ta σ H fun x H1 => tb σ H1 fun y H2 => r x y H2 Q
  refine ra _ _ _ _ _ _ R _ ?_
  unfold e2 at q
  cases ha : fa ρ with
  | bad => rw [ha] at q; exact q
  | ex c fs => rw [ha] at q; exact q
  | ok d1 =>
    rw [ha] at q
    intro x H1 Hd1 s1 v1
    refine rb _ _ _ _ _ _ (R.step s1) _ ?_
    have q1 : PoE X W σ H1 Hd1 (fb ρ >>= fun y => g d1 y) Q := PoE.step q s1
    cases hb : fb ρ with
    | bad => rw [hb] at q1; exact q1
    | ex c fs => rw [hb] at q1; exact q1
    | ok d2 =>
      rw [hb] at q1
      intro y H2 Hd2 s2 v2
      exact hr W σ H2 Hd2 x y d1 d2 s2.sub (v1.step s1.sub s2) v2 Q (PoE.step q1 s2)
theorem se_op {op : Operator} {r : R2} {g : D → D → Rs D} (ho : OpR X (binaryOp op) r) (hr : OpS X r g) (ha : SB X W own a fa) (hb : SB X W own b fb) : SE X W own (.BinOp a op b pos) (e2 g fa fb) := by
  obtain ⟨ta, pa, ra⟩ := ha.ex
  obtain ⟨tb, pb, rb⟩ := hb.ex
  exact ⟨_, pe_op ho pa pb, fun H0 Hd0 ρ σ H Hd R Q q => run2 hr ra rb R q⟩
theorem se_cmp {op : CmpOp} {r : R2} {g : D → D → Rs D} (ho : OpR X (compareOp op) r) (hr : OpS X r g) (ha : SB X W own a fa) (hb : SB X W own b fb) (hm : behindInMarks op b = false) : SE X W own (.Compare a [op] [b] pos) (e2 g fa fb) := by
  obtain ⟨ta, pa, ra⟩ := ha.ex
  obtain ⟨tb, pb, rb⟩ := hb.ex
  exact ⟨_, pe_cmpR ho pa pb hm, fun H0 Hd0 ρ σ H Hd R Q q => run2 hr ra rb R q⟩
theorem se_ix {r : R2} {g : D → D → Rs D} (ho : IxR X r) (hr : OpS X r g) (ha : SB X W own a fa) (hb : SB X W own b fb) (hs : PlainIx b := by exact fun _ _ => rfl) : SE X W own (.Subscript a b pos) (e2 g fa fb) := by
  obtain ⟨ta, pa, ra⟩ := ha.ex
  obtain ⟨tb, pb, rb⟩ := hb.ex
  exact ⟨_, pe_ix ho pa pb hs, fun H0 Hd0 ρ σ H Hd R Q q => run2 hr ra rb R q⟩
/-- a bool as a test -/
def asB (r : Rs D) : Rs Bool := r >>= fun d => match d with
  | .bool b => .ok b
  | _ => .bad
def tB (f : En → Rs D) : En → Rs Bool := fun ρ => asB (f ρ)
theorem PoT.of_asB {r : Rs D} {σ : L2.St} {H Hd : Hp} {Q : Bool → Hp → Prop} (q : PoT X W σ H Hd (asB r) Q) : PoE X W σ H Hd r (fun x H1 => ∃ k, x = .bl k ∧ Q k H1) := by
  unfold asB at q
  cases r with
  | bad => exact q
  | ex c fs => exact q
  | ok d =>
    intro v H' Hd' s x
    cases x with
    | bl k => exact ⟨k, rfl, q H' Hd' s⟩
    | _ => exact (show False from q).elim
theorem st_cmp {op : CmpOp} {r : R2} {g : D → D → Rs D} (ho : OpR X (compareOp op) r) (hr : OpS X r g) (ha : SB X W own a fa) (hb : SB X W own b fb) (hm : behindInMarks op b = false) : SC X W own (.Compare a [op] [b] pos) (tB (e2 g fa fb)) := by
  obtain ⟨ta, pa, ra⟩ := ha.ex
  obtain ⟨tb, pb, rb⟩ := hb.ex
  exact ⟨_, pt_cmpR ho pa pb hm, fun H0 Hd0 ρ σ H Hd R Q q => run2 hr ra rb R (PoT.of_asB q)⟩
/-- a value that is a truth -/
theorem st_val {e : Expr} {f : En → Rs D} (h : SE X W own e f) (he : ∀ whole, isTrue e X.env whole = (do let v ← whole; standAt e.pos; holding [v] (truthy v)) := by intro _; rfl) : SC X W own e (tB f) := by
  obtain ⟨t, p, r⟩ := h.ex
  exact ⟨_, pt_val p he, fun H0 Hd0 ρ σ H Hd R Q q => r H0 Hd0 ρ σ H Hd R _ (PoT.of_asB q)⟩
end
/-! ### and, or, not -/
def tAn (f g : En → Rs Bool) : En → Rs Bool := fun ρ => f ρ >>= fun c => if c = true then g ρ else .ok false
def tOr' (f g : En → Rs Bool) : En → Rs Bool := fun ρ => f ρ >>= fun c => if c = true then .ok true else g ρ
def tNo (f : En → Rs Bool) : En → Rs Bool := fun ρ => f ρ >>= fun c => .ok (!c)
def eAn (f g : En → Rs D) : En → Rs D := fun ρ => f ρ >>= fun d => match d with
  | .bool true => g ρ
  | .bool false => .ok (.bool false)
  | _ => .bad
def eOr (f g : En → Rs D) : En → Rs D := fun ρ => f ρ >>= fun d => match d with
  | .bool true => .ok (.bool true)
  | .bool false => g ρ
  | _ => .bad
def eNo (f : En → Rs D) : En → Rs D := fun ρ => f ρ >>= fun d => match d with
  | .bool c => .ok (.bool (!c))
  | _ => .bad
def eIf (c : En → Rs Bool) (f g : En → Rs D) : En → Rs D := fun ρ => c ρ >>= fun b => if b = true then f ρ else g ρ
section
variable {X : Cx} {W : WX} {own : List Nat} {a b : Expr} {fa fb : En → Rs Bool} {ga gb : En → Rs D} {pos : Pos} {rest : List Expr}
theorem sw_and1 (h : SC X W own a fa) : SW X W own (.BoolOp .And [a] pos) fa := let ⟨_, p, r⟩ := h.ex; ⟨_, pw_and1 p, r⟩
theorem sw_or1 (h : SC X W own a fa) : SW X W own (.BoolOp .Or [a] pos) fa := let ⟨_, p, r⟩ := h.ex; ⟨_, pw_or1 p, r⟩
theorem sw_and (h : SC X W own a fa) (h2 : SW X W own (.BoolOp .And (b :: rest) pos) fb) : SW X W own (.BoolOp .And (a :: b :: rest) pos) (tAn fa fb) := by
  obtain ⟨ta, pa, ra⟩ := h.ex
  obtain ⟨tb, pb, rb⟩ := h2.ex
  refine ⟨_, pw_and pa pb, fun H0 Hd0 ρ σ H Hd R Q q => ?_⟩
  refine ra _ _ _ _ _ _ R _ ?_
  unfold tAn at q
  cases ha : fa ρ with
  | bad => rw [ha] at q; exact q
  | ex c fs => rw [ha] at q; exact q
  | ok c =>
    rw [ha] at q
    intro H1 Hd1 s1
    have q1 := PoT.step (r := if c = true then fb ρ else .ok false) q s1
    cases c with
    | true => exact rb _ _ _ _ _ _ (R.step s1) _ q1
    | false => exact q1 H1 Hd1 (.refl s1.sub)
theorem sw_or (h : SC X W own a fa) (h2 : SW X W own (.BoolOp .Or (b :: rest) pos) fb) : SW X W own (.BoolOp .Or (a :: b :: rest) pos) (tOr' fa fb) := by
  obtain ⟨ta, pa, ra⟩ := h.ex
  obtain ⟨tb, pb, rb⟩ := h2.ex
  refine ⟨_, pw_or pa pb, fun H0 Hd0 ρ σ H Hd R Q q => ?_⟩
  refine ra _ _ _ _ _ _ R _ ?_
  unfold tOr' at q
  cases ha : fa ρ with
  | bad => rw [ha] at q; exact q
  | ex c fs => rw [ha] at q; exact q
  | ok c =>
    rw [ha] at q
    intro H1 Hd1 s1
    have q1 := PoT.step (r := if c = true then .ok true else fb ρ) q s1
    cases c with
    | true => exact q1 H1 Hd1 (.refl s1.sub)
    | false => exact rb _ _ _ _ _ _ (R.step s1) _ q1
theorem SW.t {e : Expr} {f : En → Rs Bool} (h : SW X W own e f) : SC X W own e f := let ⟨_, p, r⟩ := h.ex; ⟨_, p.pt, r⟩
theorem st_not (h : SC X W own a fa) : SC X W own (.UnaryOp .Not a pos) (tNo fa) := by
  obtain ⟨ta, pa, ra⟩ := h.ex
  refine ⟨_, pt_not pa, fun H0 Hd0 ρ σ H Hd R Q q => ?_⟩
  refine ra _ _ _ _ _ _ R _ ?_
  unfold tNo at q
  cases ha : fa ρ with
  | bad => rw [ha] at q; exact q
  | ex c fs => rw [ha] at q; exact q
  | ok c => rw [ha] at q; exact q
theorem se_one {op : BoolOp} {e : Expr} {f : En → Rs D} (h : SE X W own e f) : SE X W own (.BoolOp op [e] pos) f := let ⟨_, p, r⟩ := h.ex; ⟨_, pe_one p, r⟩
theorem se_and (h : SE X W own a ga) (h2 : SE X W own (.BoolOp .And (b :: rest) pos) gb) : SE X W own (.BoolOp .And (a :: b :: rest) pos) (eAn ga gb) := by
  obtain ⟨ta, pa, ra⟩ := h.ex
  obtain ⟨tb, pb, rb⟩ := h2.ex
  refine ⟨_, pe_and pa pb, fun H0 Hd0 ρ σ H Hd R Q q => ?_⟩
  refine ra _ _ _ _ _ _ R _ ?_
  unfold eAn at q
  cases ha : ga ρ with
  | bad => rw [ha] at q; exact q
  | ex c fs => rw [ha] at q; exact q
  | ok d =>
    rw [ha] at q
    intro v H1 Hd1 s1 x
    cases x with
    | bl c =>
      refine ⟨c, rfl, ?_⟩
      cases c with
      | true => exact rb _ _ _ _ _ _ (R.step s1) _ (PoE.step (r := gb ρ) q s1)
      | false => exact q (.bl false) H1 Hd1 s1 (.bl false)
    | _ => exact (show False from q).elim
theorem se_or (h : SE X W own a ga) (h2 : SE X W own (.BoolOp .Or (b :: rest) pos) gb) : SE X W own (.BoolOp .Or (a :: b :: rest) pos) (eOr ga gb) := by
  obtain ⟨ta, pa, ra⟩ := h.ex
  obtain ⟨tb, pb, rb⟩ := h2.ex
  refine ⟨_, pe_or pa pb, fun H0 Hd0 ρ σ H Hd R Q q => ?_⟩
  refine ra _ _ _ _ _ _ R _ ?_
  unfold eOr at q
  cases ha : ga ρ with
  | bad => rw [ha] at q; exact q
  | ex c fs => rw [ha] at q; exact q
  | ok d =>
    rw [ha] at q
    intro v H1 Hd1 s1 x
    cases x with
    | bl c =>
      refine ⟨c, rfl, ?_⟩
      cases c with
      | true => exact q (.bl true) H1 Hd1 s1 (.bl true)
      | false => exact rb _ _ _ _ _ _ (R.step s1) _ (PoE.step (r := gb ρ) q s1)
    | _ => exact (show False from q).elim
theorem se_not (h : SE X W own a ga) : SE X W own (.UnaryOp .Not a pos) (eNo ga) := by
  obtain ⟨ta, pa, ra⟩ := h.ex
  refine ⟨_, pe_not pa, fun H0 Hd0 ρ σ H Hd R Q q => ?_⟩
  refine ra _ _ _ _ _ _ R _ ?_
  unfold eNo at q
  cases ha : ga ρ with
  | bad => rw [ha] at q; exact q
  | ex c fs => rw [ha] at q; exact q
  | ok d =>
    rw [ha] at q
    intro v H1 Hd1 s1 x
    cases x with
    | bl c => exact ⟨c, rfl, q (.bl (!c)) H1 Hd1 s1 (.bl _)⟩
    | _ => exact (show False from q).elim
theorem se_ifx {c : Expr} {fc : En → Rs Bool} (hc : SC X W own c fc) (h : SE X W own a ga) (h2 : SE X W own b gb) : SE X W own (.IfExp c a b pos) (eIf fc ga gb) := by
  obtain ⟨tc, pc, rc⟩ := hc.ex
  obtain ⟨ta, pa, ra⟩ := h.ex
  obtain ⟨tb, pb, rb⟩ := h2.ex
  refine ⟨_, pe_ifExp pc pa pb, fun H0 Hd0 ρ σ H Hd R Q q => ?_⟩
  refine rc _ _ _ _ _ _ R _ ?_
  unfold eIf at q
  cases ha : fc ρ with
  | bad => rw [ha] at q; exact q
  | ex c fs => rw [ha] at q; exact q
  | ok d =>
    rw [ha] at q
    intro H1 Hd1 s1
    have q1 := PoE.step (r := if d = true then ga ρ else gb ρ) q s1
    cases d with
    | true => exact ra _ _ _ _ _ _ (R.step s1) _ q1
    | false => exact rb _ _ _ _ _ _ (R.step s1) _ q1
end

/-! ### arguments, displays -/
def aNil : En → Rs (List D) := fun _ => .ok []
def aCons (f : En → Rs D) (g : En → Rs (List D)) : En → Rs (List D) := fun ρ => f ρ >>= fun d => g ρ >>= fun ds => .ok (d :: ds)
section
variable {X : Cx} {W : WX} {own : List Nat} {e : Expr} {es : List Expr} {f : En → Rs D} {g : En → Rs (List D)} {pos : Pos}
theorem sa_nil : SA X W own [] aNil := ⟨_, pa_nil, fun H0 Hd0 ρ σ H Hd R Q q => q [] H Hd (.refl R.st.sub) .nil⟩
theorem sa_cons (h : SE X W own e f) (h2 : SA X W own es g) (hs : starEach (e :: es) X.env = (false, eval e X.env) :: starEach es X.env := by rfl) : SA X W own (e :: es) (aCons f g) := by
  obtain ⟨ta, pa, ra⟩ := h.ex
  obtain ⟨tb, pb, rb⟩ := h2.ex
  refine ⟨_, pa_cons pa pb hs, fun H0 Hd0 ρ σ H Hd R Q q => ?_⟩
  refine ra _ _ _ _ _ _ R _ ?_
  unfold aCons at q
  cases ha : f ρ with
  | bad => rw [ha] at q; exact q
  | ex c fs => rw [ha] at q; exact q
  | ok d =>
    rw [ha] at q
    intro v H1 Hd1 s1 x
    have q1 : PoA X W σ H1 Hd1 (g ρ >>= fun ds => .ok (d :: ds)) Q := PoA.step q s1
    refine rb _ _ _ _ _ _ (R.step s1) _ ?_
    cases hb : g ρ with
    | bad => rw [hb] at q1; exact q1
    | ex c fs => rw [hb] at q1; exact q1
    | ok ds =>
      rw [hb] at q1
      intro vs H2 Hd2 s2 xs
      exact q1 (v :: vs) H2 Hd2 s2 (.cons (dq_mono (s2.keep) x) xs)
/-- (a, b, ..) -/
def eTup (g : En → Rs (List D)) : En → Rs D := fun ρ => g ρ >>= fun ds => if ds.length ≤ sizeLine then .ok (.tuple ds) else .bad
def eLst (g : En → Rs (List D)) : En → Rs D := fun ρ => g ρ >>= fun ds => if ds.length ≤ sizeLine then .ok (.list ds) else .bad
theorem se_tup {k : Nat} (h : SA X W own es g) : SE X W own (.Tuple es k pos) (eTup g) := by
  obtain ⟨ta, pa, ra⟩ := h.ex
  refine ⟨_, pe_tup pa, fun H0 Hd0 ρ σ H Hd R Q q => ?_⟩
  refine ra _ _ _ _ _ _ R _ ?_
  unfold eTup at q
  cases ha : g ρ with
  | bad => rw [ha] at q; exact q
  | ex c fs => rw [ha] at q; exact q
  | ok ds =>
    simp only [ha, ok_bind] at q
    intro vs H1 Hd1 s1 xs
    by_cases hl : ds.length ≤ sizeLine
    · rw [if_pos hl] at q
      refine ⟨by rw [xs.length]; exact hl, fun p hp => ?_⟩
      have n2 : Same Hd1 (upd Hd1 p (.tup vs)) := same_upd (none_of_same s1.sub hp)
      exact q (.ref p) _ _ (s1.trans (.new s1.sub hp)) (.tup (.inl (.inl upd_same)) (dqAll_mono n2 xs))
    · rw [if_neg hl] at q; exact q.elim
theorem sm_lst (h : SA X W own es g) : SM X W own (.List es pos) (eLst g) := by
  obtain ⟨ta, pa, ra⟩ := h.ex
  refine ⟨_, pe_lst pa, fun H0 Hd0 ρ σ H Hd R Q q => ?_⟩
  refine ra _ _ _ _ _ _ R _ ?_
  unfold eLst at q
  cases ha : g ρ with
  | bad => rw [ha] at q; exact q
  | ex c fs => rw [ha] at q; exact q
  | ok ds =>
    simp only [ha, ok_bind] at q
    intro vs H1 Hd1 s1 xs
    by_cases hl : ds.length ≤ sizeLine
    · rw [if_pos hl] at q
      refine ⟨by rw [xs.length]; exact hl, fun p hp => ?_⟩
      exact q (.ref p) _ _ (s1.trans (.own s1.sub hp)) ⟨p, vs, rfl, none_of_same s1.up hp, none_of_same s1.sub hp, upd_same, xs⟩
    · rw [if_neg hl] at q; exact q.elim
end
end Wm

set_option Elab.async false
set_option linter.all false
set_option maxRecDepth 100000
/-! WmStmt: statements, loops, defs and calls of the layer. -/
namespace Wm
open PySem PySem.Spec PyProof.Rows L2

/-- what a statement leads to (rx: returned, with what the slots hold then) -/
inductive Out where
  | nx (ρ : En)
  | bk (ρ : En)
  | ct (ρ : En)
  | rt (d : D)
  | ex (c : Str) (fs : List (Str × D)) (ρ : En)
  | bad
  | rx (d : D) (ρ : En)

theorem mem_drp {own : List Nat} {i j : Nat} : j ∈ drp own i ↔ j ∈ own ∧ (1000 ≤ j ∨ j % 100 ≠ i) := by
  unfold drp; rw [List.mem_filter]; simp
theorem isObj_iff {own : List Nat} {i : Nat} : isObj own i = true ↔ ∃ j ∈ own, 100 ≤ j ∧ j < 1000 ∧ j % 100 = i := by
  unfold isObj obC; rw [List.any_eq_true]; simp
theorem isObj_drp {own : List Nat} {i k : Nat} (h : isObj (drp own i) k = false) (hk : k ≠ i) : isObj own k = false := by
  cases e : isObj own k with
  | false => rfl
  | true =>
    obtain ⟨j, m, a, b, c⟩ := isObj_iff.mp e
    have : isObj (drp own i) k = true := isObj_iff.mpr ⟨j, mem_drp.mpr ⟨m, .inr (by rw [c]; exact hk)⟩, a, b, c⟩
    rw [this] at h; cases h
theorem isObj_cons {own : List Nat} {i k : Nat} (hi : i < 100) : isObj (i :: own) k = isObj own k := by
  unfold isObj
  rw [List.any_cons]
  have : obC k i = false := by unfold obC; rw [decide_eq_false (by omega)]; rfl
  rw [this, Bool.false_or]
/-- what an exception leaves: the slots that are owned all the same (E); the slots whose objects are forgotten (wp); io: what a return must still own -/
structure Md where
  nw : Bool
  E : List Nat
  wp : List Nat
  io : List Nat
abbrev Md.of (b : Bool) : Md := ⟨b, [], [], []⟩
def wipeS (ws : List Nat) (ρ : En) : En := ws.foldr (fun i r => r.set i none) ρ
@[simp] theorem wipeS_nil (ρ : En) : wipeS [] ρ = ρ := rfl
theorem wipeS_len (ws : List Nat) (ρ : En) : (wipeS ws ρ).length = ρ.length := by
  unfold wipeS
  induction ws with
  | nil => rfl
  | cons w ws ih => simp [ih]
theorem wipeS_in {ws : List Nat} {ρ : En} {i : Nat} {d : D} (h : (wipeS ws ρ)[i]? = some (some d)) : i ∉ ws ∧ ρ[i]? = some (some d) := by
  unfold wipeS at h
  induction ws with
  | nil => exact ⟨(fun z => nomatch z), h⟩
  | cons w ws ih =>
    rw [List.foldr_cons] at h
    by_cases z : i = w
    · subst z
      have hl : i < (List.foldr (fun i r => List.set r i none) ρ ws).length := by
        have := (List.getElem?_eq_some_iff.mp h).1
        simpa using this
      rw [List.getElem?_set_self hl] at h
      cases h
    · rw [List.getElem?_set_ne (Ne.symm z)] at h
      obtain ⟨h1, h2⟩ := ih h
      refine ⟨fun m => ?_, h2⟩
      rcases List.mem_cons.mp m with m | m
      · exact z m
      · exact h1 m
def okE (fl : Md) (own : List Nat) : Bool := fl.E.all own.contains && own.all fun j => decide (j < 100) || (decide (1000 ≤ j) || (fl.E.contains j || fl.wp.contains (j % 100)))
/-- less is owned, but the objects and what stands -/
def lessO (own' own : List Nat) : Bool := own'.all own.contains && own.all fun j => decide (j < 100) || own'.contains j
def Bs.res (B : Bs) (E : List Nat) : Bs := ⟨B.h, fun i => if 1000 + i ∈ E then B.an i else none⟩

theorem ncon {own : List Nat} {j : Nat} (h : own.contains j = false) : j ∉ own := fun m => by rw [List.contains_iff_mem.mpr m] at h; cases h
section
variable {K : PySem.W.Frag} {H0 : Bs} {Hd0 : Hp} {own : List Nat} {ρ : En} {σ : L2.St} {H Hd : Hp}
theorem Rel.set {i : Nat} {d : D} {v : V} (R : Rel K H0 Hd0 own ρ σ H Hd) (x : Dq K Hd v d) (hk : (1000 + i) ∉ own) : Rel K H0 Hd0 (drp own i) (ρ.set i (some d)) (σ.set i (some v)) H Hd where
  st := R.st
  len := by simp [R.len]
  val := fun j e h n n2 => by
    by_cases z : j = i
    · subst z
      have hl : j < ρ.length := by
        have := (List.getElem?_eq_some_iff.mp h).1
        simpa using this
      rw [List.getElem?_set_self hl] at h
      cases h
      exact ⟨v, by rw [List.getElem?_set_self (by rw [← R.len]; exact hl)], x⟩
    · rw [List.getElem?_set_ne (Ne.symm z)] at h
      rw [List.getElem?_set_ne (Ne.symm z)]
      exact R.val j e h (fun c m => n c (mem_drp.mpr ⟨m, .inr (by rw [Nat.mod_eq_of_lt c]; exact z)⟩)) (isObj_drp n2 z)
  anc := fun k w h => by
    obtain ⟨h1, h2⟩ := R.anc k w h
    refine ⟨mem_drp.mpr ⟨h1, .inl (by omega)⟩, ?_⟩
    rw [List.getElem?_set_ne (fun z => hk (by rw [z]; exact h1))]
    exact h2
  ex := by
    obtain ⟨A, h1, h2, h3⟩ := R.ex
    refine ⟨A, fun j m l e h => ?_, fun j m => h2 j (mem_drp.mp m).1, fun j k mj mk => h3 j k (mem_drp.mp mj).1 (mem_drp.mp mk).1⟩
    obtain ⟨m1, z⟩ := mem_drp.mp m
    have z : j % 100 ≠ i := z.resolve_left (by omega)
    rw [List.getElem?_set_ne (Ne.symm z)] at h
    rw [List.getElem?_set_ne (Ne.symm z)]
    exact h1 j m1 l e h
theorem Rel.setM {X : Cx} {H' Hd' : Hp} {i : Nat} {d : D} {v : V} (R : Rel X.K H0 Hd0 own ρ σ H Hd) (s : Step H Hd H' Hd') (x : NewV X.K H H' Hd' v d) (hk : (1000 + i) ∉ own) (hi : i < 100) : Rel X.K H0 Hd0 (i :: drp own i) (ρ.set i (some d)) (σ.set i (some v)) H' Hd' where
  st := R.st.trans s
  len := by simp [R.len]
  val := fun j e h n n2 => by
    have z : j ≠ i := fun z => n (by omega) (by rw [z]; exact List.mem_cons_self)
    rw [List.getElem?_set_ne (Ne.symm z)] at h
    rw [List.getElem?_set_ne (Ne.symm z)]
    rw [isObj_cons hi] at n2
    exact (R.step s).val j e h (fun c m => n c (List.mem_cons_of_mem _ (mem_drp.mpr ⟨m, .inr (by rw [Nat.mod_eq_of_lt c]; exact z)⟩))) (isObj_drp n2 z)
  anc := fun k w h => by
    obtain ⟨h1, h2⟩ := R.anc k w h
    refine ⟨List.mem_cons_of_mem _ (mem_drp.mpr ⟨h1, .inl (by omega)⟩), ?_⟩
    rw [List.getElem?_set_ne (fun z => hk (by rw [z]; exact h1))]
    exact h2
  ex := by
    obtain ⟨A, h1, h2, h3⟩ := (R.step s).ex
    obtain ⟨A0, _, h20, _⟩ := R.ex
    -- the new list's own place
    obtain ⟨B, b1, b2⟩ : ∃ B : List Addr, (∀ hl : i < ρ.length, Ov X.K H' Hd' 0 B v d) ∧ ∀ a ∈ B, Hd' a = none ∧ H0.h a = none ∧ H' a ≠ none ∧ H a = none := by
      cases d with
      | list ds =>
        obtain ⟨p, vs, rfl, n1, n2, e1, r1⟩ := x
        refine ⟨[p], fun _ => .inl ⟨p, vs, ds, rfl, rfl, rfl, e1, r1⟩, fun a m => ?_⟩
        rw [List.mem_singleton.mp m]
        exact ⟨n2, none_of_same R.st.up n1, by rw [e1]; simp, n1⟩
      | none => exact ⟨[], fun _ => .inr (.inl ⟨(fun _ z => nomatch z), ⟨(fun _ z => nomatch z), rfl⟩, x⟩), fun _ z => nomatch z⟩
      | bool b => exact ⟨[], fun _ => .inr (.inl ⟨(fun _ z => nomatch z), ⟨(fun _ z => nomatch z), rfl⟩, x⟩), fun _ z => nomatch z⟩
      | int b => exact ⟨[], fun _ => .inr (.inl ⟨(fun _ z => nomatch z), ⟨(fun _ z => nomatch z), rfl⟩, x⟩), fun _ z => nomatch z⟩
      | str b => exact ⟨[], fun _ => .inr (.inl ⟨(fun _ z => nomatch z), ⟨(fun _ z => nomatch z), rfl⟩, x⟩), fun _ z => nomatch z⟩
      | tuple b => exact ⟨[], fun _ => .inr (.inl ⟨(fun _ z => nomatch z), ⟨(fun _ z => nomatch z), rfl⟩, x⟩), fun _ z => nomatch z⟩
      | dict b =>
        obtain ⟨p, n1, n2, o1⟩ := x
        refine ⟨[p], fun _ => .inr (.inr ⟨p, rfl, o1⟩), fun a m => ?_⟩
        rw [List.mem_singleton.mp m]
        exact ⟨n2, none_of_same R.st.up n1, by obtain ⟨_, _, _, _, _, e1, _⟩ := o1; rw [e1]; simp, n1⟩
    -- what was owned ahead stood ahead
    have old : ∃ A : Nat → List Addr, (∀ j, j ∈ own → j < 1000 → ∀ d, ρ[j % 100]? = some (some d) → ∃ v, σ[j % 100]? = some (some v) ∧ Ov X.K H' Hd' (j / 100) (A j) v d) ∧
        (∀ j, j ∈ own → ∀ a ∈ A j, Hd' a = none ∧ H0.h a = none ∧ H' a ≠ none ∧ H a ≠ none) ∧ (∀ j k, j ∈ own → k ∈ own → ∀ a, a ∈ A j → a ∈ A k → j = k) := by
      obtain ⟨A, h1, h2, h3⟩ := R.ex
      refine ⟨A, fun j m l d e => ?_, fun j m a ma => ?_, h3⟩
      · obtain ⟨v, e1, e2⟩ := h1 j m l d e
        exact ⟨v, e1, e2.mono (fun a _ o q => s.up a o q) s.keep⟩
      · obtain ⟨q1, q2, q3⟩ := h2 j m a ma
        refine ⟨by rw [s.old a q3]; exact q1, q2, fun z => q3 ?_, q3⟩
        cases w : H a with
        | none => rfl
        | some o => rw [s.up a o w] at z; cases z
    obtain ⟨A, h1, h2, h3⟩ := old
    have em : i % 100 = i := Nat.mod_eq_of_lt hi
    have ed : i / 100 = 0 := Nat.div_eq_of_lt hi
    refine ⟨fun j => if j = i then B else A j, fun j m l e h => ?_, fun j m a ma => ?_, fun j k mj mk a aj ak => ?_⟩
    · by_cases z : j = i
      · subst z
        rw [em] at h ⊢
        have hl : j < ρ.length := by
          have := (List.getElem?_eq_some_iff.mp h).1
          simpa using this
        rw [List.getElem?_set_self hl] at h
        cases h
        refine ⟨v, by rw [List.getElem?_set_self (by rw [← R.len]; exact hl)], ?_⟩
        rw [ed]
        simp only [if_true]
        exact b1 hl
      · rcases List.mem_cons.mp m with m | m
        · exact absurd m z
        obtain ⟨m1, z2⟩ := mem_drp.mp m
        have z2 : j % 100 ≠ i := z2.resolve_left (by omega)
        rw [List.getElem?_set_ne (Ne.symm z2)] at h
        rw [List.getElem?_set_ne (Ne.symm z2)]
        simp only [if_neg z]
        exact h1 j m1 l e h
    · by_cases z : j = i
      · simp only [if_pos z] at ma
        obtain ⟨q1, q2, q3, _⟩ := b2 a ma
        exact ⟨q1, q2, q3⟩
      · simp only [if_neg z] at ma
        rcases List.mem_cons.mp m with m | m
        · exact absurd m z
        obtain ⟨q1, q2, q3, _⟩ := h2 j (mem_drp.mp m).1 a ma
        exact ⟨q1, q2, q3⟩
    · by_cases zj : j = i
      · by_cases zk : k = i
        · rw [zj, zk]
        · simp only [if_pos zj] at aj
          simp only [if_neg zk] at ak
          rcases List.mem_cons.mp mk with m | m
          · exact absurd m zk
          exact absurd (b2 a aj).2.2.2 (h2 k (mem_drp.mp m).1 a ak).2.2.2
      · simp only [if_neg zj] at aj
        rcases List.mem_cons.mp mj with m | m
        · exact absurd m zj
        by_cases zk : k = i
        · simp only [if_pos zk] at ak
          exact absurd (b2 a ak).2.2.2 (h2 j (mem_drp.mp m).1 a aj).2.2.2
        · simp only [if_neg zk] at ak
          rcases List.mem_cons.mp mk with m' | m'
          · exact absurd m' zk
          exact h3 j k (mem_drp.mp m).1 (mem_drp.mp m').1 a aj ak
/-- what is owned at c changes: H' but for the old places as H was -/
theorem Rel.change {c : Nat} {d : D} {v : V} {H' : Hp} {A0 : List Addr} (R : Rel K H0 Hd0 own ρ σ H Hd) (m : c ∈ own) (hc : c < 1000) (one : ∀ j ∈ own, j < 1000 → j % 100 = c % 100 → j = c)
    (hs : ∀ A : Nat → List Addr, (∀ j, j ∈ own → j < 1000 → ∀ d, ρ[j % 100]? = some (some d) → ∃ v, σ[j % 100]? = some (some v) ∧ Ov K H Hd (j / 100) (A j) v d) → (∀ a ∈ A c, Hd a = none ∧ H0.h a = none ∧ H a ≠ none) →
      ∃ A' : List Addr, (∃ v, σ[c % 100]? = some (some v) ∧ Ov K H' Hd (c / 100) A' v d) ∧ (∀ a, a ∉ A c → H' a = H a) ∧ (∀ a ∈ A', a ∈ A c) ∧ (∀ a, H' a = none → H a = none)) :
    Rel K H0 Hd0 own (ρ.set (c % 100) (some d)) σ H' Hd := by
  obtain ⟨A, h1, h2, h3⟩ := R.ex
  obtain ⟨A', k1, k2, k3, k4⟩ := hs A h1 (h2 c m)
  refine ⟨⟨fun b o e => ?_, fun b o e => ?_, R.st.keep, R.st.old⟩, by simp [R.len], fun j e hj n n2 => ?_, R.anc, fun j => if j = c then A' else A j, fun j mj l e h => ?_, fun j mj a ma => ?_, fun j k mj mk a aj ak => ?_⟩
  · rw [k2 b (fun z => by rw [(h2 c m b z).2.1] at e; cases e)]
    exact R.st.up b o e
  · rw [k2 b (fun z => by rw [(h2 c m b z).1] at e; cases e)]
    exact R.st.sub b o e
  · have z : j ≠ c % 100 := fun z => by
      by_cases lt : c < 100
      · rw [Nat.mod_eq_of_lt lt] at z
        exact n (by omega) (by rw [z]; exact m)
      · have : isObj own j = true := isObj_iff.mpr ⟨c, m, by omega, hc, z.symm⟩
        rw [this] at n2; cases n2
    rw [List.getElem?_set_ne (Ne.symm z)] at hj
    exact R.val j e hj n n2
  · by_cases z : j = c
    · subst z
      simp only [if_true]
      have hl : j % 100 < ρ.length := by
        have := (List.getElem?_eq_some_iff.mp h).1
        simpa using this
      rw [List.getElem?_set_self hl] at h
      cases h
      exact k1
    · simp only [if_neg z]
      have z2 : j % 100 ≠ c % 100 := fun w => z (one j mj l w)
      rw [List.getElem?_set_ne (Ne.symm z2)] at h
      obtain ⟨v, e1, e2⟩ := h1 j mj l e h
      exact ⟨v, e1, e2.mono (fun a ma o q => by rw [k2 a fun w => z (h3 j c mj m a ma w)]; exact q) fun _ _ q => q⟩
  · by_cases z : j = c
    · simp only [if_pos z] at ma
      obtain ⟨q1, q2, q3⟩ := h2 c m a (k3 a ma)
      exact ⟨q1, q2, fun w => q3 (k4 a w)⟩
    · simp only [if_neg z] at ma
      obtain ⟨q1, q2, q3⟩ := h2 j mj a ma
      exact ⟨q1, q2, fun w => q3 (k4 a w)⟩
  · have back : ∀ j, a ∈ (if j = c then A' else A j) → a ∈ A j := fun j q => by
      by_cases z : j = c
      · simp only [if_pos z] at q
        rw [z]; exact k3 a q
      · simp only [if_neg z] at q
        exact q
    exact h3 j k mj mk a (back j aj) (back k ak)
/-- one code a slot -/
def oneC (own : List Nat) (c : Nat) : Bool := own.all fun j => decide (1000 ≤ j) || (decide (j % 100 ≠ c % 100) || decide (j = c))
theorem oneC_ok {c : Nat} (h : oneC own c = true) : ∀ j ∈ own, j < 1000 → j % 100 = c % 100 → j = c := fun j m l e => by
  have := List.all_eq_true.mp h j m
  simp only [Bool.or_eq_true, decide_eq_true_eq] at this
  rcases this with q | q | q
  · omega
  · exact absurd e q
  · exact q
/-- an owned list is changed -/
theorem Rel.mut {i : Nat} {ds es : List D} {ws : List V} {a : Addr} (R : Rel K H0 Hd0 own ρ σ H Hd) (m : i ∈ own) (hi : i < 100) (one : oneC own i = true) (h : ρ[i]? = some (some (.list ds))) (hs : σ[i]? = some (some (V.ref a))) (r : DqAll K Hd ws es) :
    Rel K H0 Hd0 own (ρ.set i (some (.list es))) σ (upd H a (.lst ws)) Hd := by
  have em : i % 100 = i := Nat.mod_eq_of_lt hi
  have ed : i / 100 = 0 := Nat.div_eq_of_lt hi
  have key := R.change (d := .list es) (v := .ref a) (H' := upd H a (.lst ws)) (A0 := []) m (by omega) (oneC_ok one) (fun A h1 h2 => by
    obtain ⟨v, v1, v2⟩ := h1 i m (by omega) _ (by rw [em]; exact h)
    rw [em, hs] at v1
    cases v1
    rw [ed] at v2
    rcases v2 with ⟨a', vs, ds', q1, q2, q3, q4, q5⟩ | ⟨q1, _⟩ | ⟨_, _, q1⟩
    rotate_left 2
    · exact q1.nl.elim
    · cases q1
      refine ⟨[a], ⟨.ref a, by rw [em]; exact hs, ?_⟩, fun b nb => ?_, fun b mb => by rw [q3]; exact mb, fun b nb => ?_⟩
      · rw [ed]; exact .inl ⟨a, ws, es, rfl, rfl, rfl, upd_same, r⟩
      · rw [q3] at nb
        rw [upd_ne (fun z => nb (by rw [z]; exact List.mem_cons_self))]
      · by_cases z : b = a
        · subst z; rw [upd_same] at nb; cases nb
        · rw [upd_ne z] at nb; exact nb
    · exact absurd rfl (q1 ds))
  rw [em] at key
  exact key
/-- fewer lists are owned: these stand still from now on -/
theorem Rel.lessen {own' : List Nat} (R : Rel K H0 Hd0 own ρ σ H Hd) (hs : ∀ i ∈ own', i ∈ own) : ∃ Hd', Same Hd Hd' ∧ Step H0.h Hd0 H Hd' ∧ (∀ i d, ρ[i]? = some (some d) → (i < 100 → i ∉ own') → isObj own i = false → ∃ v, σ[i]? = some (some v) ∧ Dq K Hd' v d) ∧
    ∃ A : Nat → List Addr, (∀ j, j ∈ own' → j < 1000 → ∀ d, ρ[j % 100]? = some (some d) → ∃ v, σ[j % 100]? = some (some v) ∧ Ov K H Hd' (j / 100) (A j) v d) ∧
      (∀ j, j ∈ own' → ∀ a ∈ A j, Hd' a = none ∧ H0.h a = none ∧ H a ≠ none) ∧ (∀ j k, j ∈ own' → k ∈ own' → ∀ a, a ∈ A j → a ∈ A k → j = k) := by
  classical
  obtain ⟨A, h1, h2, h3⟩ := R.ex
  let P : Addr → Prop := fun a => ∃ i, i ∈ own ∧ i ∉ own' ∧ i < 100 ∧ a ∈ A i ∧ ∃ d, ρ[i]? = some (some d)
  let Hd' : Hp := fun a => if P a then H a else Hd a
  have pa : ∀ a, P a → Hd a = none ∧ H0.h a = none := fun a ⟨i, m, _, _, h, _⟩ => ⟨(h2 i m a h).1, (h2 i m a h).2.1⟩
  have up : Same Hd Hd' := fun a o e => by
    show (if P a then H a else Hd a) = some o
    by_cases p : P a
    · rw [(pa a p).1] at e; cases e
    · rw [if_neg p]; exact e
  refine ⟨Hd', up, ⟨R.st.up, fun a o e => ?_, fun a o e => up a o (R.st.keep a o e), fun a n => ?_⟩, fun i d e n n2 => ?_, A, fun j m l d e => ?_, fun j m a ma => ?_, fun j k mj mk => h3 j k (hs j mj) (hs k mk)⟩
  · have e' : (if P a then H a else Hd a) = some o := e
    by_cases p : P a
    · rw [if_pos p] at e'; exact e'
    · rw [if_neg p] at e'; exact R.st.sub a o e'
  · show (if P a then H a else Hd a) = Hd0 a
    by_cases p : P a
    · exact absurd (pa a p).2 n
    · rw [if_neg p]; exact R.st.old a n
  · by_cases m : i < 100 ∧ i ∈ own
    · have em : i % 100 = i := Nat.mod_eq_of_lt m.1
      have ed : i / 100 = 0 := Nat.div_eq_of_lt m.1
      obtain ⟨v, v1, v2⟩ := h1 i m.2 (by omega) d (by rw [em]; exact e)
      rw [em] at v1
      rw [ed] at v2
      rcases v2 with ⟨b, vs, ds, q1, q2, q3, q4, q5⟩ | ⟨q1, _, q3⟩ | ⟨b, q3, o1⟩
      rotate_left 2
      · have p : P b := ⟨i, m.2, n m.1, m.1, by rw [q3]; exact List.mem_cons_self, _, e⟩
        have ed2 : Hd' b = H b := by
          show (if P b then H b else Hd b) = _
          rw [if_pos p]
        obtain ⟨ks, vs, ds, e1, e2, e3, e4, e5⟩ := o1
        subst e1 e2
        exact ⟨.ref b, v1, .dct (by rw [ed2]; exact e3) e4 (dqAll_mono up e5)⟩
      · subst q1 q2
        refine ⟨.ref b, v1, ?_⟩
        have p : P b := ⟨i, m.2, n m.1, m.1, by rw [q3]; exact List.mem_cons_self, _, e⟩
        have e7 : Hd' b = some (.lst vs) := by
          show (if P b then H b else Hd b) = _
          rw [if_pos p]; exact q4
        exact .lst (.inl (.inl e7)) (dqAll_mono up q5)
      · exact ⟨v, v1, dq_mono up q3⟩
    · obtain ⟨v, e1, e2⟩ := R.val i d e (fun c z => m ⟨c, z⟩) n2
      exact ⟨v, e1, dq_mono up e2⟩
  · obtain ⟨v, e1, e2⟩ := h1 j (hs j m) l d e
    exact ⟨v, e1, e2.mono (fun _ _ _ q => q) up⟩
  · obtain ⟨q1, q2, q3⟩ := h2 j (hs j m) a ma
    refine ⟨?_, q2, q3⟩
    show (if P a then H a else Hd a) = none
    rw [if_neg, q1]
    rintro ⟨i, m', n', _, h', _⟩
    have := h3 j i (hs j m) m' a ma h'
    subst this
    exact n' m
theorem Rel.weak {own' : List Nat} (R : Rel K H0 Hd0 own ρ σ H Hd) (hs : lessO own' own = true) : ∃ Hd', Rel K H0 Hd0 own' ρ σ H Hd' ∧ Same Hd Hd' := by
  obtain ⟨s1, s2⟩ := Bool.and_eq_true_iff.mp hs
  have t1 : ∀ i ∈ own', i ∈ own := fun i m => List.contains_iff_mem.mp (List.all_eq_true.mp s1 i m)
  have t2 : ∀ i ∈ own, 100 ≤ i → i ∈ own' := fun i m l => by
    have := List.all_eq_true.mp s2 i m
    simp only [Bool.or_eq_true, decide_eq_true_eq] at this
    rcases this with q | q
    · omega
    · exact List.contains_iff_mem.mp q
  obtain ⟨Hd', up, st, val, ex⟩ := R.lessen t1
  refine ⟨Hd', ⟨st, R.len, fun i d e n n2 => val i d e n ?_, fun i v h => ⟨t2 _ (R.anc i v h).1 (by omega), (R.anc i v h).2⟩, ex⟩, up⟩
  cases c : isObj own i with
  | false => rfl
  | true =>
    obtain ⟨j, m, a, b, e⟩ := isObj_iff.mp c
    have : isObj own' i = true := isObj_iff.mpr ⟨j, t2 j m a, a, b, e⟩
    rw [this] at n2; cases n2
/-- at an exception -/
theorem Rel.exc {fl : Md} (R : Rel K H0 Hd0 own ρ σ H Hd) (hE : okE fl own = true) : ∃ Hd', Rel K (H0.res fl.E) Hd0 fl.E (wipeS fl.wp ρ) σ H Hd' ∧ Same Hd Hd' := by
  obtain ⟨s1, s2⟩ := Bool.and_eq_true_iff.mp hE
  have t1 : ∀ i ∈ fl.E, i ∈ own := fun i m => List.contains_iff_mem.mp (List.all_eq_true.mp s1 i m)
  obtain ⟨Hd', up, st, val, A, a1, a2, a3⟩ := R.lessen t1
  refine ⟨Hd', ⟨st, by rw [wipeS_len]; exact R.len, fun i d e n n2 => ?_, fun i v h => ?_, A, fun j m l d e => a1 j m l d (wipeS_in e).2, a2, a3⟩, up⟩
  · obtain ⟨nw, e'⟩ := wipeS_in e
    refine val i d e' n ?_
    cases c : isObj own i with
    | false => rfl
    | true =>
      obtain ⟨j, m, a, b, f⟩ := isObj_iff.mp c
      have := List.all_eq_true.mp s2 j m
      simp only [Bool.or_eq_true, decide_eq_true_eq] at this
      rcases this with q | q | q | q
      · omega
      · omega
      · have : isObj fl.E i = true := isObj_iff.mpr ⟨j, List.contains_iff_mem.mp q, a, b, f⟩
        rw [this] at n2; cases n2
      · rw [f] at q
        exact absurd (List.contains_iff_mem.mp q) nw
  · unfold Bs.res at h
    simp only at h
    split at h
    · rename_i c
      exact ⟨c, (R.anc i v h).2⟩
    · cases h
/-- slots are forgotten -/
theorem Rel.forget {ρ' : En} {σ' : L2.St} (R : Rel K H0 Hd0 own ρ σ H Hd) (hl : ρ'.length = σ'.length) (h : ∀ (i : Nat) d, ρ'[i]? = some (some d) → ρ[i]? = some (some d) ∧ σ'[i]? = σ[i]?) (ha : ∀ i, 1000 + i ∈ own → σ'[i]? = σ[i]?) : Rel K H0 Hd0 own ρ' σ' H Hd where
  st := R.st
  len := hl
  val := fun i d e n n2 => by
    obtain ⟨e1, e2⟩ := h i d e
    rw [e2]; exact R.val i d e1 n n2
  anc := fun i v e => by
    obtain ⟨h1, h2⟩ := R.anc i v e
    exact ⟨h1, by rw [ha i h1]; exact h2⟩
  ex := by
    obtain ⟨A, h1, h2, h3⟩ := R.ex
    refine ⟨A, fun j m l d e => ?_, h2, h3⟩
    obtain ⟨e1, e2⟩ := h _ d e
    rw [e2]; exact h1 j m l d e1
end

/-! ### statements -/
section
variable (X : Cx) (W : WX) (H0 : Bs) (Hd0 : Hp) (fl : Md) (L own : List Nat) (Dn : Ends)
/-- a returned value: where fl, a list is a new one -/
def PoR (d : D) : Prop := match fl.nw with
  | false => ∀ v H' Hd', Step H0.h Hd0 H' Hd' → Dq X.K Hd' v d → Dn.rt v H'
  | true => ∀ v H' Hd', Step H0.h Hd0 H' Hd' → NewV X.K H0.h H' Hd' v d → Dn.rt v H'
def PoS (o : Out) : Prop := match o with
  | .nx ρ => ∀ σ' H' Hd', Rel X.K H0 Hd0 own ρ σ' H' Hd' → Dn.nx σ' H'
  | .bk ρ => ∀ σ' H' Hd', Rel X.K H0 Hd0 L ρ σ' H' Hd' → Dn.bk σ' H'
  | .ct ρ => ∀ σ' H' Hd', Rel X.K H0 Hd0 L ρ σ' H' Hd' → Dn.ct σ' H'
  | .rt d => PoR X H0 Hd0 fl Dn d
  | .ex c fs ρ => ∀ cls a σ' H' Hd', Rel X.K (H0.res fl.E) Hd0 fl.E (wipeS fl.wp ρ) σ' H' Hd' → ExR X.K X.mg H' Hd' c fs cls a → W cls a σ' H'
  | .bad => False
  | .rx d ρ => ∀ own' v σ' H' Hd', fl.io.all own'.contains = true → Rel X.K H0 Hd0 own' ρ σ' H' Hd' → Dq X.K Hd' v d → Dn.rt v H'
end
structure SS (X : Cx) (W : WX) (fl : Md) (L own : List Nat) (st : Stmt) (f : En → Out) (own' : List Nat) : Prop where
  ex : ∃ t, PS X st t ∧ ∀ H0 Hd0 ρ σ H Hd, Rel X.K H0 Hd0 own ρ σ H Hd → ∀ Dn : Ends, PoS X W H0 Hd0 fl L own' Dn (f ρ) → t Dn σ H
structure SSs (X : Cx) (W : WX) (fl : Md) (L own : List Nat) (st : List Stmt) (f : En → Out) (own' : List Nat) : Prop where
  ex : ∃ t, PSs X st t ∧ ∀ H0 Hd0 ρ σ H Hd, Rel X.K H0 Hd0 own ρ σ H Hd → ∀ Dn : Ends, PoS X W H0 Hd0 fl L own' Dn (f ρ) → t Dn σ H

def sNx : En → Out := fun ρ => .nx ρ
def oSeq (o : Out) (g : En → Out) : Out := match o with
  | .nx ρ' => g ρ'
  | o => o
def sSeq (f g : En → Out) : En → Out := fun ρ => oSeq (f ρ) g
/-- a value, then .. -/
def oBind (r : Rs D) (ρ : En) (k : D → Out) : Out := match r with
  | .ok d => k d
  | .ex c fs => .ex c fs ρ
  | .bad => .bad
def oBindB (r : Rs Bool) (ρ : En) (k : Bool → Out) : Out := match r with
  | .ok d => k d
  | .ex c fs => .ex c fs ρ
  | .bad => .bad
@[simp] theorem oBind_ok (d : D) (ρ : En) (k : D → Out) : oBind (.ok d) ρ k = k d := nrfl rfl
@[simp] theorem oBindB_ok (d : Bool) (ρ : En) (k : Bool → Out) : oBindB (.ok d) ρ k = k d := nrfl rfl
@[simp] theorem oBind_ex (c : Str) (fs : List (Str × D)) (ρ : En) (k : D → Out) : oBind (.ex c fs) ρ k = .ex c fs ρ := nrfl rfl
@[simp] theorem oBindB_ex (c : Str) (fs : List (Str × D)) (ρ : En) (k : Bool → Out) : oBindB (.ex c fs) ρ k = .ex c fs ρ := nrfl rfl
@[simp] theorem oBind_bad (ρ : En) (k : D → Out) : oBind .bad ρ k = .bad := nrfl rfl
@[simp] theorem oBindB_bad (ρ : En) (k : Bool → Out) : oBindB .bad ρ k = .bad := nrfl rfl
section
variable {X : Cx} {W : WX} {fl : Md} {L own own' own'' : List Nat} {st : Stmt} {sts rest : List Stmt} {e : Expr} {f g : En → Out} {fe : En → Rs D} {pos pos' : Pos}
/-- an exception out of an expression, at a statement -/
theorem PoR.same {H0 : Bs} {Hd0 : Hp} {Dn Dn' : Ends} {d : D} (h : PoR X H0 Hd0 fl Dn d) (e : Dn'.rt = Dn.rt) : PoR X H0 Hd0 fl Dn' d := by
  unfold PoR at h ⊢
  rw [e]; exact h
theorem PoR.at {H0 : Bs} {Hd0 : Hp} {Dn : Ends} {d : D} {b : Bool} (h : PoR X H0 Hd0 fl Dn d) (e : fl.nw = b) : (match b with
  | false => ∀ v H' Hd', Step H0.h Hd0 H' Hd' → Dq X.K Hd' v d → Dn.rt v H'
  | true => ∀ v H' Hd', Step H0.h Hd0 H' Hd' → NewV X.K H0.h H' Hd' v d → Dn.rt v H') := by
  unfold PoR at h
  rw [e] at h
  cases b <;> exact h
theorem exc_of {H0 : Bs} {Hd0 : Hp} {ρ : En} {σ : L2.St} {H Hd H' Hd' : Hp} {c : Str} {fs : List (Str × D)} {cls : Value} {a : Option Addr} {Dn : Ends} (R : Rel X.K H0 Hd0 own ρ σ H Hd) (q : PoS X W H0 Hd0 fl L own' Dn (.ex c fs ρ)) (s : Step H Hd H' Hd') (x : ExR X.K X.mg H' Hd' c fs cls a) (hE : okE fl own = true) : W cls a σ H' := by
  obtain ⟨Hd'', R', up⟩ := (R.step s).exc hE
  exact q cls a σ H' Hd'' R' (x.mono (fun _ _ z => z) up)
theorem ss_nil : SSs X W fl L own [] sNx own := ⟨_, pss_nil, fun H0 Hd0 ρ σ H Hd R Dn q => q σ H Hd R⟩
theorem ss_cons (h1 : SS X W fl L own st f own') (h2 : SSs X W fl L own' rest g own'') : SSs X W fl L own (st :: rest) (sSeq f g) own'' := by
  obtain ⟨t, p, r⟩ := h1.ex
  obtain ⟨t2, p2, r2⟩ := h2.ex
  refine ⟨_, pss_cons p p2, fun H0 Hd0 ρ σ H Hd R Dn q => ?_⟩
  show t { Dn with nx := t2 Dn } σ H
  refine r _ _ _ _ _ _ R _ ?_
  unfold sSeq oSeq at q
  cases hf : f ρ with
  | nx ρ' => rw [hf] at q; exact fun σ' H' Hd' R' => r2 _ _ _ _ _ _ R' Dn q
  | bk ρ' => rw [hf] at q; exact q
  | ct ρ' => rw [hf] at q; exact q
  | rt d => rw [hf] at q; exact PoR.same q rfl
  | ex c fs ρ' => rw [hf] at q; exact q
  | bad => rw [hf] at q; exact q
  | rx d ρ' => rw [hf] at q; exact q
theorem ss_one (h1 : SS X W fl L own st f own') : SSs X W fl L own [st] f own' := by
  obtain ⟨t, p, r⟩ := h1.ex
  exact ⟨_, pss_one p, r⟩
/-- fewer are owned behind -/
theorem SS.weak (h : SS X W fl L own st f own') (hs : lessO own'' own' = true) : SS X W fl L own st f own'' := by
  obtain ⟨t, p, r⟩ := h.ex
  refine ⟨_, p, fun H0 Hd0 ρ σ H Hd R Dn q => r _ _ _ _ _ _ R Dn ?_⟩
  cases hf : f ρ with
  | nx ρ' =>
    rw [hf] at q
    intro σ' H' Hd' R'
    obtain ⟨Hd'', R'', _⟩ := R'.weak (own' := own'') hs
    exact q σ' H' Hd'' R''
  | bk ρ' => rw [hf] at q; exact q
  | ct ρ' => rw [hf] at q; exact q
  | rt d => rw [hf] at q; exact q
  | ex c fs ρ' => rw [hf] at q; exact q
  | bad => rw [hf] at q; exact q
  | rx d ρ' => rw [hf] at q; exact q
theorem SSs.weak (h : SSs X W fl L own sts f own') (hs : lessO own'' own' = true) : SSs X W fl L own sts f own'' := by
  obtain ⟨t, p, r⟩ := h.ex
  refine ⟨_, p, fun H0 Hd0 ρ σ H Hd R Dn q => r _ _ _ _ _ _ R Dn ?_⟩
  cases hf : f ρ with
  | nx ρ' =>
    rw [hf] at q
    intro σ' H' Hd' R'
    obtain ⟨Hd'', R'', _⟩ := R'.weak (own' := own'') hs
    exact q σ' H' Hd'' R''
  | bk ρ' => rw [hf] at q; exact q
  | ct ρ' => rw [hf] at q; exact q
  | rt d => rw [hf] at q; exact q
  | ex c fs ρ' => rw [hf] at q; exact q
  | bad => rw [hf] at q; exact q
  | rx d ρ' => rw [hf] at q; exact q
/-- fewer are owned ahead -/
theorem SS.ahead (h : SS X W fl L own' st f own'') (hs : lessO own' own = true) : SS X W fl L own st f own'' := by
  obtain ⟨t, p, r⟩ := h.ex
  refine ⟨_, p, fun H0 Hd0 ρ σ H Hd R Dn q => ?_⟩
  obtain ⟨Hd', R', _⟩ := R.weak (own' := own') hs
  exact r _ _ _ _ _ _ R' Dn q
theorem SSs.ahead (h : SSs X W fl L own' sts f own'') (hs : lessO own' own = true) : SSs X W fl L own sts f own'' := by
  obtain ⟨t, p, r⟩ := h.ex
  refine ⟨_, p, fun H0 Hd0 ρ σ H Hd R Dn q => ?_⟩
  obtain ⟨Hd', R', _⟩ := R.weak (own' := own') hs
  exact r _ _ _ _ _ _ R' Dn q
/-- x = e -/
def sSet (i : Nat) (fe : En → Rs D) : En → Out := fun ρ => oBind (fe ρ) ρ fun d => .nx (ρ.set i (some d))
theorem ss_set (i : Nat) {x : Str} (h : SE X W own e fe) (hN : X.N.Nodup) (hi : X.N[i]? = some x := by rfl) (hx : Loc X.env.scope x := by first | exact Or.inl rfl | exact Or.inr rfl) (hs : swapsWith e (some (.Name x pos')) pos.line X.env = pure false := by rfl) (hf : X.fn x = true ∨ X.env.scope.names.lookup x = some .local := by first | exact .inl rfl | exact .inr rfl) (hk : own.contains (1000 + i) = false := by rfl) (hE : okE fl own = true := by rfl) :
    SS X W fl L own (.Assign [.Name x pos'] e pos) (sSet i fe) (drp own i) := by
  obtain ⟨t, p, r⟩ := h.ex
  refine ⟨_, ps_set hN hi hx p hs hf, fun H0 Hd0 ρ σ H Hd R Dn q => ?_⟩
  refine r _ _ _ _ _ _ R _ ?_
  unfold sSet at q
  cases he : fe ρ with
  | ok d => rw [he] at q; exact fun v H' Hd' s x => q _ _ _ ((R.step s).set x (ncon hk))
  | ex c fs => rw [he] at q; exact fun cls a H' Hd' s x => exc_of R q s x hE
  | bad => rw [he] at q; exact q
theorem ss_setM (i : Nat) {x : Str} (h : SM X W own e fe) (hN : X.N.Nodup) (hi : X.N[i]? = some x := by rfl) (hx : Loc X.env.scope x := by first | exact Or.inl rfl | exact Or.inr rfl) (hs : swapsWith e (some (.Name x pos')) pos.line X.env = pure false := by rfl) (hf : X.fn x = true ∨ X.env.scope.names.lookup x = some .local := by first | exact .inl rfl | exact .inr rfl) (hk : own.contains (1000 + i) = false := by rfl) (hlt : i < 100 := by decide) (hE : okE fl own = true := by rfl) :
    SS X W fl L own (.Assign [.Name x pos'] e pos) (sSet i fe) (i :: drp own i) := by
  obtain ⟨t, p, r⟩ := h.ex
  refine ⟨_, ps_set hN hi hx p hs hf, fun H0 Hd0 ρ σ H Hd R Dn q => ?_⟩
  refine r _ _ _ _ _ _ R _ ?_
  unfold sSet at q
  cases he : fe ρ with
  | ok d => rw [he] at q; exact fun v H' Hd' s x => q _ _ _ (R.setM s x (ncon hk) hlt)
  | ex c fs => rw [he] at q; exact fun cls a H' Hd' s x => exc_of R q s x hE
  | bad => rw [he] at q; exact q
/-- an expression alone -/
def sExpr (fe : En → Rs D) : En → Out := fun ρ => oBind (fe ρ) ρ fun _ => .nx ρ
theorem ss_expr (h : SE X W own e fe) (hs : swapsWith e none pos.line X.env = pure false := by rfl) (hE : okE fl own = true := by rfl) : SS X W fl L own (.Expr e pos) (sExpr fe) own := by
  obtain ⟨t, p, r⟩ := h.ex
  refine ⟨_, ps_expr p hs, fun H0 Hd0 ρ σ H Hd R Dn q => ?_⟩
  refine r _ _ _ _ _ _ R _ ?_
  unfold sExpr at q
  cases he : fe ρ with
  | ok d => rw [he] at q; exact fun v H' Hd' s x => q _ _ _ (R.step s)
  | ex c fs => rw [he] at q; exact fun cls a H' Hd' s x => exc_of R q s x hE
  | bad => rw [he] at q; exact q
theorem ss_pass : SS X W fl L own (.Pass pos) sNx own := ⟨_, ps_pass, fun H0 Hd0 ρ σ H Hd R Dn q => q σ H Hd R⟩
def sBk : En → Out := fun ρ => .bk ρ
def sCt : En → Out := fun ρ => .ct ρ
theorem ss_break (hs : lessO L own = true := by rfl) : SS X W fl L own (.Break pos) sBk own'' := ⟨_, ps_break, fun H0 Hd0 ρ σ H Hd R Dn q => by
  obtain ⟨Hd', R', _⟩ := R.weak (own' := L) hs
  exact q σ H Hd' R'⟩
theorem ss_continue (hs : lessO L own = true := by rfl) : SS X W fl L own (.Continue pos) sCt own'' := ⟨_, ps_continue, fun H0 Hd0 ρ σ H Hd R Dn q => by
  obtain ⟨Hd', R', _⟩ := R.weak (own' := L) hs
  exact q σ H Hd' R'⟩
/-- return e -/
def sRet (fe : En → Rs D) : En → Out := fun ρ => oBind (fe ρ) ρ fun d => .rt d
def sRetNL (fe : En → Rs D) : En → Out := fun ρ => oBind (fe ρ) ρ fun d => match d with
  | .list _ => .bad
  | .dict _ => .bad
  | d => .rt d
theorem ss_ret (h : SE X W own e fe) (hE : okE fl own = true := by rfl) (hn : fl.nw = false := by rfl) : SS X W fl L own (.Return (some e) pos) (sRet fe) own'' := by
  obtain ⟨t, p, r⟩ := h.ex
  refine ⟨_, ps_ret p, fun H0 Hd0 ρ σ H Hd R Dn q => ?_⟩
  refine r _ _ _ _ _ _ R _ ?_
  unfold sRet at q
  cases he : fe ρ with
  | ok d => rw [he] at q; have q := PoR.at q hn; exact fun v H' Hd' s x => q v H' Hd' (R.st.trans s) x
  | ex c fs => rw [he] at q; exact fun cls a H' Hd' s x => exc_of R q s x hE
  | bad => rw [he] at q; exact q
theorem ss_retM (h : SM X W own e fe) (hE : okE fl own = true := by rfl) (hn : fl.nw = true := by rfl) : SS X W fl L own (.Return (some e) pos) (sRet fe) own'' := by
  obtain ⟨t, p, r⟩ := h.ex
  refine ⟨_, ps_ret p, fun H0 Hd0 ρ σ H Hd R Dn q => ?_⟩
  refine r _ _ _ _ _ _ R _ ?_
  unfold sRet at q
  cases he : fe ρ with
  | ok d => rw [he] at q; have q := PoR.at q hn; exact fun v H' Hd' s x => q v H' Hd' (R.st.trans s) (x.back R.st.up)
  | ex c fs => rw [he] at q; exact fun cls a H' Hd' s x => exc_of R q s x hE
  | bad => rw [he] at q; exact q
/-- a value that is no list, where a list were to be new -/
theorem ss_retNL (h : SE X W own e fe) (hE : okE fl own = true := by rfl) (hn : fl.nw = true := by rfl) : SS X W fl L own (.Return (some e) pos) (sRetNL fe) own'' := by
  obtain ⟨t, p, r⟩ := h.ex
  refine ⟨_, ps_ret p, fun H0 Hd0 ρ σ H Hd R Dn q => ?_⟩
  refine r _ _ _ _ _ _ R _ ?_
  unfold sRetNL at q
  cases he : fe ρ with
  | ok d =>
    rw [he] at q
    intro v H' Hd' s x
    cases d with
    | list ds => exact q.elim
    | none => have q := PoR.at q hn; exact q v H' Hd' (R.st.trans s) x
    | bool b => have q := PoR.at q hn; exact q v H' Hd' (R.st.trans s) x
    | int b => have q := PoR.at q hn; exact q v H' Hd' (R.st.trans s) x
    | str b => have q := PoR.at q hn; exact q v H' Hd' (R.st.trans s) x
    | tuple b => have q := PoR.at q hn; exact q v H' Hd' (R.st.trans s) x
    | dict b => exact q.elim
  | ex c fs => rw [he] at q; exact fun cls a H' Hd' s x => exc_of R q s x hE
  | bad => rw [he] at q; exact q
/-- return of a name that owns its list -/
theorem ss_retO (i : Nat) {x : Str} (ho : (own.contains i && decide (i < 100)) = true := by rfl) (hN : X.N[i]? = some x := by rfl) (hv : Vis X.env.scope x := by first | exact Or.inl rfl | exact Or.inr (Or.inl rfl) | exact Or.inr (Or.inr rfl))
    (hd : (x == ("__debug__" : Str)) = false := by rfl) (hcd : (x == ("__classdict__" : Str)) = false := by rfl) (hn : fl.nw = true := by rfl) : SS X W fl L own (.Return (some (.Name x pos')) pos) (sRet (eVar i)) own'' := by
  refine ⟨_, ps_ret (pe_var hN hv hd hcd), fun H0 Hd0 ρ σ H Hd R Dn q => ?_⟩
  unfold sRet eVar at q
  cases hi : ρ[i]? with
  | none => rw [hi] at q; exact q.elim
  | some o =>
    cases o with
    | none => rw [hi] at q; exact q.elim
    | some d =>
      rw [hi] at q
      have q := PoR.at q hn
      rcases R.ownL hi (List.contains_iff_mem.mp (Bool.and_eq_true_iff.mp ho).1) (of_decide_eq_true (Bool.and_eq_true_iff.mp ho).2) with ⟨a, vs, ds, rfl, h2, h3, h4, h5, h6⟩ | ⟨h1, v, h2, h3, nd⟩ | ⟨a, h2, h3, h4, h5⟩
      · exact ⟨.ref a, h2, q (.ref a) H Hd R.st ⟨a, vs, rfl, h5, h4, h3, h6⟩⟩
      · refine ⟨v, h2, q v H Hd R.st ?_⟩
        cases d with
        | list ds => exact absurd rfl (h1 ds)
        | none => exact h3
        | bool b => exact h3
        | int b => exact h3
        | str b => exact h3
        | tuple b => exact h3
        | dict b => exact absurd rfl (nd b)
      · obtain ⟨ps, rfl⟩ := h5.dict
        exact ⟨.ref a, h2, q (.ref a) H Hd R.st ⟨a, h4, h3, h5⟩⟩
def sRetN : En → Out := fun _ => .rt .none
theorem ss_retN : SS X W fl L own (.Return none pos) sRetN own'' := ⟨_, ps_retN, fun H0 Hd0 ρ σ H Hd R Dn q => by
  cases hn : fl.nw with
  | false => have q := PoR.at q hn; exact q .non H Hd R.st .non
  | true => have q := PoR.at q hn; exact q .non H Hd R.st .non⟩
/-- if -/
def sIf (c : En → Rs Bool) (f g : En → Out) : En → Out := fun ρ => oBindB (c ρ) ρ fun b => if b = true then f ρ else g ρ
theorem ss_if {c : Expr} {fc : En → Rs Bool} {as bs : List Stmt} (hc : SC X W own c fc) (ha : SSs X W fl L own as f own') (hb : SSs X W fl L own bs g own') (hE : okE fl own = true := by rfl) : SS X W fl L own (.If c as bs pos) (sIf fc f g) own' := by
  obtain ⟨tc, pc, rc⟩ := hc.ex
  obtain ⟨ta, pa, ra⟩ := ha.ex
  obtain ⟨tb, pb, rb⟩ := hb.ex
  refine ⟨_, ps_if pc pa pb, fun H0 Hd0 ρ σ H Hd R Dn q => ?_⟩
  refine rc _ _ _ _ _ _ R _ ?_
  unfold sIf at q
  cases he : fc ρ with
  | ok d =>
    rw [he] at q
    intro H' Hd' s
    cases d with
    | true => exact ra _ _ _ _ _ _ (R.step s) Dn q
    | false => exact rb _ _ _ _ _ _ (R.step s) Dn q
  | ex c fs => rw [he] at q; exact fun cls a H' Hd' s x => exc_of R q s x hE
  | bad => rw [he] at q; exact q
end

/-! ### what is walked -/
/-- J gives out the ds, from H1, Hd1 on -/
def Walks (K : PySem.W.Frag) (J : It) (ds : List D) (Hd1 : Hp) : Prop := ∀ H Hd, Same Hd1 Hd → Same Hd H → ∀ i,
  (∀ d, ds[i]? = some d → J.go i H ∧ ∀ x H', J.yld i H x H' → ∃ Hd', Step H Hd H' Hd' ∧ Dq K Hd' x d) ∧ (ds.length ≤ i → J.stop i H)
section
variable (X : Cx) (W : WX)
def PoI (σ : L2.St) (H Hd : Hp) (r : Rs (List D)) (Q : It → Hp → Prop) : Prop := match r with
  | .ok ds => ∀ J H' Hd', Step H Hd H' Hd' → Walks X.K J ds Hd' → Q J H'
  | .ex c fs => ∀ cls a H' Hd', Step H Hd H' Hd' → ExR X.K X.mg H' Hd' c fs cls a → W cls a σ H'
  | .bad => False
end
structure SI (X : Cx) (W : WX) (own : List Nat) (tg iter : Expr) (f : En → Rs (List D)) : Prop where
  ex : ∃ wi, PI X tg iter wi ∧ ∀ H0 Hd0 ρ σ H Hd, Rel X.K H0 Hd0 own ρ σ H Hd → ∀ Q, PoI X W σ H Hd (f ρ) Q → wi σ H Q
/-- a target: what is stored where (vs: the slots that it may touch) -/
structure SG (X : Cx) (own : List Nat) (tg : Expr) (g : D → En → Rs En) (own' vs : List Nat) : Prop where
  ex : ∃ t, PG X tg t ∧ ∀ H0 Hd0 ρ σ H Hd, Rel X.K H0 Hd0 own ρ σ H Hd → ∀ v d, Dq X.K Hd v d → ∀ ρ', g d ρ = .ok ρ' → ∀ Q, (∀ σ', Rel X.K H0 Hd0 own' ρ' σ' H Hd → (∀ j, j ∉ vs → σ'[j]? = σ[j]?) → σ'.length = σ.length → Q σ' H) → t v σ H Q
structure SGs (X : Cx) (own : List Nat) (tgs : List Expr) (g : List D → En → Rs En) (own' vs : List Nat) : Prop where
  ex : ∃ t, PGs X tgs t ∧ ∀ H0 Hd0 ρ σ H Hd, Rel X.K H0 Hd0 own ρ σ H Hd → ∀ ws ds, DqAll X.K Hd ws ds → ∀ ρ', g ds ρ = .ok ρ' → ∀ Q, (∀ σ', Rel X.K H0 Hd0 own' ρ' σ' H Hd → (∀ j, j ∉ vs → σ'[j]? = σ[j]?) → σ'.length = σ.length → Q σ' H) → t ws σ H Q
def gNm (i : Nat) : D → En → Rs En := fun d ρ => .ok (ρ.set i (some d))
def gsNil : List D → En → Rs En := fun ds ρ => match ds with
  | [] => .ok ρ
  | _ => .bad
def gsCons (g : D → En → Rs En) (gs : List D → En → Rs En) : List D → En → Rs En := fun ds ρ => match ds with
  | d :: ds => g d ρ >>= fun ρ' => gs ds ρ'
  | _ => .bad
def gTp (n : Nat) (gs : List D → En → Rs En) : D → En → Rs En := fun d ρ => match d with
  | .tuple ds => if ds.length = n then gs ds ρ else .bad
  | _ => .bad
section
variable {X : Cx} {W : WX} {own own' own'' vs vs' : List Nat} {tg : Expr} {tgs : List Expr} {g : D → En → Rs En} {gs : List D → En → Rs En} {pos : Pos}
theorem sg_name (i : Nat) {x : Str} (hN : X.N.Nodup) (hi : X.N[i]? = some x := by rfl) (hx : Loc X.env.scope x := by first | exact Or.inl rfl | exact Or.inr rfl) (hf : X.fn x = true ∨ X.env.scope.names.lookup x = some .local := by first | exact .inl rfl | exact .inr rfl) (hk : own.contains (1000 + i) = false := by rfl) : SG X own (.Name x pos) (gNm i) (drp own i) [i] :=
  ⟨_, pg_name hN hi hx hf, fun H0 Hd0 ρ σ H Hd R v d x ρ' e Q q => by
    cases e
    exact q _ (R.set x (ncon hk)) (fun j hj => by
      rw [List.getElem?_set_ne]
      intro z
      exact hj (by rw [z]; exact List.mem_singleton_self _)) (by simp)⟩
theorem sgs_nil : SGs X own [] gsNil own [] := ⟨_, pgs_nil, fun H0 Hd0 ρ σ H Hd R vs ds x ρ' e Q q => by
  cases x with
  | nil => cases e; exact ⟨rfl, q _ R (fun _ _ => rfl) rfl⟩
  | cons _ _ => cases e⟩
theorem sgs_cons (h1 : SG X own tg g own' vs) (h2 : SGs X own' tgs gs own'' vs') (hs : (assignEach (tg :: tgs) X.env).map (·.2) = assign tg X.env :: (assignEach tgs X.env).map (·.2) := by rfl) : SGs X own (tg :: tgs) (gsCons g gs) own'' (vs ++ vs') := by
  obtain ⟨t, p, r⟩ := h1.ex
  obtain ⟨t2, p2, r2⟩ := h2.ex
  refine ⟨_, pgs_cons p p2 hs, fun H0 Hd0 ρ σ H Hd R ws ds x ρ' e Q q => ?_⟩
  cases x with
  | nil => cases e
  | cons x xs =>
    rename_i v ws d ds
    unfold gsCons at e
    cases hg : g d ρ with
    | ok ρ1 =>
      simp only [hg, ok_bind] at e
      exact ⟨v, ws, rfl, r _ _ _ _ _ _ R v d x ρ1 hg _ fun σ' R' h l => r2 _ _ _ _ _ _ R' ws ds xs ρ' e Q fun σ2 R2 h2 l2 => q σ2 R2 (fun j hj => by
        rw [h2 j fun z => hj (List.mem_append_right _ z), h j fun z => hj (List.mem_append_left _ z)]) (l2.trans l)⟩
    | ex c fs => simp only [hg, ex_bind] at e; cases e
    | bad => simp only [hg, bad_bind] at e; cases e
theorem sg_tup {k n : Nat} (hc : X.calm = true) (h : SGs X own tgs gs own' vs) (hn : (assignEach tgs X.env).length = n := by rfl) (hst : (assignEach tgs X.env).findIdx? (·.1) = none := by rfl) : SG X own (.Tuple tgs k pos) (gTp n gs) own' vs := by
  obtain ⟨t, p, r⟩ := h.ex
  refine ⟨_, pg_tup hc p hn hst, fun H0 Hd0 ρ σ H Hd R v d x ρ' e Q q => ?_⟩
  cases x with
  | tup hs hr =>
    rename_i a xs ds
    unfold gTp at e
    by_cases hl : ds.length = n
    · simp only [hl, if_true] at e
      exact ⟨a, xs, rfl, sqt_same R.st.sub hs, by rw [hr.length]; exact hl, r _ _ _ _ _ _ R xs ds hr ρ' e Q q⟩
    · simp only [hl, if_false] at e; cases e
  | _ => cases e
end

/-! ### loops -/
/-- behind a turn of a loop -/
def oLoop (o : Out) (k : En → Out) : Out := match o with
  | .nx ρ => k ρ
  | .ct ρ => k ρ
  | .bk ρ => .nx ρ
  | .rt d => .rt d
  | .ex c fs ρ => .ex c fs ρ
  | .bad => .bad
  | .rx d ρ => .rx d ρ
/-- behind a target's store -/
def oStore (r : Rs En) (k : En → Out) : Out := match r with
  | .ok ρ => k ρ
  | _ => .bad
def forL (tg : D → En → Rs En) (body : En → Out) : List D → En → Out
  | [], ρ => .nx ρ
  | d :: ds, ρ => oStore (tg d ρ) fun ρ1 => oLoop (body ρ1) (forL tg body ds)
def oItems (r : Rs (List D)) (ρ : En) (k : List D → Out) : Out := match r with
  | .ok ds => k ds
  | .ex c fs => .ex c fs ρ
  | .bad => .bad
def sFor (it : En → Rs (List D)) (tg : D → En → Rs En) (body : En → Out) : En → Out := fun ρ => oItems (it ρ) ρ fun ds => forL tg body ds ρ
def fuelW : Nat := 1000000000
def whileL (c : En → Rs Bool) (body : En → Out) : Nat → En → Out
  | 0, _ => .bad
  | n + 1, ρ => oBindB (c ρ) ρ fun b => if b = true then oLoop (body ρ) (whileL c body n) else .nx ρ
def sWhile (c : En → Rs Bool) (body : En → Out) : En → Out := fun ρ => whileL c body fuelW ρ
section
variable {X : Cx} {W : WX} {fl : Md} {L own own2 vs : List Nat} {tg iter : Expr} {body : List Stmt} {it : En → Rs (List D)} {g : D → En → Rs En} {fb : En → Out} {pos : Pos}
/-- the base moved on: what stands still by now -/
theorem Step.rebase {H0 Hd0 H Hd H' Hd' : Hp} (s : Step H0 Hd0 H Hd) (t : Step H0 Hd H' Hd') : Step H0 Hd0 H' Hd' :=
  ⟨t.up, t.sub, fun a o e => t.keep a o (s.keep a o e), fun a n => by rw [t.old a n, s.old a n]⟩
theorem Rel.rebase {K : PySem.W.Frag} {H0 : Bs} {Hd0 H Hd H' Hd' : Hp} {ρ' : En} {σ' : L2.St} (s : Step H0.h Hd0 H Hd) (R : Rel K H0 Hd own ρ' σ' H' Hd') : Rel K H0 Hd0 own ρ' σ' H' Hd' :=
  ⟨s.rebase R.st, R.len, R.val, R.anc, R.ex⟩
theorem Rel.onto {K : PySem.W.Frag} {H0 : Bs} {Hd0 H Hd : Hp} {ρ : En} {σ : L2.St} (R : Rel K H0 Hd0 own ρ σ H Hd) : Rel K H0 Hd own ρ σ H Hd :=
  ⟨⟨R.st.up, R.st.sub, fun _ _ e => e, fun _ _ => rfl⟩, R.len, R.val, R.anc, R.ex⟩
theorem PoS.rebase {H0 : Bs} {Hd0 H Hd : Hp} {Dn : Ends} {o : Out} (s : Step H0.h Hd0 H Hd) (q : PoS X W H0 Hd0 fl L own Dn o) : PoS X W H0 Hd fl L own Dn o := by
  cases o with
  | nx ρ => exact fun σ' H' Hd' R => q σ' H' Hd' (R.rebase s)
  | bk ρ => exact fun σ' H' Hd' R => q σ' H' Hd' (R.rebase s)
  | ct ρ => exact fun σ' H' Hd' R => q σ' H' Hd' (R.rebase s)
  | rt d =>
    show PoR X H0 Hd fl Dn d
    cases hn : fl.nw with
    | false => have q := PoR.at q hn; unfold PoR; rw [hn]; exact fun v H' Hd' t x => q v H' Hd' (s.rebase t) x
    | true => have q := PoR.at q hn; unfold PoR; rw [hn]; exact fun v H' Hd' t x => q v H' Hd' (s.rebase t) x
  | ex c fs ρ => exact fun cls a σ' H' Hd' R => q cls a σ' H' Hd' (R.rebase (H0 := H0.res fl.E) s)
  | bad => exact q
  | rx d ρ => exact fun own' v σ' H' Hd' hio R => q own' v σ' H' Hd' hio (R.rebase s)
theorem ss_for (hp : PassesOwn (model X.prog X.w) X.A X.env X.xe) (hc : X.calm = true) (hi : SI X W own tg iter it) (hg : SG X own tg g own2 vs) (hb : SSs X W fl own own2 body fb own) (hs : ∀ x, foldedSetIterable iter X.env x = pure x := by intro _; rfl) (hE : okE fl own = true := by rfl) :
    SS X W fl L own (.For tg iter body [] pos) (sFor it g fb) own := by
  obtain ⟨wi, pi, ri⟩ := hi.ex
  obtain ⟨tgt, pg, rg⟩ := hg.ex
  obtain ⟨tb, pb, rb⟩ := hb.ex
  refine ⟨_, ps_for hp hc pi pg pb hs, fun H0 Hd0 ρ σ H Hd R Dn q => ?_⟩
  refine ri _ _ _ _ _ _ R _ ?_
  unfold sFor oItems at q
  cases hit : it ρ with
  | bad => rw [hit] at q; exact q
  | ex c fs => rw [hit] at q; exact fun cls a H' Hd' s x => exc_of R q s x hE
  | ok ds =>
    rw [hit] at q
    intro J H1 Hd1 s1 wk
    have R1 := R.step s1
    have q1 := PoS.rebase R1.st q
    refine ⟨fun i m σ' H' => m = ds.length - i ∧ ∃ ρ' Hd', Rel X.K H0 Hd1 own ρ' σ' H' Hd' ∧ PoS X W H0 Hd1 fl L own Dn (forL g fb (ds.drop i) ρ'), ⟨ds.length, rfl, ρ, Hd1, R1.onto, q1⟩, ?_⟩
    rintro i m σ' H' ⟨rfl, ρ', Hd', R', q'⟩
    obtain ⟨hgo, hstop⟩ := wk H' Hd' R'.st.keep R'.st.sub i
    by_cases hlt : i < ds.length
    · have hd : ds[i]? = some ds[i] := List.getElem?_eq_getElem hlt
      obtain ⟨go, yld⟩ := hgo _ hd
      rw [List.drop_eq_getElem_cons hlt] at q'
      refine .inr ⟨go, fun σ2 H2 => ∃ ρ2 Hd2, Rel X.K H0 Hd1 own ρ2 σ2 H2 Hd2 ∧ PoS X W H0 Hd1 fl L own Dn (forL g fb (ds.drop (i + 1)) ρ2), fun σ2 H2 ⟨ρ2, Hd2, r2, q2⟩ => ⟨ds.length - (i + 1), by omega, rfl, ρ2, Hd2, r2, q2⟩, fun x H2 y => ?_⟩
      obtain ⟨Hd2, s2, dx⟩ := yld x H2 y
      have R2 := R'.step s2
      unfold forL oStore oLoop at q'
      cases hgt : g ds[i] ρ' with
      | bad => rw [hgt] at q'; exact q'.elim
      | ex c fs => rw [hgt] at q'; exact q'.elim
      | ok ρ1 =>
        simp only [hgt] at q'
        refine rg _ _ _ _ _ _ R2 x _ dx ρ1 hgt _ fun σ3 R3 _ _ => ?_
        refine rb _ _ _ _ _ _ R3 _ ?_
        cases hbd : fb ρ1 with
        | nx ρ2 => simp only [hbd] at q'; exact fun σ4 H4 Hd4 R4 => ⟨ρ2, Hd4, R4, q'⟩
        | ct ρ2 => simp only [hbd] at q'; exact fun σ4 H4 Hd4 R4 => ⟨ρ2, Hd4, R4, q'⟩
        | bk ρ2 => simp only [hbd] at q'; exact q'
        | rt d => simp only [hbd] at q'; exact PoR.same (fl := fl) q' rfl
        | ex c fs ρ2 => simp only [hbd] at q'; exact q'
        | bad => simp only [hbd] at q'; exact q'
        | rx d ρ2 => simp only [hbd] at q'; exact q'
    · refine .inl ⟨hstop (by omega), ?_⟩
      rw [List.drop_eq_nil_of_le (by omega)] at q'
      exact q' σ' H' Hd' R'
theorem ss_while {c : Expr} {fc : En → Rs Bool} (hp : PassesOwn (model X.prog X.w) X.A X.env X.xe) (hc : SC X W own c fc) (hb : SSs X W fl own own body fb own) (hE : okE fl own = true := by rfl) : SS X W fl L own (.While c body [] pos) (sWhile fc fb) own := by
  obtain ⟨tc, pc, rc⟩ := hc.ex
  obtain ⟨tb, pb, rb⟩ := hb.ex
  refine ⟨_, ps_while hp pc pb, fun H0 Hd0 ρ σ H Hd R Dn q => ?_⟩
  refine ⟨fun m σ' H' => ∃ ρ' Hd', Rel X.K H0 Hd0 own ρ' σ' H' Hd' ∧ PoS X W H0 Hd0 fl L own Dn (whileL fc fb m ρ'), ⟨fuelW, ρ, Hd, R, q⟩, ?_⟩
  rintro m σ' H' ⟨ρ', Hd', R', q'⟩
  refine rc _ _ _ _ _ _ R' _ ?_
  cases m with
  | zero => exact q'.elim
  | succ m =>
    unfold whileL oBindB oLoop at q'
    cases hcd : fc ρ' with
    | bad => simp only [hcd] at q'; exact q'
    | ex c fs => simp only [hcd] at q'; exact fun cls a H' Hd' s x => exc_of R' q' s x hE
    | ok b =>
      intro H1 Hd1 s1
      cases b with
      | false => simp only [hcd] at q'; exact q' _ _ _ (R'.step s1)
      | true =>
        simp only [hcd] at q'
        rw [if_pos rfl]
        refine ⟨fun σ2 H2 => ∃ ρ2 Hd2, Rel X.K H0 Hd0 own ρ2 σ2 H2 Hd2 ∧ PoS X W H0 Hd0 fl L own Dn (whileL fc fb m ρ2), fun σ2 H2 ⟨ρ2, Hd2, r2, q2⟩ => ⟨m, by omega, ρ2, Hd2, r2, q2⟩, ?_⟩
        refine rb _ _ _ _ _ _ (R'.step s1) _ ?_
        cases hbd : fb ρ' with
        | nx ρ2 => simp only [hbd] at q'; exact fun σ4 H4 Hd4 R4 => ⟨ρ2, Hd4, R4, q'⟩
        | ct ρ2 => simp only [hbd] at q'; exact fun σ4 H4 Hd4 R4 => ⟨ρ2, Hd4, R4, q'⟩
        | bk ρ2 => simp only [hbd] at q'; exact q'
        | rt d => simp only [hbd] at q'; exact PoR.same (fl := fl) q' rfl
        | ex c fs ρ2 => simp only [hbd] at q'; exact q'
        | bad => simp only [hbd] at q'; exact q'
        | rx d ρ2 => simp only [hbd] at q'; exact q'
end

/-! ### defs and calls -/
/-- a def computes g (of n arguments); fl: a list that it hands back is a new one -/
def spF (K : PySem.W.Frag) (mg : Str → Option Value) (fl : Bool) (n : Nat) (g : List D → Rs D) : Sp := fun vs H Q E => vs.length = n ∧ ∃ ds Hd, Same Hd H ∧ DqAll K Hd vs ds ∧ match g ds with
  | .ok d => (match fl with
    | false => ∀ v H' Hd', Step H Hd H' Hd' → Dq K Hd' v d → Q v H'
    | true => ∀ v H' Hd', Step H Hd H' Hd' → NewV K H H' Hd' v d → Q v H')
  | .ex c fs => ∀ cls a H' Hd', Step H Hd H' Hd' → ExR K mg H' Hd' c fs cls a → E cls a H'
  | .bad => False
def runF (n : Nat) (f : En → Out) : List D → Rs D := fun ds => match f (ds.map some ++ List.replicate (n - ds.length) none) with
  | .nx _ => .ok .none
  | .rt d => .ok d
  | .ex c fs _ => .ex c fs
  | _ => .bad
/-- a def of the module, ready to be called: its name, its parameters' number, what it computes, its level -/
structure Cal (P : Program) (w : World) (K : PySem.W.Frag) (mg : Str → Option Value) (base : Heap) (k : Nat) (x : Str) (fl : Bool) (n : Nat) (g : List D → Rs D) : Prop where
  ex : ∃ (f : Addr) (fd : FuncData) (ps : List Str), FnOk P w K mg base (L2.CX P w) k f fd ps (spF K mg fl n g) ∧ mg x = some (.ref f) ∧ PySem.W.keepIn K (.ref f) = true ∧ Binds K fd ps []
/-- what a body's context brings -/
structure Cxt (X : Cx) (W : WX) (k : Nat) : Prop where
  calm : X.calm = true
  tk : Takes X W
  hp : PassesOwn (model X.prog X.w) X.A X.env X.xe
  nd : X.N.Nodup
  room : Room k X.A
theorem Rel.start {K : PySem.W.Frag} {H Hd : Hp} {N : List Str} {vs : List V} {ds : List D} (s : Same Hd H) (h : DqAll K Hd vs ds) : Rel K ⟨H, fun _ => none⟩ Hd [] (ds.map some ++ List.replicate (N.length - ds.length) none) (L2.start N vs) H Hd where
  st := .refl s
  len := by unfold L2.start; simp [h.length]
  val := fun i d e _ _ => by
    have hi : i < ds.length := by
      by_cases hi : i < ds.length
      · exact hi
      · rw [List.getElem?_append_right (by simp; omega)] at e
        obtain ⟨_, e2⟩ := List.getElem?_eq_some_iff.mp e
        simp at e2
    rw [List.getElem?_append_left (by simp; exact hi), List.getElem?_map] at e
    cases hd : ds[i]? with
    | none => rw [hd] at e; simp at e
    | some d' =>
      rw [hd] at e
      simp at e
      subst e
      obtain ⟨v, e1, e2⟩ := h.get hd
      refine ⟨v, ?_, e2⟩
      unfold L2.start
      rw [List.getElem?_append_left (by simp; rw [h.length]; exact hi), List.getElem?_map, e1]
      rfl
  anc := fun _ _ z => nomatch z
  ex := ⟨fun _ => [], (fun _ z => nomatch z), (fun _ z => nomatch z), (fun _ _ z => nomatch z)⟩
/-- THE RULE for a def -/
theorem fnok_of {P : Program} {w : World} {K : PySem.W.Frag} {mg : Str → Option Value} {base : Heap} {x qual : Str} {st : Stmt} {f : Addr} {fd : FuncData} {N ps : List Str} {k n : Nat} {fl : Bool} {fb : En → Out}
    (F : Fun K x qual st f fd) (S : FnScope N ps (defScope st)) (hn : ps.length = n)
    (body : ∀ (cdv : Value) (A : Around) (outer : List Env) (s : Shared) (H : Hp) (E : XK), Cxt (cxOf (L2.CX P w) P w K mg base N qual (defScope st) f cdv A outer s H E) (fun cls d _ H => E cls d H) k →
      ∃ own', SSs (cxOf (L2.CX P w) P w K mg base N qual (defScope st) f cdv A outer s H E) (fun cls d _ H => E cls d H) (.of fl) [] [] (defBody st) fb own') :
    FnOk P w K mg base (L2.CX P w) (k + 1) f fd ps (spF K mg fl n (runF N.length fb)) := by
  refine F.okX S (fun vs H Q E h => by rw [hn]; exact h.1) (fun cdv A outer s H vs Q E hr h => ?_)
  obtain ⟨hl, ds, Hd, sub, dp, q⟩ := h
  have C : Cxt (cxOf (L2.CX P w) P w K mg base N qual (defScope st) f cdv A outer s H E) (fun cls d _ H => E cls d H) k :=
    ⟨rfl, takes_of rfl rfl rfl rfl, passes_of rfl, S.nd, hr⟩
  obtain ⟨own', B⟩ := body cdv A outer s H E C
  obtain ⟨t, p, r⟩ := B.ex
  refine ⟨t, p, r ⟨H, fun _ => none⟩ Hd _ _ H Hd (Rel.start (N := N) sub dp) _ ?_⟩
  unfold runF at q
  cases hf : fb (ds.map some ++ List.replicate (N.length - ds.length) none) with
  | nx ρ =>
    rw [hf] at q
    intro σ' H' Hd' R
    cases fl with
    | false => exact q .non H' Hd' R.st .non
    | true => exact q .non H' Hd' R.st .non
  | rt d =>
    rw [hf] at q
    cases fl with
    | false => exact fun v H' Hd' s x => q v H' Hd' s x
    | true => exact fun v H' Hd' s x => q v H' Hd' s x
  | ex c fs ρ =>
    rw [hf] at q
    exact fun cls a σ' H' Hd' R x => q cls a H' Hd' R.st x
  | bk ρ => rw [hf] at q; exact q.elim
  | ct ρ => rw [hf] at q; exact q.elim
  | bad => rw [hf] at q; exact q.elim
  | rx d ρ => rw [hf] at q; exact q.elim
theorem cal_of {P : Program} {w : World} {K : PySem.W.Frag} {mg : Str → Option Value} {base : Heap} {x qual : Str} {st : Stmt} {f : Addr} {fd : FuncData} {N ps : List Str} {k n : Nat} {fl : Bool} {fb : En → Out}
    (F : Fun K x qual st f fd) (S : FnScope N ps (defScope st)) (hm : mg x = some (.ref f)) (hb : Binds K fd ps []) (hn : ps.length = n)
    (body : ∀ (cdv : Value) (A : Around) (outer : List Env) (s : Shared) (H : Hp) (E : XK), Cxt (cxOf (L2.CX P w) P w K mg base N qual (defScope st) f cdv A outer s H E) (fun cls d _ H => E cls d H) k →
      ∃ own', SSs (cxOf (L2.CX P w) P w K mg base N qual (defScope st) f cdv A outer s H E) (fun cls d _ H => E cls d H) (.of fl) [] [] (defBody st) fb own') :
    Cal P w K mg base (k + 1) x fl n (runF N.length fb) := ⟨f, fd, ps, fnok_of F S hn body, hm, F.kp, hb⟩
theorem Cxt.u64 {X : Cx} {W : WX} {k : Nat} (C : Cxt X W k) : X.A.units + 64 < cLine := C.room.units
theorem Cxt.u65 {X : Cx} {W : WX} {k : Nat} (C : Cxt X W k) : X.A.units + 65 < cLine := by have := C.room.un; omega
/-- a call -/
def eCall (n : Nat) (g : List D → Rs D) (fa : En → Rs (List D)) : En → Rs D := fun ρ => fa ρ >>= fun ds => if ds.length = n then g ds else .bad
section
variable {X : Cx} {W : WX} {own : List Nat} {k j n : Nat} {x : Str} {gf : List D → Rs D} {e : Expr} {es : List Expr} {fa : En → Rs (List D)} {p pos : Pos}
theorem se_call (C : Cxt X W k) (F : Cal X.prog X.w X.K X.mg X.base j x false n gf) (ha : SA X W own (e :: es) fa) (hj : j ≤ k := by decide) (hg : Gl X x := by rfl) (hdb : (x == ("__debug__" : Str)) = false := by rfl) (he : starEach (e :: es) X.env = (false, eval e X.env) :: starEach es X.env := by rfl) (hpl : (backTo pos (starEach es X.env)).any (·.1) = false := by rfl) :
    SE X W own (.Call (.Name x p) (e :: es) [] pos) (eCall n gf fa) := by
  obtain ⟨f, fd, ps, ok, hm, hk, hb⟩ := F.ex
  obtain ⟨ta, pa, ra⟩ := ha.ex
  refine ⟨_, pe_callS ok (C.room.mono hj) hg hm hk hb (fun σ => passAt C.tk σ) pa hdb he hpl, fun H0 Hd0 ρ σ H Hd R Q q => ?_⟩
  refine ra _ _ _ _ _ _ R _ ?_
  unfold eCall at q
  cases hf : fa ρ with
  | bad => rw [hf] at q; exact q
  | ex c fs => rw [hf] at q; exact q
  | ok ds =>
    simp only [hf, ok_bind] at q
    intro vs H1 Hd1 s1 xs
    by_cases hl : ds.length = n
    · rw [if_pos hl] at q
      refine ⟨by rw [xs.length]; exact hl, ds, Hd1, s1.sub, xs, ?_⟩
      have q1 := PoE.step q s1
      cases hg : gf ds with
      | ok d => rw [hg] at q1; exact q1
      | ex c fs => rw [hg] at q1; exact q1
      | bad => rw [hg] at q1; exact q1
    · rw [if_neg hl] at q; exact q.elim
theorem sm_call (C : Cxt X W k) (F : Cal X.prog X.w X.K X.mg X.base j x true n gf) (ha : SA X W own (e :: es) fa) (hj : j ≤ k := by decide) (hg : Gl X x := by rfl) (hdb : (x == ("__debug__" : Str)) = false := by rfl) (he : starEach (e :: es) X.env = (false, eval e X.env) :: starEach es X.env := by rfl) (hpl : (backTo pos (starEach es X.env)).any (·.1) = false := by rfl) :
    SM X W own (.Call (.Name x p) (e :: es) [] pos) (eCall n gf fa) := by
  obtain ⟨f, fd, ps, ok, hm, hk, hb⟩ := F.ex
  obtain ⟨ta, pa, ra⟩ := ha.ex
  refine ⟨_, pe_callS ok (C.room.mono hj) hg hm hk hb (fun σ => passAt C.tk σ) pa hdb he hpl, fun H0 Hd0 ρ σ H Hd R Q q => ?_⟩
  refine ra _ _ _ _ _ _ R _ ?_
  unfold eCall at q
  cases hf : fa ρ with
  | bad => rw [hf] at q; exact q
  | ex c fs => rw [hf] at q; exact q
  | ok ds =>
    simp only [hf, ok_bind] at q
    intro vs H1 Hd1 s1 xs
    by_cases hl : ds.length = n
    · rw [if_pos hl] at q
      refine ⟨by rw [xs.length]; exact hl, ds, Hd1, s1.sub, xs, ?_⟩
      have q1 := PoM.step q s1
      cases hg : gf ds with
      | ok d => rw [hg] at q1; exact fun v H' Hd' s n => q1 v H' Hd' s n
      | ex c fs => rw [hg] at q1; exact q1
      | bad => rw [hg] at q1; exact q1
    · rw [if_neg hl] at q; exact q.elim
end
theorem Cal.imp {P : Program} {w : World} {K : PySem.W.Frag} {mg : Str → Option Value} {base : Heap} {k : Nat} {x : Str} {fl : Bool} {n : Nat} {g g' : List D → Rs D} (F : Cal P w K mg base k x fl n g) (h : ∀ ds, ds.length = n → g' ds ≠ .bad → g ds = g' ds) : Cal P w K mg base k x fl n g' := by
  obtain ⟨f, fd, ps, ok, r⟩ := F.ex
  refine ⟨f, fd, ps, ok.imp fun vs H Q E hq => ?_, r⟩
  obtain ⟨hl, ds, Hd, s, dp, q⟩ := hq
  refine ⟨hl, ds, Hd, s, dp, ?_⟩
  rw [h ds (by rw [← dp.length]; exact hl) (fun z => by rw [z] at q; exact q)]
  exact q
end Wm

set_option Elab.async false
set_option linter.all false
set_option maxRecDepth 100000
/-! WmOps: operators, subscripts, built-ins, walks, methods of the layer. -/
namespace Wm
open PySem PySem.Spec PyProof.Rows L2

section
variable {K : PySem.W.Frag} {H Hd : Hp} {v : V}
theorem Dv.int {i : Int} (h : Dv K H Hd v (.int i)) : v = .int i := by
  rcases h with h | ⟨a, vs, ds, _, e, _⟩ | ⟨_, o⟩
  · cases h; rfl
  · cases e
  · obtain ⟨_, he⟩ := o.dict; cases he
theorem Dv.str {i : Str} (h : Dv K H Hd v (.str i)) : v = .str i := by
  rcases h with h | ⟨a, vs, ds, _, e, _⟩ | ⟨_, o⟩
  · cases h; rfl
  · cases e
  · obtain ⟨_, he⟩ := o.dict; cases he
theorem Dv.bool {i : Bool} (h : Dv K H Hd v (.bool i)) : v = .bl i := by
  rcases h with h | ⟨a, vs, ds, _, e, _⟩ | ⟨_, o⟩
  · cases h; rfl
  · cases e
  · obtain ⟨_, he⟩ := o.dict; cases he
theorem Dv.none (h : Dv K H Hd v .none) : v = .non := by
  rcases h with h | ⟨a, vs, ds, _, e, _⟩ | ⟨_, o⟩
  · cases h; rfl
  · cases e
  · obtain ⟨_, he⟩ := o.dict; cases he
theorem Dv.tup {ds : List D} (s : Same Hd H) (h : Dv K H Hd v (.tuple ds)) : ∃ a vs, v = .ref a ∧ SqT K H a vs ∧ DqAll K Hd vs ds ∧ SqT K Hd a vs := by
  rcases h with h | ⟨a, vs, ds, _, e, _⟩ | ⟨_, o⟩
  · cases h with
    | tup h r => exact ⟨_, _, rfl, sqt_same s h, r, h⟩
  · cases e
  · obtain ⟨_, he⟩ := o.dict; cases he
theorem Dv.lst {ds : List D} (s : Same Hd H) (h : Dv K H Hd v (.list ds)) : ∃ a vs, v = .ref a ∧ SqL K H a vs ∧ DqAll K Hd vs ds ∧ SqL K H a vs := by
  rcases h with h | ⟨a, vs, ds', e1, e, e3, e4⟩ | ⟨_, o⟩
  · cases h with
    | lst h r => exact ⟨_, _, rfl, s.seq h, r, s.seq h⟩
  · cases e; exact ⟨a, vs, e1, .inl (.inl e3), e4, .inl (.inl e3)⟩
  · exact o.nl.elim
theorem Dv.dict {ps : List (D × D)} (s : Same Hd H) (h : Dv K H Hd v (.dict ps)) : ∃ a : Addr, v = .ref a := by
  rcases h with h | ⟨a, vs, ds', e1, e, e3, e4⟩ | ⟨a, ks, vs, ds, e1, e2, e3, e4, e5⟩
  · generalize e : PyData.dict ps = d at h
    cases h with
    | dct h l r => exact ⟨_, rfl⟩
    | exc0 h n => exact ⟨_, rfl⟩
    | exc1 h n l r => exact ⟨_, rfl⟩
    | _ => cases e
  · cases e
  · exact ⟨a, e1⟩
end
section
variable {X : Cx} {W : WX} {σ : L2.St} {H Hd : Hp} {Q : VK}
theorem PoE.at {d : D} {v : V} (s : Same Hd H) (q : PoE X W σ H Hd (.ok d) Q) (h : Dq X.K Hd v d) : Q v H := q v H Hd (.refl s) h
/-- a new tuple of good items -/
theorem PoE.newT {ds : List D} {vs : List V} {p : Addr} (s : Same Hd H) (q : PoE X W σ H Hd (.ok (.tuple ds)) Q) (h : DqAll X.K Hd vs ds) (hp : H p = none) : Q (.ref p) (upd H p (.tup vs)) :=
  q _ _ _ (.new s hp) (.tup (.inl (.inl upd_same)) (dqAll_mono (same_upd (none_of_same s hp)) h))
theorem PoE.newL {ds : List D} {vs : List V} {p : Addr} (s : Same Hd H) (q : PoE X W σ H Hd (.ok (.list ds)) Q) (h : DqAll X.K Hd vs ds) (hp : H p = none) : Q (.ref p) (upd H p (.lst vs)) :=
  q _ _ _ (.new s hp) (.lst (.inl (.inl upd_same)) (dqAll_mono (same_upd (none_of_same s hp)) h))
theorem PoM.newL {ds : List D} {vs : List V} {p : Addr} (s : Same Hd H) (q : PoM X W σ H Hd (.ok (.list ds)) Q) (h : DqAll X.K Hd vs ds) (hp : H p = none) : Q (.ref p) (upd H p (.lst vs)) :=
  q _ _ _ (.own s hp) ⟨p, vs, rfl, hp, none_of_same s hp, upd_same, h⟩
end

/-! ### + - * // % ** -/
/-- the library's + of lists, whatever the objects' slots are -/
theorem cat_gen (l : Addr) (items : Array Value) (n : Nat) (sl : Array (Option Value)) (b : Addr) (items2 : Array Value) (n2 : Nat) (sl2 : Array (Option Value)) (hc0 : items.size + items2.size ≤ sizeLine) :
    Meets (Builtin.«list.__add__» ⟨[.ref l, .ref b], []⟩) (fun _ R s => s.heap.get? l = some { cls := .type "list", dict := none, data := .seq items n, slots := sl } ∧ s.heap.get? b = some { cls := .type "list", dict := none, data := .seq items2 n2, slots := sl2 } ∧
      R (.ok (.ret (Value.ref s.heap.objs.size))) { s with heap := s.heap.push { cls := Value.type "list", data := Data.seq (items ++ items2) } }) := by
  refine .of_wp fun prog w A R s h => ?_
  obtain ⟨hp, g, d, tk, os⟩ := s
  obtain ⟨hl, hb, h⟩ := h
  have f3 := PySem.AutoSeq1.sub_list_list
  wp_walk using PySem.AutoSeq1.wpAny_loadPart' hl, PySem.AutoSeq1.wpAny_loadPart' hb
  exact ⟨_, rfl, h⟩
/-- lists that are only read -/
def rCatL (K : PySem.W.Frag) : R2 := fun x y H Q => ∃ l b xs zs, x = .ref l ∧ y = .ref b ∧ SqL K H l xs ∧ SqL K H b zs ∧ xs.length + zs.length ≤ sizeLine ∧ ∀ p, H p = none → Q (.ref p) (upd H p (.lst (xs ++ zs)))
theorem op_catL {X : Cx} : OpR X (binaryOp .Add) (rCatL X.K) := by
  intro pins s σ H x y v u Q I rx ry h
  obtain ⟨l, b, xs, zs, rfl, rfl, hH, hB, hz, q⟩ := h
  cases rx
  cases ry
  obtain ⟨its, r, ⟨⟨c1, d1, data1, sl1⟩, n, e, hc, hd, hdt⟩, hl⟩ := I.list hH
  obtain ⟨its2, r2, ⟨⟨c2, d2, data2, sl2⟩, n2, e2, hc2, hd2, hdt2⟩, hl2⟩ := I.list hB
  simp only at hc hdt hd hc2 hdt2 hd2
  subst hc hdt hd hc2 hdt2 hd2
  have k1 := r.length
  have k2 := r2.length
  refine PySem.concat_meets ⟨_, e, rfl⟩ ⟨_, e2, rfl⟩ PySem.noFill_list_add PySem.seq_list_add PySem.F.slot_list_add PySem.F.entry_list_add (PySem.F.args_list_add_2 _ _) (cat_gen l its.toArray n sl1 b its2.toArray n2 sl2 (by rw [List.size_toArray, List.size_toArray]; omega)) ⟨e, e2, ?_⟩
  have ea : its.toArray ++ its2.toArray = (its ++ its2).toArray := by simp
  rw [ea]
  exact ⟨.ref _, _, I.lnew (t' := s.toks) (r.append r2) (by rw [List.length_append]; omega), rfl, q _ I.fresh⟩
def addD : D → D → Rs D
  | .int a, .int b => .ok (.int (a + b))
  | .str a, .str b => if a.length + b.length ≤ sizeLine then .ok (.str (a ++ b)) else .bad
  | .tuple a, .tuple b => if a.length + b.length ≤ sizeLine then .ok (.tuple (a ++ b)) else .bad
  | .list a, .list b => if a.length + b.length ≤ sizeLine then .ok (.list (a ++ b)) else .bad
  | .int a, .bool b => .ok (.int (a + b2i b))
  | _, _ => .bad
def rAddA (K : PySem.W.Frag) : R2 := fun x y H Q => (∃ i j, x = .int i ∧ y = .int j ∧ Q (.int (i + j)) H) ∨ (∃ i j, x = .str i ∧ y = .str j ∧ i.length + j.length ≤ sizeLine ∧ Q (.str (i ++ j)) H) ∨ rCatA K x y H Q ∨ rCatL K x y H Q ∨ ∃ i k, x = .int i ∧ y = .bl k ∧ Q (.int (i + b2i k)) H
theorem op_addA {X : Cx} : OpR X (binaryOp .Add) (rAddA X.K) := op_add.or (op_add_str.or (op_catA.or (op_catL.or op_add_ib)))
theorem addS {X : Cx} : OpS X (rAddA X.K) addD := by
  intro W σ H Hd x y dx dy s hx hy Q q
  unfold addD at q
  split at q
  · exact .inl ⟨_, _, hx.int, hy.int, PoE.at s q (.int _)⟩
  · rename_i a b
    split at q
    · exact .inr (.inl ⟨_, _, hx.str, hy.str, by assumption, PoE.at s q (.str _)⟩)
    · exact q.elim
  · rename_i a b
    split at q
    · rename_i hl
      obtain ⟨p, vs, rfl, h1, h2, h3⟩ := hx.tup s
      obtain ⟨p', ws, rfl, k1, k2, k3⟩ := hy.tup s
      refine .inr (.inr (.inl ⟨p, p', vs, ws, rfl, rfl, h1, k1, by rw [h2.length, k2.length]; exact hl, fun e => ?_, fun e e2 => ?_, fun e e2 z hz => PoE.newT s q (h2.append k2) hz⟩))
      · subst e
        cases h2
        exact PoE.at s q (.tup k3 k2)
      · subst e2
        cases k2
        rw [List.append_nil] at q
        exact PoE.at s q (.tup h3 h2)
    · exact q.elim
  · rename_i a b
    split at q
    · rename_i hl
      obtain ⟨p, vs, rfl, _, h2, h1⟩ := hx.lst s
      obtain ⟨p', ws, rfl, _, k2, k1⟩ := hy.lst s
      exact .inr (.inr (.inr (.inl ⟨p, p', vs, ws, rfl, rfl, h1, k1, by rw [h2.length, k2.length]; exact hl, fun z hz => PoE.newL s q (h2.append k2) hz⟩)))
    · exact q.elim
  · exact .inr (.inr (.inr (.inr ⟨_, _, hx.int, hy.bool, PoE.at s q (.int _)⟩)))
  · exact q.elim
def subD : D → D → Rs D
  | .int a, .int b => .ok (.int (a - b))
  | _, _ => .bad
theorem subS {X : Cx} : OpS X (rI0 fun i j => .int (i - j)) subD := by
  intro W σ H Hd x y dx dy s hx hy Q q
  unfold subD at q
  split at q
  · exact ⟨_, _, hx.int, hy.int, PoE.at s q (.int _)⟩
  · exact q.elim
def big (i : Int) : Bool := decide (-(2 ^ 64) < i) && decide (i < 2 ^ 64)
/-- tuple * int: the same one, none, a new one -/
theorem tuple_mulS (l : Addr) (items : Array Value) (n : Nat) (dd : Option Addr) (sl : Array (Option Value)) (x : Int) (u : Tok) (c0 : (decide (x < -(2 ^ 63)) || decide (x ≥ 2 ^ 63)) = false) (c1 : (items.isEmpty || x == 1) = true) :
    Meets (Builtin.«tuple.__mul__» ⟨[.ref l, .int x u], []⟩) (fun _ R s => s.heap.get? l = some { cls := .type "tuple", dict := dd, data := .seq items n, slots := sl } ∧
      R (.ok (.ret (Value.ref l))) s) :=
  .of_wp fun prog w A R s h => by
    obtain ⟨hp, g, d, tk, os⟩ := s
    obtain ⟨hl, h⟩ := h
    have f1 := AutoSeq1.idx_int
    wp_walk using wpAny_loadPart' hl
    repeat (first
      | (refine wpAny_ite_false (decide_eq_false (by rw [c0]; exact Bool.false_ne_true)) ?_; wp_walk using wpAny_loadPart' hl)
      | (refine wpAny_ite_true (decide_eq_true c1) ?_; wp_walk using wpAny_loadPart' hl))
    exact ⟨_, rfl, h⟩
theorem tuple_mulN (l : Addr) (items : Array Value) (n : Nat) (dd : Option Addr) (sl : Array (Option Value)) (x : Int) (u : Tok) (c0 : (decide (x < -(2 ^ 63)) || decide (x ≥ 2 ^ 63)) = false) (c1 : (items.isEmpty || x == 1) = false) (c2 : (decide (x ≤ 0) || items.isEmpty) = true) :
    Meets (Builtin.«tuple.__mul__» ⟨[.ref l, .int x u], []⟩) (fun _ R s => s.heap.get? l = some { cls := .type "tuple", dict := dd, data := .seq items n, slots := sl } ∧
      R (.ok (.ret (Value.ref s.heap.objs.size))) { s with heap := s.heap.push { cls := Value.type "tuple", data := Data.seq #[] }, toks := s.toks }) :=
  .of_wp fun prog w A R s h => by
    obtain ⟨hp, g, d, tk, os⟩ := s
    obtain ⟨hl, h⟩ := h
    have f1 := AutoSeq1.idx_int
    wp_walk using wpAny_loadPart' hl
    repeat (first
      | (refine wpAny_ite_false (decide_eq_false (by rw [c0]; exact Bool.false_ne_true)) ?_; wp_walk using wpAny_loadPart' hl)
      | (refine wpAny_ite_false (decide_eq_false (by rw [c1]; exact Bool.false_ne_true)) ?_; wp_walk using wpAny_loadPart' hl)
      | (refine wpAny_ite_true (decide_eq_true c2) ?_; wp_walk using wpAny_loadPart' hl))
    exact ⟨_, rfl, h⟩
def rRepS (K : PySem.W.Frag) : R2 := fun x y H Q => ∃ l k xs, x = .ref l ∧ y = .int k ∧ SqT K H l xs ∧ -1000 ≤ k ∧ k ≤ 1000 ∧ (xs = [] ∨ k = 1) ∧ Q (.ref l) H
def rRepN (K : PySem.W.Frag) : R2 := fun x y H Q => ∃ l k xs, x = .ref l ∧ y = .int k ∧ SqT K H l xs ∧ -1000 ≤ k ∧ k ≤ 0 ∧ xs ≠ [] ∧ ∀ p, H p = none → Q (.ref p) (upd H p (.tup []))
theorem op_repS {X : Cx} : OpR X (binaryOp .Mult) (rRepS X.K) := by
  intro pins s σ H x y v u Q I rx ry h
  obtain ⟨l, k, xs, rfl, rfl, hT, h1, h2, hz, q⟩ := h
  cases rx
  obtain ⟨t, rfl⟩ := ry
  obtain ⟨its, r, ⟨⟨cls, dd, data, sl⟩, ho, hc, n, hd⟩, hs⟩ := I.tuple hT
  simp only at hc hd
  subst hc hd
  have hle : its.length = xs.length := r.length.symm
  have c0 : (decide (k < -(2 ^ 63)) || decide (k ≥ 2 ^ 63)) = false := by
    rw [decide_eq_false (by omega), decide_eq_false (by omega)] <;> rfl
  have c1 : (its.toArray.isEmpty || k == 1) = true := by
    rcases hz with e | e
    · rw [e] at hle
      have : its = [] := List.eq_nil_of_length_eq_zero hle
      subst this; rfl
    · subst e; simp
  exact wpAny_binaryOp_repeat_ref (T := "tuple") (U := "int") (by decide) ⟨_, ho, rfl⟩ (fun s' => typeIs_int s' k t) noFill_tuple_mul F.fills_int_mul F.slot_int_rmul repeat_tuple F.slot_int_index.lookup
    (call_meets F.slot_int_rmul (typeIs_int s k t) F.entry_int_rmul (F.args_int_rmul_2 _ _) (int_rmul_tuple k t l its.toArray n dd sl)
      ⟨ho, rfl, ⟨_, ho, rfl⟩, call_meets F.slot_tuple_mul ⟨_, ho, rfl⟩ F.entry_tuple_mul (F.args_tuple_mul_2 _ _) (tuple_mulS l its.toArray n dd sl k t c0 c1) ⟨ho, ⟨.ref l, H, I, rfl, q⟩⟩⟩)
theorem op_repN {X : Cx} : OpR X (binaryOp .Mult) (rRepN X.K) := by
  intro pins s σ H x y v u Q I rx ry h
  obtain ⟨l, k, xs, rfl, rfl, hT, h1, h2, hz, q⟩ := h
  cases rx
  obtain ⟨t, rfl⟩ := ry
  obtain ⟨its, r, ⟨⟨cls, dd, data, sl⟩, ho, hc, n, hd⟩, hs⟩ := I.tuple hT
  simp only at hc hd
  subst hc hd
  have hle : its.length = xs.length := r.length.symm
  have c0 : (decide (k < -(2 ^ 63)) || decide (k ≥ 2 ^ 63)) = false := by
    rw [decide_eq_false (by omega), decide_eq_false (by omega)] <;> rfl
  have hi : its.toArray.isEmpty = false := by
    cases its with
    | nil => exact absurd (List.eq_nil_of_length_eq_zero hle.symm) hz
    | cons a b => rfl
  have c1 : (its.toArray.isEmpty || k == 1) = false := by
    rw [hi, Bool.false_or]
    exact beq_eq_false_iff_ne.mpr (by omega)
  have c2 : (decide (k ≤ 0) || its.toArray.isEmpty) = true := by
    rw [decide_eq_true h2]; rfl
  refine wpAny_binaryOp_repeat_ref (T := "tuple") (U := "int") (by decide) ⟨_, ho, rfl⟩ (fun s' => typeIs_int s' k t) noFill_tuple_mul F.fills_int_mul F.slot_int_rmul repeat_tuple F.slot_int_index.lookup
    (call_meets F.slot_int_rmul (typeIs_int s k t) F.entry_int_rmul (F.args_int_rmul_2 _ _) (int_rmul_tuple k t l its.toArray n dd sl)
      ⟨ho, rfl, ⟨_, ho, rfl⟩, call_meets F.slot_tuple_mul ⟨_, ho, rfl⟩ F.entry_tuple_mul (F.args_tuple_mul_2 _ _) (tuple_mulN l its.toArray n dd sl k t c0 c1 c2) ⟨ho, ?_⟩⟩)
  refine ⟨.ref s.heap.objs.size, _, I.laid (t' := s.toks) (o := .tup []) (fun b ob q => Heap.get?_push_of_some _ q) (Nat.le_refl _) ?_, rfl, q _ (I.hok.fresh (Nat.le_refl _))⟩
  exact ⟨by simp, [], .nil, IsTup.new _ _⟩
/-- list * int, of a list that is only read -/
def rRepL (K : PySem.W.Frag) : R2 := fun x y H Q => ∃ l k xs, x = .ref l ∧ y = .int k ∧ SqL K H l xs ∧ -(2 ^ 63) ≤ k ∧ k < 2 ^ 63 ∧ xs.length * k.toNat ≤ sizeLine ∧
  ∀ p, H p = none → Q (.ref p) (upd H p (.lst (List.replicate k.toNat xs).flatten))
theorem int_rmul_list (a : Int) (t : Tok) (l : Addr) (items : Array Value) (n : Nat) (dd : Option Addr) (sl : Array (Option Value)) :
    Meets (Builtin.«int.__rmul__» ⟨[.int a t, .ref l], []⟩) (fun _ R s => s.heap.get? l = some { cls := .type "list", dict := dd, data := .seq items n, slots := sl } ∧ R (.ok (.ret Value.notImplemented)) s) :=
  .of_wp fun prog w A R s h => by obtain ⟨hp, g, d, tk, os⟩ := s; obtain ⟨hl, h⟩ := h; wp_walk using wpAny_loadPart' hl; exact ⟨_, rfl, h⟩
theorem list_mulG (l : Addr) (items : Array Value) (n : Nat) (sl : Array (Option Value)) (x : Int) (u : Tok) (hc0 : ¬(!Builtin.List.listFitsIndex x) = true) (hc1 : ¬items.size * x.toNat > (2 ^ 63 - 1) / 8) (hc2 : ¬Builtin.List.listTooLong (items.size * x.toNat) = true) :
    Meets (Builtin.«list.__mul__» ⟨[.ref l, .int x u], []⟩) (fun _ R s => s.heap.get? l = some { cls := .type "list", dict := none, data := .seq items n, slots := sl } ∧ R (.ok (.ret (Value.ref s.heap.objs.size))) { s with heap := s.heap.push { cls := Value.type "list", data := Data.seq (List.foldl (fun x1 x2 => x1 ++ x2) #[] (List.replicate (if items.isEmpty = true then 0 else x.toNat) items)) }, toks := s.toks }) :=
  .of_wp fun prog w A R s h => by
    obtain ⟨hp, g, d, tk, os⟩ := s; obtain ⟨hl, h⟩ := h
    have hsz := PySem.AutoListH.joined_fits hc2
    wp_walk using PySem.AutoSeq1.wpAny_loadPart' hl
    refine wpAny_ite_false (decide_eq_false (Nat.not_lt.mpr hsz)) ?_
    wp_walk using PySem.AutoSeq1.wpAny_loadPart' hl
    exact ⟨_, rfl, h⟩
theorem op_repL {X : Cx} : OpR X (binaryOp .Mult) (rRepL X.K) := by
  intro pins s σ H x y v u Q I rx ry h
  obtain ⟨l, k, xs, rfl, rfl, hH, h1, h2, hz, q⟩ := h
  cases rx
  obtain ⟨t, rfl⟩ := ry
  obtain ⟨its, r, ⟨⟨c1, d1, data1, sl1⟩, n, e, hc, hd, hdt⟩, hl⟩ := I.list hH
  simp only at hc hdt hd
  subst hc hdt hd
  have hle := r.length
  have hlen : its.toArray.size * k.toNat ≤ sizeLine := by rw [List.size_toArray, ← hle]; exact hz
  have hcap : ¬ its.toArray.size * k.toNat > (2 ^ 63 - 1) / 8 := by
    have : (sizeLine : Nat) ≤ (2 ^ 63 - 1) / 8 := by decide
    omega
  have hfit : ¬ (!Builtin.List.listFitsIndex k) = true := by
    rw [fitsIndex_both h1 h2]
    exact Bool.false_ne_true
  have hlong : ¬ Builtin.List.listTooLong (its.toArray.size * k.toNat) = true := by
    rw [notLongL hlen]
    exact Bool.false_ne_true
  have hnew : List.foldl (fun x1 x2 => x1 ++ x2) #[] (List.replicate (if its.toArray.isEmpty = true then 0 else k.toNat) its.toArray) = (List.replicate k.toNat its).flatten.toArray := by
    have f0 : ∀ m : Nat, List.foldl (fun x1 x2 => x1 ++ x2) #[] (List.replicate m its.toArray) = (List.replicate m its).flatten.toArray := fun m => by
      have := foldl_rep its m []
      rw [List.nil_append] at this
      exact this
    rw [f0]
    cases its with
    | nil => simp
    | cons a r' => rw [if_neg (by simp)]
  refine wpAny_binaryOp_repeat_ref (T := "list") (U := "int") (by decide) ⟨_, e, rfl⟩ (fun s' => typeIs_int s' k t) noFill_list_mul F.fills_int_mul F.slot_int_rmul repeat_list F.slot_int_index.lookup
    (call_meets F.slot_int_rmul (typeIs_int s k t) F.entry_int_rmul (F.args_int_rmul_2 _ _) (int_rmul_list k t l its.toArray n none sl1)
      ⟨e, rfl, ⟨_, e, rfl⟩, call_meets F.slot_list_mul ⟨_, e, rfl⟩ F.entry_list_mul (F.args_list_mul_2 _ _) (list_mulG l its.toArray n sl1 k t hfit hcap hlong) ⟨e, ?_⟩⟩)
  rw [hnew]
  exact ⟨.ref _, _, I.lnew (t' := s.toks) (r.rep k.toNat) (by rw [PyProof.Rows.lm_len_rep_flat, Nat.mul_comm]; exact hz), rfl, q _ I.fresh⟩
/-- str * int -/
def rMulStr : R2 := fun x y H Q => ∃ a k, x = .str a ∧ y = .int k ∧ a.length * k.toNat ≤ 16777216 ∧ k ≤ 16777216 ∧ -1000 ≤ k ∧ Q (.str (Txt.mul a k)) H
theorem op_mulStr {X : Cx} : OpR X (binaryOp .Mult) rMulStr := by
  intro pins s σ H x y v u Q I rx ry h
  obtain ⟨a, k, rfl, rfl, h1, h2, h3, q⟩ := h
  obtain ⟨t, rfl⟩ := rx
  obtain ⟨t', rfl⟩ := ry
  exact SB.mul (mulOk_of a.length k.toNat (Nat.le_refl _) (by omega) (by omega) (by omega) h1) fun t' k' => ⟨.str (Txt.mul a k), H, I.tok _, ⟨_, rfl⟩, q⟩
def mulD : D → D → Rs D
  | .int a, .int b => if big a || big b then .ok (.int (a * b)) else .bad
  | .str a, .int k => if a.length * k.toNat ≤ 16777216 ∧ k ≤ 16777216 ∧ -1000 ≤ k then .ok (.str (Txt.mul a k)) else .bad
  | .tuple a, .int k => if -1000 ≤ k ∧ k ≤ 1000 ∧ a.length ≤ 1000 then .ok (.tuple (List.replicate k.toNat a).flatten) else .bad
  | .list a, .int k => if -1000 ≤ k ∧ k ≤ 100000 ∧ a.length * k.toNat ≤ 16777216 then .ok (.list (List.replicate k.toNat a).flatten) else .bad
  | _, _ => .bad
def rMulA (K : PySem.W.Frag) : R2 := fun x y H Q => (∃ i j, x = .int i ∧ y = .int j ∧ CMul i j ∧ Q (.int (i * j)) H) ∨ rMulStr x y H Q ∨ rRepT K x y H Q ∨ rRepS K x y H Q ∨ rRepN K x y H Q ∨ rRepL K x y H Q
theorem op_mulA {X : Cx} : OpR X (binaryOp .Mult) (rMulA X.K) := op_mul.or (op_mulStr.or (op_repT.or (op_repS.or (op_repN.or op_repL))))
theorem dqAll_rep {K : PySem.W.Frag} {H : Hp} {vs : List V} {ds : List D} (h : DqAll K H vs ds) : ∀ k : Nat, DqAll K H (List.replicate k vs).flatten (List.replicate k ds).flatten
  | 0 => .nil
  | k + 1 => by
    rw [List.replicate_succ, List.replicate_succ, List.flatten_cons, List.flatten_cons]
    exact h.append (dqAll_rep h k)
theorem mulS {X : Cx} : OpS X (rMulA X.K) mulD := by
  intro W σ H Hd x y dx dy s hx hy Q q
  unfold mulD at q
  split at q
  · rename_i a b
    split at q
    · rename_i h
      refine .inl ⟨_, _, hx.int, hy.int, ?_, PoE.at s q (.int _)⟩
      unfold big at h
      simp only [Bool.or_eq_true, Bool.and_eq_true, decide_eq_true_eq] at h
      exact h
    · exact q.elim
  · rename_i a k
    split at q
    · rename_i h
      exact .inr (.inl ⟨a, k, hx.str, hy.int, h.1, h.2.1, h.2.2, PoE.at s q (.str _)⟩)
    · exact q.elim
  · rename_i a k
    split at q
    · rename_i h
      obtain ⟨p, vs, rfl, h1, h2, h3⟩ := hx.tup s
      have hl := h2.length
      by_cases c : vs = [] ∨ k = 1
      · refine .inr (.inr (.inr (.inl ⟨p, k, vs, rfl, hy.int, h1, h.1, h.2.1, c, ?_⟩)))
        have e : (List.replicate k.toNat a).flatten = a := by
          rcases c with c | c
          · subst c; cases h2; simp
          · subst c; simp
        rw [e] at q
        exact PoE.at s q (.tup h3 h2)
      · have c1 : vs ≠ [] := fun z => c (.inl z)
        have c2 : k ≠ 1 := fun z => c (.inr z)
        by_cases c3 : k ≤ 0
        · refine .inr (.inr (.inr (.inr (.inl ⟨p, k, vs, rfl, hy.int, h1, h.1, c3, c1, fun z hz => ?_⟩))))
          have e : (List.replicate k.toNat a).flatten = [] := by
            rw [show k.toNat = 0 by omega]; rfl
          rw [e] at q
          exact PoE.newT s q .nil hz
        · exact .inr (.inr (.inl ⟨p, k, vs, rfl, hy.int, h1, c1, by omega, h.2.1, by rw [hl]; exact h.2.2, fun z hz => PoE.newT s q (dqAll_rep h2 _) hz⟩))
    · exact q.elim
  · rename_i a k
    split at q
    · rename_i h
      obtain ⟨p, vs, rfl, _, h2, h1⟩ := hx.lst s
      exact .inr (.inr (.inr (.inr (.inr ⟨p, k, vs, rfl, hy.int, h1, by omega, by omega, by rw [h2.length, sizeLine_eq]; exact h.2.2, fun z hz => PoE.newL s q (dqAll_rep h2 _) hz⟩))))
    · exact q.elim
  · exact q.elim
def fdivD : D → D → Rs D
  | .int a, .int b => if b ≠ 0 ∧ b.natAbs < 1073741824 then .ok (.int (a.fdiv b)) else .bad
  | _, _ => .bad
theorem fdivS {X : Cx} : OpS X (rI CDivN fun i j => .int (i.fdiv j)) fdivD := by
  intro W σ H Hd x y dx dy s hx hy Q q
  unfold fdivD at q
  split at q
  · split at q
    · rename_i h
      exact ⟨_, _, hx.int, hy.int, h, PoE.at s q (.int _)⟩
    · exact q.elim
  · exact q.elim
def modD : D → D → Rs D
  | .int a, .int b => if b ≠ 0 then .ok (.int (a.fmod b)) else .bad
  | _, _ => .bad
theorem modS {X : Cx} : OpS X (rI (fun _ j => j ≠ 0) fun i j => .int (i.fmod j)) modD := by
  intro W σ H Hd x y dx dy s hx hy Q q
  unfold modD at q
  split at q
  · split at q
    · rename_i h
      exact ⟨_, _, hx.int, hy.int, h, PoE.at s q (.int _)⟩
    · exact q.elim
  · exact q.elim
def powD : D → D → Rs D
  | .int a, .int b => if 0 ≤ b ∧ b ≤ 1000000 ∧ a.natAbs < 2 ^ 64 then .ok (.int (a ^ b.toNat)) else .bad
  | _, _ => .bad
theorem powS {X : Cx} : OpS X (rI CPow fun i j => .int (i ^ j.toNat)) powD := by
  intro W σ H Hd x y dx dy s hx hy Q q
  unfold powD at q
  split at q
  · split at q
    · rename_i h
      exact ⟨_, _, hx.int, hy.int, h, PoE.at s q (.int _)⟩
    · exact q.elim
  · exact q.elim

/-! ### comparisons -/
def eqB : D → D → Option Bool
  | .int a, .int b => some (decide (a = b))
  | .str a, .str b => some (decide (a = b))
  | .bool a, .bool b => some (decide (a = b))
  | .none, .none => some true
  | .none, .int _ => some false
  | .none, .bool _ => some false
  | .none, .str _ => some false
  | .int _, .none => some false
  | .bool _, .none => some false
  | .str _, .none => some false
  | .int _, .str _ => some false
  | .str _, .int _ => some false
  | .bool _, .str _ => some false
  | .str _, .bool _ => some false
  | d, e => if SeqAt.shaped d && SeqAt.shaped e then some (PyData.eqv d e) else none
def eqD (d e : D) : Rs D := match eqB d e with
  | some b => .ok (.bool b)
  | none => .bad
def neD (d e : D) : Rs D := match eqB d e with
  | some b => .ok (.bool !b)
  | none => .bad
def rEqA (K : PySem.W.Frag) : R2 := fun x y H Q => rEq x y H Q ∨ rEqD K x y H Q
def rNeA (K : PySem.W.Frag) : R2 := fun x y H Q => rNe x y H Q ∨ rNeD K x y H Q
theorem op_eqA {X : Cx} (hu : X.A.units + 64 < cLine) : OpR X (compareOp .Eq) (rEqA X.K) := op_eq.or (op_eqD hu)
theorem op_neA {X : Cx} (hu : X.A.units + 64 < cLine) : OpR X (compareOp .NotEq) (rNeA X.K) := op_ne.or (op_neD hu)
theorem eqB_cases {K : PySem.W.Frag} {H Hd : Hp} {x y : V} {d e : D} {b : Bool} (h : eqB d e = some b) (s : Same Hd H) (hx : Dv K H Hd x d) (hy : Dv K H Hd y e) :
    (scal x y = true ∧ b = decide (x = y)) ∨ (Dp K H x d ∧ Dp K H y e ∧ SeqAt.shaped d = true ∧ SeqAt.shaped e = true ∧ b = PyData.eqv d e) := by
  unfold eqB at h
  split at h
  · cases h
    rw [hx.int, hy.int]
    exact .inl ⟨rfl, by simp⟩
  · cases h
    rw [hx.str, hy.str]
    exact .inl ⟨rfl, by simp⟩
  · cases h
    rw [hx.bool, hy.bool]
    exact .inl ⟨rfl, by simp⟩
  · cases h; rw [hx.none, hy.none]; exact .inl ⟨rfl, by simp⟩
  · cases h; rw [hx.none, hy.int]; exact .inl ⟨rfl, by simp⟩
  · cases h; rw [hx.none, hy.bool]; exact .inl ⟨rfl, by simp⟩
  · cases h; rw [hx.none, hy.str]; exact .inl ⟨rfl, by simp⟩
  · cases h; rw [hx.int, hy.none]; exact .inl ⟨rfl, by simp⟩
  · cases h; rw [hx.bool, hy.none]; exact .inl ⟨rfl, by simp⟩
  · cases h; rw [hx.str, hy.none]; exact .inl ⟨rfl, by simp⟩
  · cases h; rw [hx.int, hy.str]; exact .inl ⟨rfl, by simp⟩
  · cases h; rw [hx.str, hy.int]; exact .inl ⟨rfl, by simp⟩
  · cases h; rw [hx.bool, hy.str]; exact .inl ⟨rfl, by simp⟩
  · cases h; rw [hx.str, hy.bool]; exact .inl ⟨rfl, by simp⟩
  · split at h
    · rename_i hs
      cases h
      rw [Bool.and_eq_true] at hs
      exact .inr ⟨(hx.dp s).dp (nd_lay _ (SeqAt.canLay_of_shaped hs.1)), (hy.dp s).dp (nd_lay _ (SeqAt.canLay_of_shaped hs.2)), hs.1, hs.2, rfl⟩
    · cases h
theorem eqS {X : Cx} : OpS X (rEqA X.K) eqD := by
  intro W σ H Hd x y dx dy s hx hy Q q
  unfold eqD at q
  cases h : eqB dx dy with
  | none => rw [h] at q; exact q.elim
  | some b =>
    rw [h] at q
    rcases eqB_cases h s hx hy with ⟨h1, rfl⟩ | ⟨h1, h2, h3, h4, rfl⟩
    · exact .inl ⟨h1, PoE.at s q (.bl _)⟩
    · exact .inr ⟨dx, dy, h1, h2, h3, h4, PoE.at s q (.bl _)⟩
theorem neS {X : Cx} : OpS X (rNeA X.K) neD := by
  intro W σ H Hd x y dx dy s hx hy Q q
  unfold neD at q
  cases h : eqB dx dy with
  | none => rw [h] at q; exact q.elim
  | some b =>
    rw [h] at q
    rcases eqB_cases h s hx hy with ⟨h1, rfl⟩ | ⟨h1, h2, h3, h4, rfl⟩
    · exact .inl ⟨h1, PoE.at s q (.bl _)⟩
    · exact .inr ⟨dx, dy, h1, h2, h3, h4, PoE.at s q (.bl _)⟩
def cmpD (p : Int → Int → Bool) : D → D → Rs D
  | .int a, .int b => .ok (.bool (p a b))
  | _, _ => .bad
abbrev ltD := cmpD fun i j => decide (i < j)
abbrev leD := cmpD fun i j => decide (i ≤ j)
abbrev gtD := cmpD fun i j => decide (j < i)
abbrev geD := cmpD fun i j => decide (j ≤ i)
theorem cmpS {X : Cx} {p : Int → Int → Bool} : OpS X (rI0 fun i j => .bl (p i j)) (cmpD p) := by
  intro W σ H Hd x y dx dy s hx hy Q q
  unfold cmpD at q
  split at q
  · exact ⟨_, _, hx.int, hy.int, PoE.at s q (.bl _)⟩
  · exact q.elim
/-- is None; is, of truths -/
def isD : D → D → Rs D
  | .bool a, .bool b => .ok (.bool (decide (a = b)))
  | .none, .none => .ok (.bool true)
  | _, .none => .ok (.bool false)
  | _, _ => .bad
def isntD (d e : D) : Rs D := isD d e >>= fun r => match r with
  | .bool b => .ok (.bool !b)
  | _ => .bad
def rIsA : R2 := fun x y H Q => (y = .non ∧ Q (.bl (decide (x = .non))) H) ∨ rIsB x y H Q
def rIsntA : R2 := fun x y H Q => (y = .non ∧ Q (.bl (!decide (x = .non))) H) ∨ rNotB x y H Q
theorem op_isA {X : Cx} : OpR X (compareOp .Is) rIsA := op_isN.or op_isBl
theorem op_isntA {X : Cx} : OpR X (compareOp .IsNot) rIsntA := op_notN.or op_notBl
def nonD : D → Bool
  | .none => true
  | _ => false
theorem Dv.non_iff {K : PySem.W.Frag} {H Hd : Hp} {x : V} {d : D} (s : Same Hd H) (h : Dv K H Hd x d) : decide (x = .non) = nonD d := by
  cases d with
  | none => rw [h.none]; rfl
  | bool b => rw [h.bool]; rfl
  | int b => rw [h.int]; rfl
  | str b => rw [h.str]; rfl
  | tuple b => obtain ⟨_, _, rfl, _⟩ := h.tup s; rfl
  | list b => obtain ⟨_, _, rfl, _⟩ := h.lst s; rfl
  | dict b => obtain ⟨_, rfl⟩ := h.dict s; rfl
theorem isS {X : Cx} : OpS X rIsA isD := by
  intro W σ H Hd x y dx dy s hx hy Q q
  unfold isD at q
  split at q
  · exact .inr ⟨_, _, hx.bool, hy.bool, PoE.at s q (.bl _)⟩
  · exact .inl ⟨hy.none, by rw [hx.none]; exact PoE.at s q (.bl _)⟩
  · rename_i hn
    refine .inl ⟨hy.none, ?_⟩
    rw [hx.non_iff s]
    unfold nonD
    split
    · exact absurd rfl hn
    · exact PoE.at s q (.bl _)
  · exact q.elim
theorem isntS {X : Cx} : OpS X rIsntA isntD := by
  intro W σ H Hd x y dx dy s hx hy Q q
  unfold isntD isD at q
  split at q
  · exact .inr ⟨_, _, hx.bool, hy.bool, PoE.at s q (.bl _)⟩
  · exact .inl ⟨hy.none, by rw [hx.none]; exact PoE.at s q (.bl _)⟩
  · rename_i hn
    refine .inl ⟨hy.none, ?_⟩
    rw [hx.non_iff s]
    unfold nonD
    split
    · exact absurd rfl hn
    · exact PoE.at s q (.bl _)
  · exact q.elim

/-! ### in -/
def flatD : D → Bool
  | .none | .bool _ | .int _ | .str _ => true
  | _ => false
def eqF : D → D → Bool
  | .none, .none => true
  | .bool a, .bool b => a == b
  | .bool a, .int b => (if a then 1 else 0) == b
  | .int a, .bool b => a == (if b then 1 else 0)
  | .int a, .int b => a == b
  | .str a, .str b => a == b
  | _, _ => false
def inStr (a b : Str) : Bool := match a.cps.toList with
  | [c] => decide (c ∈ b.cps.toList)
  | _ => !(Builtin.Str.occurrences b a 0 b.length 1).isEmpty
def inB : D → D → Option Bool
  | .str a, .str b => some (inStr a b)
  | d, .tuple ds => if flatD d && ds.all flatD then some (ds.any fun e => eqF e d) else none
  | d, .list ds => if flatD d && ds.all flatD then some (ds.any fun e => eqF e d) else if SeqAt.shaped d && SeqAt.shaped (.list ds) then some (ds.any fun z => PyData.eqv z d) else none
  | _, _ => none
def inD (d e : D) : Rs D := match inB d e with
  | some b => .ok (.bool b)
  | none => .bad
def notInD (d e : D) : Rs D := match inB d e with
  | some b => .ok (.bool !b)
  | none => .bad
theorem flat_of {K : PySem.W.Frag} {H : Hp} {v : V} {d : D} (h : Dq K H v d) (f : flatD d = true) : flatV v = true := by
  cases h <;> first | rfl | cases f
theorem eqF_of {K : PySem.W.Frag} {H H' : Hp} {v w : V} {d e : D} (h : Dq K H v d) (h' : Dq K H' w e) (f : flatD d = true) (f' : flatD e = true) : eqV v w = eqF d e := by
  cases h <;> cases h' <;> first | rfl | cases f | cases f'
theorem flatAll_of {K : PySem.W.Frag} {H : Hp} : ∀ {vs : List V} {ds : List D}, DqAll K H vs ds → ds.all flatD = true → vs.all flatV = true
  | _, _, .nil, _ => rfl
  | _, _, .cons a r, f => by
    rw [List.all_cons, Bool.and_eq_true] at f ⊢
    exact ⟨flat_of a f.1, flatAll_of r f.2⟩
theorem inV_of {K : PySem.W.Frag} {H H' : Hp} {x : V} {d : D} (h : Dq K H' x d) (f : flatD d = true) : ∀ {vs : List V} {ds : List D}, DqAll K H vs ds → ds.all flatD = true → inV x vs = ds.any fun e => eqF e d
  | _, _, .nil, _ => rfl
  | _, _, .cons a r, g => by
    rw [List.all_cons, Bool.and_eq_true] at g
    have := inV_of h f r g.2
    unfold inV at this ⊢
    rw [List.any_cons, List.any_cons, this, eqF_of a h g.1 f]
def rInA (K : PySem.W.Frag) : R2 := fun x y H Q => (∃ (c : Nat) (z : Str), x = .str ⟨#[c]⟩ ∧ y = .str z ∧ Q (.bl (decide (c ∈ z.cps.toList))) H) ∨ (∃ i j, x = .str i ∧ y = .str j ∧ Q (.bl (!(Builtin.Str.occurrences j i 0 j.length 1).isEmpty)) H) ∨ rIn K false x y H Q ∨ rInD K x y H Q
def rNotInA (K : PySem.W.Frag) : R2 := fun x y H Q => (∃ (c : Nat) (z : Str), x = .str ⟨#[c]⟩ ∧ y = .str z ∧ Q (.bl (!decide (c ∈ z.cps.toList))) H) ∨ (∃ i j, x = .str i ∧ y = .str j ∧ Q (.bl (!(!(Builtin.Str.occurrences j i 0 j.length 1).isEmpty))) H) ∨ rIn K true x y H Q ∨ rNotInD K x y H Q
theorem op_inA {X : Cx} (hu : X.A.units + 65 < cLine) : OpR X (compareOp .In) (rInA X.K) := op_in_sign.or (op_in_str.or (op_in_seq.or (op_inD hu)))
theorem op_notInA {X : Cx} (hu : X.A.units + 65 < cLine) : OpR X (compareOp .NotIn) (rNotInA X.K) := op_notIn_sign.or (op_notin_str.or (op_notIn_seq.or (op_notInD hu)))
theorem inS {X : Cx} : OpS X (rInA X.K) inD := by
  intro W σ H Hd x y dx dy s hx hy Q q
  unfold inD at q
  cases h : inB dx dy with
  | none => rw [h] at q; exact q.elim
  | some b =>
    rw [h] at q
    have q' := PoE.at s q (.bl b)
    unfold inB at h
    split at h
    · rename_i a b'
      cases h
      unfold inStr at q'
      split at q'
      · rename_i c hc
        have ha : a = ⟨#[c]⟩ := by
          cases a
          rename_i cps
          congr
          exact Array.ext' (by simpa using hc)
        exact .inl ⟨c, _, by rw [hx.str, ha], hy.str, q'⟩
      · exact .inr (.inl ⟨_, _, hx.str, hy.str, q'⟩)
    · rename_i ds
      split at h
      · rename_i hf
        rw [Bool.and_eq_true] at hf
        cases h
        obtain ⟨p, vs, rfl, h1, h2, h3⟩ := hy.tup s
        refine .inr (.inr (.inl ⟨p, vs, rfl, .inr h1, flat_of (hx.dp s) hf.1, flatAll_of h2 hf.2, ?_⟩))
        rw [inV_of (hx.dp s) hf.1 h2 hf.2]
        exact q'
      · cases h
    · rename_i ds
      obtain ⟨p, vs, rfl, h1, h2, hr⟩ := hy.lst s
      split at h
      · rename_i hf
        rw [Bool.and_eq_true] at hf
        cases h
        refine .inr (.inr (.inl ⟨p, vs, rfl, .inl h1, flat_of (hx.dp s) hf.1, flatAll_of h2 hf.2, ?_⟩))
        rw [inV_of (hx.dp s) hf.1 h2 hf.2]
        exact q'
      · split at h
        · rename_i hs
          rw [Bool.and_eq_true] at hs
          cases h
          exact .inr (.inr (.inr ⟨_, ds, (hx.dp s).dp (nd_lay _ (SeqAt.canLay_of_shaped hs.1)), (Dq.lst hr (dqAll_mono s h2)).dp (nd_lay _ (SeqAt.canLay_of_shaped hs.2)), hs.1, hs.2, q'⟩))
        · cases h
    · cases h
theorem notInS {X : Cx} : OpS X (rNotInA X.K) notInD := by
  intro W σ H Hd x y dx dy s hx hy Q q
  unfold notInD at q
  cases h : inB dx dy with
  | none => rw [h] at q; exact q.elim
  | some b =>
    rw [h] at q
    have q' := PoE.at s q (.bl !b)
    unfold inB at h
    split at h
    · rename_i a b'
      cases h
      unfold inStr at q'
      split at q'
      · rename_i c hc
        have ha : a = ⟨#[c]⟩ := by
          cases a
          rename_i cps
          congr
          exact Array.ext' (by simpa using hc)
        exact .inl ⟨c, _, by rw [hx.str, ha], hy.str, q'⟩
      · exact .inr (.inl ⟨_, _, hx.str, hy.str, q'⟩)
    · rename_i ds
      split at h
      · rename_i hf
        rw [Bool.and_eq_true] at hf
        cases h
        obtain ⟨p, vs, rfl, h1, h2, h3⟩ := hy.tup s
        refine .inr (.inr (.inl ⟨p, vs, rfl, .inr h1, flat_of (hx.dp s) hf.1, flatAll_of h2 hf.2, ?_⟩))
        rw [inV_of (hx.dp s) hf.1 h2 hf.2]
        exact q'
      · cases h
    · rename_i ds
      obtain ⟨p, vs, rfl, h1, h2, hr⟩ := hy.lst s
      split at h
      · rename_i hf
        rw [Bool.and_eq_true] at hf
        cases h
        refine .inr (.inr (.inl ⟨p, vs, rfl, .inl h1, flat_of (hx.dp s) hf.1, flatAll_of h2 hf.2, ?_⟩))
        rw [inV_of (hx.dp s) hf.1 h2 hf.2]
        exact q'
      · split at h
        · rename_i hs
          rw [Bool.and_eq_true] at hs
          cases h
          exact .inr (.inr (.inr ⟨_, ds, (hx.dp s).dp (nd_lay _ (SeqAt.canLay_of_shaped hs.1)), (Dq.lst hr (dqAll_mono s h2)).dp (nd_lay _ (SeqAt.canLay_of_shaped hs.2)), hs.1, hs.2, q'⟩))
        · cases h
    · cases h

/-! ### x[i] -/
def ixD : D → D → Rs D
  | .list ds, .int i => match atI ds i with | some d => .ok d | none => .bad
  | .tuple ds, .int i => match atI ds i with | some d => .ok d | none => .bad
  | .str a, .int i => if a.length ≤ sizeLine then match atI a.cps.toList i with | some c => .ok (.str ⟨#[c]⟩) | none => .bad else .bad
  | _, _ => .bad
theorem atI_dp {K : PySem.W.Frag} {H : Hp} {vs : List V} {ds : List D} {i : Int} {d : D} (h : DqAll K H vs ds) (e : atI ds i = some d) : ∃ v, atI vs i = some v ∧ Dq K H v d := by
  unfold atI at e ⊢
  rw [h.length]
  cases hx : ixN ds.length i with
  | none => rw [hx] at e; cases e
  | some j =>
    rw [hx] at e
    exact h.get e
theorem ixS {X : Cx} : OpS X (rIx X.K) ixD := by
  intro W σ H Hd x y dx dy s hx hy Q q
  unfold ixD at q
  split at q
  · rename_i ds i
    cases h : atI ds i with
    | none => rw [h] at q; exact q.elim
    | some d =>
      rw [h] at q
      obtain ⟨p, vs, rfl, h1, h2, _⟩ := hx.lst s
      obtain ⟨v, e1, e2⟩ := atI_dp h2 h
      exact .inl ⟨p, vs, i, v, rfl, hy.int, h1, e1, PoE.at s q e2⟩
  · rename_i ds i
    cases h : atI ds i with
    | none => rw [h] at q; exact q.elim
    | some d =>
      rw [h] at q
      obtain ⟨p, vs, rfl, h1, h2, h3⟩ := hx.tup s
      obtain ⟨v, e1, e2⟩ := atI_dp h2 h
      exact .inr (.inl ⟨p, vs, i, v, rfl, hy.int, h1, e1, PoE.at s q e2⟩)
  · rename_i a i
    split at q
    · rename_i hl
      cases h : atI a.cps.toList i with
      | none => rw [h] at q; exact q.elim
      | some d =>
        rw [h] at q
        exact .inr (.inr ⟨a, i, d, hx.str, hy.int, hl, h, PoE.at s q (.str _)⟩)
    · exact q.elim
  · exact q.elim

/-! ### x[a:b] -/
structure SO (X : Cx) (W : WX) (own : List Nat) (e : Option Expr) (f : En → Rs (Option Int)) : Prop where
  ex : ∃ t, PO X e t ∧ ∀ H0 Hd0 ρ σ H Hd, Rel X.K H0 Hd0 own ρ σ H Hd → ∀ Q : Option Int → Hp → Prop, (match f ρ with
    | .ok o => ∀ H' Hd', Step H Hd H' Hd' → Q o H'
    | .ex c fs => ∀ cls a H' Hd', Step H Hd H' Hd' → ExR X.K X.mg H' Hd' c fs cls a → W cls a σ H'
    | .bad => False) → t σ H Q
def oNo : En → Rs (Option Int) := fun _ => .ok none
def oSo (f : En → Rs D) : En → Rs (Option Int) := fun ρ => f ρ >>= fun d => match d with
  | .int i => .ok (some i)
  | _ => .bad
def cutL {α : Type} (xs : List α) (lo hi : Option Int) : List α := (xs.drop (HT.sIx xs.length 0 lo)).take (HT.sIx xs.length xs.length hi - HT.sIx xs.length 0 lo)
def slD : D → Option Int → Option Int → Rs D
  | .list ds, lo, hi => .ok (.list (cutL ds lo hi))
  | .tuple ds, lo, hi => .ok (.tuple (cutL ds lo hi))
  | .str a, lo, hi => if a.length ≤ sizeLine then .ok (.str (cutS a lo hi)) else .bad
  | _, _, _ => .bad
def eSl (f : En → Rs D) (lo hi : En → Rs (Option Int)) : En → Rs D := fun ρ => f ρ >>= fun d => lo ρ >>= fun l => hi ρ >>= fun h => slD d l h
section
variable {X : Cx} {W : WX} {own : List Nat} {e : Expr} {lo hi : Option Expr} {f : En → Rs D} {fl fh : En → Rs (Option Int)} {pos p2 : Pos}
theorem so_none : SO X W own none oNo := ⟨_, po_none, fun H0 Hd0 ρ σ H Hd R Q q => q H Hd (.refl R.st.sub)⟩
theorem so_some (h : SE X W own e f) : SO X W own (some e) (oSo f) := by
  obtain ⟨t, p, r⟩ := h.ex
  refine ⟨_, po_some p, fun H0 Hd0 ρ σ H Hd R Q q => ?_⟩
  refine r _ _ _ _ _ _ R _ ?_
  unfold oSo at q
  cases hf : f ρ with
  | bad => rw [hf] at q; exact q
  | ex c fs => rw [hf] at q; exact q
  | ok d =>
    simp only [hf, ok_bind] at q
    intro v H' Hd' s x
    cases x with
    | int i => exact ⟨i, rfl, q H' Hd' s⟩
    | _ => exact q.elim
def rSlAll (K : PySem.W.Frag) : V → Option Int → Option Int → Hp → VK → Prop := fun x lo hi H Q => rSlL K x lo hi H Q ∨ rSlA K x lo hi H Q ∨ rSlS x lo hi H Q
theorem sl_all : SlR X (rSlAll X.K) := sl_list.or (sl_tupA.or sl_str)
theorem dqAll_cut {K : PySem.W.Frag} {H : Hp} {vs : List V} {ds : List D} (h : DqAll K H vs ds) (lo hi : Option Int) : DqAll K H (cutV vs lo hi) (cutL ds lo hi) := by
  unfold cutV cutL
  rw [h.length]
  exact (h.drop _).take _
theorem cutL_whole {ds : List D} {lo hi : Option Int} (h : HT.sIx ds.length 0 lo = 0 ∧ HT.sIx ds.length ds.length hi = ds.length) : cutL ds lo hi = ds := by
  unfold cutL
  rw [h.1, h.2]
  simp
theorem slS {σ : L2.St} {H Hd : Hp} {x : V} {d : D} {l h : Option Int} {Q : VK} (s : Same Hd H) (hx : Dv X.K H Hd x d) (q : PoE X W σ H Hd (slD d l h) Q) : rSlAll X.K x l h H Q := by
  unfold slD at q
  split at q
  · obtain ⟨p, vs, rfl, h1, h2, _⟩ := hx.lst s
    exact .inl ⟨p, vs, rfl, h1, fun z hz => PoE.newL s q (dqAll_cut h2 _ _) hz⟩
  · obtain ⟨p, vs, rfl, h1, h2, h3⟩ := hx.tup s
    refine .inr (.inl ⟨p, vs, rfl, h1, fun e => ?_, fun _ z hz => PoE.newT s q (dqAll_cut h2 _ _) hz⟩)
    rw [h2.length] at e
    rw [cutL_whole e] at q
    exact PoE.at s q (.tup h3 h2)
  · split at q
    · rename_i hl
      exact .inr (.inr ⟨_, hx.str, hl, PoE.at s q (.str _)⟩)
    · exact q.elim
  · exact q.elim
theorem se_slice (he : SB X W own e f) (hl : SO X W own lo fl) (hh : SO X W own hi fh) : SE X W own (.Subscript e (.Slice lo hi none p2) pos) (eSl f fl fh) := by
  obtain ⟨t, p, r⟩ := he.ex
  obtain ⟨tl, pl, rl⟩ := hl.ex
  obtain ⟨th, ph, rh⟩ := hh.ex
  refine ⟨_, pe_slice sl_all p pl ph, fun H0 Hd0 ρ σ H Hd R Q q => ?_⟩
  refine r _ _ _ _ _ _ R _ ?_
  unfold eSl at q
  cases hf : f ρ with
  | bad => rw [hf] at q; exact q
  | ex c fs => rw [hf] at q; exact q
  | ok d =>
    rw [hf] at q
    intro x H1 Hd1 s1 v1
    refine rl _ _ _ _ _ _ (R.step s1) _ ?_
    have q1 : PoE X W σ H1 Hd1 (fl ρ >>= fun l => fh ρ >>= fun h => slD d l h) Q := PoE.step q s1
    cases hg : fl ρ with
    | bad => rw [hg] at q1; exact q1
    | ex c fs => rw [hg] at q1; exact q1
    | ok l =>
      rw [hg] at q1
      intro H2 Hd2 s2
      refine rh _ _ _ _ _ _ ((R.step s1).step s2) _ ?_
      have q2 : PoE X W σ H2 Hd2 (fh ρ >>= fun h => slD d l h) Q := PoE.step q1 s2
      cases hk : fh ρ with
      | bad => rw [hk] at q2; exact q2
      | ex c fs => rw [hk] at q2; exact q2
      | ok h =>
        rw [hk] at q2
        intro H3 Hd3 s3
        exact slS s3.sub ((v1.step s1.sub s2).step s2.sub s3) (PoE.step q2 s3)
end
end Wm

set_option Elab.async false
set_option linter.all false
set_option maxRecDepth 100000
/-! WmOps2: built-ins, methods, walks, comprehensions, lists that change. -/
namespace Wm
open PySem PySem.Spec PyProof.Rows L2

/-! ### arguments that are only looked at -/
inductive DvAll (K : PySem.W.Frag) (H Hd : Hp) : List V → List D → Prop
  | nil : DvAll K H Hd [] []
  | cons {v : V} {vs : List V} {d : D} {ds : List D} : Dv K H Hd v d → DvAll K H Hd vs ds → DvAll K H Hd (v :: vs) (d :: ds)
section
variable (X : Cx) (W : WX)
def PoAb (σ : L2.St) (H Hd : Hp) (r : Rs (List D)) (Q : List V → Hp → Prop) : Prop := match r with
  | .ok ds => ∀ vs H' Hd', Step H Hd H' Hd' → DvAll X.K H' Hd' vs ds → Q vs H'
  | .ex c fs => ∀ cls a H' Hd', Step H Hd H' Hd' → ExR X.K X.mg H' Hd' c fs cls a → W cls a σ H'
  | .bad => False
end
structure SAb (X : Cx) (W : WX) (own : List Nat) (es : List Expr) (f : En → Rs (List D)) : Prop where
  ex : ∃ t, PA X es t ∧ ∀ H0 Hd0 ρ σ H Hd, Rel X.K H0 Hd0 own ρ σ H Hd → ∀ Q : List V → Hp → Prop, PoAb X W σ H Hd (f ρ) Q → t σ H Q
section
variable {X : Cx} {W : WX} {own : List Nat} {e : Expr} {es : List Expr} {f : En → Rs D} {g : En → Rs (List D)} {pos : Pos}
theorem PoAb.step {σ : L2.St} {H Hd H1 Hd1 : Hp} {r : Rs (List D)} {Q : List V → Hp → Prop} (h : PoAb X W σ H Hd r Q) (t : Step H Hd H1 Hd1) : PoAb X W σ H1 Hd1 r Q := by
  cases r with
  | ok d => exact fun vs H' Hd' s => h vs H' Hd' (t.trans s)
  | ex c fs => exact fun cls a H' Hd' s => h cls a H' Hd' (t.trans s)
  | bad => exact h
theorem sab_nil : SAb X W own [] aNil := ⟨_, pa_nil, fun H0 Hd0 ρ σ H Hd R Q q => q [] H Hd (.refl R.st.sub) .nil⟩
theorem sab_cons (h : SB X W own e f) (h2 : SAb X W own es g) (hs : starEach (e :: es) X.env = (false, eval e X.env) :: starEach es X.env := by rfl) : SAb X W own (e :: es) (aCons f g) := by
  obtain ⟨ta, pa, ra⟩ := h.ex
  obtain ⟨tb, pb, rb⟩ := h2.ex
  refine ⟨_, pa_cons pa pb hs, fun H0 Hd0 ρ σ H Hd R Q q => ?_⟩
  refine ra _ _ _ _ _ _ R _ ?_
  unfold aCons at q
  cases ha : f ρ with
  | bad => rw [ha] at q; exact q
  | ex c fs => rw [ha] at q; exact q
  | ok d =>
    rw [ha] at q
    intro v H1 Hd1 s1 x
    have q1 : PoAb X W σ H1 Hd1 (g ρ >>= fun ds => .ok (d :: ds)) Q := PoAb.step q s1
    refine rb _ _ _ _ _ _ (R.step s1) _ ?_
    cases hb : g ρ with
    | bad => rw [hb] at q1; exact q1
    | ex c fs => rw [hb] at q1; exact q1
    | ok ds =>
      rw [hb] at q1
      intro vs H2 Hd2 s2 xs
      exact q1 (v :: vs) H2 Hd2 s2 (.cons (x.step s1.sub s2) xs)
end
/-- a built-in on values is one on data -/
def CalS (X : Cx) (r : List V → Hp → VK → Prop) (g : List D → Rs D) : Prop := ∀ W σ H Hd vs ds, Same Hd H → DvAll X.K H Hd vs ds → ∀ Q, PoE X W σ H Hd (g ds) Q → r vs H Q
def CalM (X : Cx) (r : List V → Hp → VK → Prop) (g : List D → Rs D) : Prop := ∀ W σ H Hd vs ds, Same Hd H → DvAll X.K H Hd vs ds → ∀ Q, PoM X W σ H Hd (g ds) Q → r vs H Q
def eBlt (g : List D → Rs D) (fa : En → Rs (List D)) : En → Rs D := fun ρ => fa ρ >>= g
section
variable {X : Cx} {W : WX} {own : List Nat} {x : Str} {e : Expr} {es : List Expr} {fa : En → Rs (List D)} {p pos : Pos} {id : String} {r : List V → Hp → VK → Prop} {g : List D → Rs D}
theorem run1 {t : TA} (hr : CalS X r g) (ra : ∀ H0 Hd0 ρ σ H Hd, Rel X.K H0 Hd0 own ρ σ H Hd → ∀ Q : List V → Hp → Prop, PoAb X W σ H Hd (fa ρ) Q → t σ H Q)
    {H0 : Bs} {Hd0 : Hp} {ρ : En} {σ : L2.St} {H Hd : Hp} (R : Rel X.K H0 Hd0 own ρ σ H Hd) {Q : VK} (q : PoE X W σ H Hd (eBlt g fa ρ) Q) : tCB r t σ H Q := by
  refine ra _ _ _ _ _ _ R _ ?_
  unfold eBlt at q
  cases ha : fa ρ with
  | bad => rw [ha] at q; exact q
  | ex c fs => rw [ha] at q; exact q
  | ok ds =>
    rw [ha] at q
    intro vs H1 Hd1 s1 xs
    exact hr W σ H1 Hd1 vs ds s1.sub xs Q (PoE.step q s1)
theorem run1M {t : TA} (hr : CalM X r g) (ra : ∀ H0 Hd0 ρ σ H Hd, Rel X.K H0 Hd0 own ρ σ H Hd → ∀ Q : List V → Hp → Prop, PoAb X W σ H Hd (fa ρ) Q → t σ H Q)
    {H0 : Bs} {Hd0 : Hp} {ρ : En} {σ : L2.St} {H Hd : Hp} (R : Rel X.K H0 Hd0 own ρ σ H Hd) {Q : VK} (q : PoM X W σ H Hd (eBlt g fa ρ) Q) : tCB r t σ H Q := by
  refine ra _ _ _ _ _ _ R _ ?_
  unfold eBlt at q
  cases ha : fa ρ with
  | bad => rw [ha] at q; exact q
  | ex c fs => rw [ha] at q; exact q
  | ok ds =>
    rw [ha] at q
    intro vs H1 Hd1 s1 xs
    exact hr W σ H1 Hd1 vs ds s1.sub xs Q (PoM.step q s1)
theorem se_blt (hc : CallR X (.builtin id) r) (hr : CalS X r g) (hm : X.mg x = none) (ha : SAb X W own (e :: es) fa) (hv : bootBuiltins x = some (.builtin id) := by decide +kernel) (hg : Gl X x := by rfl) (hn : x ≠ "__name__" := by decide) (hdb : (x == ("__debug__" : Str)) = false := by rfl)
    (he : starEach (e :: es) X.env = (false, eval e X.env) :: starEach es X.env := by rfl) (hpl : (backTo pos (starEach es X.env)).any (·.1) = false := by rfl) : SE X W own (.Call (.Name x p) (e :: es) [] pos) (eBlt g fa) := by
  obtain ⟨ta, pa, ra⟩ := ha.ex
  exact ⟨_, pe_callB hc hg hm hv pa hn hdb he hpl, fun H0 Hd0 ρ σ H Hd R Q q => run1 hr ra R q⟩
theorem se_bty (hc : CallR X (.type id) r) (hr : CalS X r g) (hm : X.mg x = none) (ha : SAb X W own (e :: es) fa) (hv : bootBuiltins x = some (.type id) := by decide +kernel) (hg : Gl X x := by rfl) (hn : x ≠ "__name__" := by decide) (hdb : (x == ("__debug__" : Str)) = false := by rfl)
    (he : starEach (e :: es) X.env = (false, eval e X.env) :: starEach es X.env := by rfl) (hpl : (backTo pos (starEach es X.env)).any (·.1) = false := by rfl) : SE X W own (.Call (.Name x p) (e :: es) [] pos) (eBlt g fa) := by
  obtain ⟨ta, pa, ra⟩ := ha.ex
  exact ⟨_, pe_callTy hc hg hm hv pa hn hdb he hpl, fun H0 Hd0 ρ σ H Hd R Q q => run1 hr ra R q⟩
theorem sm_bty (hc : CallR X (.type id) r) (hr : CalM X r g) (hm : X.mg x = none) (ha : SAb X W own (e :: es) fa) (hv : bootBuiltins x = some (.type id) := by decide +kernel) (hg : Gl X x := by rfl) (hn : x ≠ "__name__" := by decide) (hdb : (x == ("__debug__" : Str)) = false := by rfl)
    (he : starEach (e :: es) X.env = (false, eval e X.env) :: starEach es X.env := by rfl) (hpl : (backTo pos (starEach es X.env)).any (·.1) = false := by rfl) : SM X W own (.Call (.Name x p) (e :: es) [] pos) (eBlt g fa) := by
  obtain ⟨ta, pa, ra⟩ := ha.ex
  exact ⟨_, pe_callTy hc hg hm hv pa hn hdb he hpl, fun H0 Hd0 ρ σ H Hd R Q q => run1M hr ra R q⟩
end
section
variable {X : Cx}
theorem DvAll.inv1 {K : PySem.W.Frag} {H Hd : Hp} {vs : List V} {d : D} (h : DvAll K H Hd vs [d]) : ∃ v, vs = [v] ∧ Dv K H Hd v d := by
  cases h with
  | cons a r => cases r; exact ⟨_, rfl, a⟩
theorem DvAll.inv2 {K : PySem.W.Frag} {H Hd : Hp} {vs : List V} {d e : D} (h : DvAll K H Hd vs [d, e]) : ∃ v w, vs = [v, w] ∧ Dv K H Hd v d ∧ Dv K H Hd w e := by
  cases h with
  | cons a r => cases r with
    | cons b r => cases r; exact ⟨_, _, rfl, a, b⟩
def lenD : List D → Rs D
  | [.list ds] => .ok (.int ds.length)
  | [.tuple ds] => .ok (.int ds.length)
  | [.str a] => if a.length ≤ sizeLine then .ok (.int a.length) else .bad
  | _ => .bad
theorem lenS : CalS X (fun xs H Q => ∃ x n, xs = [x] ∧ LenV X.K x H n ∧ Q (.int n) H) lenD := by
  intro W σ H Hd vs ds s h Q q
  unfold lenD at q
  split at q
  · obtain ⟨v, rfl, k⟩ := h.inv1
    obtain ⟨p, vs, rfl, h1, h2, _⟩ := k.lst s
    exact ⟨_, _, rfl, .inl ⟨vs, h1, rfl⟩, by rw [h2.length]; exact PoE.at s q (.int _)⟩
  · obtain ⟨v, rfl, k⟩ := h.inv1
    obtain ⟨p, vs, rfl, h1, h2, _⟩ := k.tup s
    exact ⟨_, _, rfl, .inr ⟨vs, h1, rfl⟩, by rw [h2.length]; exact PoE.at s q (.int _)⟩
  · obtain ⟨v, rfl, k⟩ := h.inv1
    split at q
    · rename_i hl
      rw [k.str]
      exact ⟨_, _, rfl, (show LenV X.K (.str _) H _ from ⟨hl, rfl⟩), PoE.at s q (.int _)⟩
    · exact q.elim
  · exact q.elim
def intD : List D → Rs D
  | [.int i] => .ok (.int i)
  | [.bool b] => .ok (.int (if b then 1 else 0))
  | [.str a] => if a.length ≤ 640 then match PySem.intText? a with | some n => .ok (.int n) | none => .bad else .bad
  | _ => .bad
def rIntA : List V → Hp → VK → Prop := fun xs H Q => ((∃ i, xs = [.int i] ∧ Q (.int i) H) ∨ ∃ k, xs = [.bl k] ∧ Q (.int (if k then 1 else 0)) H) ∨ ∃ a n, xs = [.str a] ∧ PySem.intText? a = some n ∧ a.length ≤ 640 ∧ Q (.int n) H
theorem call_intA : CallR X (.type "int") rIntA := call_int1.or call_int_str
theorem intS : CalS X rIntA intD := by
  intro W σ H Hd vs ds s h Q q
  unfold intD at q
  split at q
  · obtain ⟨v, rfl, k⟩ := h.inv1
    exact .inl (.inl ⟨_, by rw [k.int], PoE.at s q (.int _)⟩)
  · obtain ⟨v, rfl, k⟩ := h.inv1
    exact .inl (.inr ⟨_, by rw [k.bool], PoE.at s q (.int _)⟩)
  · obtain ⟨v, rfl, k⟩ := h.inv1
    split at q
    · split at q
      · exact .inr ⟨_, _, by rw [k.str], by assumption, by assumption, PoE.at s q (.int _)⟩
      · exact q.elim
    · exact q.elim
  · exact q.elim
def strD : List D → Rs D
  | [.int i] => if i.natAbs.log2 < 1920 then .ok (.str (toString i)) else .bad
  | [.str a] => .ok (.str a)
  | _ => .bad
def rStrA : List V → Hp → VK → Prop := fun xs H Q => (∃ i, xs = [.int i] ∧ i.natAbs.log2 < 1920 ∧ Q (.str (toString i)) H) ∨ ∃ a, xs = [.str a] ∧ Q (.str a) H
theorem call_strA : CallR X (.type "str") rStrA := call_str_int.or SkE.call_str_str
theorem strS : CalS X rStrA strD := by
  intro W σ H Hd vs ds s h Q q
  unfold strD at q
  split at q
  · obtain ⟨v, rfl, k⟩ := h.inv1
    split at q
    · exact .inl ⟨_, by rw [k.int], by assumption, PoE.at s q (.str _)⟩
    · exact q.elim
  · obtain ⟨v, rfl, k⟩ := h.inv1
    exact .inr ⟨_, by rw [k.str], PoE.at s q (.str _)⟩
  · exact q.elim
def ordD : List D → Rs D
  | [.str a] => if a.length = 1 then .ok (.int (a.cps.getD 0 0 : Nat)) else .bad
  | _ => .bad
theorem ordS : CalS X (fun xs H Q => ∃ x, xs = [.str x] ∧ x.length = 1 ∧ Q (.int (x.cps.getD 0 0 : Nat)) H) ordD := by
  intro W σ H Hd vs ds s h Q q
  unfold ordD at q
  split at q
  · obtain ⟨v, rfl, k⟩ := h.inv1
    split at q
    · exact ⟨_, by rw [k.str], by assumption, PoE.at s q (.int _)⟩
    · exact q.elim
  · exact q.elim
def maxD : List D → Rs D
  | [.int i, .int j] => .ok (.int (if j > i then j else i))
  | _ => .bad
def minD : List D → Rs D
  | [.int i, .int j] => .ok (.int (if j < i then j else i))
  | _ => .bad
theorem maxS : CalS X (fun xs H Q => ∃ i j, xs = [.int i, .int j] ∧ Q (.int (if j > i then j else i)) H) maxD := by
  intro W σ H Hd vs ds s h Q q
  unfold maxD at q
  split at q
  · obtain ⟨v, w, rfl, k, k'⟩ := h.inv2
    exact ⟨_, _, by rw [k.int, k'.int], PoE.at s q (.int _)⟩
  · exact q.elim
theorem minS : CalS X (fun xs H Q => ∃ i j, xs = [.int i, .int j] ∧ Q (.int (if j < i then j else i)) H) minD := by
  intro W σ H Hd vs ds s h Q q
  unfold minD at q
  split at q
  · obtain ⟨v, w, rfl, k, k'⟩ := h.inv2
    exact ⟨_, _, by rw [k.int, k'.int], PoE.at s q (.int _)⟩
  · exact q.elim
def tupD : List D → Rs D
  | [.list ds] => .ok (.tuple ds)
  | [.tuple ds] => .ok (.tuple ds)
  | _ => .bad
theorem tupS : CalS X (fun xs H Q => ∃ p ys, xs = [.ref p] ∧ ((SqL X.K H p ys ∧ ∀ l, H l = none → Q (.ref l) (upd H l (.tup ys))) ∨ (SqT X.K H p ys ∧ Q (.ref p) H))) tupD := by
  intro W σ H Hd vs ds s h Q q
  unfold tupD at q
  split at q
  · obtain ⟨v, rfl, k⟩ := h.inv1
    obtain ⟨p, vs, rfl, h1, h2, _⟩ := k.lst s
    exact ⟨p, vs, rfl, .inl ⟨h1, fun l hl => PoE.newT s q h2 hl⟩⟩
  · obtain ⟨v, rfl, k⟩ := h.inv1
    obtain ⟨p, vs, rfl, h1, h2, h3⟩ := k.tup s
    exact ⟨p, vs, rfl, .inr ⟨h1, PoE.at s q (.tup h3 h2)⟩⟩
  · exact q.elim
def listD : List D → Rs D
  | [.list ds] => .ok (.list ds)
  | [.tuple ds] => .ok (.list ds)
  | _ => .bad
theorem listS : CalM X (fun xs H Q => ∃ p ys, xs = [.ref p] ∧ (SqL X.K H p ys ∨ SqT X.K H p ys) ∧ ∀ l, H l = none → Q (.ref l) (upd H l (.lst ys))) listD := by
  intro W σ H Hd vs ds s h Q q
  unfold listD at q
  split at q
  · obtain ⟨v, rfl, k⟩ := h.inv1
    obtain ⟨p, vs, rfl, h1, h2, _⟩ := k.lst s
    exact ⟨p, vs, rfl, .inl h1, fun l hl => PoM.newL s q h2 hl⟩
  · obtain ⟨v, rfl, k⟩ := h.inv1
    obtain ⟨p, vs, rfl, h1, h2, h3⟩ := k.tup s
    exact ⟨p, vs, rfl, .inr h1, fun l hl => PoM.newL s q h2 hl⟩
  · exact q.elim
def divmodD : List D → Rs D
  | [.int i, .int j] => if 0 < j ∧ j < 1073741824 then .ok (.tuple [.int (i / j), .int (i % j)]) else .bad
  | _ => .bad
theorem divmodS : CalS X (fun xs H Q => ∃ i j, xs = [.int i, .int j] ∧ CDiv i j ∧ ∀ p, H p = none → Q (.ref p) (upd H p (.tup [.int (i / j), .int (i % j)]))) divmodD := by
  intro W σ H Hd vs ds s h Q q
  unfold divmodD at q
  split at q
  · obtain ⟨v, w, rfl, k, k'⟩ := h.inv2
    split at q
    · exact ⟨_, _, by rw [k.int, k'.int], by assumption, fun p hp => PoE.newT s q (.cons (.int _) (.cons (.int _) .nil)) hp⟩
    · exact q.elim
  · exact q.elim
/-- a list of truths -/
def boolsOf : List D → Option (List Bool)
  | [] => some []
  | .bool b :: ds => (boolsOf ds).map (b :: ·)
  | _ => none
theorem boolsOf_ok {K : PySem.W.Frag} {H : Hp} : ∀ {ds : List D} {vs : List V} {bs : List Bool}, boolsOf ds = some bs → DqAll K H vs ds → vs = bs.map V.bl
  | [], _, bs, e, .nil => by cases e; rfl
  | .bool b :: ds, _, bs, e, .cons a r => by
    unfold boolsOf at e
    cases h : boolsOf ds with
    | none => rw [h] at e; cases e
    | some cs =>
      rw [h] at e
      cases e
      cases a
      rw [boolsOf_ok h r]
      rfl
def allD : List D → Rs D
  | [.list ds] => match boolsOf ds with | some bs => .ok (.bool (bs.all id)) | none => .bad
  | _ => .bad
def anyD : List D → Rs D
  | [.list ds] => match boolsOf ds with | some bs => .ok (.bool (bs.any id)) | none => .bad
  | _ => .bad
theorem allS : CalS X (rAll X.K) allD := by
  intro W σ H Hd vs ds s h Q q
  unfold allD at q
  split at q
  · obtain ⟨v, rfl, k⟩ := h.inv1
    obtain ⟨p, vs, rfl, h1, h2, _⟩ := k.lst s
    split at q
    · rename_i bs hb
      exact ⟨p, bs, rfl, by rw [← boolsOf_ok hb h2]; exact h1, PoE.at s q (.bl _)⟩
    · exact q.elim
  · exact q.elim
theorem anyS : CalS X (rAny X.K) anyD := by
  intro W σ H Hd vs ds s h Q q
  unfold anyD at q
  split at q
  · obtain ⟨v, rfl, k⟩ := h.inv1
    obtain ⟨p, vs, rfl, h1, h2, _⟩ := k.lst s
    split at q
    · rename_i bs hb
      exact ⟨p, bs, rfl, by rw [← boolsOf_ok hb h2]; exact h1, PoE.at s q (.bl _)⟩
    · exact q.elim
  · exact q.elim
/-! ### isinstance(x, T), T a built-in class -/
def tyD : D → String
  | .none => "NoneType"
  | .bool _ => "bool"
  | .int _ => "int"
  | .str _ => "str"
  | .list _ => "list"
  | .tuple _ => "tuple"
  | .dict _ => "dict"
def isiD (T : String) (d : D) : Rs D := if exB d = true then .bad else match kitB (tyD d) T with
  | some b => .ok (.bool b)
  | none => .bad
def eIsi (T : String) (f : En → Rs D) : En → Rs D := fun ρ => f ρ >>= isiD T
theorem tyx_of {K : PySem.W.Frag} {H : Hp} {v : V} {d : D} (h : Dq K H v d) (hx : exB d = false) : TyX K H v (.type (tyD d)) := by
  cases h with
  | non => exact .base .non
  | bl b => exact .base (.bl b)
  | int i => exact .base (.int i)
  | str x => exact .base (.str x)
  | lst h r =>
    rcases h with (h | ⟨o, h⟩) | ⟨o, its, n, h, hc, _⟩
    · exact .base (.lst h)
    · exact .base (.frz h)
    · exact .kList h hc
  | tup h r =>
    rcases h with (h | ⟨o, h⟩) | ⟨o, its, n, h, hc, _⟩
    · exact .base (.tup h)
    · exact .fTuple h
    · exact .kTuple h hc
  | dct h l r => exact .base (.dK h)
  | exc0 h n => cases hx
  | exc1 h n l r => cases hx
theorem se_isi {W : WX} {own : List Nat} {e : Expr} {f : En → Rs D} {T : Str} {n : String} {p p2 pos : Pos} (h : SB X W own e f) (hm : X.mg "isinstance" = none) (hT : X.mg T = none) (hv : bootBuiltins T = some (.type n) := by decide +kernel)
    (hi : Gl X "isinstance" := by rfl) (hg : Gl X T := by rfl) (hn : T ≠ "__name__" := by decide) (hdb : (T == ("__debug__" : Str)) = false := by rfl)
    (he : starEach [e, .Name T p2] X.env = (false, eval e X.env) :: starEach [.Name T p2] X.env := by rfl) (he2 : starEach [.Name T p2] X.env = (false, eval (.Name T p2) X.env) :: starEach [] X.env := by rfl) (hpl : (backTo pos (starEach [.Name T p2] X.env)).any (·.1) = false := by rfl) :
    SE X W own (.Call (.Name "isinstance" p) [e, .Name T p2] [] pos) (eIsi n f) := by
  obtain ⟨t, pp, r⟩ := h.ex
  refine ⟨_, pe_callB call_isi hi hm (by decide +kernel) (pa_cons pp (pa_cons (pe_bltn (v := .ty n) hg hT hv rfl hn hdb) pa_nil he2) he) (by decide) (by rfl) he hpl, fun H0 Hd0 ρ σ H Hd R Q q => ?_⟩
  refine r _ _ _ _ _ _ R _ ?_
  unfold eIsi at q
  cases hf : f ρ with
  | bad => rw [hf] at q; exact q
  | ex c fs => rw [hf] at q; exact q
  | ok d =>
    rw [hf] at q
    intro v H1 Hd1 s1 x
    have q1 : PoE X W σ H1 Hd1 (isiD n d) Q := PoE.step q s1
    unfold isiD at q1
    cases hx : exB d with
    | true => rw [hx] at q1; exact q1.elim
    | false =>
    rw [hx, if_neg (by decide)] at q1
    cases hk : kitB (tyD d) n with
    | none => rw [hk] at q1; exact q1.elim
    | some b =>
      rw [hk] at q1
      exact ⟨v, .ty n, _, _, b, rfl, .ty n, tyx_of (x.dp s1.sub) hx, kit_ty hk, PoE.at s1.sub q1 (.bl _)⟩
end
end Wm

set_option Elab.async false
set_option linter.all false
set_option maxRecDepth 100000
/-! WmOps3: methods of texts, walks, comprehensions, lists that change. -/
namespace Wm
open PySem PySem.Spec PyProof.Rows L2

/-! ### methods of texts -/
def onS (g : Str → Rs D) : D → Rs D
  | .str a => g a
  | _ => .bad
def eM0 (g : Str → Rs D) (fo : En → Rs D) : En → Rs D := fun ρ => fo ρ >>= onS g
def eM1 (g : Str → D → Rs D) (fo fa : En → Rs D) : En → Rs D := fun ρ => fo ρ >>= onS fun a => fa ρ >>= g a
section
variable {X : Cx} {W : WX} {own : List Nat} {o e : Expr} {fo fa : En → Rs D} {name : Str} {id : String} {apos pos : Pos} {r : V → List V → Hp → VK → Prop}
theorem se_m0 {g : Str → Rs D} (slot : Slot "str" name id) (ty : typeOf (.builtin id) = pure (.type "method_descriptor")) (rule : MtR X id r) (hr : ∀ W σ H Hd Q a, Same Hd H → PoE X W σ H Hd (g a) Q → r (.str a) [] H Q) (ho : SB X W own o fo)
    (hbase : attributeBase o name X.env (eval o X.env) = eval o X.env := by rfl) (hline : (apos.endLine == pos.line) = true := by rfl) : SE X W own (.Call (.Attribute o name apos) [] [] pos) (eM0 g fo) := by
  obtain ⟨t, p, rr⟩ := ho.ex
  refine ⟨_, pe_m0 slot ty rule p hbase hline, fun H0 Hd0 ρ σ H Hd R Q q => ?_⟩
  refine rr _ _ _ _ _ _ R _ ?_
  unfold eM0 at q
  cases hf : fo ρ with
  | bad => rw [hf] at q; exact q
  | ex c fs => rw [hf] at q; exact q
  | ok d =>
    rw [hf] at q
    intro v H1 Hd1 s1 x
    have q1 : PoE X W σ H1 Hd1 (onS g d) Q := PoE.step q s1
    unfold onS at q1
    split at q1
    · rw [x.str]
      exact ⟨⟨_, rfl⟩, hr W σ H1 Hd1 Q _ s1.sub q1⟩
    · exact q1.elim
theorem se_m1 {g : Str → D → Rs D} (slot : Slot "str" name id) (ty : typeOf (.builtin id) = pure (.type "method_descriptor")) (rule : MtR X id r) (hr : ∀ W σ H Hd Q a y d, Same Hd H → Dv X.K H Hd y d → PoE X W σ H Hd (g a d) Q → r (.str a) [y] H Q) (ho : SB X W own o fo) (ha : SB X W own e fa)
    (hs : starEach [e] X.env = [(false, eval e X.env)] := by rfl) (hbase : attributeBase o name X.env (eval o X.env) = eval o X.env := by rfl) (hline : (apos.endLine == pos.line) = true := by rfl) : SE X W own (.Call (.Attribute o name apos) [e] [] pos) (eM1 g fo fa) := by
  obtain ⟨t, p, rr⟩ := ho.ex
  obtain ⟨t2, p2, rr2⟩ := ha.ex
  refine ⟨_, pe_m1 slot ty rule p p2 hs hbase hline, fun H0 Hd0 ρ σ H Hd R Q q => ?_⟩
  refine rr _ _ _ _ _ _ R _ ?_
  unfold eM1 at q
  cases hf : fo ρ with
  | bad => rw [hf] at q; exact q
  | ex c fs => rw [hf] at q; exact q
  | ok d =>
    rw [hf] at q
    intro v H1 Hd1 s1 x
    have q1 : PoE X W σ H1 Hd1 (onS (fun a => fa ρ >>= g a) d) Q := PoE.step q s1
    unfold onS at q1
    split at q1
    rotate_left
    · exact q1.elim
    rename_i a
    rw [x.str]
    refine ⟨⟨_, rfl⟩, rr2 _ _ _ _ _ _ (R.step s1) _ ?_⟩
    cases hg : fa ρ with
    | bad => rw [hg] at q1; exact q1
    | ex c fs => rw [hg] at q1; exact q1
    | ok y =>
      rw [hg] at q1
      intro u H2 Hd2 s2 z
      exact hr W σ H2 Hd2 Q a u y s2.sub z (PoE.step (r := g a y) q1 s2)
end

section
variable {X : Cx} {W : WX} {own : List Nat} {o e : Expr} {fo fa : En → Rs D} {apos pos : Pos}
def lowerD (a : Str) : Rs D := if a.length ≤ 5592405 then .ok (.str (Txt.lower a)) else .bad
def upperD (a : Str) : Rs D := if a.length ≤ 5592405 then .ok (.str (Txt.upper a)) else .bad
theorem se_lower (ho : SB X W own o fo) (hbase : attributeBase o "lower" X.env (eval o X.env) = eval o X.env := by rfl) (hline : (apos.endLine == pos.line) = true := by rfl) : SE X W own (.Call (.Attribute o "lower" apos) [] [] pos) (eM0 lowerD fo) :=
  se_m0 PySem.F.slot_str_lower PySem.F.type_str_lower mt_lower (fun W σ H Hd Q a s q => by
    unfold lowerD at q
    split at q
    · exact ⟨a, rfl, rfl, by assumption, PoE.at s q (.str _)⟩
    · exact q.elim) ho hbase hline
theorem se_upper (ho : SB X W own o fo) (hbase : attributeBase o "upper" X.env (eval o X.env) = eval o X.env := by rfl) (hline : (apos.endLine == pos.line) = true := by rfl) : SE X W own (.Call (.Attribute o "upper" apos) [] [] pos) (eM0 upperD fo) :=
  se_m0 PySem.F.slot_str_upper PySem.F.type_str_upper mt_upper (fun W σ H Hd Q a s q => by
    unfold upperD at q
    split at q
    · exact ⟨a, rfl, rfl, by assumption, PoE.at s q (.str _)⟩
    · exact q.elim) ho hbase hline
def isalnumD (a : Str) : Rs D := .ok (.bool (Txt.isalnum a))
def isdigitD (a : Str) : Rs D := .ok (.bool (Txt.isdigit a))
theorem se_isalnum (ho : SB X W own o fo) (hbase : attributeBase o "isalnum" X.env (eval o X.env) = eval o X.env := by rfl) (hline : (apos.endLine == pos.line) = true := by rfl) : SE X W own (.Call (.Attribute o "isalnum" apos) [] [] pos) (eM0 isalnumD fo) :=
  se_m0 PySem.F.slot_str_isalnum PySem.F.type_str_isalnum mt_isalnum (fun W σ H Hd Q a s q => ⟨a, rfl, rfl, trivial, PoE.at s q (.bl _)⟩) ho hbase hline
theorem se_isdigit (ho : SB X W own o fo) (hbase : attributeBase o "isdigit" X.env (eval o X.env) = eval o X.env := by rfl) (hline : (apos.endLine == pos.line) = true := by rfl) : SE X W own (.Call (.Attribute o "isdigit" apos) [] [] pos) (eM0 isdigitD fo) :=
  se_m0 PySem.F.slot_str_isdigit PySem.F.type_str_isdigit mt_isdigit (fun W σ H Hd Q a s q => ⟨a, rfl, rfl, trivial, PoE.at s q (.bl _)⟩) ho hbase hline
def startD (a : Str) : D → Rs D
  | .str b => .ok (.bool (Txt.startswith a b))
  | _ => .bad
def endD (a : Str) : D → Rs D
  | .str b => .ok (.bool (Txt.endswith a b))
  | _ => .bad
def findD (a : Str) : D → Rs D
  | .str b => .ok (.int (Txt.find a b))
  | _ => .bad
def sindexD (a : Str) : D → Rs D
  | .str b => match Builtin.Str.occurrences a b 0 a.length 1 with
    | i :: _ => .ok (.int (i : Nat))
    | [] => .bad
  | _ => .bad
theorem se_startswith (ho : SB X W own o fo) (ha : SB X W own e fa) (hs : starEach [e] X.env = [(false, eval e X.env)] := by rfl) (hbase : attributeBase o "startswith" X.env (eval o X.env) = eval o X.env := by rfl) (hline : (apos.endLine == pos.line) = true := by rfl) :
    SE X W own (.Call (.Attribute o "startswith" apos) [e] [] pos) (eM1 startD fo fa) :=
  se_m1 PySem.F.slot_str_startswith PySem.F.type_str_startswith mt_startswith (fun W σ H Hd Q a y d s h q => by
    unfold startD at q
    split at q
    · exact ⟨a, _, rfl, by rw [h.str], PoE.at s q (.bl _)⟩
    · exact q.elim) ho ha hs hbase hline
theorem se_endswith (ho : SB X W own o fo) (ha : SB X W own e fa) (hs : starEach [e] X.env = [(false, eval e X.env)] := by rfl) (hbase : attributeBase o "endswith" X.env (eval o X.env) = eval o X.env := by rfl) (hline : (apos.endLine == pos.line) = true := by rfl) :
    SE X W own (.Call (.Attribute o "endswith" apos) [e] [] pos) (eM1 endD fo fa) :=
  se_m1 PySem.F.slot_str_endswith PySem.F.type_str_endswith mt_endswith (fun W σ H Hd Q a y d s h q => by
    unfold endD at q
    split at q
    · exact ⟨a, _, rfl, by rw [h.str], PoE.at s q (.bl _)⟩
    · exact q.elim) ho ha hs hbase hline
theorem se_find (ho : SB X W own o fo) (ha : SB X W own e fa) (hs : starEach [e] X.env = [(false, eval e X.env)] := by rfl) (hbase : attributeBase o "find" X.env (eval o X.env) = eval o X.env := by rfl) (hline : (apos.endLine == pos.line) = true := by rfl) :
    SE X W own (.Call (.Attribute o "find" apos) [e] [] pos) (eM1 findD fo fa) :=
  se_m1 PySem.F.slot_str_find PySem.F.type_str_find mt_find (fun W σ H Hd Q a y d s h q => by
    unfold findD at q
    split at q
    · exact ⟨a, _, rfl, by rw [h.str], PoE.at s q (.int _)⟩
    · exact q.elim) ho ha hs hbase hline
theorem se_sindex (ho : SB X W own o fo) (ha : SB X W own e fa) (hs : starEach [e] X.env = [(false, eval e X.env)] := by rfl) (hbase : attributeBase o "index" X.env (eval o X.env) = eval o X.env := by rfl) (hline : (apos.endLine == pos.line) = true := by rfl) :
    SE X W own (.Call (.Attribute o "index" apos) [e] [] pos) (eM1 sindexD fo fa) :=
  se_m1 PySem.F.slot_str_index PySem.F.type_str_index mt_sindex (fun W σ H Hd Q a y d s h q => by
    unfold sindexD at q
    split at q
    · split at q
      · exact ⟨a, _, _, _, rfl, by rw [h.str], by assumption, PoE.at s q (.int _)⟩
      · exact q.elim
    · exact q.elim) ho ha hs hbase hline
/-- a list of texts -/
def strsOf : List D → Option (List Str)
  | [] => some []
  | .str b :: ds => (strsOf ds).map (b :: ·)
  | _ => none
theorem strsOf_ok {K : PySem.W.Frag} {H : Hp} : ∀ {ds : List D} {vs : List V} {bs : List Str}, strsOf ds = some bs → DqAll K H vs ds → vs = bs.map V.str
  | [], _, bs, e, .nil => by cases e; rfl
  | .str b :: ds, _, bs, e, .cons a r => by
    unfold strsOf at e
    cases h : strsOf ds with
    | none => rw [h] at e; cases e
    | some cs =>
      rw [h] at e
      cases e
      cases a
      rw [strsOf_ok h r]
      rfl
def joinS (a : Str) (ds : List D) : Rs D := match strsOf ds with
  | some ys => if (ys.map (·.length)).sum + ys.length * a.length ≤ 16777216 then .ok (.str (Txt.join a ys)) else .bad
  | none => .bad
def joinD (a : Str) : D → Rs D
  | .list ds => joinS a ds
  | .tuple ds => joinS a ds
  | _ => .bad
theorem se_join (ho : SB X W own o fo) (ha : SB X W own e fa) (hs : starEach [e] X.env = [(false, eval e X.env)] := by rfl) (hbase : attributeBase o "join" X.env (eval o X.env) = eval o X.env := by rfl) (hline : (apos.endLine == pos.line) = true := by rfl) :
    SE X W own (.Call (.Attribute o "join" apos) [e] [] pos) (eM1 joinD fo fa) :=
  se_m1 PySem.F.slot_str_join PySem.F.type_str_join mt_join (fun W σ H Hd Q a y d s h q => by
    unfold joinD at q
    split at q
    · unfold joinS at q
      split at q
      · rename_i ys hy
        split at q
        · obtain ⟨p, vs, rfl, h1, h2, _⟩ := h.lst s
          exact ⟨a, p, ys, rfl, rfl, .inl (by rw [← strsOf_ok hy h2]; exact h1), by assumption, PoE.at s q (.str _)⟩
        · exact q.elim
      · exact q.elim
    · unfold joinS at q
      split at q
      · rename_i ys hy
        split at q
        · obtain ⟨p, vs, rfl, h1, h2, _⟩ := h.tup s
          exact ⟨a, p, ys, rfl, rfl, .inr (by rw [← strsOf_ok hy h2]; exact h1), by assumption, PoE.at s q (.str _)⟩
        · exact q.elim
      · exact q.elim
    · exact q.elim) ho ha hs hbase hline
end

/-! ### walks -/
section
variable {X : Cx} {W : WX} {own : List Nat} {tg e e2 : Expr} {f f2 : En → Rs D} {p pos : Pos}
/-- the items of a walk whose items stand where they are -/
theorem walks_of {K : PySem.W.Frag} {J : It} {n : Nat} {G : Hp → Prop} {Y : Nat → Hp → V → Hp → Prop} (w : Walk J n G Y) (hstop : ∀ i H, n ≤ i → G H → J.stop i H) {ds : List D} {Hd1 : Hp} (hn : ds.length = n) (hG : ∀ H Hd, Same Hd1 Hd → Same Hd H → G H)
    (hY : ∀ H Hd, Same Hd1 Hd → Same Hd H → ∀ i d, ds[i]? = some d → ∀ x H', Y i H x H' → ∃ Hd', Step H Hd H' Hd' ∧ Dq K Hd' x d) : Walks K J ds Hd1 := fun H Hd u s i =>
  ⟨fun d hd => by
    have hi : i < n := by rw [← hn]; exact (List.getElem?_eq_some_iff.mp hd).1
    exact ⟨w.goes i H hi (hG H Hd u s), fun x H' y => hY H Hd u s i d hd x H' (w.yields i H x H' hi (hG H Hd u s) y)⟩, fun h => hstop i H (by rw [← hn]; exact h) (hG H Hd u s)⟩
theorem DqAll.get' {K : PySem.W.Frag} {H : Hp} {vs : List V} {ds : List D} (h : DqAll K H vs ds) {i : Nat} {d : D} {v : V} (e : ds[i]? = some d) (e' : vs[i]? = some v) : Dq K H v d := by
  obtain ⟨w, h1, h2⟩ := h.get e
  rw [h1] at e'
  cases e'
  exact h2
theorem walks_list {K : PySem.W.Frag} {a : Addr} {vs : List V} {ds : List D} {Hd1 : Hp} (h : SqL K Hd1 a vs) (r : DqAll K Hd1 vs ds) : Walks K (Itl K a) ds Hd1 :=
  walks_of walk_list (fun i H hi q => ⟨vs, q, hi⟩) r.length.symm (fun H Hd u s => Same.seq s (Same.seq u h)) fun H Hd u s i d hd x H' y => by
    obtain ⟨rfl, y⟩ := y
    exact ⟨Hd, .refl s, dq_mono u (r.get' hd y)⟩
theorem walks_tup {K : PySem.W.Frag} {a : Addr} {vs : List V} {ds : List D} {Hd1 : Hp} (h : SqT K Hd1 a vs) (r : DqAll K Hd1 vs ds) : Walks K (Itt K a) ds Hd1 :=
  walks_of walk_tup (fun i H hi q => ⟨vs, q, hi⟩) r.length.symm (fun H Hd u s => sqt_same s (sqt_same u h)) fun H Hd u s i d hd x H' y => by
    obtain ⟨rfl, y⟩ := y
    exact ⟨Hd, .refl s, dq_mono u (r.get' hd y)⟩
def signsD (a : Str) : List D := a.cps.toList.map fun c => .str ⟨#[c]⟩
theorem walks_str {K : PySem.W.Frag} {a : Str} {Hd1 : Hp} : Walks K (Its a) (signsD a) Hd1 :=
  walks_of (Y := fun i H v H' => H' = H ∧ ∃ c, a.cps[i]? = some c ∧ v = .str ⟨#[c]⟩) walk_str (fun i H hi q => hi) (by simp [signsD]) (fun _ _ _ _ => trivial) fun H Hd u s i d hd x H' y => by
    obtain ⟨rfl, c, hc, rfl⟩ := y
    unfold signsD at hd
    rw [List.getElem?_map, Array.getElem?_toList, hc] at hd
    cases hd
    exact ⟨Hd, .refl s, .str _⟩
def rangeD (lo : Int) (n : Nat) : List D := (List.range n).map fun i => .int (lo + (i : Nat))
theorem walks_range {K : PySem.W.Frag} {lo : Int} {n : Nat} {Hd1 : Hp} : Walks K (Itr lo n) (rangeD lo n) Hd1 :=
  walks_of walk_range (fun i H hi q => hi) (by simp [rangeD]) (fun _ _ _ _ => trivial) fun H Hd u s i d hd x H' y => by
    obtain ⟨rfl, rfl⟩ := y
    unfold rangeD at hd
    rw [List.getElem?_map] at hd
    have hi : i < n := by
      rcases Nat.lt_or_ge i n with h | h
      · exact h
      · rw [List.getElem?_eq_none (by simpa using h)] at hd; cases hd
    rw [List.getElem?_range hi] at hd
    cases hd
    exact ⟨Hd, .refl s, .int _⟩
/-- over a list | a tuple | a text -/
def iSeqL : D → Rs (List D) := fun d => match d with | .list ds => .ok ds | _ => .bad
def iSeqT : D → Rs (List D) := fun d => match d with | .tuple ds => .ok ds | _ => .bad
def iSeqS : D → Rs (List D) := fun d => match d with | .str a => .ok (signsD a) | _ => .bad
def eIt (g : D → Rs (List D)) (f : En → Rs D) : En → Rs (List D) := fun ρ => f ρ >>= g
theorem PoI.step {σ : L2.St} {H Hd H1 Hd1 : Hp} {r : Rs (List D)} {Q : It → Hp → Prop} (h : PoI X W σ H Hd r Q) (t : Step H Hd H1 Hd1) : PoI X W σ H1 Hd1 r Q := by
  cases r with
  | ok d => exact fun vs H' Hd' s => h vs H' Hd' (t.trans s)
  | ex c fs => exact fun cls a H' Hd' s => h cls a H' Hd' (t.trans s)
  | bad => exact h
theorem si_list (h : SE X W own e f) : SI X W own tg e (eIt iSeqL f) := by
  obtain ⟨t, p, r⟩ := h.ex
  refine ⟨_, pi_list p, fun H0 Hd0 ρ σ H Hd R Q q => ?_⟩
  refine r _ _ _ _ _ _ R _ ?_
  unfold eIt at q
  cases hf : f ρ with
  | bad => rw [hf] at q; exact q
  | ex c fs => rw [hf] at q; exact q
  | ok d =>
    rw [hf] at q
    intro v H1 Hd1 s1 x
    have q1 : PoI X W σ H1 Hd1 (iSeqL d) Q := PoI.step q s1
    unfold iSeqL at q1
    cases x with
    | lst h r => exact ⟨_, rfl, ⟨_, Same.seq s1.sub h⟩, q1 _ H1 Hd1 (.refl s1.sub) (walks_list h r)⟩
    | _ => exact q1.elim
theorem si_tup (h : SE X W own e f) : SI X W own tg e (eIt iSeqT f) := by
  obtain ⟨t, p, r⟩ := h.ex
  refine ⟨_, pi_tup p, fun H0 Hd0 ρ σ H Hd R Q q => ?_⟩
  refine r _ _ _ _ _ _ R _ ?_
  unfold eIt at q
  cases hf : f ρ with
  | bad => rw [hf] at q; exact q
  | ex c fs => rw [hf] at q; exact q
  | ok d =>
    rw [hf] at q
    intro v H1 Hd1 s1 x
    have q1 : PoI X W σ H1 Hd1 (iSeqT d) Q := PoI.step q s1
    unfold iSeqT at q1
    cases x with
    | tup h r => exact ⟨_, rfl, ⟨_, sqt_same s1.sub h⟩, q1 _ H1 Hd1 (.refl s1.sub) (walks_tup h r)⟩
    | _ => exact q1.elim
theorem si_str (h : SE X W own e f) : SI X W own tg e (eIt iSeqS f) := by
  obtain ⟨t, p, r⟩ := h.ex
  refine ⟨_, pi_str p, fun H0 Hd0 ρ σ H Hd R Q q => ?_⟩
  refine r _ _ _ _ _ _ R _ ?_
  unfold eIt at q
  cases hf : f ρ with
  | bad => rw [hf] at q; exact q
  | ex c fs => rw [hf] at q; exact q
  | ok d =>
    rw [hf] at q
    intro v H1 Hd1 s1 x
    have q1 : PoI X W σ H1 Hd1 (iSeqS d) Q := PoI.step q s1
    unfold iSeqS at q1
    cases x with
    | str a => exact ⟨_, rfl, q1 _ H1 Hd1 (.refl s1.sub) walks_str⟩
    | _ => exact q1.elim
def small62 (i : Int) : Bool := decide (-(2 ^ 62) ≤ i) && decide (i < 2 ^ 62)
theorem small62_iff {i : Int} (h : small62 i = true) : -(2 ^ 62) ≤ i ∧ i < 2 ^ 62 := by
  unfold small62 at h
  simpa using h
def iRange1 (f : En → Rs D) : En → Rs (List D) := fun ρ => f ρ >>= fun d => match d with
  | .int j => if small62 j then .ok (rangeD 0 j.toNat) else .bad
  | _ => .bad
def iRange2 (f g : En → Rs D) : En → Rs (List D) := fun ρ => f ρ >>= fun d => g ρ >>= fun d' => match d, d' with
  | .int i, .int j => if small62 i && small62 j then .ok (rangeD i (j - i).toNat) else .bad
  | _, _ => .bad
theorem si_range1 (h : SE X W own e f) (hm : X.mg "range" = none) (hg : Gl X "range" := by rfl) (hs : starEach [e] X.env = [(false, eval e X.env)] := by rfl) (hs' : starEach [e] X.env = (false, eval e X.env) :: starEach [] X.env := by rfl) : SI X W own tg (.Call (.Name "range" p) [e] [] pos) (iRange1 f) := by
  obtain ⟨t, pp, r⟩ := h.ex
  refine ⟨_, pi_range1 hg hm (pa_cons pp pa_nil hs') hs, fun H0 Hd0 ρ σ H Hd R Q q => ?_⟩
  refine r _ _ _ _ _ _ R _ ?_
  unfold iRange1 at q
  cases hf : f ρ with
  | bad => rw [hf] at q; exact q
  | ex c fs => rw [hf] at q; exact q
  | ok d =>
    rw [hf] at q
    intro v H1 Hd1 s1 x
    cases x with
    | int j =>
      simp only [ok_bind] at q
      split at q
      · rename_i hj
        obtain ⟨h1, h2⟩ := small62_iff hj
        exact ⟨j, rfl, h1, h2, q _ H1 Hd1 s1 walks_range⟩
      · exact q.elim
    | _ => exact q.elim
theorem si_range2 (h : SE X W own e f) (h' : SE X W own e2 f2) (hm : X.mg "range" = none) (hg : Gl X "range" := by rfl) (hs : starEach [e, e2] X.env = [(false, eval e X.env), (false, eval e2 X.env)] := by rfl) (hs2 : starEach [e2] X.env = [(false, eval e2 X.env)] := by rfl)
    (hs' : starEach [e, e2] X.env = (false, eval e X.env) :: starEach [e2] X.env := by rfl) (hs2' : starEach [e2] X.env = (false, eval e2 X.env) :: starEach [] X.env := by rfl) : SI X W own tg (.Call (.Name "range" p) [e, e2] [] pos) (iRange2 f f2) := by
  obtain ⟨t, pp, r⟩ := h.ex
  obtain ⟨t2, pp2, r2⟩ := h'.ex
  refine ⟨_, pi_range2 hg hm (pa_cons pp (pa_cons pp2 pa_nil hs2') hs') hs hs2, fun H0 Hd0 ρ σ H Hd R Q q => ?_⟩
  refine r _ _ _ _ _ _ R _ ?_
  unfold iRange2 at q
  cases hf : f ρ with
  | bad => rw [hf] at q; exact q
  | ex c fs => rw [hf] at q; exact q
  | ok d =>
    rw [hf] at q
    intro v H1 Hd1 s1 x
    refine r2 _ _ _ _ _ _ (R.step s1) _ ?_
    have q1 := PoI.step (X := X) (W := W) q s1
    simp only [ok_bind] at q1
    cases hg : f2 ρ with
    | bad => rw [hg] at q1; exact q1
    | ex c fs => rw [hg] at q1; exact q1
    | ok d' =>
      rw [hg] at q1
      simp only [ok_bind] at q1
      intro w H2 Hd2 s2 y
      cases x with
      | int i =>
        cases y with
        | int j =>
          simp only at q1
          split at q1
          · rename_i hj
            rw [Bool.and_eq_true] at hj
            obtain ⟨h1, h2⟩ := small62_iff hj.1
            obtain ⟨h3, h4⟩ := small62_iff hj.2
            exact ⟨i, j, rfl, ⟨h1, h2, h3, h4⟩, q1 _ H2 Hd2 s2 walks_range⟩
          · exact q1.elim
        | _ => exact q1.elim
      | _ => exact q1.elim
end

/-! ### comprehensions -/
def wipeE (ρ : En) : List Nat → En
  | [] => ρ
  | v :: vs => (wipeE ρ vs).set v none
/-- within a comprehension nothing may be raised -/
def noEx {α : Type} : Rs α → Rs α
  | .ok a => .ok a
  | _ => .bad
@[simp] theorem noEx_ok {α : Type} (a : α) : noEx (.ok a) = .ok a := nrfl rfl
def lcL (tg : D → En → Rs En) (cond : En → Rs Bool) (elt : En → Rs D) (ρ0 : En) : List D → Rs (List D)
  | [] => .ok []
  | d :: ds => noEx (tg d ρ0) >>= fun ρ1 => noEx (cond ρ1) >>= fun b => if b = true then noEx (elt ρ1) >>= fun y => lcL tg cond elt ρ0 ds >>= fun ys => .ok (y :: ys) else lcL tg cond elt ρ0 ds
def eLc (it : En → Rs (List D)) (vs : List Nat) (tg : D → En → Rs En) (cond : En → Rs Bool) (elt : En → Rs D) : En → Rs D := fun ρ => it ρ >>= fun ds =>
  if ds.length ≤ sizeLine then lcL tg cond elt (wipeE ρ vs) ds >>= fun ys => .ok (.list ys) else .bad
def cYes : En → Rs Bool := fun _ => .ok true
/-- the tests of a comprehension -/
structure SIfs (X : Cx) (W : WX) (own : List Nat) (ifs : List Expr) (f : En → Rs Bool) : Prop where
  ex : ∃ t, PTs X ifs t ∧ ∀ H0 Hd0 ρ σ H Hd, Rel X.K H0 Hd0 own ρ σ H Hd → ∀ Q : Bool → Hp → Prop, PoT X W σ H Hd (f ρ) Q → t σ H Q
theorem sifs_nil {X : Cx} {W : WX} {own : List Nat} : SIfs X W own [] cYes := ⟨_, pts_nil, fun H0 Hd0 ρ σ H Hd R Q q => q H Hd (.refl R.st.sub)⟩
theorem sifs_one {X : Cx} {W : WX} {own : List Nat} {c : Expr} {f : En → Rs Bool} (h : SC X W own c f) : SIfs X W own [c] f := let ⟨_, p, r⟩ := h.ex; ⟨_, pts_one p, r⟩
abbrev W0 : WX := fun _ _ _ _ => False
theorem wipe_len (σ : L2.St) (vs : List Nat) : (wipe σ vs).length = σ.length := wipe_length σ vs
theorem wipeE_len (ρ : En) : ∀ vs : List Nat, (wipeE ρ vs).length = ρ.length
  | [] => rfl
  | v :: vs => by unfold wipeE; rw [List.length_set, wipeE_len ρ vs]
theorem wipeE_out {ρ : En} {i : Nat} : ∀ {vs : List Nat}, i ∉ vs → (wipeE ρ vs)[i]? = ρ[i]?
  | [], _ => rfl
  | v :: vs, h => by
    unfold wipeE
    rw [List.getElem?_set_ne (fun z => h (by rw [z]; exact List.mem_cons_self)), wipeE_out fun z => h (List.mem_cons_of_mem _ z)]
theorem wipeE_in {ρ : En} {i : Nat} {d : D} : ∀ {vs : List Nat}, (wipeE ρ vs)[i]? = some (some d) → i ∉ vs
  | [], _ => fun z => nomatch z
  | v :: vs, h => by
    unfold wipeE at h
    intro m
    by_cases z : i = v
    · subst z
      have hl : i < (wipeE ρ vs).length := by simpa using (List.getElem?_eq_some_iff.mp h).1
      rw [List.getElem?_set_self hl] at h
      cases h
    · rw [List.getElem?_set_ne (Ne.symm z)] at h
      rcases List.mem_cons.mp m with m | m
      · exact z m
      · exact wipeE_in h m
def nAnc (own vs : List Nat) : Bool := vs.all fun i => !own.contains (1000 + i)
theorem Rel.wipe {K : PySem.W.Frag} {H0 : Bs} {Hd0 H Hd : Hp} {own : List Nat} {ρ : En} {σ : L2.St} (R : Rel K H0 Hd0 own ρ σ H Hd) (vs : List Nat) (hv : nAnc own vs = true) : Rel K H0 Hd0 own (wipeE ρ vs) (L2.wipe σ vs) H Hd :=
  R.forget (by rw [wipeE_len, wipe_len, R.len]) (fun i d e => by
    have h := wipeE_in e
    rw [wipeE_out h] at e
    exact ⟨e, wipe_out h⟩) fun i m => wipe_out fun z => by
    have := List.all_eq_true.mp hv i z
    rw [List.contains_iff_mem.mpr m] at this
    cases this
theorem wipe_congr {σ σ' : L2.St} {vs ws : List Nat} (hl : σ'.length = σ.length) (h : ∀ j, j ∉ ws → σ'[j]? = (L2.wipe σ vs)[j]?) (hs : ∀ j ∈ ws, j ∈ vs) : L2.wipe σ' vs = L2.wipe σ vs := by
  apply List.ext_getElem?
  intro i
  by_cases m : i ∈ vs
  · have none_at : ∀ {τ : L2.St} {us : List Nat}, i ∈ us → i < τ.length → (L2.wipe τ us)[i]? = some none := by
      intro τ us
      induction us with
      | nil => intro z; cases z
      | cons u us ih =>
        intro m hi
        unfold L2.wipe
        by_cases z : i = u
        · subst z
          rw [List.getElem?_set_self (by rw [wipe_len]; exact hi)]
        · rw [List.getElem?_set_ne (Ne.symm z)]
          rcases List.mem_cons.mp m with m | m
          · exact absurd m z
          · exact ih m hi
    by_cases hi : i < σ.length
    · rw [none_at m (by rw [hl]; exact hi), none_at m hi]
    · rw [List.getElem?_eq_none (by rw [wipe_len, hl]; omega), List.getElem?_eq_none (by rw [wipe_len]; omega)]
  · rw [wipe_out m, wipe_out m, h i fun z => m (hs i z), wipe_out m]
section
variable {X : Cx} {W : WX} {k : Nat} {own own2 ws : List Nat} {elt tg iter : Expr} {ifs : List Expr} {scope : Scope} {ownV : List (Str × Nat)} {it : En → Rs (List D)} {g : D → En → Rs En} {fc : En → Rs Bool} {fe : En → Rs D} {pos : Pos}
abbrev blkX (X : Cx) (scope : Scope) (s : Shared) (H : Hp) (C : Addr) (cl : List (Str × Addr)) (fp : List Addr) : Cx := X.blk s H scope (compEnvC scope cl C X.env) fp
theorem lc_read {wi : TI} {tgt : TG} {tt : TT} {te : TE} (vs : List Nat) (hv : nAnc own vs = true)
    (ri : ∀ H0 Hd0 ρ σ H Hd, Rel X.K H0 Hd0 own ρ σ H Hd → ∀ Q, PoI X W σ H Hd (it ρ) Q → wi σ H Q)
    (rg : ∀ H0 Hd0 ρ σ H Hd, Rel X.K H0 Hd0 own ρ σ H Hd → ∀ v d, Dq X.K Hd v d → ∀ ρ', g d ρ = .ok ρ' → ∀ Q, (∀ σ', Rel X.K H0 Hd0 own2 ρ' σ' H Hd → (∀ j, j ∉ ws → σ'[j]? = σ[j]?) → σ'.length = σ.length → Q σ' H) → tgt v σ H Q) (hws : ∀ j ∈ ws, j ∈ vs)
    (rc : ∀ H0 Hd0 ρ σ H Hd, Rel X.K H0 Hd0 own2 ρ σ H Hd → ∀ Q : Bool → Hp → Prop, (match fc ρ with | .ok b => ∀ H' Hd', Step H Hd H' Hd' → Q b H' | _ => False) → tt σ H Q)
    (re : ∀ H0 Hd0 ρ σ H Hd, Rel X.K H0 Hd0 own2 ρ σ H Hd → ∀ Q : VK, (match fe ρ with | .ok d => ∀ v H' Hd', Step H Hd H' Hd' → Dq X.K Hd' v d → Q v H' | _ => False) → te σ H Q)
    {H0 : Bs} {Hd0 : Hp} {ρ : En} {σ : L2.St} {H Hd : Hp} (R : Rel X.K H0 Hd0 own ρ σ H Hd) {Q : VK} (q : PoM X W σ H Hd (eLc it vs g fc fe ρ) Q) : tLc wi tgt tt te vs σ H Q := by
  refine ri _ _ _ _ _ _ R _ ?_
  unfold eLc at q
  cases hit : it ρ with
  | bad => rw [hit] at q; exact q
  | ex c fs => rw [hit] at q; exact q
  | ok ds =>
    simp only [hit, ok_bind] at q
    split at q
    rotate_left
    · exact q.elim
    rename_i hlen
    intro J H1 Hd1 s1 wk Dl hD
    have q1 := PoM.step q s1
    have hD1 : Hd1 Dl = none := none_of_same s1.sub hD
    refine ⟨fun i m H' => m = ds.length - i ∧ ∃ Hd' acc accD, Step H1 Hd1 H' Hd' ∧ Hd' Dl = none ∧ H' Dl = some (.lst acc) ∧ DqAll X.K Hd' acc accD ∧ acc.length ≤ i ∧ i ≤ ds.length ∧
      PoM X W σ H1 Hd1 (lcL g fc fe (wipeE ρ vs) (ds.drop i) >>= fun ys => .ok (.list (accD ++ ys))) Q, ⟨ds.length, rfl, Hd1, [], [], .own s1.sub hD, hD1, upd_same, .nil, Nat.le_refl _, Nat.zero_le _, by simpa using q1⟩, ?_⟩
    rintro i m H' ⟨rfl, Hd', acc, accD, st, hDd, hDl, dq, hacc, hi, q'⟩
    obtain ⟨hgo, hstop⟩ := wk H' Hd' st.keep st.sub i
    by_cases hlt : i < ds.length
    · obtain ⟨go, yld⟩ := hgo _ (List.getElem?_eq_getElem hlt)
      rw [List.drop_eq_getElem_cons hlt] at q'
      refine .inr ⟨go, fun H' => ∃ Hd' acc accD, Step H1 Hd1 H' Hd' ∧ Hd' Dl = none ∧ H' Dl = some (.lst acc) ∧ DqAll X.K Hd' acc accD ∧ acc.length ≤ i + 1 ∧ i + 1 ≤ ds.length ∧
        PoM X W σ H1 Hd1 (lcL g fc fe (wipeE ρ vs) (ds.drop (i + 1)) >>= fun ys => .ok (.list (accD ++ ys))) Q, fun H' h => ⟨ds.length - (i + 1), by omega, rfl, h⟩, fun x H2 y => ?_⟩
      obtain ⟨Hd2, s2, dx⟩ := yld x H2 y
      have st2 := st.trans s2
      have h2l : H2 Dl = some (.lst acc) := s2.up _ _ hDl
      have h2d : Hd2 Dl = none := by rw [s2.old Dl (by rw [hDl]; simp)]; exact hDd
      have R2 := (((R.step s1).step st).step s2).wipe vs hv
      unfold lcL at q'
      cases hg : g ds[i] (wipeE ρ vs) with
      | bad => simp only [hg] at q'; exact q'.elim
      | ex c fs => simp only [hg] at q'; exact q'.elim
      | ok ρ1 =>
        simp only [hg, noEx_ok, ok_bind] at q'
        refine rg _ _ _ _ _ _ R2 x _ dx ρ1 hg _ fun σ3 R3 ag l3 => ⟨?_, ?_⟩
        · exact wipe_congr (by rw [l3, wipe_len]) ag hws
        · refine rc _ _ _ _ _ _ R3 _ ?_
          cases hc : fc ρ1 with
          | bad => simp only [hc] at q'; exact q'.elim
          | ex c fs => simp only [hc] at q'; exact q'.elim
          | ok b =>
            simp only [hc, noEx_ok, ok_bind] at q'
            intro H3 Hd3 s3
            cases b with
            | false =>
              simp only [Bool.false_eq_true, if_false] at q'
              rw [if_neg (by decide)]
              refine ⟨Hd3, acc, accD, st2.trans s3, ?_, s3.up _ _ h2l, dqAll_mono s3.keep (dqAll_mono s2.keep dq), by omega, hlt, q'⟩
              rw [s3.old Dl (by rw [h2l]; simp)]; exact h2d
            | true =>
              simp only [if_true] at q'
              rw [if_pos rfl]
              refine re _ _ _ _ _ _ (R3.step s3) _ ?_
              cases he : fe ρ1 with
              | bad => simp only [he] at q'; exact q'.elim
              | ex c fs => simp only [he] at q'; exact q'.elim
              | ok yD =>
                simp only [he, noEx_ok, ok_bind, bind_assoc'] at q'
                intro v H4 Hd4 s4 dv
                have s34 := s3.trans s4
                have h4l : H4 Dl = some (.lst acc) := s34.up _ _ h2l
                have h4d : Hd4 Dl = none := by rw [s34.old Dl (by rw [h2l]; simp)]; exact h2d
                have st4 := st2.trans s34
                refine ⟨acc, h4l, by omega, Hd4, acc ++ [v], accD ++ [yD], ⟨fun a o e => ?_, fun a o e => ?_, st4.keep, st4.old⟩, h4d, upd_same, ((dqAll_mono s34.keep (dqAll_mono s2.keep dq)).append (.cons dv .nil)), by simp; omega, hlt, ?_⟩
                · rw [upd_ne (ne_of_none e hD)]; exact st4.up a o e
                · rw [upd_ne (ne_of_none e h4d)]; exact st4.sub a o e
                · simpa [List.append_assoc] using q'
    · refine .inl ⟨hstop (by omega), ?_⟩
      rw [List.drop_eq_nil_of_le (by omega)] at q'
      simp only [lcL, ok_bind, List.append_nil] at q'
      exact q' (.ref Dl) H' Hd' st ⟨Dl, acc, rfl, hD, hDd, hDl, dq⟩
theorem Cxt.blk {W : WX} (C : Cxt X W k) (scope : Scope) (s : Shared) (H : Hp) (Ca : Addr) (cl : List (Str × Addr)) (fp : List Addr) : Cxt (blkX X scope s H Ca cl fp) W0 k :=
  ⟨C.calm, takes0, PassesOwn.never, C.nd, C.room⟩
theorem lc_parts (C : Cxt X W k) (hi : SI X W own tg iter it)
    (hg : ∀ (s : Shared) (H : Hp) (C : Addr) (cl : List (Str × Addr)) (fp : List Addr), Cxt (blkX X scope s H C cl fp) W0 k → SG (blkX X scope s H C cl fp) own tg g own2 ws)
    (hc : ∀ (s : Shared) (H : Hp) (C : Addr) (cl : List (Str × Addr)) (fp : List Addr), Cxt (blkX X scope s H C cl fp) W0 k → SIfs (blkX X scope s H C cl fp) W0 own2 ifs fc)
    (he : ∀ (s : Shared) (H : Hp) (C : Addr) (cl : List (Str × Addr)) (fp : List Addr), Cxt (blkX X scope s H C cl fp) W0 k → SE (blkX X scope s H C cl fp) W0 own2 elt fe)
    (vs : List Nat) (hws : ws.all vs.contains = true) (hv : nAnc own vs = true) :
    ∃ (wi : TI) (tgt : TG) (tt : TT) (te : TE), PI X tg iter wi ∧ (∀ (s : Shared) (H : Hp) (C : Addr) (cl : List (Str × Addr)) (fp : List Addr), PG (blkX X scope s H C cl fp) tg tgt) ∧
      (∀ (s : Shared) (H : Hp) (C : Addr) (cl : List (Str × Addr)) (fp : List Addr), PTs (blkX X scope s H C cl fp) ifs tt) ∧ (∀ (s : Shared) (H : Hp) (C : Addr) (cl : List (Str × Addr)) (fp : List Addr), PE (blkX X scope s H C cl fp) elt te) ∧
      ∀ H0 Hd0 ρ σ H Hd, Rel X.K H0 Hd0 own ρ σ H Hd → ∀ Q : VK, PoM X W σ H Hd (eLc it vs g fc fe ρ) Q → tLc wi tgt tt te vs σ H Q := by
  classical
  obtain ⟨wi, pi, ri⟩ := hi.ex
  have G := fun s H Ca cl fp => (hg s H Ca cl fp (C.blk scope s H Ca cl fp)).ex
  have F := fun s H Ca cl fp => (hc s H Ca cl fp (C.blk scope s H Ca cl fp)).ex
  have E := fun s H Ca cl fp => (he s H Ca cl fp (C.blk scope s H Ca cl fp)).ex
  let tgt : TG := fun v σ H Q => ∀ s H' Ca cl fp, Classical.choose (G s H' Ca cl fp) v σ H Q
  let tt : TT := fun σ H Q => ∀ s H' Ca cl fp, Classical.choose (F s H' Ca cl fp) σ H Q
  let te : TE := fun σ H Q => ∀ s H' Ca cl fp, Classical.choose (E s H' Ca cl fp) σ H Q
  refine ⟨wi, tgt, tt, te, pi, (fun s H Ca cl fp => ?_), (fun s H Ca cl fp => ?_), (fun s H Ca cl fp => ?_), fun H0 Hd0 ρ σ H Hd R Q q => ?_⟩
  · exact ⟨fun pins s' σ H' v u Q I r h => (Classical.choose_spec (G s H Ca cl fp)).1.run pins s' σ H' v u Q I r (h s H Ca cl fp)⟩
  · exact ⟨fun pins s' σ H' Q I h => (Classical.choose_spec (F s H Ca cl fp)).1.run pins s' σ H' Q I (h s H Ca cl fp)⟩
  · exact ⟨fun pins s' σ H' Q I h => (Classical.choose_spec (E s H Ca cl fp)).1.run pins s' σ H' Q I (h s H Ca cl fp)⟩
  · refine lc_read (own := own) (own2 := own2) (ws := ws) (it := it) (g := g) (fc := fc) (fe := fe) _ hv ri (fun H0 Hd0 ρ σ H Hd R v d x ρ' e Q q => ?_) (fun j m => List.contains_iff_mem.mp (List.all_eq_true.mp hws j m)) (fun H0 Hd0 ρ σ H Hd R Q q => ?_) (fun H0 Hd0 ρ σ H Hd R Q q => ?_) R q
    · intro s H' Ca cl fp
      exact (Classical.choose_spec (G s H' Ca cl fp)).2 H0 Hd0 ρ σ H Hd R v d x ρ' e Q q
    · intro s H' Ca cl fp
      refine (Classical.choose_spec (F s H' Ca cl fp)).2 H0 Hd0 ρ σ H Hd R Q ?_
      cases hf : fc ρ with
      | ok b => rw [hf] at q; exact q
      | ex c fs => rw [hf] at q; exact q.elim
      | bad => rw [hf] at q; exact q.elim
    · intro s H' Ca cl fp
      refine (Classical.choose_spec (E s H' Ca cl fp)).2 H0 Hd0 ρ σ H Hd R Q ?_
      cases hf : fe ρ with
      | ok b => rw [hf] at q; exact q
      | ex c fs => rw [hf] at q; exact q.elim
      | bad => rw [hf] at q; exact q.elim
theorem sm_lc (ownV : List (Str × Nat)) (C : Cxt X W k) (hi : SI X W own tg iter it)
    (hg : ∀ (s : Shared) (H : Hp) (C : Addr) (cl : List (Str × Addr)) (fp : List Addr), Cxt (blkX X scope s H C cl fp) W0 k → SG (blkX X scope s H C cl fp) own tg g own2 ws)
    (hc : ∀ (s : Shared) (H : Hp) (C : Addr) (cl : List (Str × Addr)) (fp : List Addr), Cxt (blkX X scope s H C cl fp) W0 k → SIfs (blkX X scope s H C cl fp) W0 own2 ifs fc)
    (he : ∀ (s : Shared) (H : Hp) (C : Addr) (cl : List (Str × Addr)) (fp : List Addr), Cxt (blkX X scope s H C cl fp) W0 k → SE (blkX X scope s H C cl fp) W0 own2 elt fe)
    (ok : blkC X.N X.env.scope scope ownV = true := by first | decide +kernel | rfl) (hws : ws.all (ownV.map (·.2)).contains = true := by rfl) (hs : ∀ x, foldedSetIterable iter X.env x = pure x := by intro _; rfl) (hv : nAnc own (ownV.map (·.2)) = true := by rfl) :
    SM X W own (.ListComp elt [⟨tg, iter, ifs, 0⟩] scope pos) (eLc it (ownV.map (·.2)) g fc fe) := by
  obtain ⟨wi, tgt, tt, te, pi, pg, pt, pe, rd⟩ := lc_parts C hi hg hc he (ownV.map (·.2)) hws hv
  exact ⟨_, pe_lc C.calm C.nd pi (blkOk_by ok) pg pt pe hs, rd⟩
/-- y = [..] on one line, y a local -/
theorem ss_setLc {fl : Md} {L : List Nat} (i : Nat) (ownV : List (Str × Nat)) {y : Str} {py spos : Pos} (C : Cxt X W k) (hi : SI X W own tg iter it)
    (hg : ∀ (s : Shared) (H : Hp) (C : Addr) (cl : List (Str × Addr)) (fp : List Addr), Cxt (blkX X scope s H C cl fp) W0 k → SG (blkX X scope s H C cl fp) own tg g own2 ws)
    (hc : ∀ (s : Shared) (H : Hp) (C : Addr) (cl : List (Str × Addr)) (fp : List Addr), Cxt (blkX X scope s H C cl fp) W0 k → SIfs (blkX X scope s H C cl fp) W0 own2 ifs fc)
    (he : ∀ (s : Shared) (H : Hp) (C : Addr) (cl : List (Str × Addr)) (fp : List Addr), Cxt (blkX X scope s H C cl fp) W0 k → SE (blkX X scope s H C cl fp) W0 own2 elt fe)
    (ok : blkC X.N X.env.scope scope ownV = true := by first | decide +kernel | rfl) (hws : ws.all (ownV.map (·.2)).contains = true := by rfl) (hs : ∀ x, foldedSetIterable iter X.env x = pure x := by intro _; rfl)
    (hy : X.N[i]? = some y := by rfl) (hyl : X.env.scope.names.lookup y = some .local := by rfl)
    (hsw : swapsWith (.ListComp elt [⟨tg, iter, ifs, 0⟩] scope pos) (some (.Name y py)) spos.line X.env = pure true := by exact sw_true rfl rfl rfl (by decide +kernel)) (hv : nAnc own (ownV.map (·.2)) = true := by rfl) (hk : own.contains (1000 + i) = false := by rfl) (hlt : i < 100 := by decide) (hE : okE fl own = true := by rfl) :
    SS X W fl L own (.Assign [.Name y py] (.ListComp elt [⟨tg, iter, ifs, 0⟩] scope pos) spos) (sSet i (eLc it (ownV.map (·.2)) g fc fe)) (i :: drp own i) := by
  obtain ⟨wi, tgt, tt, te, pi, pg, pt, pe, rd⟩ := lc_parts C hi hg hc he (ownV.map (·.2)) hws hv
  refine ⟨_, ps_setLc C.calm C.nd hy hyl hsw pi (blkOk_by ok) pg pt pe hs, fun H0 Hd0 ρ σ H Hd R Dn q => ?_⟩
  refine rd _ _ _ _ _ _ R _ ?_
  unfold sSet at q
  cases he : eLc it (ownV.map (·.2)) g fc fe ρ with
  | ok d => rw [he] at q; exact fun v H' Hd' s x => q _ _ _ (R.setM s x (ncon hk) hlt)
  | ex c fs => rw [he] at q; exact fun cls a H' Hd' s x => exc_of R q s x hE
  | bad => rw [he] at q; exact q
end

/-! ### more statements: lists that change, unpacking, op= -/
section
variable {X : Cx} {W : WX} {fl : Md} {L own own' : List Nat} {e : Expr} {fe : En → Rs D} {pos pos' apos cpos : Pos} {k : Nat}
/-- what an owned name holds -/
theorem own_at {H0 : Bs} {Hd0 H Hd : Hp} {ρ : En} {σ : L2.St} {i : Nat} {ds : List D} (R : Rel X.K H0 Hd0 own ρ σ H Hd) (ho : (own.contains i && decide (i < 100)) = true) (h : ρ[i]? = some (some (.list ds))) :
    ∃ a vs, σ[i]? = some (some (V.ref a)) ∧ H a = some (.lst vs) ∧ Hd a = none ∧ DqAll X.K Hd vs ds := by
  rcases R.ownL h (List.contains_iff_mem.mp (Bool.and_eq_true_iff.mp ho).1) (of_decide_eq_true (Bool.and_eq_true_iff.mp ho).2) with ⟨a, vs, ds', e, h2, h3, h4, h5, h6⟩ | ⟨h1, _⟩ | ⟨_, _, _, _, o⟩
  · cases e; exact ⟨a, vs, h2, h3, h4, h6⟩
  · exact absurd rfl (h1 ds)
  · exact o.nl.elim
/-- the list in slot i -/
def getL (ρ : En) (i : Nat) : Option (List D) := match ρ[i]? with
  | some (some (.list ds)) => some ds
  | _ => none
theorem getL_some {ρ : En} {i : Nat} {ds : List D} (h : getL ρ i = some ds) : ρ[i]? = some (some (.list ds)) := by
  unfold getL at h
  split at h
  · cases h; assumption
  · cases h
/-- x.append(e) -/
def oL (o : Option (List D)) (k : List D → Out) : Out := match o with
  | some ds => k ds
  | none => .bad
def sApp (i : Nat) (fe : En → Rs D) : En → Out := fun ρ => oL (getL ρ i) fun ds => oBind (fe ρ) ρ fun d => if ds.length < sizeLine then .nx (ρ.set i (some (.list (ds ++ [d])))) else .bad
theorem ss_app (i : Nat) {x : Str} (h : SE X W own e fe) (ho : (own.contains i && decide (i < 100)) = true := by rfl) (one : oneC own i = true := by rfl) (hN : X.N[i]? = some x := by rfl) (hv : Vis X.env.scope x := by first | exact Or.inl rfl | exact Or.inr (Or.inl rfl) | exact Or.inr (Or.inr rfl))
    (hd : (x == ("__debug__" : Str)) = false := by rfl) (hcd : (x == ("__classdict__" : Str)) = false := by rfl)
    (hbase : attributeBase (.Name x pos') "append" X.env (eval (.Name x pos') X.env) = eval (.Name x pos') X.env := by rfl)
    (hfew : ((backTo cpos (starEach [e] X.env)).all (fun x => !x.1) && (backToKw cpos (keywordEach [] X.env)).all (fun x => x.1.isSome)
      && decide ([e].length + ([] : List Keyword).length + (if ([] : List Keyword).isEmpty then 0 else 1) < 30)) = true := by rfl)
    (hline : (apos.endLine == cpos.line) = true := by rfl) (hs : starEach [e] X.env = (false, eval e X.env) :: starEach [] X.env := by rfl) (hplain : (backTo cpos (starEach [] X.env)).any (·.1) = false := by rfl)
    (hsw : swapsWith (.Call (.Attribute (.Name x pos') "append" apos) [e] [] cpos) none pos.line X.env = pure false := by rfl) (hE : okE fl own = true := by rfl) :
    SS X W fl L own (.Expr (.Call (.Attribute (.Name x pos') "append" apos) [e] [] cpos) pos) (sApp i fe) own := by
  obtain ⟨t, p, r⟩ := h.ex
  refine ⟨_, ps_expr (pe_bm PySem.F.plainAttrs_list PySem.F.slot_list_append PySem.F.type_list_append (r := rAppend) (fun pins s σ H x xs v us Q I rx rxs h => mt_append pins s σ H x xs v us Q I rx rxs h) (pe_var hN hv hd hcd) (pa_cons p pa_nil hs) hbase hfew hline hs hplain) hsw, fun H0 Hd0 ρ σ H Hd R Dn q => ?_⟩
  unfold sApp oL at q
  cases hg : getL ρ i with
  | none => rw [hg] at q; exact q.elim
  | some ds =>
    rw [hg] at q
    obtain ⟨a, vs, h2, h3, h4, h5⟩ := own_at R ho (getL_some hg)
    refine ⟨.ref a, h2, .inl ⟨rfl, vs, .inl (.inl h3)⟩, ?_⟩
    refine r _ _ _ _ _ _ R _ ?_
    cases he : fe ρ with
    | bad => rw [he] at q; exact q
    | ex c fs => rw [he] at q; exact fun cls a H' Hd' s x => exc_of R q s x hE
    | ok d =>
      rw [he] at q
      simp only [oBind_ok] at q
      intro v H1 Hd1 s1 x
      split at q
      · rename_i hl
        exact ⟨a, vs, v, rfl, rfl, s1.up _ _ h3, by rw [h5.length]; exact hl, q _ _ _ ((R.step s1).mut (List.contains_iff_mem.mp (Bool.and_eq_true_iff.mp ho).1) (of_decide_eq_true (Bool.and_eq_true_iff.mp ho).2) one (getL_some hg) h2 ((dqAll_mono s1.keep h5).append (.cons x .nil)))⟩
      · exact q.elim
/-- x.pop() alone -/
def sPop (i : Nat) : En → Out := fun ρ => oL (getL ρ i) fun ds => if ds = [] then .bad else .nx (ρ.set i (some (.list ds.dropLast)))
theorem _root_.Wm.DqAll.dropLast {K : PySem.W.Frag} {H : Hp} {vs : List V} {ds : List D} (h : DqAll K H vs ds) : DqAll K H vs.dropLast ds.dropLast := by
  rw [List.dropLast_eq_take, List.dropLast_eq_take, h.length]
  exact h.take _
theorem ss_pop (i : Nat) {x : Str} (ho : (own.contains i && decide (i < 100)) = true := by rfl) (one : oneC own i = true := by rfl) (hN : X.N[i]? = some x := by rfl) (hv : Vis X.env.scope x := by first | exact Or.inl rfl | exact Or.inr (Or.inl rfl) | exact Or.inr (Or.inr rfl))
    (hd : (x == ("__debug__" : Str)) = false := by rfl) (hcd : (x == ("__classdict__" : Str)) = false := by rfl)
    (hbase : attributeBase (.Name x pos') "pop" X.env (eval (.Name x pos') X.env) = eval (.Name x pos') X.env := by rfl) (hline : (apos.endLine == cpos.line) = true := by rfl)
    (hsw : swapsWith (.Call (.Attribute (.Name x pos') "pop" apos) [] [] cpos) none pos.line X.env = pure false := by rfl) :
    SS X W fl L own (.Expr (.Call (.Attribute (.Name x pos') "pop" apos) [] [] cpos) pos) (sPop i) own := by
  refine ⟨_, ps_expr (pe_bm0 PySem.F.plainAttrs_list PySem.F.slot_list_pop PySem.F.type_list_pop (r := rPop) (fun pins s σ H x xs v us Q I rx rxs h => mt_pop pins s σ H x xs v us Q I rx rxs h) (pe_var hN hv hd hcd) hbase hline) hsw, fun H0 Hd0 ρ σ H Hd R Dn q => ?_⟩
  unfold sPop oL at q
  cases hg : getL ρ i with
  | none => rw [hg] at q; exact q.elim
  | some ds =>
    rw [hg] at q
    simp only at q
    obtain ⟨a, vs, h2, h3, h4, h5⟩ := own_at R ho (getL_some hg)
    split at q
    · exact q.elim
    · rename_i hne
      have hl := h5.length
      have hpos : 0 < vs.length := by
        rw [hl]
        cases ds with
        | nil => exact absurd rfl hne
        | cons _ _ => simp
      refine ⟨.ref a, h2, .inl ⟨rfl, vs, .inl (.inl h3)⟩, a, vs, vs[vs.length - 1], rfl, rfl, h3, List.getElem?_eq_getElem (by omega), ?_⟩
      exact q _ _ _ (R.mut (List.contains_iff_mem.mp (Bool.and_eq_true_iff.mp ho).1) (of_decide_eq_true (Bool.and_eq_true_iff.mp ho).2) one (getL_some hg) h2 h5.dropLast)
/-- x op= e of what is no list -/
def sAug (i : Nat) (g : D → D → Rs D) (fe : En → Rs D) : En → Out := fun ρ => oBind (eVar i ρ >>= fun x => fe ρ >>= fun y => g x y) ρ fun d => .nx (ρ.set i (some d))
theorem ss_aug (i : Nat) {x : Str} {op : Operator} {r : R2} {g : D → D → Rs D} (hop : OpR X (inplaceOp op) r) (hr : OpS X r g) (h : SE X W own e fe) (hN : X.N.Nodup) (ho : (own.contains i || isObj own i) = false := by rfl) (hi : X.N[i]? = some x := by rfl) (hx : Loc X.env.scope x := by first | exact Or.inl rfl | exact Or.inr rfl)
    (hf : X.fn x = true ∨ X.env.scope.names.lookup x = some .local := by first | exact .inl rfl | exact .inr rfl) (hk : own.contains (1000 + i) = false := by rfl) (hE : okE fl own = true := by rfl) :
    SS X W fl L own (.AugAssign (.Name x pos') op e pos) (sAug i g fe) (drp own i) := by
  obtain ⟨t, p, rr⟩ := h.ex
  refine ⟨_, ps_aug hN hi hx p (ti := r) (fun pins s σ H x y v u Q I rx ry q => hop pins s σ H x y v u Q I rx ry q) hf, fun H0 Hd0 ρ σ H Hd R Dn q => ?_⟩
  unfold sAug eVar at q
  cases hi : ρ[i]? with
  | none => rw [hi] at q; exact q.elim
  | some o =>
    cases o with
    | none => rw [hi] at q; exact q.elim
    | some d =>
      rw [hi] at q
      simp only [ok_bind] at q
      obtain ⟨v, h1, h2⟩ := R.val i d hi (by intro _ h; rw [List.contains_iff_mem.mpr h] at ho; cases ho) (Bool.or_eq_false_iff.mp ho).2
      refine ⟨v, h1, rr _ _ _ _ _ _ R _ ?_⟩
      cases he : fe ρ with
      | bad => rw [he] at q; exact q.elim
      | ex c fs => rw [he] at q; exact fun cls a H' Hd' s x => exc_of R q s x hE
      | ok y =>
        rw [he] at q
        simp only [ok_bind] at q
        intro w H1 Hd1 s1 z
        refine hr W σ H1 Hd1 v w d y s1.sub (.inl (dq_mono s1.keep h2)) (.inl z) _ ?_
        cases hg : g d y with
        | bad => rw [hg] at q; exact q.elim
        | ex c fs => rw [hg] at q; exact fun cls a H' Hd' s x => exc_of (R.step s1) q s x hE
        | ok d2 => rw [hg] at q; exact fun u H2 Hd2 s2 z2 => q _ _ _ (((R.step s1).step s2).set z2 (ncon hk))
/-- a, b, .. = e -/
def sUnp (g : D → En → Rs En) (fe : En → Rs D) : En → Out := fun ρ => oBind (fe ρ) ρ fun d => oStore (g d ρ) .nx
theorem ss_unp {tg : Expr} {g : D → En → Rs En} {vs : List Nat} (h : SE X W own e fe) (hg : SG X own tg g own' vs) (hs : swapsWithSole [tg] e pos.line X.env = pure false := by rfl) (hw : swappedStores [tg] e X.env = pure none := by rfl)
    (h1 : (assignEach [tg] X.env).map (·.2) = [assign tg X.env] := by rfl) (hE : okE fl own = true := by rfl) : SS X W fl L own (.Assign [tg] e pos) (sUnp g fe) own' := by
  obtain ⟨t, p, r⟩ := h.ex
  obtain ⟨t2, p2, r2⟩ := hg.ex
  refine ⟨_, ps_asg p p2 hs hw h1, fun H0 Hd0 ρ σ H Hd R Dn q => ?_⟩
  refine r _ _ _ _ _ _ R _ ?_
  unfold sUnp oStore at q
  cases he : fe ρ with
  | bad => rw [he] at q; exact q
  | ex c fs => rw [he] at q; exact fun cls a H' Hd' s x => exc_of R q s x hE
  | ok d =>
    rw [he] at q
    simp only [oBind_ok] at q
    intro v H1 Hd1 s1 x
    cases hgd : g d ρ with
    | ok ρ' => simp only [hgd] at q; exact r2 _ _ _ _ _ _ (R.step s1) v d x ρ' hgd _ fun σ' R' _ _ => q _ _ _ R'
    | ex c fs => simp only [hgd] at q; exact q.elim
    | bad => simp only [hgd] at q; exact q.elim
end
end Wm

set_option Elab.async false
set_option linter.all false
set_option maxRecDepth 100000
/-! WmEnd: a module's constants, calls without arguments, walks over any row, the law's end. -/
namespace Wm
open PySem PySem.Spec PyProof.Rows L2

abbrev tx (l : List Nat) : D := .str ⟨l.toArray⟩
/-- a constant of the module -/
def Glb (K : PySem.W.Frag) (mg : Str → Option Value) (x : Str) (d : D) : Prop := ∃ u v, mg x = some u ∧ RelV v u ∧ ∀ H, Dq K H v d
theorem Glb.str {K : PySem.W.Frag} {mg : Str → Option Value} {x z : Str} {t : Tok} (h : mg x = some (.str z t)) : Glb K mg x (.str z) := ⟨_, .str z, h, ⟨t, rfl⟩, fun _ => .str z⟩
theorem Glb.int {K : PySem.W.Frag} {mg : Str → Option Value} {x : Str} {i : Int} {t : Tok} (h : mg x = some (.int i t)) : Glb K mg x (.int i) := ⟨_, .int i, h, ⟨t, rfl⟩, fun _ => .int i⟩
/-- texts with their tokens -/
def tokStrs : List Str → List Tok → List Value
  | z :: zs, t :: ts => .str z t :: tokStrs zs ts
  | _, _ => []
theorem vals_tok : ∀ {zs : List Str} {ts : List Tok}, zs.length = ts.length → Vals (zs.map V.str) (tokStrs zs ts)
  | [], [], _ => .nil
  | z :: zs, t :: ts, h => .cons ⟨t, rfl⟩ (vals_tok (by simpa using h))
theorem dq_strs {K : PySem.W.Frag} {H : Hp} : ∀ zs : List Str, DqAll K H (zs.map V.str) (zs.map PyData.str)
  | [] => .nil
  | z :: zs => .cons (.str z) (dq_strs zs)
theorem Glb.strs {K : PySem.W.Frag} {mg : Str → Option Value} {x : Str} {a : Addr} {zs : List Str} {ts : List Tok} {o : Obj} {n : Nat} (h : mg x = some (.ref a)) (l : K.lookup a = some o) (hc : o.cls = .type "tuple") (hd : o.data = .seq (tokStrs zs ts).toArray n) (hl : zs.length = ts.length) (hz : zs.length ≤ sizeLine) :
    Glb K mg x (.tuple (zs.map PyData.str)) := by
  refine ⟨_, .ref a, h, rfl, fun H => .tup (xs := zs.map V.str) (.inr ⟨o, _, n, l, hc, hd, ?_, ?_⟩) (dq_strs zs)⟩
  · rw [List.size_toArray, ← (vals_tok hl).length, List.length_map]; exact hz
  · rw [List.toList_toArray]; exact vals_tok hl
section
variable {X : Cx} {W : WX} {own : List Nat} {k j n : Nat} {x : Str} {p pos : Pos} {tg e : Expr} {f : En → Rs D}
theorem se_g {d : D} (h : Glb X.K X.mg x d) (hg : Gl X x := by rfl) (hdb : (x == ("__debug__" : Str)) = false := by rfl) : SE X W own (.Name x pos) (eC d) := by
  obtain ⟨u, v, hm, r, dq⟩ := h
  exact se_glob hm r dq hg hdb
/-- a call without arguments; what it raises is not followed -/
def eCall0 (g : List D → Rs D) : En → Rs D := fun _ => noEx (g [])
theorem se_call0 {gf : List D → Rs D} (C : Cxt X W k) (F : Cal X.prog X.w X.K X.mg X.base j x false 0 gf) (hj : j ≤ k := by decide) (hg : Gl X x := by rfl) (hdb : (x == ("__debug__" : Str)) = false := by rfl) :
    SE X W own (.Call (.Name x p) [] [] pos) (eCall0 gf) := by
  obtain ⟨f, fd, ps, ok, hm, hk, hb⟩ := F.ex
  refine ⟨_, pe_call0 ok (C.room.mono hj) hg hm hk hb .nil passL hdb, fun H0 Hd0 ρ σ H Hd R Q q => ?_⟩
  unfold eCall0 at q
  refine ⟨rfl, [], Hd, R.st.sub, .nil, ?_⟩
  cases hg : gf [] with
  | ok d => rw [hg] at q; exact q
  | ex c fs => rw [hg] at q; exact q.elim
  | bad => rw [hg] at q; exact q.elim
/-- a for over a list, a tuple or a text -/
theorem PI.or {iter : Expr} {w1 w2 : TI} (h1 : PI X tg iter w1) (h2 : PI X tg iter w2) : PI X tg iter (fun σ H R => w1 σ H R ∨ w2 σ H R) :=
  ⟨fun pins s σ H R I h => h.elim (h1.run pins s σ H R I) (h2.run pins s σ H R I)⟩
def iSeq : D → Rs (List D)
  | .list ds => .ok ds
  | .tuple ds => .ok ds
  | .str a => .ok (signsD a)
  | _ => .bad
theorem si_seq (h : SE X W own e f) : SI X W own tg e (eIt iSeq f) := by
  obtain ⟨w1, p1, r1⟩ := (si_list (tg := tg) h).ex
  obtain ⟨w2, p2, r2⟩ := (si_tup (tg := tg) h).ex
  obtain ⟨w3, p3, r3⟩ := (si_str (tg := tg) h).ex
  refine ⟨_, PI.or p1 (PI.or p2 p3), fun H0 Hd0 ρ σ H Hd R Q q => ?_⟩
  unfold eIt at q
  cases hf : f ρ with
  | bad => rw [hf] at q; exact q.elim
  | ex c fs => exact .inl (r1 _ _ _ _ _ _ R Q (by unfold eIt; rw [hf] at q ⊢; exact q))
  | ok d =>
    rw [hf] at q
    cases d with
    | list ds => exact .inl (r1 _ _ _ _ _ _ R Q (by unfold eIt; rw [hf]; exact q))
    | tuple ds => exact .inr (.inl (r2 _ _ _ _ _ _ R Q (by unfold eIt; rw [hf]; exact q)))
    | str a => exact .inr (.inr (r3 _ _ _ _ _ _ R Q (by unfold eIt; rw [hf]; exact q)))
    | _ => exact q.elim
/-- -e of a number -/
def eNeg (f : En → Rs D) : En → Rs D := fun ρ => f ρ >>= fun d => match d with
  | .int i => .ok (.int (-i))
  | _ => .bad
theorem se_neg (h : SE X W own e f) : SE X W own (.UnaryOp .USub e pos) (eNeg f) := by
  obtain ⟨t, p, r⟩ := h.ex
  refine ⟨_, pe_un un_neg p, fun H0 Hd0 ρ σ H Hd R Q q => ?_⟩
  refine r _ _ _ _ _ _ R _ ?_
  unfold eNeg at q
  cases hf : f ρ with
  | bad => rw [hf] at q; exact q
  | ex c fs => rw [hf] at q; exact q
  | ok d =>
    rw [hf] at q
    intro v H1 Hd1 s1 x
    cases x with
    | int i => exact ⟨i, rfl, q _ H1 Hd1 s1 (.int _)⟩
    | _ => exact q.elim
end
/-! ### a < b < c -/
def eChain (g g' : D → D → Rs D) (fa fb fc : En → Rs D) : En → Rs D := fun ρ => fa ρ >>= fun x => fb ρ >>= fun y => g x y >>= fun z => match z with
  | .bool true => fc ρ >>= fun w => g' y w
  | .bool false => .ok (.bool false)
  | _ => .bad
section
variable {X : Cx} {W : WX} {own : List Nat} {a b c : Expr} {fa fb fc : En → Rs D} {pos : Pos} {op op' : CmpOp} {r r' : R2} {g g' : D → D → Rs D}
theorem run_chain {ta tb tc : TE} (hr : OpS X r g) (hr' : OpS X r' g')
    (ra : ∀ H0 Hd0 ρ σ H Hd, Rel X.K H0 Hd0 own ρ σ H Hd → ∀ Q : VK, PoB X W σ H Hd (fa ρ) Q → ta σ H Q)
    (rb : ∀ H0 Hd0 ρ σ H Hd, Rel X.K H0 Hd0 own ρ σ H Hd → ∀ Q : VK, PoB X W σ H Hd (fb ρ) Q → tb σ H Q)
    (rc : ∀ H0 Hd0 ρ σ H Hd, Rel X.K H0 Hd0 own ρ σ H Hd → ∀ Q : VK, PoB X W σ H Hd (fc ρ) Q → tc σ H Q)
    {H0 : Bs} {Hd0 : Hp} {ρ : En} {σ : L2.St} {H Hd : Hp} (R : Rel X.K H0 Hd0 own ρ σ H Hd) {Q : VK} (q : PoE X W σ H Hd (eChain g g' fa fb fc ρ) Q) : tChain r r' ta tb tc σ H Q := by
  refine ra _ _ _ _ _ _ R _ ?_
  unfold eChain at q
  cases ha : fa ρ with
  | bad => rw [ha] at q; exact q
  | ex c fs => rw [ha] at q; exact q
  | ok d1 =>
    rw [ha] at q
    intro x H1 Hd1 s1 v1
    refine rb _ _ _ _ _ _ (R.step s1) _ ?_
    have q1 := PoE.step q s1
    simp only [ok_bind] at q1
    cases hb : fb ρ with
    | bad => rw [hb] at q1; exact q1
    | ex c fs => rw [hb] at q1; exact q1
    | ok d2 =>
      rw [hb] at q1
      intro y H2 Hd2 s2 v2
      have q2 := PoE.step q1 s2
      simp only [ok_bind] at q2
      refine hr W σ H2 Hd2 x y d1 d2 s2.sub (v1.step s1.sub s2) v2 _ ?_
      cases hg : g d1 d2 with
      | bad => rw [hg] at q2; exact q2
      | ex c fs => rw [hg] at q2; exact q2
      | ok z =>
        rw [hg] at q2
        simp only [ok_bind] at q2
        intro u H3 Hd3 s3 v3
        cases v3 with
        | bl k =>
          refine ⟨k, rfl, ?_⟩
          have q3 := PoE.step q2 s3
          cases k with
          | false => exact PoE.at s3.sub q3 (.bl false)
          | true =>
            simp only at q3
            rw [if_pos rfl]
            refine rc _ _ _ _ _ _ (((R.step s1).step s2).step s3) _ ?_
            cases hc : fc ρ with
            | bad => rw [hc] at q3; exact q3
            | ex c fs => rw [hc] at q3; exact q3
            | ok d4 =>
              rw [hc] at q3
              intro w H4 Hd4 s4 v4
              exact hr' W σ H4 Hd4 y w d2 d4 s4.sub ((v2.step s2.sub s3).step s3.sub s4) v4 Q (PoE.step q3 s4)
        | _ => exact q2.elim
theorem se_chain (ho : OpR X (compareOp op) r) (hr : OpS X r g) (ho' : OpR X (compareOp op') r') (hr' : OpS X r' g') (ha : SB X W own a fa) (hb : SB X W own b fb) (hc : SB X W own c fc) (hm : lastMarks [op, op'] [b, c] = false := by with_unfolding_all rfl) :
    SE X W own (.Compare a [op, op'] [b, c] pos) (eChain g g' fa fb fc) := by
  obtain ⟨ta, pa, ra⟩ := ha.ex
  obtain ⟨tb, pb, rb⟩ := hb.ex
  obtain ⟨tc, pc, rc⟩ := hc.ex
  exact ⟨_, pe_chain ho ho' pa pb pc hm, fun H0 Hd0 ρ σ H Hd R Q q => run_chain hr hr' ra rb rc R q⟩
theorem st_chain (ho : OpR X (compareOp op) r) (hr : OpS X r g) (ho' : OpR X (compareOp op') r') (hr' : OpS X r' g') (ha : SB X W own a fa) (hb : SB X W own b fb) (hc : SB X W own c fc) (hm : lastMarks [op, op'] [b, c] = false := by with_unfolding_all rfl) :
    SC X W own (.Compare a [op, op'] [b, c] pos) (tB (eChain g g' fa fb fc)) := by
  obtain ⟨ta, pa, ra⟩ := ha.ex
  obtain ⟨tb, pb, rb⟩ := hb.ex
  obtain ⟨tc, pc, rc⟩ := hc.ex
  exact ⟨_, pt_chain ho ho' pa pb pc hm, fun H0 Hd0 ρ σ H Hd R Q q => run_chain hr hr' ra rb rc R (PoT.of_asB q)⟩
end
/-! ### x += e -/
section
variable {prog : Program} {w : World} {A : Around} {E : Value → Shared → Prop} {s : Shared}
theorem noI_tuple : typeLookup (.type "tuple") (dunderI "add") = pure none := by rw [typeLookup_type, builtinLookup_eq_fast]; kernel_rfl
theorem iconcat_meets {T id : String} {B : Builtin} {a b : Value} {S : Around → (Result → Shared → Prop) → Shared → Prop} {Q : Value → Shared → Prop} (ha : s.TypeIs a T) (hb : s.TypeIs b T) (hno : typeLookup (.type T) (dunderI "add") = pure none)
    (hfill : fillsNumberSlot (.type T) "add" = pure false) (hseq : seqSlot? (.type T) "__add__" = pure (some (.builtin id))) (slot : Slot T "__add__" id)
    (entry : entryFor table id = some B) (args : argsOk id ⟨[a, b], []⟩) (g : Meets (B ⟨[a, b], []⟩) S) (h : S A (wants Q E) s) : wpAny (model prog w) A (inplaceOp .Add a b) Q E s :=
  wpAny_inplaceOp_concat ha hb hno hfill hseq (call_meets slot ha entry args g h)
theorem icat_tup0 {t b : Addr} {ws : List Value} {Q : Value → Shared → Prop} (ht : IsTup s.heap t ([] : List Value).toArray) (hb : IsTup s.heap b ws.toArray) (h : Q (.ref b) s) : wpAny (model prog w) A (inplaceOp .Add (.ref t) (.ref b)) Q E s := by
  obtain ⟨⟨cls, dd, data, sl⟩, ho, hc, n, hd⟩ := id ht
  obtain ⟨⟨cls2, dd2, data2, sl2⟩, ho2, hc2, n2, hd2⟩ := id hb
  simp only at hc hd hc2 hd2
  subst hc hd hc2 hd2
  exact iconcat_meets ⟨_, ho, rfl⟩ ⟨_, ho2, rfl⟩ noI_tuple noFill_tuple_add seq_tuple_add PySem.F.slot_tuple_add PySem.F.entry_tuple_add (PySem.F.args_tuple_add_2 _ _)
    (tuple_addW0 t b ([] : List Value).toArray ws.toArray n n2 dd dd2 sl sl2 (by simp)) ⟨ho, ho2, h⟩
theorem icat_tup {t b : Addr} {vs ws : List Value} {Q : Value → Shared → Prop} (ht : IsTup s.heap t vs.toArray) (hb : IsTup s.heap b ws.toArray) (hv : vs ≠ [])
    (h1 : ws = [] → Q (.ref t) s) (h2 : ws ≠ [] → Q (.ref s.heap.objs.size) { s with heap := s.heap.push { cls := .type "tuple", data := .seq (vs ++ ws).toArray } })
    (hsz : vs.length + ws.length ≤ sizeLine) : wpAny (model prog w) A (inplaceOp .Add (.ref t) (.ref b)) Q E s := by
  obtain ⟨⟨cls, dd, data, sl⟩, ho, hc, n, hd⟩ := id ht
  obtain ⟨⟨cls2, dd2, data2, sl2⟩, ho2, hc2, n2, hd2⟩ := id hb
  simp only at hc hd hc2 hd2
  subst hc hd hc2 hd2
  have e : vs.toArray ++ ws.toArray = (vs ++ ws).toArray := by simp
  by_cases hw : ws = []
  · exact iconcat_meets ⟨_, ho, rfl⟩ ⟨_, ho2, rfl⟩ noI_tuple noFill_tuple_add seq_tuple_add PySem.F.slot_tuple_add PySem.F.entry_tuple_add (PySem.F.args_tuple_add_2 _ _)
      (tuple_addW1 t b vs.toArray ws.toArray n n2 dd dd2 sl sl2 (by simpa using hv) (by simp [hw])) ⟨ho, ho2, h1 hw⟩
  · refine iconcat_meets ⟨_, ho, rfl⟩ ⟨_, ho2, rfl⟩ noI_tuple noFill_tuple_add seq_tuple_add PySem.F.slot_tuple_add PySem.F.entry_tuple_add (PySem.F.args_tuple_add_2 _ _)
      (tuple_addW2 t b vs.toArray ws.toArray n n2 dd dd2 sl sl2 (by simpa using hv) (by simpa using hw) (by rw [List.size_toArray, List.size_toArray]; exact hsz)) ⟨ho, ho2, ?_⟩
    rw [e]
    exact h2 hw
end
theorem iop_catTup {X : Cx} : OpR X (inplaceOp .Add) (rCatA X.K) := by
  intro pins s σ H x y v u Q I rx ry h
  obtain ⟨a, b, xs, ys, rfl, rfl, ha, hb, hz, q0, q1, q2⟩ := h
  cases rx
  cases ry
  obtain ⟨its, r1, p1, _⟩ := I.tuple ha
  obtain ⟨its2, r2, p2, _⟩ := I.tuple hb
  by_cases hx : xs = []
  · subst hx
    cases r1
    exact icat_tup0 p1 p2 ⟨.ref b, H, I, rfl, q0 rfl⟩
  · refine icat_tup p1 p2 (fun z => hx (r1.nil_iff.mp z)) (fun z => ⟨.ref a, H, I, rfl, q1 hx (r2.nil_iff.mp z)⟩) (fun z => ?_) (by rw [← r1.length, ← r2.length]; exact hz)
    refine ⟨.ref s.heap.objs.size, _, I.laid (t' := s.toks) (o := .tup (xs ++ ys)) (fun b ob q => Heap.get?_push_of_some _ q) (Nat.le_refl _) ?_, rfl, q2 hx (fun w => z (r2.nil_iff.mpr w)) _ (I.hok.fresh (Nat.le_refl _))⟩
    exact ⟨by rw [List.length_append]; exact hz, _, r1.append r2, IsTup.new _ _⟩
def rAddI (K : PySem.W.Frag) : R2 := fun x y H Q => (∃ i j, x = .int i ∧ y = .int j ∧ Q (.int (i + j)) H) ∨ (∃ i j, x = .str i ∧ y = .str j ∧ i.length + j.length ≤ sizeLine ∧ Q (.str (i ++ j)) H) ∨ rCatA K x y H Q
theorem iop_catA {X : Cx} : OpR X (inplaceOp .Add) (rAddI X.K) := iop_add.or (iop_add_str.or iop_catTup)
def addI : D → D → Rs D
  | .int a, .int b => .ok (.int (a + b))
  | .str a, .str b => if a.length + b.length ≤ sizeLine then .ok (.str (a ++ b)) else .bad
  | .tuple a, .tuple b => if a.length + b.length ≤ sizeLine then .ok (.tuple (a ++ b)) else .bad
  | _, _ => .bad
theorem addIS {X : Cx} : OpS X (rAddI X.K) addI := by
  intro W σ H Hd x y dx dy s hx hy Q q
  unfold addI at q
  split at q
  · exact .inl ⟨_, _, hx.int, hy.int, PoE.at s q (.int _)⟩
  · split at q
    · exact .inr (.inl ⟨_, _, hx.str, hy.str, by assumption, PoE.at s q (.str _)⟩)
    · exact q.elim
  · rename_i a b
    split at q
    · rename_i hl
      obtain ⟨p, vs, rfl, h1, h2, h3⟩ := hx.tup s
      obtain ⟨p', ws, rfl, k1, k2, k3⟩ := hy.tup s
      refine .inr (.inr ⟨p, p', vs, ws, rfl, rfl, h1, k1, by rw [h2.length, k2.length]; exact hl, fun e => ?_, fun e e2 => ?_, fun e e2 z hz => PoE.newT s q (h2.append k2) hz⟩)
      · subst e
        cases h2
        exact PoE.at s q (.tup k3 k2)
      · subst e2
        cases k2
        rw [List.append_nil] at q
        exact PoE.at s q (.tup h3 h2)
    · exact q.elim
  · exact q.elim
/-! ### the law -/
/-- the law's own promise: of a list of at most 63 numbers it is True -/
def spL (K : PySem.W.Frag) : Sp := fun vs H Q _ => ∃ (a : Addr) (ns : List Int), vs = [.ref a] ∧ SqL K H a (ns.map V.int) ∧ ns.length ≤ 63 ∧ ∀ H', Q (.bl true) H'
theorem dq_ints {K : PySem.W.Frag} {H : Hp} : ∀ ns : List Int, DqAll K H (ns.map V.int) (ns.map PyData.int)
  | [] => .nil
  | z :: zs => .cons (.int z) (dq_ints zs)
theorem law_of {P : Program} {w : World} {K : PySem.W.Frag} {mg : Str → Option Value} {base : Heap} {k : Nat} {f : Addr} {fd : FuncData} {ps : List Str} {fl : Bool} {g : List D → Rs D} (ok : FnOk P w K mg base (L2.CX P w) k f fd ps (spF K mg fl 1 g)) (h : ∀ ns : List Int, ns.length ≤ 63 → g [.list (ns.map PyData.int)] = .ok (.bool true)) :
    FnOk P w K mg base (L2.CX P w) k f fd ps (spL K) := ok.imp fun vs H Q E ⟨a, ns, e, hs, hl, q⟩ => by
  subst e
  refine ⟨rfl, [.list (ns.map PyData.int)], H, (fun _ _ z => z), .cons (.lst hs (dq_ints ns)) .nil, ?_⟩
  rw [h ns hl]
  cases fl with
  | false =>
    intro v H' Hd' s x
    cases x
    exact q H'
  | true =>
    intro v H' Hd' s x
    cases (show Dq K Hd' v (.bool true) from x)
    exact q H'
theorem no_cx {P : Program} {w : World} {H : Hp} {s : Shared} {e : Value} {s' : Shared} (h : L2.CX P w [] H s (fun _ _ _ => False) e s') : False := by
  obtain ⟨_, _, _, _, _, _, _, _, _, _, _, _, z⟩ := h
  exact z.elim
end Wm

set_option Elab.async false
set_option linter.all false
set_option maxRecDepth 100000
/-! WmOps4: defaults, what never runs, new lists by + and [:], lists that change, walks backwards and by pairs. -/
namespace Wm
open PySem PySem.Spec PyProof.Rows L2

/-! ### defs with defaults -/
structure CalD (P : Program) (w : World) (K : PySem.W.Frag) (mg : Str → Option Value) (base : Heap) (k : Nat) (x : Str) (fl : Bool) (n : Nat) (dds : List D) (g : List D → Rs D) : Prop where
  ex : ∃ (f : Addr) (fd : FuncData) (ps : List Str) (dvs : List V) (ds : List Value), FnOk P w K mg base (L2.CX P w) k f fd ps (spF K mg fl n g) ∧ mg x = some (.ref f) ∧ PySem.W.keepIn K (.ref f) = true ∧ Binds K fd ps ds ∧ Vals dvs ds ∧ ∀ H, DqAll K H dvs dds
/-- as fnok_of, of a def with defaults -/
theorem fnok_ofD {P : Program} {w : World} {K : PySem.W.Frag} {mg : Str → Option Value} {base : Heap} {x qual : Str} {params : Arguments} {bd : List Stmt} {sc : Scope} {dvs : List V} {kws : List (Str × V)} {f : Addr} {fd : FuncData} {N ps : List Str} {k n : Nat} {fl : Bool} {fb : En → Out}
    (F : FunD K x qual params bd sc dvs kws f fd) (S : FnScope N ps sc) (hn : ps.length = n)
    (body : ∀ (cdv : Value) (A : Around) (outer : List Env) (s : Shared) (H : Hp) (E : XK), Cxt (cxOf (L2.CX P w) P w K mg base N qual sc f cdv A outer s H E) (fun cls d _ H => E cls d H) k →
      ∃ own', SSs (cxOf (L2.CX P w) P w K mg base N qual sc f cdv A outer s H E) (fun cls d _ H => E cls d H) (.of fl) [] [] bd fb own') :
    FnOk P w K mg base (L2.CX P w) (k + 1) f fd ps (spF K mg fl n (runF N.length fb)) := by
  refine F.ok S (fun vs H Q E h => by rw [hn]; exact h.1) (fun cdv A outer s H vs Q E hr h => ?_)
  obtain ⟨hl, ds, Hd, sub, dp, q⟩ := h
  have C : Cxt (cxOf (L2.CX P w) P w K mg base N qual sc f cdv A outer s H E) (fun cls d _ H => E cls d H) k :=
    ⟨rfl, takes_of rfl rfl rfl rfl, passes_of rfl, S.nd, hr⟩
  obtain ⟨own', B⟩ := body cdv A outer s H E C
  obtain ⟨t, p, r⟩ := B.ex
  refine ⟨t, p, r ⟨H, fun _ => none⟩ Hd _ _ H Hd (Rel.start (N := N) sub dp) _ ?_⟩
  unfold runF at q
  cases hf : fb (ds.map some ++ List.replicate (N.length - ds.length) none) with
  | nx ρ =>
    rw [hf] at q
    intro σ' H' Hd' R
    cases fl with
    | false => exact q .non H' Hd' R.st .non
    | true => exact q .non H' Hd' R.st .non
  | rt d =>
    rw [hf] at q
    cases fl with
    | false => exact fun v H' Hd' s x => q v H' Hd' s x
    | true => exact fun v H' Hd' s x => q v H' Hd' s x
  | ex c fs ρ =>
    rw [hf] at q
    exact fun cls a σ' H' Hd' R x => q cls a H' Hd' R.st x
  | bk ρ => rw [hf] at q; exact q.elim
  | ct ρ => rw [hf] at q; exact q.elim
  | bad => rw [hf] at q; exact q.elim
  | rx d ρ => rw [hf] at q; exact q.elim
section
variable {P : Program} {w : World} {K : PySem.W.Frag} {mg : Str → Option Value} {base : Heap} {x qual : Str} {params : Arguments} {bd : List Stmt} {sc : Scope} {dvs : List V} {f : Addr} {fd : FuncData} {ps : List Str} {k n : Nat} {fl : Bool} {g : List D → Rs D}
/-- all arguments are given -/
theorem cal_all (F : FunD K x qual params bd sc dvs [] f fd) (ok : FnOk P w K mg base (L2.CX P w) k f fd ps (spF K mg fl n g)) (hm : mg x = some (.ref f)) (hd : dvs ≠ [])
    (h : ∀ (T : Addr) (kV doc pm : Value) (an : Option Addr) (cdv ct : Value) (us its : List Value), us.length = ps.length → its.length = dvs.length →
      ∃ k, bindArgs (PySem.W.fnOf x qual params bd sc (.ref T) kV doc pm an cdv ct) ⟨us, []⟩ = seqItems? (.ref T) >>= k ∧ k (some its.toArray) = pure (ps.zip (us ++ its.drop dvs.length))) : Cal P w K mg base k x fl n g := by
  obtain ⟨ds, h1, h2⟩ := F.binds1 (ps := ps) ps.length dvs.length hd (by simp) h
  rw [List.drop_length] at h1
  cases h1
  exact ⟨f, fd, ps, ok, hm, F.kp, h2⟩
/-- the last ones are left out -/
theorem cal_some (j m : Nat) {dds : List D} (F : FunD K x qual params bd sc dvs [] f fd) (ok : FnOk P w K mg base (L2.CX P w) k f fd ps (spF K mg fl n g)) (hm : mg x = some (.ref f)) (hd : dvs ≠ []) (hn : m + (dvs.length - j) = ps.length) (hq : ∀ H, DqAll K H (dvs.drop j) dds)
    (h : ∀ (T : Addr) (kV doc pm : Value) (an : Option Addr) (cdv ct : Value) (us its : List Value), us.length = m → its.length = dvs.length →
      ∃ k, bindArgs (PySem.W.fnOf x qual params bd sc (.ref T) kV doc pm an cdv ct) ⟨us, []⟩ = seqItems? (.ref T) >>= k ∧ k (some its.toArray) = pure (ps.zip (us ++ its.drop j))) : CalD P w K mg base k x fl n dds g := by
  obtain ⟨ds, h1, h2⟩ := F.binds1 (ps := ps) m j hd hn h
  exact ⟨f, fd, ps, _, ds, ok, hm, F.kp, h2, h1, hq⟩
theorem funD_mk {T : Addr} {o : Obj} {its : List Value} {m : Nat} {oc : Value} {od an : Option Addr} {osl : Array (Option Value)} {kV doc pm cdv ct : Value} (dvs : List V) (l : K.lookup f = some ⟨oc, od, .func (PySem.W.fnOf x qual params bd sc (.ref T) kV doc pm an cdv ct), osl⟩)
    (c : PySem.W.codeIn K cdv qual = true) (k : PySem.W.keepIn K (.ref f) = true) (lT : K.lookup T = some o) (oT : o.data = .seq its.toArray m) (hv : Vals dvs its) (hd : dvs ≠ []) : FunD K x qual params bd sc dvs [] f (PySem.W.fnOf x qual params bd sc (.ref T) kV doc pm an cdv ct) :=
  ⟨⟨oc, od, .ref T, kV, doc, pm, an, cdv, ct, osl, rfl, l, c, .inr ⟨hd, T, o, its, m, rfl, lT, oT, hv⟩, .inl rfl⟩, k⟩
end
section
variable {X : Cx} {W : WX} {own : List Nat} {k j n : Nat} {x : Str} {gf : List D → Rs D} {e : Expr} {es : List Expr} {fa : En → Rs (List D)} {p pos : Pos}
def eCallD (n : Nat) (dds : List D) (g : List D → Rs D) (fa : En → Rs (List D)) : En → Rs D := fun ρ => fa ρ >>= fun ds => if ds.length + dds.length = n then g (ds ++ dds) else .bad
theorem se_callD {dds : List D} (C : Cxt X W k) (F : CalD X.prog X.w X.K X.mg X.base j x false n dds gf) (ha : SA X W own (e :: es) fa) (hj : j ≤ k := by decide) (hg : Gl X x := by rfl) (hdb : (x == ("__debug__" : Str)) = false := by rfl) (he : starEach (e :: es) X.env = (false, eval e X.env) :: starEach es X.env := by rfl) (hpl : (backTo pos (starEach es X.env)).any (·.1) = false := by rfl) :
    SE X W own (.Call (.Name x p) (e :: es) [] pos) (eCallD n dds gf fa) := by
  obtain ⟨f, fd, ps, dvs, dsv, ok, hm, hk, hb, hv, hq⟩ := F.ex
  obtain ⟨ta, pa, ra⟩ := ha.ex
  refine ⟨_, pe_callSD ok (C.room.mono hj) hg hm hk hb hv (fun σ => passAt C.tk σ) pa hdb he hpl, fun H0 Hd0 ρ σ H Hd R Q q => ?_⟩
  refine ra _ _ _ _ _ _ R _ ?_
  unfold eCallD at q
  cases hf : fa ρ with
  | bad => rw [hf] at q; exact q
  | ex c fs => rw [hf] at q; exact q
  | ok ds =>
    simp only [hf, ok_bind] at q
    intro vs H1 Hd1 s1 xs
    by_cases hl : ds.length + dds.length = n
    · rw [if_pos hl] at q
      refine ⟨by rw [List.length_append, xs.length, (hq H).length]; exact hl, ds ++ dds, Hd1, s1.sub, xs.append (hq Hd1), ?_⟩
      have q1 := PoE.step q s1
      cases hg : gf (ds ++ dds) with
      | ok d => rw [hg] at q1; exact q1
      | ex c fs => rw [hg] at q1; exact q1
      | bad => rw [hg] at q1; exact q1
    · rw [if_neg hl] at q; exact q.elim
end

/-! ### what never runs -/
def sBad : En → Out := fun _ => .bad
theorem ss_never {X : Cx} {W : WX} {fl : Md} {L own own' : List Nat} {st : Stmt} : SS X W fl L own st sBad own' := ⟨_, ps_never, fun _ _ _ _ _ _ _ _ q => q⟩

/-! ### new lists by +, [a:b] -/
def OpM (X : Cx) (r : R2) (g : D → D → Rs D) : Prop := ∀ W σ H Hd x y dx dy, Same Hd H → Dv X.K H Hd x dx → Dv X.K H Hd y dy → ∀ Q, PoM X W σ H Hd (g dx dy) Q → r x y H Q
def addL : D → D → Rs D
  | .list a, .list b => if a.length + b.length ≤ sizeLine then .ok (.list (a ++ b)) else .bad
  | _, _ => .bad
theorem addM {X : Cx} : OpM X (rCatL X.K) addL := by
  intro W σ H Hd x y dx dy s hx hy Q q
  unfold addL at q
  split at q
  · rename_i a b
    split at q
    · rename_i hl
      obtain ⟨p, vs, rfl, _, h2, h1⟩ := hx.lst s
      obtain ⟨p', ws, rfl, _, k2, k1⟩ := hy.lst s
      exact ⟨p, p', vs, ws, rfl, rfl, h1, k1, by rw [h2.length, k2.length]; exact hl, fun z hz => PoM.newL s q (h2.append k2) hz⟩
    · exact q.elim
  · exact q.elim
section
variable {X : Cx} {W : WX} {own : List Nat} {a b e : Expr} {fa fb f : En → Rs D} {pos p2 : Pos} {lo hi : Option Expr} {fl fh : En → Rs (Option Int)}
theorem sm_op {op : Operator} {r : R2} {g : D → D → Rs D} (ho : OpR X (binaryOp op) r) (hr : OpM X r g) (ha : SB X W own a fa) (hb : SB X W own b fb) : SM X W own (.BinOp a op b pos) (e2 g fa fb) := by
  obtain ⟨ta, pa, ra⟩ := ha.ex
  obtain ⟨tb, pb, rb⟩ := hb.ex
  refine ⟨_, pe_op ho pa pb, fun H0 Hd0 ρ σ H Hd R Q q => ?_⟩
  refine ra _ _ _ _ _ _ R _ ?_
  unfold e2 at q
  cases ha : fa ρ with
  | bad => rw [ha] at q; exact q
  | ex c fs => rw [ha] at q; exact q
  | ok d1 =>
    rw [ha] at q
    intro x H1 Hd1 s1 v1
    refine rb _ _ _ _ _ _ (R.step s1) _ ?_
    have q1 : PoM X W σ H1 Hd1 (fb ρ >>= fun y => g d1 y) Q := PoM.step q s1
    cases hb : fb ρ with
    | bad => rw [hb] at q1; exact q1
    | ex c fs => rw [hb] at q1; exact q1
    | ok d2 =>
      rw [hb] at q1
      intro y H2 Hd2 s2 v2
      exact hr W σ H2 Hd2 x y d1 d2 s2.sub (v1.step s1.sub s2) v2 Q (PoM.step q1 s2)
def slM : D → Option Int → Option Int → Rs D
  | .list ds, lo, hi => .ok (.list (cutL ds lo hi))
  | _, _, _ => .bad
def eSlM (f : En → Rs D) (lo hi : En → Rs (Option Int)) : En → Rs D := fun ρ => f ρ >>= fun d => lo ρ >>= fun l => hi ρ >>= fun h => slM d l h
theorem sm_slice (he : SB X W own e f) (hl : SO X W own lo fl) (hh : SO X W own hi fh) : SM X W own (.Subscript e (.Slice lo hi none p2) pos) (eSlM f fl fh) := by
  obtain ⟨t, p, r⟩ := he.ex
  obtain ⟨tl, pl, rl⟩ := hl.ex
  obtain ⟨th, ph, rh⟩ := hh.ex
  refine ⟨_, pe_slice sl_list p pl ph, fun H0 Hd0 ρ σ H Hd R Q q => ?_⟩
  refine r _ _ _ _ _ _ R _ ?_
  unfold eSlM at q
  cases hf : f ρ with
  | bad => rw [hf] at q; exact q
  | ex c fs => rw [hf] at q; exact q
  | ok d =>
    rw [hf] at q
    intro x H1 Hd1 s1 v1
    refine rl _ _ _ _ _ _ (R.step s1) _ ?_
    have q1 : PoM X W σ H1 Hd1 (fl ρ >>= fun l => fh ρ >>= fun h => slM d l h) Q := PoM.step q s1
    cases hg : fl ρ with
    | bad => rw [hg] at q1; exact q1
    | ex c fs => rw [hg] at q1; exact q1
    | ok l =>
      rw [hg] at q1
      intro H2 Hd2 s2
      refine rh _ _ _ _ _ _ ((R.step s1).step s2) _ ?_
      have q2 : PoM X W σ H2 Hd2 (fh ρ >>= fun h => slM d l h) Q := PoM.step q1 s2
      cases hk : fh ρ with
      | bad => rw [hk] at q2; exact q2
      | ex c fs => rw [hk] at q2; exact q2
      | ok h =>
        rw [hk] at q2
        intro H3 Hd3 s3
        have q3 : PoM X W σ H3 Hd3 (slM d l h) Q := PoM.step (r := slM d l h) q2 s3
        have v3 := (v1.step s1.sub s2).step s2.sub s3
        unfold slM at q3
        split at q3
        · obtain ⟨p, vs, rfl, h1, h2, _⟩ := v3.lst s3.sub
          exact ⟨p, vs, rfl, h1, fun z hz => PoM.newL s3.sub q3 (dqAll_cut h2 _ _) hz⟩
        · exact q3.elim
/-- list(range(n)) -/
def lrgD : D → Rs D
  | .int n => if n ≤ 100000 ∧ -100000 ≤ n then .ok (.list (rangeD 0 n.toNat)) else .bad
  | _ => .bad
def eLRg (f : En → Rs D) : En → Rs D := fun ρ => f ρ >>= lrgD
theorem dq_range {K : PySem.W.Frag} {H : Hp} (lo : Int) : ∀ (n : Nat), DqAll K H ((List.range n).map fun i => V.int (lo + (i : Nat))) (rangeD lo n) := fun n => by
  unfold rangeD
  generalize List.range n = l
  induction l with
  | nil => exact .nil
  | cons a l ih => exact .cons (.int _) ih
theorem sm_lrg {q1 q2 q3 q4 : Pos} (h : SE X W own e f) (hc : X.calm = true) (hml : X.mg "list" = none) (hmr : X.mg "range" = none) (hgl : Gl X "list" := by rfl) (hgr : Gl X "range" := by rfl)
    (na : starEach [e] X.env = (false, eval e X.env) :: starEach [] X.env := by rfl) (na2 : starEach [.Call (.Name "range" q1) [e] [] q2] X.env = (false, eval (.Call (.Name "range" q1) [e] [] q2) X.env) :: starEach [] X.env := by rfl) :
    SM X W own (.Call (.Name "list" q3) [.Call (.Name "range" q1) [e] [] q2] [] q4) (eLRg f) := by
  obtain ⟨t, p, r⟩ := h.ex
  refine ⟨_, pe_listRg hc hgl hml (prg_1 hgr hmr p na) na2, fun H0 Hd0 ρ σ H Hd R Q q => ?_⟩
  refine r _ _ _ _ _ _ R _ ?_
  unfold eLRg at q
  cases hf : f ρ with
  | bad => rw [hf] at q; exact q
  | ex c fs => rw [hf] at q; exact q
  | ok d =>
    rw [hf] at q
    intro v H1 Hd1 s1 x
    have q1 : PoM X W σ H1 Hd1 (lrgD d) Q := PoM.step (r := lrgD d) q s1
    unfold lrgD at q1
    cases x with
    | int n =>
      simp only at q1
      split at q1
      · rename_i hn
        refine ⟨n, rfl, ?_, fun z hz => ?_⟩
        · exact ⟨by omega, by omega, by omega, by omega, by omega⟩
        · have e : rgV 0 n = (List.range n.toNat).map fun i => V.int (0 + (i : Nat)) := by
            unfold rgV
            rw [show (n - 0).toNat = n.toNat by omega]
          rw [e]
          exact PoM.newL s1.sub q1 (dq_range 0 _) hz
      · exact q1.elim
    | _ => exact q1.elim
end

/-! ### lists that change -/
section
variable {X : Cx} {W : WX} {fl : Md} {L own own' : List Nat} {e ix : Expr} {fe fi : En → Rs D} {pos pos' apos cpos p2 : Pos} {k : Nat}
/-- x.reverse() -/
def sRev (i : Nat) : En → Out := fun ρ => oL (getL ρ i) fun ds => .nx (ρ.set i (some (.list ds.reverse)))
theorem DqAll.reverse {K : PySem.W.Frag} {H : Hp} : ∀ {vs : List V} {ds : List D}, DqAll K H vs ds → DqAll K H vs.reverse ds.reverse
  | _, _, .nil => .nil
  | _, _, .cons a r => by
    rw [List.reverse_cons, List.reverse_cons]
    exact (DqAll.reverse r).append (.cons a .nil)
theorem ss_rev (i : Nat) {x : Str} (ho : (own.contains i && decide (i < 100)) = true := by rfl) (one : oneC own i = true := by rfl) (hN : X.N[i]? = some x := by rfl) (hv : Vis X.env.scope x := by first | exact Or.inl rfl | exact Or.inr (Or.inl rfl) | exact Or.inr (Or.inr rfl))
    (hd : (x == ("__debug__" : Str)) = false := by rfl) (hcd : (x == ("__classdict__" : Str)) = false := by rfl)
    (hbase : attributeBase (.Name x pos') "reverse" X.env (eval (.Name x pos') X.env) = eval (.Name x pos') X.env := by rfl) (hline : (apos.endLine == cpos.line) = true := by rfl)
    (hsw : swapsWith (.Call (.Attribute (.Name x pos') "reverse" apos) [] [] cpos) none pos.line X.env = pure false := by rfl) :
    SS X W fl L own (.Expr (.Call (.Attribute (.Name x pos') "reverse" apos) [] [] cpos) pos) (sRev i) own := by
  refine ⟨_, ps_expr (pe_bm0 PySem.F.plainAttrs_list PySem.F.slot_list_reverse PySem.F.type_list_reverse (r := rReverse) (fun pins s σ H x xs v us Q I rx rxs h => mt_reverse pins s σ H x xs v us Q I rx rxs h) (pe_var hN hv hd hcd) hbase hline) hsw, fun H0 Hd0 ρ σ H Hd R Dn q => ?_⟩
  unfold sRev oL at q
  cases hg : getL ρ i with
  | none => rw [hg] at q; exact q.elim
  | some ds =>
    rw [hg] at q
    obtain ⟨a, vs, h2, h3, h4, h5⟩ := own_at R ho (getL_some hg)
    exact ⟨.ref a, h2, .inl ⟨rfl, vs, .inl (.inl h3)⟩, a, vs, rfl, rfl, h3, q _ _ _ (R.mut (List.contains_iff_mem.mp (Bool.and_eq_true_iff.mp ho).1) (of_decide_eq_true (Bool.and_eq_true_iff.mp ho).2) one (getL_some hg) h2 h5.reverse)⟩
/-- x[i] = e -/
def itK (i : Nat) (ρ : En) (d : D) (ds : List D) : D → Out
  | .int z => (match ixN ds.length z with
    | some j => .nx (ρ.set i (some (.list (ds.set j d))))
    | none => .bad)
  | _ => .bad
def sItm (i : Nat) (fi fe : En → Rs D) : En → Out := fun ρ => oBind (fe ρ) ρ fun d => oL (getL ρ i) fun ds => oBind (fi ρ) ρ (itK i ρ d ds)
theorem ss_itm (i : Nat) {x : Str} (h : SE X W own e fe) (hi : SE X W own ix fi) (ho : (own.contains i && decide (i < 100)) = true := by rfl) (one : oneC own i = true := by rfl) (hN : X.N[i]? = some x := by rfl) (hv : Vis X.env.scope x := by first | exact Or.inl rfl | exact Or.inr (Or.inl rfl) | exact Or.inr (Or.inr rfl))
    (hd : (x == ("__debug__" : Str)) = false := by rfl) (hcd : (x == ("__classdict__" : Str)) = false := by rfl)
    (ha : ∀ v, assign (.Subscript (.Name x pos') ix p2) X.env v = (do
      let ov ← holding [v] (eval (.Name x pos') X.env)
      let iv ← holding [v, ov] (eval ix X.env)
      standAt p2
      holding [v, ov, iv] (setItem ov iv v)
      release [v, ov, iv] []) := by intro _; rfl)
    (hs : swapsWithSole [.Subscript (.Name x pos') ix p2] e pos.line X.env = pure false := by rfl) (hw : swappedStores [.Subscript (.Name x pos') ix p2] e X.env = pure none := by rfl)
    (h1 : (assignEach [.Subscript (.Name x pos') ix p2] X.env).map (·.2) = [assign (.Subscript (.Name x pos') ix p2) X.env] := by rfl) (hE : okE fl own = true := by rfl) :
    SS X W fl L own (.Assign [.Subscript (.Name x pos') ix p2] e pos) (sItm i fi fe) own := by
  obtain ⟨t, p, r⟩ := h.ex
  obtain ⟨ti, pi, ri⟩ := hi.ex
  refine ⟨_, ps_asg p (pg_sub (pe_var hN hv hd hcd) pi set_list ha) hs hw h1, fun H0 Hd0 ρ σ H Hd R Dn q => ?_⟩
  refine r _ _ _ _ _ _ R _ ?_
  unfold sItm at q
  cases he : fe ρ with
  | bad => rw [he] at q; exact q
  | ex c fs => rw [he] at q; exact fun cls a H' Hd' s x => exc_of R q s x hE
  | ok d =>
    rw [he] at q
    simp only [oBind_ok] at q
    intro v H1 Hd1 s1 dv
    unfold oL at q
    cases hg : getL ρ i with
    | none => rw [hg] at q; exact q.elim
    | some ds =>
      rw [hg] at q
      simp only at q
      have R1 := R.step s1
      obtain ⟨a, vs, h2, h3, h4, h5⟩ := own_at R1 ho (getL_some hg)
      refine ⟨.ref a, h2, ?_⟩
      refine ri _ _ _ _ _ _ R1 _ ?_
      cases hz : fi ρ with
      | bad => rw [hz] at q; exact q
      | ex c fs => rw [hz] at q; exact fun cls a H' Hd' s x => exc_of R1 q s x hE
      | ok z =>
        rw [hz] at q
        simp only [oBind_ok] at q
        intro y H2 Hd2 s2 dy
        unfold itK at q
        split at q
        · cases dy
          split at q
          · rename_i j hj
            rw [← h5.length] at hj
            exact ⟨a, vs, _, j, rfl, rfl, s2.up _ _ h3, hj, q _ _ _ ((R1.step s2).mut (List.contains_iff_mem.mp (Bool.and_eq_true_iff.mp ho).1) (of_decide_eq_true (Bool.and_eq_true_iff.mp ho).2) one (getL_some hg) h2 ((dqAll_mono s2.keep h5).set (dq_mono s2.keep dv) j))⟩
          · exact q.elim
        · exact q.elim
end

/-! ### walks backwards, by pairs -/
section
variable {X : Cx} {W : WX} {own : List Nat} {tg e e2 : Expr} {f f2 : En → Rs D} {p pos tpos : Pos} {elts : List Expr} {kk : Nat}
theorem walk_revT {K : PySem.W.Frag} {a : Addr} {xs : List V} : Walk (RT.ItvT K a xs.length) xs.length (fun H => SqT K H a xs) (fun i H x H' => H' = H ∧ xs[xs.length - 1 - i]? = some x) :=
  ⟨fun i _ hi q => ⟨hi, xs, xs[xs.length - 1 - i]'(by omega), q, by simp [show xs.length - 1 - i < xs.length by omega]⟩, fun _ _ => Nat.le_refl _, fun _ _ _ _ _ q y => ⟨y.1, y.2 xs q⟩⟩
theorem rev_get {α : Type} {l : List α} {i : Nat} {d : α} (h : l.reverse[i]? = some d) : i < l.length ∧ l[l.length - 1 - i]? = some d := by
  obtain ⟨hl, _⟩ := List.getElem?_eq_some_iff.mp h
  rw [List.length_reverse] at hl
  rw [List.getElem?_reverse hl] at h
  exact ⟨hl, h⟩
theorem walks_rev {K : PySem.W.Frag} {a : Addr} {vs : List V} {ds : List D} {Hd1 : Hp} (h : SqL K Hd1 a vs) (r : DqAll K Hd1 vs ds) : Walks K (Itv K a vs.length) ds.reverse Hd1 :=
  walks_of walk_rev (fun i H hi q => hi) (by rw [List.length_reverse]; exact r.length.symm) (fun H Hd u s => Same.seq s (Same.seq u h)) fun H Hd u s i d hd x H' y => by
    obtain ⟨rfl, y⟩ := y
    obtain ⟨_, hd⟩ := rev_get hd
    rw [r.length] at y
    exact ⟨Hd, .refl s, dq_mono u (r.get' hd y)⟩
theorem walks_revT {K : PySem.W.Frag} {a : Addr} {vs : List V} {ds : List D} {Hd1 : Hp} (h : SqT K Hd1 a vs) (r : DqAll K Hd1 vs ds) : Walks K (RT.ItvT K a vs.length) ds.reverse Hd1 :=
  walks_of walk_revT (fun i H hi q => hi) (by rw [List.length_reverse]; exact r.length.symm) (fun H Hd u s => sqt_same s (sqt_same u h)) fun H Hd u s i d hd x H' y => by
    obtain ⟨rfl, y⟩ := y
    obtain ⟨_, hd⟩ := rev_get hd
    rw [r.length] at y
    exact ⟨Hd, .refl s, dq_mono u (r.get' hd y)⟩
def iRev : D → Rs (List D)
  | .list ds => .ok ds.reverse
  | .tuple ds => .ok ds.reverse
  | _ => .bad
theorem si_rev (h : SE X W own e f) (hm : X.mg "reversed" = none) (hg : Gl X "reversed" := by rfl) (hs : starEach [e] X.env = (false, eval e X.env) :: starEach [] X.env := by rfl) : SI X W own tg (.Call (.Name "reversed" p) [e] [] pos) (eIt iRev f) := by
  obtain ⟨t, pp, r⟩ := h.ex
  refine ⟨_, RT.pi_revA hg hm pp hs, fun H0 Hd0 ρ σ H Hd R Q q => ?_⟩
  refine r _ _ _ _ _ _ R _ ?_
  unfold eIt at q
  cases hf : f ρ with
  | bad => rw [hf] at q; exact q
  | ex c fs => rw [hf] at q; exact q
  | ok d =>
    rw [hf] at q
    intro v H1 Hd1 s1 x
    have q1 : PoI X W σ H1 Hd1 (iRev d) Q := PoI.step q s1
    unfold iRev at q1
    cases x with
    | lst h r => exact ⟨_, _, rfl, .inl ⟨Same.seq s1.sub h, q1 _ H1 Hd1 (.refl s1.sub) (walks_rev h r)⟩⟩
    | tup h r => exact ⟨_, _, rfl, .inr ⟨sqt_same s1.sub h, q1 _ H1 Hd1 (.refl s1.sub) (walks_revT h r)⟩⟩
    | _ => exact q1.elim
/-- pairs -/
theorem pair_step {K : PySem.W.Frag} {H Hd : Hp} {T : Addr} {x y : V} {a b : D} (s : Same Hd H) (n : H T = none) (hx : Dq K Hd x a) (hy : Dq K Hd y b) : ∃ Hd', Step H Hd (upd H T (.tup [x, y])) Hd' ∧ Dq K Hd' (.ref T) (.tuple [a, b]) := by
  have n2 : Same Hd (upd Hd T (.tup [x, y])) := same_upd (none_of_same s n)
  exact ⟨_, .new s n, .tup (.inl (.inl upd_same)) (.cons (dq_mono n2 hx) (.cons (dq_mono n2 hy) .nil))⟩
def enumFrom : Nat → List D → List D
  | _, [] => []
  | i, d :: ds => .tuple [.int (i : Nat), d] :: enumFrom (i + 1) ds
theorem enum_len : ∀ (i : Nat) (ds : List D), (enumFrom i ds).length = ds.length
  | _, [] => rfl
  | i, d :: ds => by simp [enumFrom, enum_len (i + 1) ds]
theorem enum_get : ∀ {ds : List D} {i j : Nat} {d : D}, (enumFrom i ds)[j]? = some d → ∃ e, ds[j]? = some e ∧ d = .tuple [.int ((i + j : Nat) : Int), e]
  | [], _, _, _, h => by simp [enumFrom] at h
  | e :: ds, i, 0, d, h => by simp [enumFrom] at h; exact ⟨e, rfl, by simp [← h]⟩
  | e :: ds, i, j + 1, d, h => by
    obtain ⟨e', h1, h2⟩ := enum_get (ds := ds) (i := i + 1) (j := j) (by simpa [enumFrom] using h)
    exact ⟨e', by simpa using h1, by rw [h2, show i + 1 + j = i + (j + 1) by omega]⟩
def zipD (a b : List D) : List D := (a.zip b).map fun p => .tuple [p.1, p.2]
def iEnum : D → Rs (List D)
  | .list ds => .ok (enumFrom 0 ds)
  | _ => .bad
theorem walks_enum {K : PySem.W.Frag} {a : Addr} {vs : List V} {ds : List D} {Hd1 : Hp} (h : SqL K Hd1 a vs) (r : DqAll K Hd1 vs ds) : Walks K (Ite K a) (enumFrom 0 ds) Hd1 :=
  walks_of walk_enum (fun i H hi q => ⟨vs, q, hi⟩) (by rw [enum_len]; exact r.length.symm) (fun H Hd u s => Same.seq s (Same.seq u h)) fun H Hd u s i d hd x H' y => by
    obtain ⟨T, x1, y1, rfl, hT, rfl, e1, e2⟩ := y
    obtain ⟨e', he, rfl⟩ := enum_get hd
    cases e1
    rw [Nat.zero_add]
    exact pair_step s hT (.int _) (dq_mono u (r.get' he e2))
theorem si_enum (h : SE X W own e f) (hm : X.mg "enumerate" = none) (hg : Gl X "enumerate" := by rfl) (hs : starEach [e] X.env = [(false, eval e X.env)] := by rfl) (hs' : starEach [e] X.env = (false, eval e X.env) :: starEach [] X.env := by rfl) :
    SI X W own (.Tuple elts kk tpos) (.Call (.Name "enumerate" p) [e] [] pos) (eIt iEnum f) := by
  obtain ⟨t, pp, r⟩ := h.ex
  refine ⟨_, pi_enum hg hm (pa_cons pp pa_nil hs') hs, fun H0 Hd0 ρ σ H Hd R Q q => ?_⟩
  refine r _ _ _ _ _ _ R _ ?_
  unfold eIt at q
  cases hf : f ρ with
  | bad => rw [hf] at q; exact q
  | ex c fs => rw [hf] at q; exact q
  | ok d =>
    rw [hf] at q
    intro v H1 Hd1 s1 x
    have q1 : PoI X W σ H1 Hd1 (iEnum d) Q := PoI.step q s1
    unfold iEnum at q1
    cases x with
    | lst h r => exact ⟨_, _, rfl, Same.seq s1.sub h, q1 _ H1 Hd1 (.refl s1.sub) (walks_enum h r)⟩
    | _ => exact q1.elim
end
end Wm

set_option Elab.async false
set_option linter.all false
set_option maxRecDepth 100000
/-! WmOps5: xs[a:b:c] of lists. -/
namespace Wm
open PySem PySem.Spec PyProof.Rows L2
def pickL {α : Type} (ds : List α) (lo hi st : Option Int) : List α :=
  (sliceRange (sliceBounds lo hi st ds.length).1 (sliceBounds lo hi st ds.length).2.1 (sliceBounds lo hi st ds.length).2.2).filterMap (ds[·]?)
theorem pick_len {α : Type} (ds : List α) : ∀ idx : List Nat, (idx.filterMap (ds[·]?)).length = (idx.filter (fun i => decide (i < ds.length))).length
  | [] => rfl
  | i :: idx => by
    have ih := pick_len ds idx
    by_cases h : i < ds.length
    · rw [List.filterMap_cons_some (b := ds[i]) (by simp [h]), List.filter_cons_of_pos (by simpa using h), List.length_cons, List.length_cons, ih]
    · rw [List.filterMap_cons_none (by simp; omega), List.filter_cons_of_neg (by simpa using h), ih]
theorem pickL_len {α : Type} (ds : List α) (lo hi st : Option Int) : (pickL ds lo hi st).length ≤ ds.length := by
  have h := slicePick_size_le (List.replicate ds.length Value.none).toArray lo hi st
  unfold slicePick at h
  simp only [List.size_toArray, List.length_replicate, List.getElem?_toArray] at h
  rw [pick_len, List.length_replicate] at h
  unfold pickL
  rw [pick_len]
  exact h
theorem pickL_mem {α : Type} {ds : List α} {lo hi st : Option Int} {x : α} (h : x ∈ pickL ds lo hi st) : x ∈ ds := by
  unfold pickL at h
  obtain ⟨i, _, hi⟩ := List.mem_filterMap.mp h
  exact List.mem_of_getElem? hi
theorem pickL_map {α β : Type} (f : α → β) (ds : List α) (lo hi st : Option Int) : pickL (ds.map f) lo hi st = (pickL ds lo hi st).map f := by
  unfold pickL
  rw [List.length_map, List.map_filterMap]
  congr 1
  funext i
  simp
theorem dqAll_pick {K : PySem.W.Frag} {H : Hp} {vs : List V} {ds : List D} (h : DqAll K H vs ds) : ∀ idx : List Nat, DqAll K H (idx.filterMap (vs[·]?)) (idx.filterMap (ds[·]?))
  | [] => .nil
  | i :: idx => by
    have ih := dqAll_pick h idx
    have hl := h.length
    cases hd : ds[i]? with
    | none =>
      have : vs[i]? = none := by rw [List.getElem?_eq_none_iff] at hd ⊢; omega
      rw [List.filterMap_cons_none hd, List.filterMap_cons_none this]
      exact ih
    | some d =>
      obtain ⟨v, e1, e2⟩ := h.get hd
      rw [List.filterMap_cons_some hd, List.filterMap_cons_some e1]
      exact .cons e2 ih
theorem vals_pick {vs : List V} {us : List Value} (h : Vals vs us) : ∀ idx : List Nat, Vals (idx.filterMap (vs[·]?)) (idx.filterMap (us[·]?))
  | [] => .nil
  | i :: idx => by
    have ih := vals_pick h idx
    have get : ∀ {vs : List V} {us : List Value}, Vals vs us → ∀ i : Nat, (vs[i]? = none ∧ us[i]? = none) ∨ ∃ v u, vs[i]? = some v ∧ us[i]? = some u ∧ RelV v u := by
      intro vs us h
      induction h with
      | nil => intro i; exact .inl ⟨rfl, rfl⟩
      | cons a r ih =>
        intro i
        cases i with
        | zero => exact .inr ⟨_, _, rfl, rfl, a⟩
        | succ i => simpa using ih i
    rcases get h i with ⟨e1, e2⟩ | ⟨v, u, e1, e2, r⟩
    · rw [List.filterMap_cons_none e1, List.filterMap_cons_none e2]; exact ih
    · rw [List.filterMap_cons_some e1, List.filterMap_cons_some e2]; exact .cons r ih
/-- xs[a:b:c], c a number -/
def tStL (K : PySem.W.Frag) (c : Int) (te : TE) (tl th : TO) : TE := fun σ H Q => te σ H fun x H1 => tl σ H1 fun lo H2 => th σ H2 fun hi H3 => ∃ a xs, x = .ref a ∧ SqL K H3 a xs ∧ ∀ p, H3 p = none → Q (.ref p) (upd H3 p (.lst (pickL xs lo hi (some c))))
section
variable {X : Cx} {W : WX} {own : List Nat} {e : Expr} {te : TE} {lo hi : Option Expr} {tl th : TO} {pos p1 p2 p3 : Pos} {c : Int} {k : Nat}
theorem pe_stL (he : PE X e te) (hl : PO X lo tl) (hu : PO X hi th) (hc : c ≠ 0) : PE X (.Subscript e (.Slice lo hi (some (.Constant (.int c) k p1)) p3) pos) (tStL X.K c te tl th) := by
  refine ⟨fun pins s σ H Q I h => ?_⟩
  refine Subscript_ (thn (he.run pins s σ H _ I h) fun v s1 ⟨x, H1, I1, r1, q1⟩ => ?_)
  have hst : PO X (some (.Constant (.int c) k p1)) (tPart (tC (.int c))) := po_some pe_int
  refine wpAny_Slice (thn (hl.run pins s1 σ H1 _ I1 q1) fun vl s2 ⟨l, H2, I2, pl, q2⟩ => thn (hu.run pins s2 σ H2 _ I2 q2) fun vu s3 ⟨u, H3, I3, pu, q3⟩ => ?_)
  obtain ⟨a, xs, ex, hx, q⟩ := q3
  subst ex
  cases r1
  refine thn (hst.run pins s3 σ H3 (fun o H4 => o = some c ∧ H4 = H3) I3 ⟨c, rfl, rfl, rfl⟩) fun vs s4 ⟨o, H4, I4, ps, eo, e4⟩ => ?_
  subst eo e4
  have I5 : Inv X pins σ H4 { s4 with heap := s4.heap.push { cls := .type "slice", data := .fields #[vl, vu, vs] } } := I4.kept (t' := s4.toks) fun b ob q => Heap.get?_push_of_some _ q
  obtain ⟨its, r, ht, hz⟩ := I5.list hx
  have hlen := r.length
  show wpAny (model X.prog X.w) X.A (subscriptTail e (.Slice lo hi (some (.Constant (.int c) k p1)) p3) (.ref a) (.ref s4.heap.objs.size)) (EP X pins σ Q) X.xe { s4 with heap := s4.heap.push { cls := .type "slice", data := .fields #[vl, vu, vs] } }
  refine tail_any (ops := [.ref a, .ref s4.heap.objs.size]) ht.isList.typeIs (PySem.slot_list_getitem.lookup) ?_ (by with_unfolding_all rfl)
  refine wpAny_getItem_list_slice ht.isList (Heap.IsSliceOf.new _ vl vu vs) pl pu ps (fun z => hc (by cases z; rfl)) ?_ (by rw [List.size_toArray]; omega)
  have e1 : slicePick its.toArray l u (some c) = (pickL its l u (some c)).toArray := by
    unfold slicePick pickL
    simp
  rw [e1]
  refine ⟨.ref _, _, I5.laid (t' := s4.toks) (o := .lst (pickL xs l u (some c))) (fun b ob q => Heap.get?_push_of_some _ q) (Nat.le_refl _) ?_, rfl, q _ (I5.hok.fresh (Nat.le_refl _))⟩
  refine ⟨Nat.le_trans (pickL_len _ _ _ _) hz, _, 0, ?_, Heap.get?_push_size _ rfl⟩
  unfold pickL
  rw [hlen]
  exact vals_pick r _
def stD (c : Int) : D → Option Int → Option Int → Rs D
  | .list ds, lo, hi => .ok (.list (pickL ds lo hi (some c)))
  | _, _, _ => .bad
def eSt (c : Int) (f : En → Rs D) (lo hi : En → Rs (Option Int)) : En → Rs D := fun ρ => f ρ >>= fun d => lo ρ >>= fun l => hi ρ >>= fun h => stD c d l h
theorem sm_st {f : En → Rs D} {fl fh : En → Rs (Option Int)} (he : SB X W own e f) (hl : SO X W own lo fl) (hh : SO X W own hi fh) (hc : c ≠ 0 := by decide) : SM X W own (.Subscript e (.Slice lo hi (some (.Constant (.int c) k p1)) p3) pos) (eSt c f fl fh) := by
  obtain ⟨t, p, r⟩ := he.ex
  obtain ⟨tl, pl, rl⟩ := hl.ex
  obtain ⟨th, ph, rh⟩ := hh.ex
  refine ⟨_, pe_stL p pl ph hc, fun H0 Hd0 ρ σ H Hd R Q q => ?_⟩
  refine r _ _ _ _ _ _ R _ ?_
  unfold eSt at q
  cases hf : f ρ with
  | bad => rw [hf] at q; exact q
  | ex c fs => rw [hf] at q; exact q
  | ok d =>
    rw [hf] at q
    intro x H1 Hd1 s1 v1
    refine rl _ _ _ _ _ _ (R.step s1) _ ?_
    have q1 : PoM X W σ H1 Hd1 (fl ρ >>= fun l => fh ρ >>= fun h => stD c d l h) Q := PoM.step q s1
    cases hg : fl ρ with
    | bad => rw [hg] at q1; exact q1
    | ex c fs => rw [hg] at q1; exact q1
    | ok l =>
      rw [hg] at q1
      intro H2 Hd2 s2
      refine rh _ _ _ _ _ _ ((R.step s1).step s2) _ ?_
      have q2 : PoM X W σ H2 Hd2 (fh ρ >>= fun h => stD c d l h) Q := PoM.step q1 s2
      cases hk : fh ρ with
      | bad => rw [hk] at q2; exact q2
      | ex c fs => rw [hk] at q2; exact q2
      | ok h =>
        rw [hk] at q2
        intro H3 Hd3 s3
        have q3 : PoM X W σ H3 Hd3 (stD c d l h) Q := PoM.step (r := stD c d l h) q2 s3
        have v3 := (v1.step s1.sub s2).step s2.sub s3
        unfold stD at q3
        split at q3
        · obtain ⟨p, vs, rfl, _, h2, h1⟩ := v3.lst s3.sub
          refine ⟨p, vs, rfl, h1, fun z hz => PoM.newL s3.sub q3 ?_ hz⟩
          unfold pickL
          rw [h2.length]
          exact dqAll_pick h2 _
        · exact q3.elim
end
end Wm

set_option Elab.async false
set_option linter.all false
set_option maxRecDepth 100000
/-! WmSim: how the layer's functions are reckoned: rewriting rules. -/
namespace Wm
open PySem PySem.Spec PyProof.Rows L2


/-! ### the order of reckoning: the first part first; what comes behind is held back -/
section
variable (ρ : En) (d : D) (ds : List D) (c : Str) (fs : List (Str × D))
/-- statements -/
@[simp] theorem at_sSeq (f g : En → Out) : sSeq f g ρ = oSeq (f ρ) g := nrfl rfl
@[simp] theorem oSeq_nx (g : En → Out) : oSeq (.nx ρ) g = g ρ := nrfl rfl
@[simp] theorem oSeq_rt (g : En → Out) : oSeq (.rt d) g = .rt d := nrfl rfl
@[simp] theorem oSeq_ex (g : En → Out) : oSeq (.ex c fs ρ) g = .ex c fs ρ := nrfl rfl
@[simp] theorem oSeq_bk (g : En → Out) : oSeq (.bk ρ) g = .bk ρ := nrfl rfl
@[simp] theorem oSeq_ct (g : En → Out) : oSeq (.ct ρ) g = .ct ρ := nrfl rfl
@[simp] theorem oSeq_rx' (g : En → Out) : oSeq (.rx d ρ) g = .rx d ρ := nrfl rfl
@[simp] theorem oLoop_nx (k : En → Out) : oLoop (.nx ρ) k = k ρ := nrfl rfl
@[simp] theorem oLoop_ct (k : En → Out) : oLoop (.ct ρ) k = k ρ := nrfl rfl
@[simp] theorem oLoop_bk (k : En → Out) : oLoop (.bk ρ) k = .nx ρ := nrfl rfl
@[simp] theorem oLoop_rt (k : En → Out) : oLoop (.rt d) k = .rt d := nrfl rfl
@[simp] theorem oLoop_ex (k : En → Out) : oLoop (.ex c fs ρ) k = .ex c fs ρ := nrfl rfl
@[simp] theorem oLoop_rx (k : En → Out) : oLoop (.rx d ρ) k = .rx d ρ := nrfl rfl
@[simp] theorem oStore_ok (k : En → Out) : oStore (.ok ρ) k = k ρ := nrfl rfl
@[simp] theorem at_sNx : sNx ρ = .nx ρ := nrfl rfl
@[simp] theorem at_sBk : sBk ρ = .bk ρ := nrfl rfl
@[simp] theorem at_sCt : sCt ρ = .ct ρ := nrfl rfl
def oSet (i : Nat) (ρ : En) (r : Rs D) : Out := oBind r ρ fun d => .nx (ρ.set i (some d))
@[simp] theorem at_sSet (i : Nat) (f : En → Rs D) : sSet i f ρ = oSet i ρ (f ρ) := nrfl rfl
@[simp] theorem oSet_ok (i : Nat) : oSet i ρ (.ok d) = .nx (ρ.set i (some d)) := nrfl rfl
@[simp] theorem oSet_ex (i : Nat) : oSet i ρ (.ex c fs) = .ex c fs ρ := nrfl rfl
def oExpr (ρ : En) (r : Rs D) : Out := oBind r ρ fun _ => .nx ρ
@[simp] theorem at_sExpr (f : En → Rs D) : sExpr f ρ = oExpr ρ (f ρ) := nrfl rfl
@[simp] theorem oExpr_ok : oExpr ρ (.ok d) = .nx ρ := nrfl rfl
@[simp] theorem oExpr_ex : oExpr ρ (.ex c fs) = .ex c fs ρ := nrfl rfl
def oRet (ρ : En) (r : Rs D) : Out := oBind r ρ fun d => .rt d
@[simp] theorem at_sRet (f : En → Rs D) : sRet f ρ = oRet ρ (f ρ) := nrfl rfl
@[simp] theorem oRet_ok : oRet ρ (.ok d) = .rt d := nrfl rfl
@[simp] theorem oRet_ex : oRet ρ (.ex c fs) = .ex c fs ρ := nrfl rfl
@[simp] theorem at_sRetN : sRetN ρ = .rt .none := nrfl rfl
def oIf (r : Rs Bool) (f g : En → Out) (ρ : En) : Out := oBindB r ρ fun b => if b = true then f ρ else g ρ
@[simp] theorem at_sIf (c : En → Rs Bool) (f g : En → Out) : sIf c f g ρ = oIf (c ρ) f g ρ := nrfl rfl
@[simp] theorem oIf_ok (b : Bool) (f g : En → Out) : oIf (.ok b) f g ρ = if b = true then f ρ else g ρ := nrfl rfl
@[simp] theorem oIf_ex (f g : En → Out) : oIf (.ex c fs) f g ρ = .ex c fs ρ := nrfl rfl
def oFor (r : Rs (List D)) (tg : D → En → Rs En) (b : En → Out) (ρ : En) : Out := oItems r ρ fun ds => forL tg b ds ρ
@[simp] theorem at_sFor (it : En → Rs (List D)) (tg : D → En → Rs En) (b : En → Out) : sFor it tg b ρ = oFor (it ρ) tg b ρ := nrfl rfl
@[simp] theorem oFor_ok (tg : D → En → Rs En) (b : En → Out) : oFor (.ok ds) tg b ρ = forL tg b ds ρ := nrfl rfl
def oUnp (g : D → En → Rs En) (ρ : En) (r : Rs D) : Out := oBind r ρ fun d => oStore (g d ρ) .nx
@[simp] theorem at_sUnp (g : D → En → Rs En) (f : En → Rs D) : sUnp g f ρ = oUnp g ρ (f ρ) := nrfl rfl
@[simp] theorem oUnp_ok (g : D → En → Rs En) : oUnp g ρ (.ok d) = oStore (g d ρ) .nx := nrfl rfl
@[simp] theorem at_sAug (i : Nat) (g : D → D → Rs D) (f : En → Rs D) : sAug i g f ρ = oSet i ρ (e2 g (eVar i) f ρ) := nrfl rfl
def oApp (i : Nat) (o : Option (List D)) (r : Rs D) (ρ : En) : Out := oL o fun ds => oBind r ρ fun d => if ds.length < sizeLine then .nx (ρ.set i (some (.list (ds ++ [d])))) else .bad
@[simp] theorem at_sApp (i : Nat) (f : En → Rs D) : sApp i f ρ = oApp i (getL ρ i) (f ρ) ρ := nrfl rfl
@[simp] theorem oApp_ok (i : Nat) : oApp i (some ds) (.ok d) ρ = if ds.length < 16777216 then .nx (ρ.set i (some (.list (ds ++ [d])))) else .bad := by
  unfold oApp oL; simp only [oBind_ok, sizeLine_eq]
def oPop (i : Nat) (o : Option (List D)) (ρ : En) : Out := oL o fun ds => if ds = [] then .bad else .nx (ρ.set i (some (.list ds.dropLast)))
@[simp] theorem at_sPop (i : Nat) : sPop i ρ = oPop i (getL ρ i) ρ := nrfl rfl
@[simp] theorem oPop_ok (i : Nat) : oPop i (some ds) ρ = if ds = [] then .bad else .nx (ρ.set i (some (.list ds.dropLast))) := nrfl rfl
/-- expressions -/
@[simp] theorem at_eC : eC d ρ = .ok d := nrfl rfl
def k2 (g : D → D → Rs D) (r : Rs D) (h : En → Rs D) (ρ : En) : Rs D := r >>= fun x => h ρ >>= fun y => g x y
def k2' (g : D → D → Rs D) (x : D) (r : Rs D) : Rs D := r >>= g x
@[simp] theorem at_e2 (g : D → D → Rs D) (f h : En → Rs D) : e2 g f h ρ = k2 g (f ρ) h ρ := nrfl rfl
@[simp] theorem k2_ok (g : D → D → Rs D) (h : En → Rs D) : k2 g (.ok d) h ρ = k2' g d (h ρ) := nrfl rfl
@[simp] theorem k2_ex (g : D → D → Rs D) (h : En → Rs D) : k2 g (.ex c fs) h ρ = .ex c fs := nrfl rfl
@[simp] theorem k2'_ok (g : D → D → Rs D) (x y : D) : k2' g x (.ok y) = g x y := nrfl rfl
@[simp] theorem k2'_ex (g : D → D → Rs D) (x : D) : k2' g x (.ex c fs) = .ex c fs := nrfl rfl
@[simp] theorem at_eBlt (g : List D → Rs D) (f : En → Rs (List D)) : eBlt g f ρ = f ρ >>= g := nrfl rfl
@[simp] theorem at_aNil : aNil ρ = .ok [] := nrfl rfl
def kCons (r : Rs D) (g : En → Rs (List D)) (ρ : En) : Rs (List D) := r >>= fun d => g ρ >>= fun ds => .ok (d :: ds)
def kCons' (d : D) (r : Rs (List D)) : Rs (List D) := r >>= fun ds => .ok (d :: ds)
@[simp] theorem at_aCons (f : En → Rs D) (g : En → Rs (List D)) : aCons f g ρ = kCons (f ρ) g ρ := nrfl rfl
@[simp] theorem kCons_ok (g : En → Rs (List D)) : kCons (.ok d) g ρ = kCons' d (g ρ) := nrfl rfl
@[simp] theorem kCons_ex (g : En → Rs (List D)) : kCons (.ex c fs) g ρ = .ex c fs := nrfl rfl
@[simp] theorem kCons'_ok : kCons' d (.ok ds) = .ok (d :: ds) := nrfl rfl
@[simp] theorem kCons'_ex : kCons' d (.ex c fs) = .ex c fs := nrfl rfl
@[simp] theorem at_eM0 (g : Str → Rs D) (f : En → Rs D) : eM0 g f ρ = f ρ >>= onS g := nrfl rfl
@[simp] theorem onS_str (g : Str → Rs D) (a : Str) : onS g (.str a) = g a := nrfl rfl
def kM1 (g : Str → D → Rs D) (r : Rs D) (h : En → Rs D) (ρ : En) : Rs D := r >>= onS fun a => h ρ >>= g a
@[simp] theorem at_eM1 (g : Str → D → Rs D) (f h : En → Rs D) : eM1 g f h ρ = kM1 g (f ρ) h ρ := nrfl rfl
@[simp] theorem kM1_ok (g : Str → D → Rs D) (a : Str) (h : En → Rs D) : kM1 g (.ok (.str a)) h ρ = h ρ >>= g a := nrfl rfl
@[simp] theorem at_tB (f : En → Rs D) : tB f ρ = asB (f ρ) := nrfl rfl
@[simp] theorem at_eIsi (n : String) (f : En → Rs D) : eIsi n f ρ = f ρ >>= isiD n := nrfl rfl
def kAn (r : Rs Bool) (g : En → Rs Bool) (ρ : En) : Rs Bool := r >>= fun c => if c = true then g ρ else .ok false
def kOr (r : Rs Bool) (g : En → Rs Bool) (ρ : En) : Rs Bool := r >>= fun c => if c = true then .ok true else g ρ
def kNo (r : Rs Bool) : Rs Bool := r >>= fun c => .ok (!c)
@[simp] theorem at_tAn (f g : En → Rs Bool) : tAn f g ρ = kAn (f ρ) g ρ := nrfl rfl
@[simp] theorem at_tOr (f g : En → Rs Bool) : tOr' f g ρ = kOr (f ρ) g ρ := nrfl rfl
@[simp] theorem at_tNo (f : En → Rs Bool) : tNo f ρ = kNo (f ρ) := nrfl rfl
@[simp] theorem kAn_ok (b : Bool) (g : En → Rs Bool) : kAn (.ok b) g ρ = if b = true then g ρ else .ok false := nrfl rfl
@[simp] theorem kOr_ok (b : Bool) (g : En → Rs Bool) : kOr (.ok b) g ρ = if b = true then .ok true else g ρ := nrfl rfl
@[simp] theorem kNo_ok (b : Bool) : kNo (.ok b) = .ok (!b) := nrfl rfl
def anK (g : En → Rs D) (ρ : En) (r : Rs D) : Rs D := r >>= fun d => match d with
  | .bool true => g ρ
  | .bool false => .ok (.bool false)
  | _ => .bad
def orK (g : En → Rs D) (ρ : En) (r : Rs D) : Rs D := r >>= fun d => match d with
  | .bool true => .ok (.bool true)
  | .bool false => g ρ
  | _ => .bad
@[simp] theorem at_eAn (f g : En → Rs D) : eAn f g ρ = anK g ρ (f ρ) := by
  unfold eAn anK; cases f ρ with
  | ok d => cases d <;> first | rfl | (rename_i b; cases b <;> rfl)
  | _ => rfl
@[simp] theorem at_eOr (f g : En → Rs D) : eOr f g ρ = orK g ρ (f ρ) := by
  unfold eOr orK; cases f ρ with
  | ok d => cases d <;> first | rfl | (rename_i b; cases b <;> rfl)
  | _ => rfl
@[simp] theorem anK_b (g : En → Rs D) (b : Bool) : anK g ρ (.ok (.bool b)) = if b = true then g ρ else .ok (.bool false) := by cases b <;> rfl
@[simp] theorem orK_b (g : En → Rs D) (b : Bool) : orK g ρ (.ok (.bool b)) = if b = true then .ok (.bool true) else g ρ := by cases b <;> rfl
def noK : D → Rs D
  | .bool c => .ok (.bool (!c))
  | _ => .bad
@[simp] theorem at_eNo (f : En → Rs D) : eNo f ρ = f ρ >>= noK := by
  unfold eNo; cases f ρ with
  | ok d => cases d <;> rfl
  | _ => rfl
@[simp] theorem noK_b (b : Bool) : noK (.bool b) = .ok (.bool !b) := nrfl rfl
def ifK (r : Rs Bool) (f g : En → Rs D) (ρ : En) : Rs D := r >>= fun b => if b = true then f ρ else g ρ
@[simp] theorem at_eIf (c : En → Rs Bool) (f g : En → Rs D) : eIf c f g ρ = ifK (c ρ) f g ρ := nrfl rfl
@[simp] theorem ifK_ok (b : Bool) (f g : En → Rs D) : ifK (.ok b) f g ρ = if b = true then f ρ else g ρ := nrfl rfl
def kTup (ds : List D) : Rs D := if ds.length ≤ 16777216 then .ok (.tuple ds) else .bad
def kLst (ds : List D) : Rs D := if ds.length ≤ 16777216 then .ok (.list ds) else .bad
@[simp] theorem at_eTup (g : En → Rs (List D)) : eTup g ρ = g ρ >>= kTup := by unfold eTup kTup; simp only [sizeLine_eq]
@[simp] theorem at_eLst (g : En → Rs (List D)) : eLst g ρ = g ρ >>= kLst := by unfold eLst kLst; simp only [sizeLine_eq]
@[simp] theorem kTup_ok : kTup ds = if ds.length ≤ 16777216 then .ok (.tuple ds) else .bad := nrfl rfl
@[simp] theorem kLst_ok : kLst ds = if ds.length ≤ 16777216 then .ok (.list ds) else .bad := nrfl rfl
def kCall (n : Nat) (g : List D → Rs D) (ds : List D) : Rs D := if ds.length = n then g ds else .bad
@[simp] theorem at_eCall (n : Nat) (g : List D → Rs D) (f : En → Rs (List D)) : eCall n g f ρ = f ρ >>= kCall n g := nrfl rfl
@[simp] theorem kCall_ok (n : Nat) (g : List D → Rs D) : kCall n g ds = if ds.length = n then g ds else .bad := nrfl rfl
@[simp] theorem at_eCall0 (g : List D → Rs D) : eCall0 g ρ = noEx (g []) := nrfl rfl
@[simp] theorem at_oNo : oNo ρ = .ok none := nrfl rfl
def soK : D → Rs (Option Int)
  | .int i => .ok (some i)
  | _ => .bad
@[simp] theorem at_oSo (f : En → Rs D) : oSo f ρ = f ρ >>= soK := by
  unfold oSo; cases f ρ with
  | ok d => cases d <;> rfl
  | _ => rfl
@[simp] theorem soK_i (i : Int) : soK (.int i) = .ok (some i) := nrfl rfl
def slK (r : Rs D) (lo hi : En → Rs (Option Int)) (ρ : En) : Rs D := r >>= fun d => lo ρ >>= fun l => hi ρ >>= fun h => slD d l h
def slK' (d : D) (r : Rs (Option Int)) (hi : En → Rs (Option Int)) (ρ : En) : Rs D := r >>= fun l => hi ρ >>= fun h => slD d l h
def slK'' (d : D) (l : Option Int) (r : Rs (Option Int)) : Rs D := r >>= fun h => slD d l h
@[simp] theorem at_eSl (f : En → Rs D) (lo hi : En → Rs (Option Int)) : eSl f lo hi ρ = slK (f ρ) lo hi ρ := nrfl rfl
@[simp] theorem slK_ok (lo hi : En → Rs (Option Int)) : slK (.ok d) lo hi ρ = slK' d (lo ρ) hi ρ := nrfl rfl
@[simp] theorem slK'_ok (l : Option Int) (hi : En → Rs (Option Int)) : slK' d (.ok l) hi ρ = slK'' d l (hi ρ) := nrfl rfl
@[simp] theorem slK''_ok (l h : Option Int) : slK'' d l (.ok h) = slD d l h := nrfl rfl
def negK : D → Rs D
  | .int i => .ok (.int (-i))
  | _ => .bad
@[simp] theorem at_eNeg (f : En → Rs D) : eNeg f ρ = f ρ >>= negK := by
  unfold eNeg; cases f ρ with
  | ok d => cases d <;> rfl
  | _ => rfl
@[simp] theorem negK_i (i : Int) : negK (.int i) = .ok (.int (-i)) := nrfl rfl
def ch1 (g g' : D → D → Rs D) (r : Rs D) (fb fc : En → Rs D) (ρ : En) : Rs D := r >>= fun x => fb ρ >>= fun y => g x y >>= fun z => match z with
  | .bool true => fc ρ >>= fun w => g' y w
  | .bool false => .ok (.bool false)
  | _ => .bad
def ch2 (g g' : D → D → Rs D) (x : D) (r : Rs D) (fc : En → Rs D) (ρ : En) : Rs D := r >>= fun y => g x y >>= fun z => match z with
  | .bool true => fc ρ >>= fun w => g' y w
  | .bool false => .ok (.bool false)
  | _ => .bad
def ch3 (g' : D → D → Rs D) (y : D) (r : Rs D) (fc : En → Rs D) (ρ : En) : Rs D := r >>= fun z => match z with
  | .bool true => fc ρ >>= fun w => g' y w
  | .bool false => .ok (.bool false)
  | _ => .bad
@[simp] theorem at_eChain (g g' : D → D → Rs D) (fa fb fc : En → Rs D) : eChain g g' fa fb fc ρ = ch1 g g' (fa ρ) fb fc ρ := nrfl rfl
@[simp] theorem ch1_ok (g g' : D → D → Rs D) (fb fc : En → Rs D) : ch1 g g' (.ok d) fb fc ρ = ch2 g g' d (fb ρ) fc ρ := nrfl rfl
@[simp] theorem ch2_ok (g g' : D → D → Rs D) (x : D) (fc : En → Rs D) : ch2 g g' x (.ok d) fc ρ = ch3 g' d (g x d) fc ρ := nrfl rfl
@[simp] theorem ch3_ok (g' : D → D → Rs D) (b : Bool) (fc : En → Rs D) : ch3 g' d (.ok (.bool b)) fc ρ = if b = true then k2' g' d (fc ρ) else .ok (.bool false) := by cases b <;> rfl
@[simp] theorem at_eIt (g : D → Rs (List D)) (f : En → Rs D) : eIt g f ρ = f ρ >>= g := nrfl rfl
@[simp] theorem iSeq_l : iSeq (.list ds) = .ok ds := nrfl rfl
@[simp] theorem iSeq_t : iSeq (.tuple ds) = .ok ds := nrfl rfl
@[simp] theorem iSeq_s (a : List Nat) : iSeq (tx a) = .ok (a.map fun c => tx [c]) := nrfl rfl
def rgK : D → Rs (List D)
  | .int j => if small62 j then .ok (rangeD 0 j.toNat) else .bad
  | _ => .bad
@[simp] theorem at_iRange1 (f : En → Rs D) : iRange1 f ρ = f ρ >>= rgK := by
  unfold iRange1; cases f ρ with
  | ok d => cases d <;> rfl
  | _ => rfl
theorem rgK_i (j : Int) (h : small62 j = true) : rgK (.int j) = .ok (rangeD 0 j.toNat) := by
  show (if small62 j = true then Rs.ok (rangeD 0 j.toNat) else .bad) = _
  rw [if_pos h]
def lcK (r : Rs (List D)) (vs : List Nat) (tg : D → En → Rs En) (cond : En → Rs Bool) (elt : En → Rs D) (ρ : En) : Rs D := r >>= fun ds => if ds.length ≤ sizeLine then lcL tg cond elt (wipeE ρ vs) ds >>= fun ys => .ok (.list ys) else .bad
def mkL (r : Rs (List D)) : Rs D := r >>= fun ys => .ok (.list ys)
@[simp] theorem mkL_ok : mkL (.ok ds) = .ok (.list ds) := nrfl rfl
@[simp] theorem at_eLc (it : En → Rs (List D)) (vs : List Nat) (tg : D → En → Rs En) (cond : En → Rs Bool) (elt : En → Rs D) : eLc it vs tg cond elt ρ = lcK (it ρ) vs tg cond elt ρ := nrfl rfl
@[simp] theorem lcK_ok (vs : List Nat) (tg : D → En → Rs En) (cond : En → Rs Bool) (elt : En → Rs D) : lcK (.ok ds) vs tg cond elt ρ = if ds.length ≤ 16777216 then mkL (lcL tg cond elt (wipeE ρ vs) ds) else .bad := by
  unfold lcK mkL; simp only [ok_bind, sizeLine_eq]
@[simp] theorem at_cYes : cYes ρ = .ok true := nrfl rfl
@[simp] theorem at_gNm (i : Nat) : gNm i d ρ = .ok (ρ.set i (some d)) := nrfl rfl
@[simp] theorem at_gTp (n : Nat) (gs : List D → En → Rs En) : gTp n gs (.tuple ds) ρ = if ds.length = n then gs ds ρ else .bad := nrfl rfl
@[simp] theorem at_gsNil : gsNil [] ρ = .ok ρ := nrfl rfl
def gsK (r : Rs En) (gs : List D → En → Rs En) (ds : List D) : Rs En := r >>= fun ρ' => gs ds ρ'
@[simp] theorem at_gsCons (g : D → En → Rs En) (gs : List D → En → Rs En) : gsCons g gs (d :: ds) ρ = gsK (g d ρ) gs ds := nrfl rfl
@[simp] theorem gsK_ok (gs : List D → En → Rs En) : gsK (.ok ρ) gs ds = gs ds ρ := nrfl rfl
end
@[simp] theorem eVar_0 (d : D) (ρ : En) : eVar 0 (some d :: ρ) = .ok d := nrfl rfl
theorem eVar_succ (i : Nat) (o : Option D) (ρ : En) : eVar (i + 1) (o :: ρ) = eVar i ρ := rfl
@[simp] theorem eVar_1 (o : Option D) (ρ : En) : eVar 1 (o :: ρ) = eVar 0 ρ := nrfl rfl
@[simp] theorem eVar_2 (o : Option D) (ρ : En) : eVar 2 (o :: ρ) = eVar 1 ρ := nrfl rfl
@[simp] theorem eVar_3 (o : Option D) (ρ : En) : eVar 3 (o :: ρ) = eVar 2 ρ := nrfl rfl
@[simp] theorem eVar_4 (o : Option D) (ρ : En) : eVar 4 (o :: ρ) = eVar 3 ρ := nrfl rfl
@[simp] theorem eVar_5 (o : Option D) (ρ : En) : eVar 5 (o :: ρ) = eVar 4 ρ := nrfl rfl
@[simp] theorem eVar_6 (o : Option D) (ρ : En) : eVar 6 (o :: ρ) = eVar 5 ρ := nrfl rfl
@[simp] theorem eVar_7 (o : Option D) (ρ : En) : eVar 7 (o :: ρ) = eVar 6 ρ := nrfl rfl
@[simp] theorem eVar_8 (o : Option D) (ρ : En) : eVar 8 (o :: ρ) = eVar 7 ρ := nrfl rfl
@[simp] theorem eVar_9 (o : Option D) (ρ : En) : eVar 9 (o :: ρ) = eVar 8 ρ := nrfl rfl
@[simp] theorem eVar_10 (o : Option D) (ρ : En) : eVar 10 (o :: ρ) = eVar 9 ρ := nrfl rfl
@[simp] theorem eVar_11 (o : Option D) (ρ : En) : eVar 11 (o :: ρ) = eVar 10 ρ := nrfl rfl
@[simp] theorem eVar_12 (o : Option D) (ρ : En) : eVar 12 (o :: ρ) = eVar 11 ρ := nrfl rfl
@[simp] theorem eVar_13 (o : Option D) (ρ : En) : eVar 13 (o :: ρ) = eVar 12 ρ := nrfl rfl
@[simp] theorem eVar_14 (o : Option D) (ρ : En) : eVar 14 (o :: ρ) = eVar 13 ρ := nrfl rfl
@[simp] theorem eVar_15 (o : Option D) (ρ : En) : eVar 15 (o :: ρ) = eVar 14 ρ := nrfl rfl
@[simp] theorem eVar_16 (o : Option D) (ρ : En) : eVar 16 (o :: ρ) = eVar 15 ρ := nrfl rfl
@[simp] theorem eVar_17 (o : Option D) (ρ : En) : eVar 17 (o :: ρ) = eVar 16 ρ := nrfl rfl
@[simp] theorem eVar_18 (o : Option D) (ρ : En) : eVar 18 (o :: ρ) = eVar 17 ρ := nrfl rfl
@[simp] theorem eVar_19 (o : Option D) (ρ : En) : eVar 19 (o :: ρ) = eVar 18 ρ := nrfl rfl
@[simp] theorem eVar_20 (o : Option D) (ρ : En) : eVar 20 (o :: ρ) = eVar 19 ρ := nrfl rfl
theorem getL_at (ρ : En) (i : Nat) (ds : List D) (h : ρ[i]? = some (some (.list ds))) : getL ρ i = some ds := by unfold getL; rw [h]
@[simp] theorem getL_0 (ds : List D) (ρ : En) : getL (some (.list ds) :: ρ) 0 = some ds := nrfl rfl
@[simp] theorem getL_succ (i : Nat) (o : Option D) (ρ : En) : getL (o :: ρ) (i + 1) = getL ρ i := nrfl rfl
/-! ### operations -/
@[simp] theorem str_len (l : List Nat) : Str.length ⟨l.toArray⟩ = l.length := by simp [Str.length]
@[simp] theorem str_app (a b : List Nat) : (⟨a.toArray⟩ : Str) ++ ⟨b.toArray⟩ = ⟨(a ++ b).toArray⟩ := by
  show Str.mk (a.toArray ++ b.toArray) = _
  simp
@[simp] theorem str_eq (a b : List Nat) : ((⟨a.toArray⟩ : Str) = ⟨b.toArray⟩) = (a = b) := by
  apply propext
  constructor
  · intro h
    have h2 := congrArg (fun s : Str => s.cps.toList) h
    simpa using h2
  · intro h; rw [h]
section
@[simp] theorem addD_i (a b : Int) : addD (.int a) (.int b) = .ok (.int (a + b)) := nrfl rfl
@[simp] theorem addD_s (a b : List Nat) : addD (tx a) (tx b) = if a.length + b.length ≤ 16777216 then .ok (tx (a ++ b)) else .bad := by
  unfold addD tx; simp only [str_len, str_app, sizeLine_eq]
@[simp] theorem addD_t (a b : List D) : addD (.tuple a) (.tuple b) = if a.length + b.length ≤ 16777216 then .ok (.tuple (a ++ b)) else .bad := by
  unfold addD; simp only [sizeLine_eq]
@[simp] theorem addD_l (a b : List D) : addD (.list a) (.list b) = if a.length + b.length ≤ 16777216 then .ok (.list (a ++ b)) else .bad := by
  unfold addD; simp only [sizeLine_eq]
@[simp] theorem addD_b (a : Int) (b : Bool) : addD (.int a) (.bool b) = .ok (.int (a + b2i b)) := nrfl rfl
@[simp] theorem addI_i (a b : Int) : addI (.int a) (.int b) = .ok (.int (a + b)) := nrfl rfl
@[simp] theorem addI_s (a b : List Nat) : addI (tx a) (tx b) = if a.length + b.length ≤ 16777216 then .ok (tx (a ++ b)) else .bad := by
  unfold addI tx; simp only [str_len, str_app, sizeLine_eq]
@[simp] theorem addI_t (a b : List D) : addI (.tuple a) (.tuple b) = if a.length + b.length ≤ 16777216 then .ok (.tuple (a ++ b)) else .bad := by
  unfold addI; simp only [sizeLine_eq]
@[simp] theorem subD_i (a b : Int) : subD (.int a) (.int b) = .ok (.int (a - b)) := nrfl rfl
@[simp] theorem mulD_i (a b : Int) : mulD (.int a) (.int b) = if big a || big b then .ok (.int (a * b)) else .bad := nrfl rfl
@[simp] theorem fdivD_i (a b : Int) : fdivD (.int a) (.int b) = if b ≠ 0 ∧ b.natAbs < 1073741824 then .ok (.int (a.fdiv b)) else .bad := nrfl rfl
@[simp] theorem modD_i (a b : Int) : modD (.int a) (.int b) = if b ≠ 0 then .ok (.int (a.fmod b)) else .bad := nrfl rfl
@[simp] theorem powD_i (a b : Int) : powD (.int a) (.int b) = if 0 ≤ b ∧ b ≤ 1000000 ∧ a.natAbs < 2 ^ 64 then .ok (.int (a ^ b.toNat)) else .bad := nrfl rfl
@[simp] theorem eqD_i (a b : Int) : eqD (.int a) (.int b) = .ok (.bool (decide (a = b))) := nrfl rfl
@[simp] theorem eqD_s (a b : List Nat) : eqD (tx a) (tx b) = .ok (.bool (decide (a = b))) := by
  unfold eqD eqB tx; simp only [str_eq]
@[simp] theorem eqD_b (a b : Bool) : eqD (.bool a) (.bool b) = .ok (.bool (decide (a = b))) := nrfl rfl
@[simp] theorem neD_i (a b : Int) : neD (.int a) (.int b) = .ok (.bool (!decide (a = b))) := nrfl rfl
@[simp] theorem neD_s (a b : List Nat) : neD (tx a) (tx b) = .ok (.bool (!decide (a = b))) := by
  unfold neD eqB tx; simp only [str_eq]
@[simp] theorem neD_b (a b : Bool) : neD (.bool a) (.bool b) = .ok (.bool (!decide (a = b))) := nrfl rfl
@[simp] theorem eqD_nn : eqD .none .none = .ok (.bool true) := nrfl rfl
@[simp] theorem eqD_ns (a : Str) : eqD .none (.str a) = .ok (.bool false) := nrfl rfl
@[simp] theorem eqD_sn (a : Str) : eqD (.str a) .none = .ok (.bool false) := nrfl rfl
@[simp] theorem neD_nn : neD .none .none = .ok (.bool false) := nrfl rfl
@[simp] theorem neD_ns (a : Str) : neD .none (.str a) = .ok (.bool true) := nrfl rfl
@[simp] theorem neD_sn (a : Str) : neD (.str a) .none = .ok (.bool true) := nrfl rfl
@[simp] theorem cmpD_i (p : Int → Int → Bool) (a b : Int) : cmpD p (.int a) (.int b) = .ok (.bool (p a b)) := nrfl rfl
@[simp] theorem isD_n (d : D) : isD d .none = .ok (.bool (nonD d)) := by cases d <;> rfl
@[simp] theorem isntD_n (d : D) : isntD d .none = .ok (.bool (!nonD d)) := by cases d <;> rfl
@[simp] theorem isD_b (a b : Bool) : isD (.bool a) (.bool b) = .ok (.bool (decide (a = b))) := nrfl rfl
@[simp] theorem isntD_b (a b : Bool) : isntD (.bool a) (.bool b) = .ok (.bool (!decide (a = b))) := nrfl rfl
@[simp] theorem nonD_none : nonD .none = true := nrfl rfl
@[simp] theorem nonD_s (a : Str) : nonD (.str a) = false := nrfl rfl
@[simp] theorem nonD_i (a : Int) : nonD (.int a) = false := nrfl rfl
@[simp] theorem nonD_b (a : Bool) : nonD (.bool a) = false := nrfl rfl
@[simp] theorem nonD_t (a : List D) : nonD (.tuple a) = false := nrfl rfl
@[simp] theorem nonD_l (a : List D) : nonD (.list a) = false := nrfl rfl
@[simp] theorem asB_b (b : Bool) : asB (.ok (.bool b)) = .ok b := nrfl rfl
@[simp] theorem asB_bad : asB .bad = .bad := nrfl rfl
@[simp] theorem asB_ex (c : Str) (fs : List (Str × D)) : asB (.ex c fs) = .ex c fs := nrfl rfl
@[simp] theorem lenD_l (ds : List D) : lenD [.list ds] = .ok (.int ds.length) := nrfl rfl
@[simp] theorem lenD_t (ds : List D) : lenD [.tuple ds] = .ok (.int ds.length) := nrfl rfl
@[simp] theorem lenD_s (a : List Nat) : lenD [tx a] = if a.length ≤ 16777216 then .ok (.int a.length) else .bad := by
  unfold lenD tx; simp only [str_len, sizeLine_eq]
@[simp] theorem intD_i (i : Int) : intD [.int i] = .ok (.int i) := nrfl rfl
@[simp] theorem intD_b (b : Bool) : intD [.bool b] = .ok (.int (if b then 1 else 0)) := nrfl rfl
@[simp] theorem ordD_s (c : Nat) : ordD [tx [c]] = .ok (.int c) := nrfl rfl
@[simp] theorem minD_i (i j : Int) : minD [.int i, .int j] = .ok (.int (if j < i then j else i)) := nrfl rfl
@[simp] theorem maxD_i (i j : Int) : maxD [.int i, .int j] = .ok (.int (if j > i then j else i)) := nrfl rfl
@[simp] theorem tupD_l (ds : List D) : tupD [.list ds] = .ok (.tuple ds) := nrfl rfl
@[simp] theorem tupD_t (ds : List D) : tupD [.tuple ds] = .ok (.tuple ds) := nrfl rfl
@[simp] theorem listD_l (ds : List D) : listD [.list ds] = .ok (.list ds) := nrfl rfl
@[simp] theorem listD_t (ds : List D) : listD [.tuple ds] = .ok (.list ds) := nrfl rfl
@[simp] theorem divmodD_i (i j : Int) : divmodD [.int i, .int j] = if 0 < j ∧ j < 1073741824 then .ok (.tuple [.int (i / j), .int (i % j)]) else .bad := nrfl rfl
@[simp] theorem ixD_l (ds : List D) (i : Int) : ixD (.list ds) (.int i) = match atI ds i with | some d => .ok d | none => .bad := nrfl rfl
@[simp] theorem ixD_t (ds : List D) (i : Int) : ixD (.tuple ds) (.int i) = match atI ds i with | some d => .ok d | none => .bad := nrfl rfl
@[simp] theorem ixD_s (a : List Nat) (i : Int) : ixD (tx a) (.int i) = if a.length ≤ 16777216 then match atI a i with | some c => .ok (tx [c]) | none => .bad else .bad := by
  show (if Str.length ⟨a.toArray⟩ ≤ sizeLine then _ else _) = _
  (rw [str_len, sizeLine_eq]) <;> rfl
@[simp] theorem slD_l (ds : List D) (lo hi : Option Int) : slD (.list ds) lo hi = .ok (.list (cutL ds lo hi)) := nrfl rfl
@[simp] theorem slD_t (ds : List D) (lo hi : Option Int) : slD (.tuple ds) lo hi = .ok (.tuple (cutL ds lo hi)) := nrfl rfl
theorem cutS_cutL (a : List Nat) (lo hi : Option Int) : cutS ⟨a.toArray⟩ lo hi = ⟨(cutL a lo hi).toArray⟩ := by
  unfold cutS cutL
  simp only [str_len]
@[simp] theorem slD_s (a : List Nat) (lo hi : Option Int) : slD (tx a) lo hi = if a.length ≤ 16777216 then .ok (tx (cutL a lo hi)) else .bad := by
  unfold slD tx; simp only [str_len, sizeLine_eq, cutS_cutL]
theorem sIx_lit (n k : Nat) : HT.sIx n 0 (some (k : Int)) = min k n := HT.sIx_nat n 0 k
theorem cutL_to {α : Type} (l : List α) (n : Nat) : cutL l none (some (n : Int)) = l.take n := by
  unfold cutL
  rw [HT.sIx_none, HT.sIx_nat]
  simp [List.take_eq_take_iff]
theorem cutL_from {α : Type} (l : List α) (n : Nat) : cutL l (some (n : Int)) none = l.drop n := by
  unfold cutL
  rw [HT.sIx_none, HT.sIx_nat]
  rcases Nat.le_total n l.length with h | h
  · rw [Nat.min_eq_left h, List.take_of_length_le (by simp)]
  · rw [Nat.min_eq_right h, List.drop_eq_nil_of_le h, List.drop_eq_nil_of_le (Nat.le_refl _)]; simp
theorem cutL_mid {α : Type} (l : List α) (a b : Nat) : cutL l (some (a : Int)) (some (b : Int)) = (l.take b).drop a := by
  unfold cutL
  rw [HT.sIx_nat, HT.sIx_nat, ← List.drop_take]
  apply List.ext_getElem?
  intro i
  rw [List.getElem?_drop, List.getElem?_drop, List.getElem?_take, List.getElem?_take]
  by_cases h : a ≤ l.length
  · rw [Nat.min_eq_left h]
    by_cases h2 : b ≤ l.length
    · rw [Nat.min_eq_left h2]
    · rw [Nat.min_eq_right (by omega)]
      by_cases h3 : a + i < l.length
      · rw [if_pos h3, if_pos (by omega)]
      · rw [if_neg h3]
        split
        · rw [List.getElem?_eq_none (by omega)]
        · rfl
  · rw [Nat.min_eq_right (by omega)]
    rw [List.getElem?_eq_none (by omega : l.length ≤ l.length + i), List.getElem?_eq_none (by omega : l.length ≤ a + i)]
    simp
@[simp] theorem cutL_to' {α : Type} (l : List α) (n : Nat) : cutL l none (some (no_index (OfNat.ofNat n : Int))) = l.take (OfNat.ofNat n) := cutL_to l n
@[simp] theorem cutL_from' {α : Type} (l : List α) (n : Nat) : cutL l (some (no_index (OfNat.ofNat n : Int))) none = l.drop (OfNat.ofNat n) := cutL_from l n
@[simp] theorem cutL_from1 {α : Type} (l : List α) : cutL l (some 1) none = l.drop 1 := cutL_from l 1
@[simp] theorem cutL_to1 {α : Type} (l : List α) : cutL l none (some 1) = l.take 1 := cutL_to l 1
@[simp] theorem cutL_all {α : Type} (l : List α) : cutL l none none = l := by
  unfold cutL; rw [HT.sIx_none, HT.sIx_none]; simp
theorem atI_n {α : Type} (l : List α) (n : Nat) : atI l (n : Int) = l[n]? := by
  unfold atI ixN
  by_cases h : n < l.length
  · rw [if_pos (by omega), if_pos (by omega)]; simp
  · rw [if_pos (by omega), if_neg (by omega)]; simp; omega
@[simp] theorem atI_0 {α : Type} (l : List α) : atI l 0 = l[0]? := atI_n l 0
@[simp] theorem atI_1 {α : Type} (l : List α) : atI l 1 = l[1]? := atI_n l 1
@[simp] theorem atI_lit {α : Type} (l : List α) (n : Nat) : atI l (no_index (OfNat.ofNat n : Int)) = l[(OfNat.ofNat n : Nat)]? := atI_n l n
@[simp] theorem atI_m1 {α : Type} (l : List α) : atI l (-1) = l.getLast? := by
  cases h : l.getLast? with
  | none =>
    rw [List.getLast?_eq_none_iff] at h
    subst h; rfl
  | some x =>
    obtain ⟨ys, e⟩ := List.getLast?_eq_some_iff.mp h
    subst e
    exact atI_last ys x
/-! ### texts -/
theorem inStr_one (c : Nat) (l : List Nat) : inStr ⟨#[c]⟩ ⟨l.toArray⟩ = decide (c ∈ l) := rfl
@[simp] theorem inD_s (c : Nat) (l : List Nat) : inD (tx [c]) (tx l) = .ok (.bool (decide (c ∈ l))) := nrfl rfl
@[simp] theorem notInD_s (c : Nat) (l : List Nat) : notInD (tx [c]) (tx l) = .ok (.bool (!decide (c ∈ l))) := nrfl rfl
theorem lowerD_s (l : List Nat) (h : ∀ c ∈ l, c < 128) (hl : l.length ≤ 5592405) : lowerD ⟨l.toArray⟩ = .ok (tx (l.map lo1)) := by
  unfold lowerD
  rw [str_len, if_pos hl, lower_ascii (by simpa using h)]
  simp
theorem upperD_s (l : List Nat) (h : ∀ c ∈ l, c < 128) (hl : l.length ≤ 5592405) : upperD ⟨l.toArray⟩ = .ok (tx (l.map up1)) := by
  unfold upperD
  rw [str_len, if_pos hl, upper_ascii (by simpa using h)]
  simp
/-- letters and figures -/
def alnum (c : Nat) : Bool := (decide (48 ≤ c) && decide (c ≤ 57)) || (decide (65 ≤ c) && decide (c ≤ 90)) || (decide (97 ≤ c) && decide (c ≤ 122))
theorem isAlnum_ascii : ∀ c, c < 128 → Unicode.isAlnum c = alnum c := by decide +kernel
theorem isalnum_one (c : Nat) (h : c < 128) : Txt.isalnum ⟨#[c]⟩ = alnum c := by
  have e : Txt.isalnum ⟨#[c]⟩ = Unicode.isAlnum c := by
    unfold Txt.isalnum
    simp [Str.length]
  rw [e, isAlnum_ascii c h]
/-- where a sign stands first -/
theorem occ_one (l : List Nat) (c : Nat) : Builtin.Str.occurrences ⟨l.toArray⟩ ⟨#[c]⟩ 0 l.length 1 = match l.idxOf? c with | some i => [i] | none => [] := by
  have hlen : (Str.length ⟨l.toArray⟩) = l.length := str_len l
  have at_ : ∀ i, PySem.StrLaws.At ⟨l.toArray⟩ ⟨#[c]⟩ (Str.length ⟨l.toArray⟩) i ↔ l[i]? = some c := fun i => by
    have h := PySem.StrLaws.subAt_one ⟨l.toArray⟩ c i
    simpa [PySem.StrLaws.At] using h
  have h := PySem.StrLaws.occ_head ⟨l.toArray⟩ ⟨#[c]⟩ 1 (Nat.le_refl 1)
  rw [hlen] at h
  rw [hlen] at at_
  rcases h with ⟨h1, h2⟩ | ⟨i, r, h1, h2, h3⟩
  · have e : l.idxOf? c = none := by
      rw [List.idxOf?_eq_none_iff]
      intro m
      obtain ⟨i, hi⟩ := List.mem_iff_getElem?.mp m
      exact h2 i ((at_ i).mpr hi)
    rw [h1, e]
  · have hl := PySem.StrLaws.occ_length_le ⟨l.toArray⟩ ⟨#[c]⟩ 0 l.length 1
    rw [h1] at hl ⊢
    have hr : r = [] := by
      cases r with
      | nil => rfl
      | cons a r => simp at hl
    subst hr
    have hi := (at_ i).mp h2
    have e : l.idxOf? c = some i := by
      unfold List.idxOf?
      rw [List.findIdx?_eq_some_iff_getElem]
      obtain ⟨hlt, hg⟩ := List.getElem?_eq_some_iff.mp hi
      refine ⟨hlt, by simp [hg], fun j hj => ?_⟩
      have := h3 j hj
      rw [at_ j] at this
      simp only [beq_iff_eq]
      intro z
      exact this (by rw [List.getElem?_eq_getElem (by omega), z])
    rw [e]
theorem findD_one (l : List Nat) (c : Nat) : findD ⟨l.toArray⟩ (tx [c]) = .ok (.int (match l.idxOf? c with | some i => (i : Int) | none => -1)) := by
  unfold findD Txt.find
  have e : (Str.length ⟨l.toArray⟩) = l.length := str_len l
  simp only [e]
  rw [occ_one]
  cases l.idxOf? c <;> rfl
theorem sindexD_one (l : List Nat) (c : Nat) {i : Nat} (h : l.idxOf? c = some i) : sindexD ⟨l.toArray⟩ (tx [c]) = .ok (.int (i : Nat)) := by
  unfold sindexD
  have e : (Str.length ⟨l.toArray⟩) = l.length := str_len l
  simp only [e]
  rw [occ_one, h]
end
end Wm

set_option Elab.async false
set_option linter.all false
set_option maxRecDepth 100000
/-! WmSim4: rewriting rules for WmOps4. -/
namespace Wm
open PySem PySem.Spec PyProof.Rows L2
section
variable (ρ : En) (d : D) (ds : List D) (c : Str) (fs : List (Str × D))
def kCallD (n : Nat) (dds : List D) (g : List D → Rs D) (ds : List D) : Rs D := if ds.length + dds.length = n then g (ds ++ dds) else .bad
@[simp] theorem at_eCallD (n : Nat) (dds : List D) (g : List D → Rs D) (f : En → Rs (List D)) : eCallD n dds g f ρ = f ρ >>= kCallD n dds g := nrfl rfl
@[simp] theorem kCallD_ok (n : Nat) (dds : List D) (g : List D → Rs D) : kCallD n dds g ds = if ds.length + dds.length = n then g (ds ++ dds) else .bad := nrfl rfl
@[simp] theorem at_sBad : sBad ρ = .bad := nrfl rfl
@[simp] theorem addL_l (a b : List D) : addL (.list a) (.list b) = if a.length + b.length ≤ 16777216 then .ok (.list (a ++ b)) else .bad := by
  unfold addL; simp only [sizeLine_eq]
def slMK (r : Rs D) (lo hi : En → Rs (Option Int)) (ρ : En) : Rs D := r >>= fun d => lo ρ >>= fun l => hi ρ >>= fun h => slM d l h
def slMK' (d : D) (r : Rs (Option Int)) (hi : En → Rs (Option Int)) (ρ : En) : Rs D := r >>= fun l => hi ρ >>= fun h => slM d l h
def slMK'' (d : D) (l : Option Int) (r : Rs (Option Int)) : Rs D := r >>= fun h => slM d l h
@[simp] theorem at_eSlM (f : En → Rs D) (lo hi : En → Rs (Option Int)) : eSlM f lo hi ρ = slMK (f ρ) lo hi ρ := nrfl rfl
@[simp] theorem slMK_ok (lo hi : En → Rs (Option Int)) : slMK (.ok d) lo hi ρ = slMK' d (lo ρ) hi ρ := nrfl rfl
@[simp] theorem slMK'_ok (l : Option Int) (hi : En → Rs (Option Int)) : slMK' d (.ok l) hi ρ = slMK'' d l (hi ρ) := nrfl rfl
@[simp] theorem slMK''_ok (l h : Option Int) : slMK'' d l (.ok h) = slM d l h := nrfl rfl
@[simp] theorem slM_l (lo hi : Option Int) : slM (.list ds) lo hi = .ok (.list (cutL ds lo hi)) := nrfl rfl
def oRevK (i : Nat) (o : Option (List D)) (ρ : En) : Out := oL o fun ds => .nx (ρ.set i (some (.list ds.reverse)))
@[simp] theorem at_sRev (i : Nat) : sRev i ρ = oRevK i (getL ρ i) ρ := nrfl rfl
@[simp] theorem oRevK_ok (i : Nat) : oRevK i (some ds) ρ = .nx (ρ.set i (some (.list ds.reverse))) := nrfl rfl
def oItm (i : Nat) (r : Rs D) (fi : En → Rs D) (ρ : En) : Out := oBind r ρ fun d => oL (getL ρ i) fun ds => oBind (fi ρ) ρ (itK i ρ d ds)
def oItm' (i : Nat) (d : D) (o : Option (List D)) (fi : En → Rs D) (ρ : En) : Out := oL o fun ds => oBind (fi ρ) ρ (itK i ρ d ds)
def oItm'' (i : Nat) (d : D) (ds : List D) (r : Rs D) (ρ : En) : Out := oBind r ρ (itK i ρ d ds)
def setI {α : Type} (l : List α) (z : Int) (d : α) : Option (List α) := match ixN l.length z with
  | some j => some (l.set j d)
  | none => none
@[simp] theorem at_sItm (i : Nat) (fi fe : En → Rs D) : sItm i fi fe ρ = oItm i (fe ρ) fi ρ := nrfl rfl
@[simp] theorem oItm_ok (i : Nat) (fi : En → Rs D) : oItm i (.ok d) fi ρ = oItm' i d (getL ρ i) fi ρ := nrfl rfl
@[simp] theorem oItm'_ok (i : Nat) (fi : En → Rs D) : oItm' i d (some ds) fi ρ = oItm'' i d ds (fi ρ) ρ := nrfl rfl
@[simp] theorem oItm''_ok (i : Nat) (z : Int) : oItm'' i d ds (.ok (.int z)) ρ = match setI ds z d with | some es => .nx (ρ.set i (some (.list es))) | none => .bad := by
  show (match ixN ds.length z with | some j => _ | none => _) = _
  unfold setI
  cases ixN ds.length z <;> rfl
@[simp] theorem iRev_l : iRev (.list ds) = .ok ds.reverse := nrfl rfl
@[simp] theorem iRev_t : iRev (.tuple ds) = .ok ds.reverse := nrfl rfl
@[simp] theorem iEnum_l : iEnum (.list ds) = .ok (enumFrom 0 ds) := nrfl rfl
@[simp] theorem at_eLRg (f : En → Rs D) : eLRg f ρ = f ρ >>= lrgD := nrfl rfl
@[simp] theorem lrgD_i (n : Int) : lrgD (.int n) = if n ≤ 100000 ∧ -100000 ≤ n then .ok (.list (rangeD 0 n.toNat)) else .bad := nrfl rfl
@[simp] theorem mulD_l (a : List D) (k : Int) : mulD (.list a) (.int k) = if -1000 ≤ k ∧ k ≤ 100000 ∧ a.length * k.toNat ≤ 16777216 then .ok (.list (List.replicate k.toNat a).flatten) else .bad := nrfl rfl
def stK (c : Int) (r : Rs D) (lo hi : En → Rs (Option Int)) (ρ : En) : Rs D := r >>= fun d => lo ρ >>= fun l => hi ρ >>= fun h => stD c d l h
def stK' (c : Int) (d : D) (r : Rs (Option Int)) (hi : En → Rs (Option Int)) (ρ : En) : Rs D := r >>= fun l => hi ρ >>= fun h => stD c d l h
def stK'' (c : Int) (d : D) (l : Option Int) (r : Rs (Option Int)) : Rs D := r >>= fun h => stD c d l h
@[simp] theorem at_eSt (c : Int) (f : En → Rs D) (lo hi : En → Rs (Option Int)) : eSt c f lo hi ρ = stK c (f ρ) lo hi ρ := nrfl rfl
@[simp] theorem stK_ok (c : Int) (lo hi : En → Rs (Option Int)) : stK c (.ok d) lo hi ρ = stK' c d (lo ρ) hi ρ := nrfl rfl
@[simp] theorem stK'_ok (c : Int) (l : Option Int) (hi : En → Rs (Option Int)) : stK' c d (.ok l) hi ρ = stK'' c d l (hi ρ) := nrfl rfl
@[simp] theorem stK''_ok (c : Int) (l h : Option Int) : stK'' c d l (.ok h) = stD c d l h := nrfl rfl
@[simp] theorem stD_l (c : Int) (lo hi : Option Int) : stD c (.list ds) lo hi = .ok (.list (pickL ds lo hi (some c))) := nrfl rfl
end
end Wm

set_option Elab.async false
set_option linter.all false
set_option maxRecDepth 100000
/-! WmLib: loops and places, for the mathematics. -/
namespace Wm
open PySem PySem.Spec PyProof.Rows L2
theorem atI_mem {α : Type} {l : List α} {i : Int} (h0 : 0 ≤ i) (h1 : i < l.length) : ∃ x, atI l i = some x ∧ x ∈ l ∧ l[i.toNat]? = some x := by
  obtain ⟨n, rfl⟩ : ∃ n : Nat, i = (n : Int) := ⟨i.toNat, by omega⟩
  have hl : n < l.length := by omega
  refine ⟨l[n], ?_, List.getElem_mem hl, by simp [hl]⟩
  rw [atI_n]
  simp [hl]
theorem fmod_range (a : Int) {b : Int} (h : 0 < b) : 0 ≤ a.fmod b ∧ a.fmod b < b := by
  rw [Int.fmod_eq_emod_of_nonneg _ (by omega)]
  exact ⟨Int.emod_nonneg _ (by omega), Int.emod_lt_of_pos _ h⟩
theorem fdiv_nonneg {a b : Int} (h : 0 ≤ a) (h' : 0 < b) : 0 ≤ a.fdiv b := by
  rw [Int.fdiv_eq_ediv_of_nonneg _ (by omega)]
  exact Int.ediv_nonneg h (by omega)
/-- a loop that goes through -/
theorem forL_go {tg : D → En → Rs En} {body : En → Out} (P : En → Prop) : ∀ {ds : List D} {ρ : En}, P ρ → (∀ d ∈ ds, ∀ ρ, P ρ → ∃ ρ1 ρ2, tg d ρ = .ok ρ1 ∧ (body ρ1 = .nx ρ2 ∨ body ρ1 = .ct ρ2) ∧ P ρ2) → ∃ ρ', forL tg body ds ρ = .nx ρ' ∧ P ρ'
  | [], ρ, h, _ => ⟨ρ, rfl, h⟩
  | d :: ds, ρ, h, hs => by
    obtain ⟨ρ1, ρ2, h1, h2, h3⟩ := hs d List.mem_cons_self ρ h
    obtain ⟨ρ', h4, h5⟩ := forL_go P (ds := ds) h3 fun d' hd => hs d' (List.mem_cons_of_mem _ hd)
    refine ⟨ρ', ?_, h5⟩
    show oStore (tg d ρ) _ = _
    rw [h1, oStore_ok]
    rcases h2 with h2 | h2
    · rw [h2, oLoop_nx, h4]
    · rw [h2, oLoop_ct, h4]
@[simp] theorem forL_nil (tg : D → En → Rs En) (body : En → Out) (ρ : En) : forL tg body [] ρ = .nx ρ := nrfl rfl
theorem forL_cons (tg : D → En → Rs En) (body : En → Out) (d : D) (ds : List D) (ρ : En) : forL tg body (d :: ds) ρ = oStore (tg d ρ) fun ρ1 => oLoop (body ρ1) (forL tg body ds) := nrfl rfl
theorem forL_name (i : Nat) (body : En → Out) (d : D) (ds : List D) (ρ : En) : forL (gNm i) body (d :: ds) ρ = oLoop (body (ρ.set i (some d))) (forL (gNm i) body ds) := nrfl rfl
/-- what came of a reckoning -/
def isStr (r : Rs D) (l : List Nat) : Bool := match r with
  | .ok (.str s) => s.cps.toList == l
  | _ => false
theorem isStr_eq {r : Rs D} {l : List Nat} (h : isStr r l = true) : r = .ok (tx l) := by
  unfold isStr at h
  split at h
  · rename_i s
    have e : s.cps.toList = l := by simpa using h
    subst e
    simp [tx]
  · cases h
def runK (o : Out) : Rs D := match o with
  | .nx _ => .ok .none
  | .rt d => .ok d
  | .ex c fs _ => .ex c fs
  | _ => .bad
theorem runF_eq (n : Nat) (f : En → Out) (ds : List D) : runF n f ds = runK (f (ds.map some ++ List.replicate (n - ds.length) none)) := rfl
@[simp] theorem runK_nx (ρ : En) : runK (.nx ρ) = .ok .none := nrfl rfl
@[simp] theorem runK_rt (d : D) : runK (.rt d) = .ok d := nrfl rfl
@[simp] theorem runK_ex (c : Str) (fs : List (Str × D)) (ρ : En) : runK (.ex c fs ρ) = .ex c fs := nrfl rfl
def tyK (T : String) (t : String) : Option Bool := kitB t T
theorem kit_str_str : kitB "str" "str" = some true := by decide +kernel
theorem kit_none_str : kitB "NoneType" "str" = some false := by decide +kernel
@[simp] theorem isiD_str_s (a : Str) : isiD "str" (.str a) = .ok (.bool true) := by
  unfold isiD
  rw [if_neg (show ¬ exB (.str a) = true from Bool.false_ne_true), show tyD (.str a) = "str" from rfl, kit_str_str]
@[simp] theorem isiD_str_n : isiD "str" .none = .ok (.bool false) := by
  unfold isiD
  rw [if_neg (show ¬ exB .none = true from Bool.false_ne_true), show tyD .none = "NoneType" from rfl, kit_none_str]
/-! ### joined, repeated -/
def joinL (s : List Nat) : List (List Nat) → List Nat
  | [] => []
  | [x] => x
  | x :: y :: r => x ++ s ++ joinL s (y :: r)
theorem strJoin_tx (s : List Nat) : ∀ ls : List (List Nat), Str.join ⟨s.toArray⟩ (ls.map fun l => ⟨l.toArray⟩) = ⟨(joinL s ls).toArray⟩
  | [] => rfl
  | [x] => rfl
  | x :: y :: r => by
    have ih := strJoin_tx s (y :: r)
    show Str.mk _ ++ Str.mk _ ++ Str.join _ ((y :: r).map fun l => ⟨l.toArray⟩) = _
    rw [ih]
    apply Str.ext'
    simp [Str.cps_append, joinL]
theorem joinL_nil : ∀ ls : List (List Nat), joinL [] ls = ls.flatten
  | [] => rfl
  | [x] => by simp [joinL]
  | x :: y :: r => by rw [joinL, joinL_nil (y :: r)]; simp
theorem strsOf_tx : ∀ ls : List (List Nat), strsOf (ls.map tx) = some (ls.map fun l => ⟨l.toArray⟩)
  | [] => rfl
  | x :: r => by
    show (strsOf (r.map tx)).map _ = _
    rw [strsOf_tx r]
    rfl
theorem joinS_tx (s : List Nat) (ls : List (List Nat)) (h : (ls.map List.length).sum + ls.length * s.length ≤ 16777216) : joinS ⟨s.toArray⟩ (ls.map tx) = .ok (tx (joinL s ls)) := by
  unfold joinS
  rw [strsOf_tx]
  simp only
  rw [if_pos]
  · rw [show Txt.join ⟨s.toArray⟩ (ls.map fun l => ⟨l.toArray⟩) = Str.join ⟨s.toArray⟩ (ls.map fun l => ⟨l.toArray⟩) from StrLaws.glued_eq_join _ _, strJoin_tx]
  · rw [List.map_map, List.length_map]
    have e : ((fun x => Str.length x) ∘ fun l : List Nat => Str.mk l.toArray) = List.length := by funext l; simp [Str.length]
    rw [e]
    simpa [Str.length] using h
theorem sum_ones : ∀ l : List Nat, ((l.map fun c => [c]).map List.length).sum = l.length
  | [] => rfl
  | c :: l => by
    have := sum_ones l
    simp only [List.map_cons, List.sum_cons, List.length_cons, List.length_nil, this]
    omega
theorem joinD_signs (l : List Nat) (h : l.length ≤ 16777216) : joinD ⟨#[]⟩ (.list (l.map fun c => tx [c])) = .ok (tx l) := by
  have := joinS_tx [] (l.map fun c => [c]) (by rw [sum_ones]; simp; omega)
  rw [List.map_map, joinL_nil] at this
  have e : ∀ l : List Nat, (l.map fun c => [c]).flatten = l := fun l => by
    induction l with
    | nil => rfl
    | cons c l ih => show c :: (l.map fun c => [c]).flatten = _; rw [ih]
  rw [e] at this
  exact this
theorem mulD_s (a : List Nat) (k : Int) (h : a.length * k.toNat ≤ 16777216) (h1 : k ≤ 16777216) (h2 : -1000 ≤ k) : mulD (tx a) (.int k) = .ok (tx (List.replicate k.toNat a).flatten) := by
  show (if _ then _ else _) = _
  have hl : Str.length ⟨a.toArray⟩ = a.length := by simp [Str.length]
  rw [if_pos (by rw [hl]; exact ⟨h, h1, h2⟩)]
  unfold Txt.mul
  by_cases c : k < 1
  · rw [if_pos c, show k.toNat = 0 by omega]; rfl
  · rw [if_neg c]
    by_cases c2 : (k == 1 || Str.length ⟨a.toArray⟩ == 0) = true
    · rw [if_pos c2]
      rw [hl] at c2
      simp at c2
      rcases c2 with rfl | rfl
      · simp
      · simp
    · rw [if_neg c2]
      have f0 : ∀ (m : Nat) (acc : Array Nat), List.foldl (fun x1 x2 => x1 ++ x2) acc (List.replicate m a.toArray) = (acc.toList ++ (List.replicate m a).flatten).toArray := by
        intro m
        induction m with
        | zero => intro acc; simp
        | succ m ih => intro acc; rw [List.replicate_succ, List.foldl_cons, ih]; simp [List.replicate_succ]
      rw [f0]
      simp
@[simp] theorem mulD_t (a : List D) (k : Int) : mulD (.tuple a) (.int k) = if -1000 ≤ k ∧ k ≤ 1000 ∧ a.length ≤ 1000 then .ok (.tuple (List.replicate k.toNat a).flatten) else .bad := nrfl rfl
/-! ### comprehensions -/
@[simp] theorem wipeE_nil (ρ : En) : wipeE ρ [] = ρ := nrfl rfl
@[simp] theorem wipeE_cons (ρ : En) (v : Nat) (vs : List Nat) : wipeE ρ (v :: vs) = (wipeE ρ vs).set v none := nrfl rfl
theorem lcL_nil (tg : D → En → Rs En) (cond : En → Rs Bool) (elt : En → Rs D) (ρ0 : En) : lcL tg cond elt ρ0 [] = .ok [] := rfl
theorem lcL_cons (tg : D → En → Rs En) (cond : En → Rs Bool) (elt : En → Rs D) (ρ0 : En) (d : D) (ds : List D) : lcL tg cond elt ρ0 (d :: ds) = (noEx (tg d ρ0) >>= fun ρ1 => noEx (cond ρ1) >>= fun b => if b = true then noEx (elt ρ1) >>= fun y => lcL tg cond elt ρ0 ds >>= fun ys => .ok (y :: ys) else lcL tg cond elt ρ0 ds) := rfl
theorem lcL_map {α : Type} {tg : D → En → Rs En} {cond : En → Rs Bool} {elt : En → Rs D} {ρ0 : En} (h : α → D) (g : α → D) : ∀ {xs : List α}, (∀ x ∈ xs, ∃ ρ1, tg (h x) ρ0 = .ok ρ1 ∧ cond ρ1 = .ok true ∧ elt ρ1 = .ok (g x)) → lcL tg cond elt ρ0 (xs.map h) = .ok (xs.map g)
  | [], _ => rfl
  | x :: xs, hs => by
    obtain ⟨ρ1, h1, h2, h3⟩ := hs x List.mem_cons_self
    rw [List.map_cons, lcL_cons, h1, noEx_ok, ok_bind, h2, noEx_ok, ok_bind, if_pos rfl, h3, noEx_ok, ok_bind, lcL_map h g fun z hz => hs z (List.mem_cons_of_mem _ hz)]
    rfl
theorem lcL_filter {α : Type} {tg : D → En → Rs En} {cond : En → Rs Bool} {elt : En → Rs D} {ρ0 : En} (h : α → D) (p : α → Bool) (g : α → D) : ∀ {xs : List α}, (∀ x ∈ xs, ∃ ρ1, tg (h x) ρ0 = .ok ρ1 ∧ cond ρ1 = .ok (p x) ∧ (p x = true → elt ρ1 = .ok (g x))) → lcL tg cond elt ρ0 (xs.map h) = .ok ((xs.filter p).map g)
  | [], _ => rfl
  | x :: xs, hs => by
    obtain ⟨ρ1, h1, h2, h3⟩ := hs x List.mem_cons_self
    rw [List.map_cons, lcL_cons, h1, noEx_ok, ok_bind, h2, noEx_ok, ok_bind, List.filter_cons]
    have ih := lcL_filter (xs := xs) h p g fun z hz => hs z (List.mem_cons_of_mem _ hz)
    cases hp : p x with
    | true => rw [if_pos rfl, if_pos rfl, h3 hp, noEx_ok, ok_bind, ih]; rfl
    | false => rw [if_neg (by simp), if_neg (by simp), ih]
/-! ### while -/
@[simp] theorem at_sWhile (c : En → Rs Bool) (b : En → Out) (ρ : En) : sWhile c b ρ = whileL c b fuelW ρ := nrfl rfl
theorem whileL_t {c : En → Rs Bool} {b : En → Out} {n : Nat} {ρ : En} (h : c ρ = .ok true) : whileL c b (n + 1) ρ = oLoop (b ρ) (whileL c b n) := by
  show oBindB (c ρ) ρ _ = _
  rw [h]
  rfl
theorem whileL_f {c : En → Rs Bool} {b : En → Out} {n : Nat} {ρ : En} (h : c ρ = .ok false) : whileL c b (n + 1) ρ = .nx ρ := by
  show oBindB (c ρ) ρ _ = _
  rw [h]
  rfl
theorem atI_mid {α : Type} (p : List α) (c : α) (r : List α) : atI (p ++ c :: r) (p.length : Int) = some c := by
  rw [atI_n]; simp
theorem cutL_mid' {α : Type} (l : List α) (a b : Nat) (x y : Int) (hx : x = a) (hy : y = b) : cutL l (some x) (some y) = (l.take b).drop a := by
  subst hx hy; exact cutL_mid l a b
theorem take_mid {α : Type} (p : List α) (r : List α) (k : Nat) : (p ++ r).take (p.length + k) = p ++ r.take k := by
  rw [List.take_append, List.take_of_length_le (by omega), Nat.add_sub_cancel_left]
@[simp] theorem cutL_lits {α : Type} (l : List α) (a b : Nat) : cutL l (some (no_index (OfNat.ofNat a : Int))) (some (no_index (OfNat.ofNat b : Int))) = (l.take (OfNat.ofNat b)).drop (OfNat.ofNat a) := cutL_mid l a b
@[simp] theorem cutL_1lit {α : Type} (l : List α) (b : Nat) : cutL l (some 1) (some (no_index (OfNat.ofNat b : Int))) = (l.take (OfNat.ofNat b)).drop 1 := cutL_mid l 1 b
theorem forL_append {tg : D → En → Rs En} {body : En → Out} : ∀ {a : List D} {c : List D} {ρ ρ' : En}, forL tg body a ρ = .nx ρ' → (∀ d ∈ a, ∀ ρ, ∃ ρ1, tg d ρ = .ok ρ1) → (∀ ρ ρ1, body ρ ≠ .bk ρ1) → forL tg body (a ++ c) ρ = forL tg body c ρ'
  | [], c, ρ, ρ', h, _, _ => by cases h; rfl
  | d :: a, c, ρ, ρ', h, ht, hb => by
    obtain ⟨ρ1, e1⟩ := ht d List.mem_cons_self ρ
    rw [List.cons_append, forL_cons, e1, oStore_ok]
    rw [forL_cons, e1, oStore_ok] at h
    cases hbd : body ρ1 with
    | nx ρ2 => rw [hbd, oLoop_nx] at h; rw [oLoop_nx]; exact forL_append h (fun z hz => ht z (List.mem_cons_of_mem _ hz)) hb
    | ct ρ2 => rw [hbd, oLoop_ct] at h; rw [oLoop_ct]; exact forL_append h (fun z hz => ht z (List.mem_cons_of_mem _ hz)) hb
    | bk ρ2 => exact absurd hbd (hb _ _)
    | rt d => rw [hbd] at h; cases h
    | ex c fs ρ2 => rw [hbd] at h; cases h
    | bad => rw [hbd] at h; cases h
    | rx d ρ2 => rw [hbd] at h; cases h
/-- one turn more at the end -/
theorem forL_snoc {i : Nat} {body : En → Out} : ∀ {a : List D} {d : D} {ρ ρ' : En}, forL (gNm i) body a ρ = .nx ρ' → (∀ ρ ρ1, body ρ ≠ .bk ρ1) → forL (gNm i) body (a ++ [d]) ρ = oLoop (body (ρ'.set i (some d))) .nx := fun h hb => by
  rw [forL_append h (fun _ _ _ => ⟨_, rfl⟩) hb, forL_name]
  rfl
theorem kit_tup : kitB "tuple" "tuple" = some true := by decide +kernel
theorem kit_bool : kitB "bool" "bool" = some true := by decide +kernel
@[simp] theorem isiD_tup (a : List D) : isiD "tuple" (.tuple a) = .ok (.bool true) := by
  unfold isiD
  rw [if_neg (show ¬ exB (.tuple a) = true from Bool.false_ne_true), show tyD (.tuple a) = "tuple" from rfl, kit_tup]
@[simp] theorem isiD_bool (a : Bool) : isiD "bool" (.bool a) = .ok (.bool true) := by
  unfold isiD
  rw [if_neg (show ¬ exB (.bool a) = true from Bool.false_ne_true), show tyD (.bool a) = "bool" from rfl, kit_bool]
theorem rangeD_succ (lo : Int) (n : Nat) : rangeD lo (n + 1) = rangeD lo n ++ [.int (lo + n)] := by
  unfold rangeD
  rw [List.range_succ]
  simp
@[simp] theorem get0 {α : Type} (a : α) (l : List α) : (a :: l)[0]? = some a := rfl
@[simp] theorem get1 {α : Type} (a b : α) (l : List α) : (a :: b :: l)[1]? = some b := rfl
@[simp] theorem get2 {α : Type} (a b c : α) (l : List α) : (a :: b :: c :: l)[2]? = some c := rfl
@[simp] theorem get3 {α : Type} (a b c d : α) (l : List α) : (a :: b :: c :: d :: l)[3]? = some d := rfl
@[simp] theorem get4 {α : Type} (a b c d e : α) (l : List α) : (a :: b :: c :: d :: e :: l)[4]? = some e := rfl
@[simp] theorem get5 {α : Type} (a b c d e f : α) (l : List α) : (a :: b :: c :: d :: e :: f :: l)[5]? = some f := rfl
@[simp] theorem get6 {α : Type} (a b c d e f g : α) (l : List α) : (a :: b :: c :: d :: e :: f :: g :: l)[6]? = some g := rfl
theorem rangeD_cons (lo : Int) (n : Nat) : rangeD lo (n + 1) = .int lo :: rangeD (lo + 1) n := by
  unfold rangeD
  rw [List.range_succ_eq_map, List.map_cons, List.map_map]
  congr 1
  · simp
  · apply List.map_congr_left
    intro i _
    simp
    omega
theorem kit_int_bool : kitB "int" "bool" = some false := by decide +kernel
theorem kit_int_int : kitB "int" "int" = some true := by decide +kernel
@[simp] theorem isiD_int_bool (a : Int) : isiD "bool" (.int a) = .ok (.bool false) := by
  unfold isiD
  rw [if_neg (show ¬ exB (.int a) = true from Bool.false_ne_true), show tyD (.int a) = "int" from rfl, kit_int_bool]
@[simp] theorem isiD_int_int (a : Int) : isiD "int" (.int a) = .ok (.bool true) := by
  unfold isiD
  rw [if_neg (show ¬ exB (.int a) = true from Bool.false_ne_true), show tyD (.int a) = "int" from rfl, kit_int_int]
end Wm

set_option Elab.async false
set_option linter.all false
set_option maxRecDepth 100000
/-! WmEq: == of lists and tuples. -/
namespace Wm
open PySem PySem.Spec PyProof.Rows L2
def eqR (d e : D) : Rs D := if SeqAt.shaped d && SeqAt.shaped e then .ok (.bool (PyData.eqv d e)) else .bad
def neR (d e : D) : Rs D := if SeqAt.shaped d && SeqAt.shaped e then .ok (.bool !(PyData.eqv d e)) else .bad
theorem eqD_R (d e : D) (h : eqB d e = if SeqAt.shaped d && SeqAt.shaped e then some (PyData.eqv d e) else none) : eqD d e = eqR d e := by
  unfold eqD eqR; rw [h]
  by_cases c : (SeqAt.shaped d && SeqAt.shaped e) = true
  · rw [if_pos c, if_pos c]
  · rw [if_neg c, if_neg c]
theorem neD_R (d e : D) (h : eqB d e = if SeqAt.shaped d && SeqAt.shaped e then some (PyData.eqv d e) else none) : neD d e = neR d e := by
  unfold neD neR; rw [h]
  by_cases c : (SeqAt.shaped d && SeqAt.shaped e) = true
  · rw [if_pos c, if_pos c]
  · rw [if_neg c, if_neg c]
@[simp] theorem eqD_tt (xs ys : List D) : eqD (.tuple xs) (.tuple ys) = eqR (.tuple xs) (.tuple ys) := eqD_R _ _ rfl
@[simp] theorem eqD_ll (xs ys : List D) : eqD (.list xs) (.list ys) = eqR (.list xs) (.list ys) := eqD_R _ _ rfl
@[simp] theorem neD_tt (xs ys : List D) : neD (.tuple xs) (.tuple ys) = neR (.tuple xs) (.tuple ys) := neD_R _ _ rfl
@[simp] theorem neD_ll (xs ys : List D) : neD (.list xs) (.list ys) = neR (.list xs) (.list ys) := neD_R _ _ rfl
@[simp] theorem eqD_tn (xs : List D) : eqD (.tuple xs) .none = eqR (.tuple xs) .none := eqD_R _ _ rfl
@[simp] theorem eqD_nt (xs : List D) : eqD .none (.tuple xs) = eqR .none (.tuple xs) := eqD_R _ _ rfl
@[simp] theorem neD_tn (xs : List D) : neD (.tuple xs) .none = neR (.tuple xs) .none := neD_R _ _ rfl
@[simp] theorem neD_nt (xs : List D) : neD .none (.tuple xs) = neR .none (.tuple xs) := neD_R _ _ rfl
@[simp] theorem eqD_ln (xs : List D) : eqD (.list xs) .none = eqR (.list xs) .none := eqD_R _ _ rfl
@[simp] theorem eqD_nl (xs : List D) : eqD .none (.list xs) = eqR .none (.list xs) := eqD_R _ _ rfl
/-- what may stand in a comparison: depth at most k, texts of signs -/
def shp (k : Nat) (d : D) : Prop := d.canLay0 = true ∧ d.depth ≤ k
def shpAll (k : Nat) (ds : List D) : Prop := PyData.canLayAll0 ds = true ∧ PyData.depthAll ds ≤ k
theorem shp_shaped {k : Nat} {d : D} (h : shp k d) (hk : k ≤ 64 := by decide) : SeqAt.shaped d = true := by
  unfold SeqAt.shaped
  rw [h.1, decide_eq_true (Nat.le_trans h.2 hk)]; rfl
theorem eqR_ok {k j : Nat} {d e : D} (h : shp k d) (h' : shp j e) (hk : k ≤ 64 := by decide) (hj : j ≤ 64 := by decide) : eqR d e = .ok (.bool (PyData.eqv d e)) := by
  unfold eqR
  rw [shp_shaped h hk, shp_shaped h' hj]; rfl
theorem neR_ok {k j : Nat} {d e : D} (h : shp k d) (h' : shp j e) (hk : k ≤ 64 := by decide) (hj : j ≤ 64 := by decide) : neR d e = .ok (.bool !(PyData.eqv d e)) := by
  unfold neR
  rw [shp_shaped h hk, shp_shaped h' hj]; rfl
theorem shp_none {k : Nat} : shp k .none := ⟨rfl, Nat.zero_le _⟩
theorem shp_bool {k : Nat} {b : Bool} : shp k (.bool b) := ⟨rfl, Nat.zero_le _⟩
theorem shp_int {k : Nat} {b : Int} : shp k (.int b) := ⟨rfl, Nat.zero_le _⟩
theorem shp_tuple {k : Nat} {ds : List D} (h : shpAll k ds) : shp (k + 1) (.tuple ds) := ⟨by rw [PyData.canLay0]; exact h.1, by rw [PyData.depth]; exact Nat.succ_le_succ h.2⟩
theorem shp_list {k : Nat} {ds : List D} (h : shpAll k ds) : shp (k + 1) (.list ds) := ⟨by rw [PyData.canLay0]; exact h.1, by rw [PyData.depth]; exact Nat.succ_le_succ h.2⟩
theorem shpAll_nil {k : Nat} : shpAll k [] := ⟨rfl, Nat.zero_le _⟩
theorem shpAll_cons {k : Nat} {d : D} {ds : List D} (h : shp k d) (h' : shpAll k ds) : shpAll k (d :: ds) := ⟨by rw [PyData.canLayAll0, h.1, h'.1]; rfl, by rw [PyData.depthAll]; exact Nat.max_le.mpr ⟨h.2, h'.2⟩⟩
theorem shpAll_of {k : Nat} : ∀ {ds : List D}, (∀ d ∈ ds, shp k d) → shpAll k ds
  | [], _ => shpAll_nil
  | d :: ds, h => shpAll_cons (h d List.mem_cons_self) (shpAll_of fun z hz => h z (List.mem_cons_of_mem _ hz))
theorem shp_tx {k : Nat} {l : List Nat} (h : ∀ c ∈ l, c < 128) : shp k (tx l) := by
  refine ⟨?_, Nat.zero_le _⟩
  rw [PyData.canLay0]
  show (l.toArray).all (· < 0x110000) = true
  rw [List.all_toArray, List.all_eq_true]
  intro c hc
  have := h c hc
  exact decide_eq_true (by omega)
theorem shpAll_txs {k : Nat} {ls : List (List Nat)} (h : ∀ l ∈ ls, ∀ c ∈ l, c < 128) : shpAll k (ls.map tx) := shpAll_of fun d hd => by
  obtain ⟨l, hl, rfl⟩ := List.mem_map.mp hd
  exact shp_tx (h l hl)
theorem eqv_tx (a b : List Nat) : PyData.eqv (tx a) (tx b) = decide (a = b) := by
  show ((⟨a.toArray⟩ : Str) == ⟨b.toArray⟩) = _
  rw [Bool.eq_iff_iff]
  simp
theorem eqvAll_txs : ∀ a b : List (List Nat), PyData.eqvAll (a.map tx) (b.map tx) = decide (a = b)
  | [], [] => rfl
  | [], _ :: _ => rfl
  | _ :: _, [] => rfl
  | x :: xs, y :: ys => by
    show (PyData.eqv (tx x) (tx y) && PyData.eqvAll (xs.map tx) (ys.map tx)) = _
    rw [eqv_tx, eqvAll_txs xs ys]
    simp
theorem eqvAll_nil_cons (x : D) (xs : List D) : PyData.eqvAll [] (x :: xs) = false := rfl
theorem eqvAll_cons_nil (x : D) (xs : List D) : PyData.eqvAll (x :: xs) [] = false := rfl
/-- == [] -/
theorem eqD_nil {k : Nat} {ds : List D} (h : shpAll k ds) (hk : k ≤ 63 := by decide) : eqD (.list ds) (.list []) = .ok (.bool ds.isEmpty) := by
  rw [eqD_ll, eqR_ok (shp_list h) (shp_list (shpAll_nil (k := k))) (by omega) (by omega)]
  cases ds <;> rfl
theorem neD_nil {k : Nat} {ds : List D} (h : shpAll k ds) (hk : k ≤ 63 := by decide) : neD (.list ds) (.list []) = .ok (.bool !ds.isEmpty) := by
  rw [neD_ll, neR_ok (shp_list h) (shp_list (shpAll_nil (k := k))) (by omega) (by omega)]
  cases ds <;> rfl
mutual
theorem eqv_refl : ∀ d : D, d.canLay0 = true → PyData.eqv d d = true
  | .none, _ => rfl
  | .bool b, _ => by show (b == b) = true; simp
  | .int b, _ => by show (b == b) = true; simp
  | .str b, _ => by show (b == b) = true; simp
  | .list ds, h => by rw [PyData.canLay0] at h; show PyData.eqvAll ds ds = true; exact eqvAll_refl ds h
  | .tuple ds, h => by rw [PyData.canLay0] at h; show PyData.eqvAll ds ds = true; exact eqvAll_refl ds h
  | .dict ds, h => by rw [PyData.canLay0] at h; cases h
theorem eqvAll_refl : ∀ ds : List D, PyData.canLayAll0 ds = true → PyData.eqvAll ds ds = true
  | [], _ => rfl
  | d :: ds, h => by
    rw [PyData.canLayAll0, Bool.and_eq_true] at h
    show (PyData.eqv d d && PyData.eqvAll ds ds) = true
    rw [eqv_refl d h.1, eqvAll_refl ds h.2]
    rfl
end
theorem eqR_refl {k : Nat} {d : D} (h : shp k d) (hk : k ≤ 64 := by decide) : eqR d d = .ok (.bool true) := by
  rw [eqR_ok h h hk hk, eqv_refl d h.1]
theorem neR_refl {k : Nat} {d : D} (h : shp k d) (hk : k ≤ 64 := by decide) : neR d d = .ok (.bool false) := by
  rw [neR_ok h h hk hk, eqv_refl d h.1]; rfl
end Wm

set_option Elab.async false
set_option linter.all false
set_option maxRecDepth 100000
set_option maxHeartbeats 4000000
namespace Wp
open PySem PySem.Spec PyProof.Rows L2 Wm
def k_SIXTEEN : D := (tx [48, 49, 50, 51, 52, 53, 54, 55, 56, 57, 97, 98, 99, 100, 101, 102])
def f_pair_of : En → Out :=
  (sSeq (sUnp (gTp 2 (gsCons (gNm 1) (gsCons (gNm 2) gsNil))) (eBlt divmodD (aCons (eBlt ordD (aCons (eVar 0) aNil)) (aCons (eC (.int 16)) aNil))))
    (sRet (e2 addD (e2 addD (eC (tx [126])) (e2 ixD (eC k_SIXTEEN) (eVar 1))) (e2 ixD (eC k_SIXTEEN) (eVar 2)))))
def g_pair_of : List D → Rs D := runF 3 f_pair_of
def k_PLAIN : D := (tx [97, 98, 99, 100, 101, 102, 103, 104, 105, 106, 107, 108, 109, 110, 111, 112, 113, 114, 115, 116, 117, 118, 119, 120, 121, 122, 65, 66, 67, 68, 69, 70, 71, 72, 73, 74, 75, 76, 77, 78, 79, 80, 81, 82, 83, 84, 85, 86, 87, 88, 89, 90, 48, 49, 50, 51, 52, 53, 54, 55, 56, 57, 45, 95, 46])
def b_written_1 : En → Out :=
  (sIf (tB (e2 inD (eVar 2) (eC k_PLAIN)))
      (sAug 1 addI (eVar 2))
      (sAug 1 addI (eCall 1 g_pair_of (aCons (eVar 2) aNil))))
def f_written : En → Out :=
  (sSeq (sSet 1 (eC (tx [])))
    (sSeq (sFor (eIt iSeq (eVar 0)) (gNm 2)
      b_written_1)
    (sRet (eVar 1))))
def g_written : List D → Rs D := runF 3 f_written
def f__law_cell_at : En → Out :=
  (sSeq (sIf (tB (e2 ltD (eVar 1) (eBlt lenD (aCons (eVar 0) aNil))))
      (sRet (e2 ixD (eVar 0) (eVar 1)))
      sNx)
    (sRet (eC (.int 0))))
def g__law_cell_at : List D → Rs D := runF 2 f__law_cell_at
def f__law_table : En → Out :=
  (sSeq (sSet 0 (eC (tx [32, 33, 34, 35, 36, 38, 39, 40, 41, 42, 43, 44, 45, 46, 47, 48, 49, 50, 51, 52, 53, 54, 55, 56, 57, 58, 59, 60, 61, 62, 63, 64, 65, 66, 67, 68, 69, 70, 71, 72, 73, 74, 75, 76, 77, 78, 79, 80, 81, 82, 83, 84, 85, 86, 87, 88, 89, 90, 91, 92, 93, 94, 95, 96])))
    (sRet (e2 addD (eVar 0) (eC (tx [97, 98, 99, 100, 101, 102, 103, 104, 105, 106, 107, 108, 109, 110, 111, 112, 113, 114, 115, 116, 117, 118, 119, 120, 121, 122, 123, 124, 125, 126])))))
def g__law_table : List D → Rs D := runF 1 f__law_table
def f__law_hex : En → Out :=
  (sSeq (sSet 1 (eM1 sindexD (eCall0 g__law_table) (eVar 0)))
    (sSeq (sSet 2 (e2 addD (e2 addD (eC (.int 32)) (eVar 1)) (eBlt intD (aCons (e2 gtD (eVar 1) (eC (.int 4))) aNil))))
    (sRet (e2 addD (e2 ixD (eC (tx [48, 49, 50, 51, 52, 53, 54, 55, 56, 57, 97, 98, 99, 100, 101, 102])) (e2 fdivD (eVar 2) (eC (.int 16)))) (e2 ixD (eC (tx [48, 49, 50, 51, 52, 53, 54, 55, 56, 57, 97, 98, 99, 100, 101, 102])) (e2 modD (eVar 2) (eC (.int 16))))))))
def g__law_hex : List D → Rs D := runF 3 f__law_hex
def f__law_plain : En → Out :=
  (sRet (eOr (eM0 isalnumD (eVar 0)) (e2 inD (eVar 0) (eC (tx [45, 95, 46])))))
def g__law_plain : List D → Rs D := runF 1 f__law_plain
def b__law_written_1 : En → Out :=
  (sIf (tB (eCall 1 g__law_plain (aCons (eVar 2) aNil)))
      (sSet 1 (e2 addD (eVar 1) (eVar 2)))
      (sSet 1 (e2 addD (e2 addD (eVar 1) (eC (tx [126]))) (eCall 1 g__law_hex (aCons (eVar 2) aNil)))))
def f__law_written : En → Out :=
  (sSeq (sSet 1 (eC (tx [])))
    (sSeq (sFor (eIt iSeq (eVar 0)) (gNm 2)
      b__law_written_1)
    (sRet (eVar 1))))
def g__law_written : List D → Rs D := runF 3 f__law_written
end Wp

set_option Elab.async false
set_option linter.all false
set_option maxRecDepth 100000
set_option maxHeartbeats 4000000
namespace Wp
open PySem PySem.Spec PyProof.Rows L2 Wm
/-! ### the signs -/
def T : List Nat := [32, 33, 34, 35, 36, 38, 39, 40, 41, 42, 43, 44, 45, 46, 47, 48, 49, 50, 51, 52, 53, 54, 55, 56, 57, 58, 59, 60, 61, 62, 63, 64, 65, 66, 67, 68, 69, 70, 71, 72, 73, 74, 75, 76, 77, 78, 79, 80, 81, 82, 83, 84, 85, 86, 87, 88, 89, 90, 91, 92, 93, 94, 95, 96, 97, 98, 99, 100, 101, 102, 103, 104, 105, 106, 107, 108, 109, 110, 111, 112, 113, 114, 115, 116, 117, 118, 119, 120, 121, 122, 123, 124, 125, 126]
def X16 : List Nat := [48, 49, 50, 51, 52, 53, 54, 55, 56, 57, 97, 98, 99, 100, 101, 102]
def dg (n : Nat) : Nat := if n < 10 then 48 + n else 87 + n
theorem table_ok : g__law_table [] = .ok (tx T) := isStr_eq (by decide +kernel)
theorem T128 : ∀ c ∈ T, c < 128 := by decide
theorem hex_all : T.all (fun c => isStr (g__law_hex [tx [c]]) [dg (c / 16), dg (c % 16)]) = true := by decide +kernel
theorem hex_ok {c : Nat} (h : c ∈ T) : g__law_hex [tx [c]] = .ok (tx [dg (c / 16), dg (c % 16)]) := isStr_eq (List.all_eq_true.mp hex_all c h)
theorem pair_all : T.all (fun c => isStr (g_pair_of [tx [c]]) [126, dg (c / 16), dg (c % 16)]) = true := by decide +kernel
theorem pair_ok {c : Nat} (h : c ∈ T) : g_pair_of [tx [c]] = .ok (tx [126, dg (c / 16), dg (c % 16)]) := isStr_eq (List.all_eq_true.mp pair_all c h)

theorem lT : T.length = 94 := by decide
/-! ### plain signs, texts written -/
def pln (c : Nat) : Bool := alnum c || decide (c ∈ [45, 95, 46])
def enc (c : Nat) : List Nat := if pln c = true then [c] else [126, dg (c / 16), dg (c % 16)]
def wr (l : List Nat) : List Nat := l.flatMap enc
theorem plain_all : ∀ c, c < 128 → decide (c ∈ [97, 98, 99, 100, 101, 102, 103, 104, 105, 106, 107, 108, 109, 110, 111, 112, 113, 114, 115, 116, 117, 118, 119, 120, 121, 122, 65, 66, 67, 68, 69, 70, 71, 72, 73, 74, 75, 76, 77, 78, 79, 80, 81, 82, 83, 84, 85, 86, 87, 88, 89, 90, 48, 49, 50, 51, 52, 53, 54, 55, 56, 57, 45, 95, 46]) = pln c := by decide +kernel
theorem inD_plain {c : Nat} (h : c < 128) : inD (tx [c]) k_PLAIN = .ok (.bool (pln c)) := by
  unfold k_PLAIN
  rw [inD_s, plain_all c h]
theorem len_enc (c : Nat) : (enc c).length ≤ 3 := by
  unfold enc; split <;> simp
theorem len_wr : ∀ l : List Nat, (wr l).length ≤ 3 * l.length
  | [] => by simp [wr]
  | c :: l => by
    have := len_wr l
    have := len_enc c
    unfold wr at *
    simp only [List.flatMap_cons, List.length_append, List.length_cons]
    omega
theorem wr_cons (c : Nat) (l : List Nat) : wr (c :: l) = enc c ++ wr l := by simp [wr]
theorem wr_append (a b : List Nat) : wr (a ++ b) = wr a ++ wr b := by simp [wr]
theorem wr_nil : wr [] = [] := rfl
theorem written_turn (t : Option D) (acc : List Nat) (c : Nat) (h : c ∈ T) (hl : acc.length ≤ 16000000) : b_written_1 [t, some (tx acc), some (tx [c])] = .nx [t, some (tx (acc ++ enc c)), some (tx [c])] := by
  unfold b_written_1
  simp [inD_plain (T128 c h), pair_ok h, enc]
  cases pln c <;> simp <;> (rw [if_pos (by omega)]) <;> simp
theorem written_loop (t : Option D) : ∀ (l acc : List Nat) (o : Option D), (∀ c ∈ l, c ∈ T) → acc.length + 3 * l.length ≤ 16000000 →
    ∃ o', forL (gNm 2) b_written_1 (l.map fun c => tx [c]) [t, some (tx acc), o] = .nx [t, some (tx (acc ++ wr l)), o']
  | [], acc, o, _, _ => ⟨o, by simp [wr]⟩
  | c :: l, acc, o, h, hl => by
    have e := len_enc c
    simp only [List.length_cons] at hl
    obtain ⟨o', ih⟩ := written_loop t l (acc ++ enc c) (some (tx [c])) (fun z hz => h z (List.mem_cons_of_mem _ hz)) (by simp; omega)
    refine ⟨o', ?_⟩
    rw [List.map_cons, forL_name]
    simp only [List.set_cons_succ, List.set_cons_zero, written_turn t acc c (h c List.mem_cons_self) (by omega), oLoop_nx, ih, wr_cons, List.append_assoc]
theorem written_ok (l : List Nat) (h : ∀ c ∈ l, c ∈ T) (hl : l.length ≤ 5000000) : g_written [tx l] = .ok (tx (wr l)) := by
  obtain ⟨o', e⟩ := written_loop (some (tx l)) l [] none h (by simp; omega)
  unfold g_written f_written
  rw [runF_eq]
  simp
  simp at e
  rw [e]
  simp
/-! ### the law's own -/
theorem lplain_ok (c : Nat) (h : c < 128) : g__law_plain [tx [c]] = .ok (.bool (pln c)) := by
  unfold g__law_plain f__law_plain
  rw [runF_eq]
  simp [isalnumD, isalnum_one c h, pln]
  cases alnum c <;> simp
theorem lwritten_turn (t : Option D) (acc : List Nat) (c : Nat) (h : c ∈ T) (hl : acc.length ≤ 16000000) : b__law_written_1 [t, some (tx acc), some (tx [c])] = .nx [t, some (tx (acc ++ enc c)), some (tx [c])] := by
  unfold b__law_written_1
  simp [lplain_ok c (T128 c h), enc]
  cases pln c <;> simp (disch := omega) [if_pos, hex_ok h]
theorem lwritten_loop (t : Option D) : ∀ (l acc : List Nat) (o : Option D), (∀ c ∈ l, c ∈ T) → acc.length + 3 * l.length ≤ 16000000 →
    ∃ o', forL (gNm 2) b__law_written_1 (l.map fun c => tx [c]) [t, some (tx acc), o] = .nx [t, some (tx (acc ++ wr l)), o']
  | [], acc, o, _, _ => ⟨o, by simp [wr]⟩
  | c :: l, acc, o, h, hl => by
    have e := len_enc c
    simp only [List.length_cons] at hl
    obtain ⟨o', ih⟩ := lwritten_loop t l (acc ++ enc c) (some (tx [c])) (fun z hz => h z (List.mem_cons_of_mem _ hz)) (by simp; omega)
    refine ⟨o', ?_⟩
    rw [List.map_cons, forL_name]
    simp only [List.set_cons_succ, List.set_cons_zero, lwritten_turn t acc c (h c List.mem_cons_self) (by omega), oLoop_nx, ih, wr_cons, List.append_assoc]
theorem lwritten_ok (l : List Nat) (h : ∀ c ∈ l, c ∈ T) (hl : l.length ≤ 5000000) : g__law_written [tx l] = .ok (tx (wr l)) := by
  obtain ⟨o', e⟩ := lwritten_loop (some (tx l)) l [] none h (by simp; omega)
  unfold g__law_written f__law_written
  rw [runF_eq]
  simp
  simp at e
  rw [e]
  simp
/-! ### the script's cells -/
def cell (ns : List Int) (k : Nat) : Int := ns.getD k 0
theorem cell_ok (ns : List Int) (k : Nat) : g__law_cell_at [.list (ns.map PyData.int), .int k] = .ok (.int (cell ns k)) := by
  unfold g__law_cell_at f__law_cell_at
  rw [runF_eq]
  by_cases h : k < ns.length
  · simp [h, atI_n, cell]
  · simp [h, cell]
end Wp

set_option Elab.async false
set_option linter.all false
set_option maxRecDepth 100000
set_option maxHeartbeats 4000000
namespace Wp
open PySem PySem.Spec PyProof.Rows L2 Wm
def b_left_of_1 : En → Out :=
  (sIf (tB (e2 eqD (eVar 3) (eC (tx [46, 46]))))
      (sIf (tAn (tB (e2 neD (eVar 2) (eLst aNil))) (tB (e2 neD (e2 ixD (eVar 2) (eNeg (eC (.int 1)))) (eC (tx [46, 46])))))
      (sPop 2)
      (sIf (tNo (tB (eVar 1)))
      (sApp 2 (eVar 3))
      sNx))
      (sIf (tB (e2 neD (eVar 3) (eC (tx [46]))))
      (sApp 2 (eVar 3))
      sNx))
def f_left_of : En → Out :=
  (sSeq (sSet 2 (eLst aNil))
    (sSeq (sFor (eIt iSeq (eVar 0)) (gNm 3)
      b_left_of_1)
    (sRet (eBlt tupD (aCons (eVar 2) aNil)))))
def g_left_of : List D → Rs D := runF 4 f_left_of
def k_DOTS : D := (.tuple [(tx [46]), (tx [46, 46])])
def t_gone_1 : En → Out :=
  (sSeq (sIf (tB (eVar 1))
      (sRet (eTup (aCons (eC (.bool true)) (aCons (eTup aNil) (aCons (eC (.bool true)) aNil)))))
      sNx)
    (sRet (eTup (aCons (eC (.bool false)) (aCons (eTup (aCons (eC (tx [46])) aNil)) (aCons (eC (.bool true)) aNil))))))
def t_gone_2 : En → Out :=
  (sSeq (sIf (tB (e2 neD (eVar 4) (eTup aNil)))
      (sRet (eTup (aCons (eVar 1) (aCons (eVar 4) (aCons (eOr (eVar 3) (e2 inD (e2 ixD (eVar 2) (eNeg (eC (.int 1)))) (eC k_DOTS))) aNil)))))
      sNx)
    t_gone_1)
def t_gone_3 : En → Out :=
  (sSeq (sSet 4 (eCall 2 g_left_of (aCons (eVar 2) (aCons (eVar 1) aNil))))
    t_gone_2)
def t_gone_4 : En → Out :=
  (sSeq (sIf (tB (e2 eqD (eVar 2) (eTup aNil)))
      (sRet (eVar 0))
      sNx)
    t_gone_3)
def f_gone : En → Out :=
  (sSeq (sUnp (gTp 3 (gsCons (gNm 1) (gsCons (gNm 2) (gsCons (gNm 3) gsNil)))) (eVar 0))
    t_gone_4)
def g_gone : List D → Rs D := runF 5 f_gone
def b__law_text_1 : En → Out :=
  (sSeq (sSet 3 (e2 addD (eVar 3) (e2 ixD (eVar 2) (e2 modD (e2 addD (eVar 4) (e2 mulD (e2 mulD (eC (.int 31)) (eVar 5)) (eVar 5))) (eC (.int 94))))))
    (sSet 4 (e2 fdivD (eVar 4) (eC (.int 94)))))
def t__law_text_2 : En → Out :=
  (sSeq (sFor (iRange1 (e2 addD (eC (.int 1)) (e2 modD (eVar 0) (eVar 1)))) (gNm 5)
      b__law_text_1)
    (sRet (eVar 3)))
def t__law_text_3 : En → Out :=
  (sSeq (sSet 4 (e2 fdivD (eVar 0) (eVar 1)))
    t__law_text_2)
def t__law_text_4 : En → Out :=
  (sSeq (sSet 3 (eC (tx [])))
    t__law_text_3)
def t__law_text_5 : En → Out :=
  (sSeq (sSet 2 (e2 addD (eVar 2) (eC (tx [97, 98, 99, 100, 101, 102, 103, 104, 105, 106, 107, 108, 109, 110, 111, 112, 113, 114, 115, 116, 117, 118, 119, 120, 121, 122, 123, 124, 125, 126]))))
    t__law_text_4)
def f__law_text : En → Out :=
  (sSeq (sSet 2 (eC (tx [32, 33, 34, 35, 36, 38, 39, 40, 41, 42, 43, 44, 45, 46, 47, 48, 49, 50, 51, 52, 53, 54, 55, 56, 57, 58, 59, 60, 61, 62, 63, 64, 65, 66, 67, 68, 69, 70, 71, 72, 73, 74, 75, 76, 77, 78, 79, 80, 81, 82, 83, 84, 85, 86, 87, 88, 89, 90, 91, 92, 93, 94, 95, 96])))
    t__law_text_5)
def g__law_text : List D → Rs D := runF 6 f__law_text
def t__law_step_1 : En → Out :=
  (sSeq (sIf (tB (e2 ltD (e2 modD (eVar 0) (eC (.int 8))) (eC (.int 6))))
      (sRet (e2 mulD (e2 ixD (eC (tx [97, 98, 99])) (e2 modD (eVar 1) (eC (.int 3)))) (e2 addD (eC (.int 1)) (e2 modD (e2 fdivD (eVar 1) (eC (.int 3))) (eC (.int 2))))))
      sNx)
    (sRet (eCall 2 g__law_text (aCons (eVar 1) (aCons (eC (.int 9)) aNil)))))
def t__law_step_2 : En → Out :=
  (sSeq (sIf (tB (e2 eqD (e2 modD (eVar 0) (eC (.int 8))) (eC (.int 3))))
      (sRet (e2 ixD (eLst (aCons (eC (tx [46, 46, 46])) (aCons (eC (tx [46, 97])) (aCons (eC (tx [46, 46, 98])) (aCons (eC (tx [97, 46])) (aCons (eC (tx [45])) (aCons (eC (tx [126])) (aCons (eC (tx [97, 47, 98])) (aCons (eC (tx [58])) aNil))))))))) (e2 modD (eVar 1) (eC (.int 8)))))
      sNx)
    t__law_step_1)
def t__law_step_3 : En → Out :=
  (sSeq (sIf (tB (e2 eqD (e2 modD (eVar 0) (eC (.int 8))) (eC (.int 2))))
      (sRet (eC (tx [46])))
      sNx)
    t__law_step_2)
def t__law_step_4 : En → Out :=
  (sSeq (sIf (tB (e2 ltD (e2 modD (eVar 0) (eC (.int 8))) (eC (.int 2))))
      (sRet (eC (tx [46, 46])))
      sNx)
    t__law_step_3)
def f__law_step : En → Out :=
  (sSeq (sSet 1 (e2 fdivD (eVar 0) (eC (.int 8))))
    t__law_step_4)
def g__law_step : List D → Rs D := runF 2 f__law_step
def f__law_same_way : En → Out :=
  (sSeq (sIf (tOr' (tNo (tB (eIsi "tuple" (eVar 0)))) (tOr' (tB (e2 neD (eBlt lenD (aCons (eVar 0) aNil)) (eC (.int 3)))) (tNo (tB (eIsi "bool" (e2 ixD (eVar 0) (eC (.int 0))))))))
      (sRet (eC (.bool false)))
      sNx)
    (sSeq (sIf (tOr' (tNo (tB (eIsi "tuple" (e2 ixD (eVar 0) (eC (.int 1)))))) (tNo (tB (eIsi "bool" (e2 ixD (eVar 0) (eC (.int 2)))))))
      (sRet (eC (.bool false)))
      sNx)
    (sRet (eAn (e2 eqD (eLc (eIt iSeq (e2 ixD (eVar 0) (eC (.int 1)))) [2] (gNm 2) (tNo (tB (eIsi "str" (eVar 2)))) (eVar 2)) (eLst aNil)) (e2 eqD (eVar 0) (eVar 1))))))
def g__law_same_way : List D → Rs D := runF 3 f__law_same_way
def b__law_gone_1 : En → Out :=
  (sIf (tB (e2 eqD (eVar 6) (eC (tx [46, 46]))))
      (sSet 5 (e2 addD (eVar 5) (eC (.int 1))))
      (sIf (tAn (tB (e2 neD (eVar 6) (eC (tx [46])))) (tB (e2 gtD (eVar 5) (eC (.int 0)))))
      (sSet 5 (e2 subD (eVar 5) (eC (.int 1))))
      (sIf (tB (e2 neD (eVar 6) (eC (tx [46]))))
      (sApp 4 (eVar 6))
      sNx)))
def t__law_gone_2 : En → Out :=
  (sSeq (sIf (tB (e2 eqD (eVar 4) (eLst aNil)))
      (sRet (eTup (aCons (eVar 1) (aCons (eIf (tB (eVar 1)) (eTup aNil) (eTup (aCons (eC (tx [46])) aNil))) (aCons (eC (.bool true)) aNil)))))
      sNx)
    (sRet (eTup (aCons (eVar 1) (aCons (eBlt tupD (aCons (eVar 4) aNil)) (aCons (eOr (eVar 3) (e2 inD (e2 ixD (eVar 2) (eNeg (eC (.int 1)))) (eTup (aCons (eC (tx [46])) (aCons (eC (tx [46, 46])) aNil))))) aNil))))))
def t__law_gone_3 : En → Out :=
  (sSeq (sIf (tB (e2 eqD (eVar 2) (eTup aNil)))
      (sRet (eVar 0))
      sNx)
    t__law_gone_2)
def t__law_gone_4 : En → Out :=
  (sSeq (sIf (tNo (tB (eVar 1)))
      (sSet 4 (e2 addL (e2 mulD (eLst (aCons (eC (tx [46, 46])) aNil)) (eVar 5)) (eVar 4)))
      sNx)
    t__law_gone_3)
def t__law_gone_5 : En → Out :=
  (sSeq (sRev 4)
    t__law_gone_4)
def t__law_gone_6 : En → Out :=
  (sSeq (sFor (eIt iRev (eVar 2)) (gNm 6)
      b__law_gone_1)
    t__law_gone_5)
def t__law_gone_7 : En → Out :=
  (sSeq (sSet 5 (eC (.int 0)))
    t__law_gone_6)
def t__law_gone_8 : En → Out :=
  (sSeq (sSet 4 (eLst aNil))
    t__law_gone_7)
def f__law_gone : En → Out :=
  (sSeq (sUnp (gTp 3 (gsCons (gNm 1) (gsCons (gNm 2) (gsCons (gNm 3) gsNil)))) (eVar 0))
    t__law_gone_8)
def g__law_gone : List D → Rs D := runF 7 f__law_gone
end Wp

set_option Elab.async false
set_option linter.all false
set_option maxRecDepth 100000
set_option maxHeartbeats 4000000
namespace Wp
open PySem PySem.Spec PyProof.Rows L2 Wm
def f_holder : En → Out :=
  (sSeq (sUnp (gTp 3 (gsCons (gNm 1) (gsCons (gNm 2) (gsCons (gNm 3) gsNil)))) (eCall 1 g_gone (aCons (eVar 0) aNil)))
    (sSeq (sIf (tB (eVar 3))
      (sRet (eVar 2))
      sNx)
    (sRet (eSl (eVar 2) oNo (oSo (eNeg (eC (.int 1))))))))
def g_holder : List D → Rs D := runF 4 f_holder
def f__law_holder : En → Out :=
  (sSeq (sUnp (gTp 3 (gsCons (gNm 1) (gsCons (gNm 2) (gsCons (gNm 3) gsNil)))) (eCall 1 g__law_gone (aCons (eVar 0) aNil)))
    (sSeq (sIf (tB (eVar 3))
      (sRet (eVar 2))
      sNx)
    (sRet (eSl (eVar 2) oNo (oSo (e2 subD (eBlt lenD (aCons (eVar 2) aNil)) (eC (.int 1))))))))
def g__law_holder : List D → Rs D := runF 4 f__law_holder
end Wp

set_option Elab.async false
set_option linter.all false
set_option maxRecDepth 100000
set_option maxHeartbeats 4000000
namespace Wp
open PySem PySem.Spec PyProof.Rows L2 Wm
abbrev Tx := List Nat
def one : Tx := [46]
def two : Tx := [46, 46]
/-! ### the plain law of ways -/
def lstep (r : Bool) (f : List Tx) (s : Tx) : List Tx :=
  if s = two then (if f ≠ [] ∧ f.getLast? ≠ some two then f.dropLast else if r = true then f else f ++ [s]) else if s ≠ one then f ++ [s] else f
def leftF (r : Bool) (ss : List Tx) : List Tx := ss.foldl (lstep r) []
/-- from the last one back: what is left, the steps up that found none -/
def back : List Tx → List Tx × Nat
  | [] => ([], 0)
  | s :: ss => if s = two then ((back ss).1, (back ss).2 + 1) else if s = one then back ss else if 0 < (back ss).2 then ((back ss).1, (back ss).2 - 1) else (s :: (back ss).1, 0)
def Free (g : List Tx) : Prop := ∀ s ∈ g, s ≠ one ∧ s ≠ two
theorem back_free : ∀ ss, Free (back ss).1
  | [] => by simp [back, Free]
  | s :: ss => by
    have ih := back_free ss
    unfold back
    split
    · exact ih
    · split
      · exact ih
      · split
        · exact ih
        · rename_i h1 h2 _
          intro z hz
          rcases List.mem_cons.mp hz with rfl | hz
          · exact ⟨h2, h1⟩
          · exact ih z hz
def dots (r : Bool) (k : Nat) : List Tx := if r = true then [] else List.replicate k two
theorem last_dots (r : Bool) (k : Nat) : ¬ (dots r k ≠ [] ∧ (dots r k).getLast? ≠ some two) := by
  unfold dots
  cases r with
  | true => simp
  | false =>
    cases k with
    | zero => simp
    | succ k =>
      rw [List.getLast?_eq_some_getLast (by simp)]
      simp
theorem dots_succ (r : Bool) (k : Nat) : (if r = true then dots r k else dots r k ++ [two]) = dots r (k + 1) := by
  unfold dots
  cases r with
  | true => simp
  | false => simp [List.replicate_succ']
theorem fold_back (r : Bool) : ∀ (ss : List Tx) (k : Nat) (g : List Tx), Free g →
    ss.foldl (lstep r) (dots r k ++ g) = if (back ss).2 ≤ g.length then dots r k ++ g.take (g.length - (back ss).2) ++ (back ss).1 else dots r (k + ((back ss).2 - g.length)) ++ (back ss).1
  | [], k, g, _ => by simp [back]
  | s :: ss, k, g, hg => by
    rw [List.foldl_cons]
    by_cases h2 : s = two
    · have eb : back (s :: ss) = ((back ss).1, (back ss).2 + 1) := by rw [back, if_pos h2]
      rw [eb]
      rcases List.eq_nil_or_concat g with rfl | ⟨g', z, rfl⟩
      · have e : lstep r (dots r k ++ []) s = dots r (k + 1) ++ [] := by
          unfold lstep
          rw [if_pos h2, List.append_nil, if_neg (last_dots r k), h2, dots_succ, List.append_nil]
        rw [e, fold_back r ss (k + 1) [] (by simp [Free])]
        have : k + 1 + (back ss).2 = k + ((back ss).2 + 1) := by omega
        by_cases c : (back ss).2 = 0
        · simp [c]
        · simp [c, this]
      · have hz := hg z (by simp)
        have e : lstep r (dots r k ++ (g'.concat z)) s = dots r k ++ g' := by
          unfold lstep
          rw [if_pos h2, if_pos]
          · rw [List.concat_eq_append, ← List.append_assoc, List.dropLast_concat]
          · rw [List.concat_eq_append, ← List.append_assoc, List.getLast?_concat]
            exact ⟨by simp, by simpa using hz.2⟩
        rw [e, fold_back r ss k g' (fun s hs => hg s (by simp [hs]))]
        simp only [List.concat_eq_append, List.length_append, List.length_cons, List.length_nil]
        by_cases c : (back ss).2 ≤ g'.length
        · rw [if_pos c, if_pos (by omega)]
          have : g'.length + (0 + 1) - ((back ss).2 + 1) = g'.length - (back ss).2 := by omega
          rw [this, List.take_append_of_le_length (by omega)]
        · rw [if_neg c, if_neg (by omega)]
          have : (back ss).2 + 1 - (g'.length + (0 + 1)) = (back ss).2 - g'.length := by omega
          rw [this]
    · by_cases h1 : s = one
      · have eb : back (s :: ss) = back ss := by rw [back, if_neg h2, if_pos h1]
        have e : lstep r (dots r k ++ g) s = dots r k ++ g := by
          unfold lstep
          rw [if_neg h2, if_neg (by simpa using h1)]
        rw [eb, e, fold_back r ss k g hg]
      · have e : lstep r (dots r k ++ g) s = dots r k ++ (g ++ [s]) := by
          unfold lstep
          rw [if_neg h2, if_pos h1, List.append_assoc]
        rw [e, fold_back r ss k (g ++ [s]) (fun z hz => by
          rcases List.mem_append.mp hz with m | m
          · exact hg z m
          · rw [List.mem_singleton.mp m]; exact ⟨h1, h2⟩)]
        by_cases c0 : 0 < (back ss).2
        · have eb : back (s :: ss) = ((back ss).1, (back ss).2 - 1) := by rw [back, if_neg h2, if_neg h1, if_pos c0]
          rw [eb]
          simp only [List.length_append, List.length_cons, List.length_nil]
          by_cases c : (back ss).2 ≤ g.length + 1
          · rw [if_pos (by omega), if_pos (by omega)]
            have : g.length + (0 + 1) - (back ss).2 = g.length - ((back ss).2 - 1) := by omega
            rw [this, List.take_append_of_le_length (by omega)]
          · rw [if_neg (by omega), if_neg (by omega)]
            have : (back ss).2 - (g.length + (0 + 1)) = (back ss).2 - 1 - g.length := by omega
            rw [this]
        · have eb : back (s :: ss) = (s :: (back ss).1, 0) := by rw [back, if_neg h2, if_neg h1, if_neg c0]
          rw [eb]
          have c : (back ss).2 = 0 := by omega
          rw [c]
          simp
          rw [List.take_of_length_le (by simp)]
          simp
theorem left_back (r : Bool) (ss : List Tx) : leftF r ss = dots r (back ss).2 ++ (back ss).1 := by
  have h := fold_back r ss 0 [] (by simp [Free])
  have e : dots r 0 ++ ([] : List Tx) = [] := by unfold dots; cases r <;> rfl
  rw [e] at h
  unfold leftF
  rw [h]
  by_cases c : (back ss).2 = 0
  · have e' : dots r 0 = [] := by unfold dots; cases r <;> rfl
    simp [c, e']
  · simp [c]
theorem back_of_free : ∀ {g : List Tx}, Free g → back g = (g, 0)
  | [], _ => rfl
  | s :: g, h => by
    have ih := back_of_free (g := g) fun z hz => h z (List.mem_cons_of_mem _ hz)
    have hs := h s List.mem_cons_self
    rw [back, if_neg hs.2, if_neg hs.1, ih]
    rfl
theorem back_dots (g : List Tx) (h : Free g) : ∀ k, back (List.replicate k two ++ g) = (g, k)
  | 0 => back_of_free h
  | k + 1 => by
    rw [List.replicate_succ, List.cons_append, back, if_pos rfl, back_dots g h k]
theorem left_left (r : Bool) (ss : List Tx) : leftF r (leftF r ss) = leftF r ss := by
  have hf := back_free ss
  rw [left_back r ss, left_back]
  generalize (back ss).1 = g at hf
  generalize (back ss).2 = k
  cases r with
  | true => simp only [dots, if_true, List.nil_append]; rw [back_of_free hf]
  | false => simp only [dots, Bool.false_eq_true, if_false]; rw [back_dots g hf k]
def isdot (s : Tx) : Bool := decide (s = one) || decide (s = two)
structure Way where
  r : Bool
  s : List Tx
  e : Bool
def Way.d (w : Way) : D := .tuple [.bool w.r, .tuple (w.s.map tx), .bool w.e]
def lastdot (s : List Tx) : Bool := match s.getLast? with | some z => isdot z | none => false
def gone (w : Way) : Way := if w.s = [] then w else if leftF w.r w.s ≠ [] then ⟨w.r, leftF w.r w.s, w.e || lastdot w.s⟩ else if w.r = true then ⟨true, [], true⟩ else ⟨false, [one], true⟩
theorem back_last {ss : List Tx} {z : Tx} (h : ss.getLast? = some z) (hz : isdot z = false) : (back ss).1 ≠ [] := by
  induction ss with
  | nil => simp at h
  | cons s ss ih =>
    cases ss with
    | nil =>
      simp at h
      subst h
      unfold isdot at hz
      simp at hz
      simp [back, hz]
    | cons y ys =>
      have := ih (by simpa using h)
      rw [back]
      split
      · exact this
      · split
        · exact this
        · split
          · exact this
          · simp
theorem gone_gone (w : Way) : gone (gone w) = gone w := by
  by_cases h0 : w.s = []
  · have : gone w = w := by unfold gone; rw [if_pos h0]
    rw [this, this]
  · by_cases h1 : leftF w.r w.s = []
    · by_cases h2 : w.r = true
      · have : gone w = ⟨true, [], true⟩ := by unfold gone; rw [if_neg h0, if_neg (by simpa using h1), if_pos h2]
        rw [this]; rfl
      · have : gone w = ⟨false, [one], true⟩ := by unfold gone; rw [if_neg h0, if_neg (by simpa using h1), if_neg h2]
        rw [this]; rfl
    · have e : gone w = ⟨w.r, leftF w.r w.s, w.e || lastdot w.s⟩ := by unfold gone; rw [if_neg h0, if_pos h1]
      rw [e]
      unfold gone
      simp only
      rw [if_neg h1, left_left, if_pos h1]
      congr 1
      cases hl : lastdot (leftF w.r w.s) with
      | false => simp
      | true =>
        have : lastdot w.s = true := by
          cases hs : w.s.getLast? with
          | none => rw [List.getLast?_eq_none_iff] at hs; exact absurd hs h0
          | some z =>
            unfold lastdot
            rw [hs]
            cases hz : isdot z with
            | true => exact hz
            | false =>
              exfalso
              have hb := back_last hs hz
              have hf := back_free w.s
              rw [left_back] at hl
              obtain ⟨g', y, ey⟩ := List.eq_nil_or_concat (back w.s).1 |>.resolve_left hb
              rw [List.concat_eq_append] at ey
              have hy := hf y (by rw [ey]; simp)
              rw [ey, ← List.append_assoc] at hl
              unfold lastdot at hl
              rw [List.getLast?_concat] at hl
              unfold isdot at hl
              simp [hy.1, hy.2] at hl
        rw [this]; simp
end Wp

set_option Elab.async false
set_option linter.all false
set_option maxRecDepth 100000
set_option maxHeartbeats 4000000
namespace Wp
open PySem PySem.Spec PyProof.Rows L2 Wm
/-! ### the walk of ways -/
/-- texts as the laws use them: of signs, not too many of them, not too long -/
def okT (l : Tx) : Prop := (∀ c ∈ l, c < 128) ∧ l.length ≤ 1000
def okS (s : List Tx) : Prop := (∀ l ∈ s, okT l) ∧ s.length ≤ 900
theorem shS {k : Nat} {s : List Tx} (h : ∀ l ∈ s, okT l) : shpAll k (s.map tx) := shpAll_txs fun l hl => (h l hl).1
theorem neD_list_nil {s : List Tx} (h : ∀ l ∈ s, okT l) : neD (.list (s.map tx)) (.list []) = .ok (.bool (decide (s ≠ []))) := by
  rw [neD_nil (k := 0) (shS h)]
  cases s <;> simp
theorem eqD_list_nil {s : List Tx} (h : ∀ l ∈ s, okT l) : eqD (.list (s.map tx)) (.list []) = .ok (.bool (decide (s = []))) := by
  rw [eqD_nil (k := 0) (shS h)]
  cases s <;> simp
theorem eqD_tup {a b : List Tx} (h : ∀ l ∈ a, okT l) (h' : ∀ l ∈ b, okT l) : eqD (.tuple (a.map tx)) (.tuple (b.map tx)) = .ok (.bool (decide (a = b))) := by
  rw [eqD_tt, eqR_ok (k := 1) (j := 1) (shp_tuple (shS h)) (shp_tuple (shS h'))]
  show Rs.ok (PyData.bool (PyData.eqvAll _ _)) = _
  rw [eqvAll_txs]
theorem neD_tup {a b : List Tx} (h : ∀ l ∈ a, okT l) (h' : ∀ l ∈ b, okT l) : neD (.tuple (a.map tx)) (.tuple (b.map tx)) = .ok (.bool !(decide (a = b))) := by
  rw [neD_tt, neR_ok (k := 1) (j := 1) (shp_tuple (shS h)) (shp_tuple (shS h'))]
  show Rs.ok (PyData.bool !(PyData.eqvAll _ _)) = _
  rw [eqvAll_txs]
theorem last_map (s : List Tx) : (s.map tx).getLast? = s.getLast?.map tx := by simp
theorem lstep_ok (r : Bool) (f : List Tx) (s : Tx) (hf : ∀ l ∈ f, okT l) (hs : okT s) : ∀ l ∈ lstep r f s, okT l := by
  unfold lstep
  split
  · split
    · exact fun l hl => hf l ((List.dropLast_sublist _).subset hl)
    · split
      · exact hf
      · exact fun l hl => by
          rcases List.mem_append.mp hl with m | m
          · exact hf l m
          · rw [List.mem_singleton.mp m]; exact hs
  · split
    · exact fun l hl => by
        rcases List.mem_append.mp hl with m | m
        · exact hf l m
        · rw [List.mem_singleton.mp m]; exact hs
    · exact hf
theorem lstep_len (r : Bool) (f : List Tx) (s : Tx) : (lstep r f s).length ≤ f.length + 1 := by
  unfold lstep
  split
  · split
    · simp; omega
    · split <;> simp
  · split <;> simp
theorem left_turn (t : Option D) (r : Bool) (f : List Tx) (s : Tx) (hf : ∀ l ∈ f, okT l) (hl : f.length ≤ 100000) : b_left_of_1 [t, some (.bool r), some (.list (f.map tx)), some (tx s)] = .nx [t, some (.bool r), some (.list ((lstep r f s).map tx)), some (tx s)] := by
  have e0 := neD_list_nil hf
  unfold b_left_of_1 lstep one two
  by_cases h2 : s = [46, 46]
  · subst h2
    rcases List.eq_nil_or_concat f with rfl | ⟨g, z, rfl⟩
    · simp at e0
      cases r <;> simp (disch := omega) [e0, if_pos]
    · simp at e0 hl
      by_cases hz : z = [46, 46]
      · subst hz
        cases r <;> simp (disch := omega) [e0, if_pos]
      · simp [e0, hz]
  · by_cases h1 : s = [46]
    · subst h1; simp
    · simp (disch := omega) [h1, h2, if_pos]
theorem left_loop (t : Option D) (r : Bool) : ∀ (ss f : List Tx) (o : Option D), (∀ l ∈ ss, okT l) → (∀ l ∈ f, okT l) → f.length + ss.length ≤ 100000 → ∃ o', forL (gNm 3) b_left_of_1 (ss.map tx) [t, some (.bool r), some (.list (f.map tx)), o] = .nx [t, some (.bool r), some (.list ((ss.foldl (lstep r) f).map tx)), o']
  | [], f, o, _, _, _ => ⟨o, rfl⟩
  | s :: ss, f, o, h, hf, hl => by
    simp only [List.length_cons] at hl
    have hs := h s List.mem_cons_self
    have e := lstep_len r f s
    obtain ⟨o', ih⟩ := left_loop t r ss (lstep r f s) (some (tx s)) (fun l hl => h l (List.mem_cons_of_mem _ hl)) (lstep_ok r f s hf hs) (by omega)
    refine ⟨o', ?_⟩
    rw [List.map_cons, forL_name]
    simp only [List.set_cons_succ, List.set_cons_zero, left_turn t r f s hf (by omega), oLoop_nx, ih, List.foldl_cons]
theorem left_ok (r : Bool) (ss : List Tx) (h : okS ss) : g_left_of [.tuple (ss.map tx), .bool r] = .ok (.tuple ((leftF r ss).map tx)) := by
  obtain ⟨o', e⟩ := left_loop (some (.tuple (ss.map tx))) r ss [] none h.1 (by simp) (by have := h.2; simp; omega)
  unfold g_left_of f_left_of
  rw [runF_eq]
  simp at e ⊢
  rw [e]
  simp [leftF]
theorem foldl_ok (r : Bool) : ∀ (ss f : List Tx), (∀ l ∈ ss, okT l) → (∀ l ∈ f, okT l) → (∀ l ∈ ss.foldl (lstep r) f, okT l) ∧ (ss.foldl (lstep r) f).length ≤ f.length + ss.length
  | [], f, _, hf => ⟨hf, by simp⟩
  | s :: ss, f, h, hf => by
    have := foldl_ok r ss (lstep r f s) (fun l hl => h l (List.mem_cons_of_mem _ hl)) (lstep_ok r f s hf (h s List.mem_cons_self))
    have e := lstep_len r f s
    rw [List.foldl_cons]
    exact ⟨this.1, by simp only [List.length_cons]; omega⟩
theorem left_okS {r : Bool} {ss : List Tx} (h : okS ss) : okS (leftF r ss) := by
  have := foldl_ok r ss [] h.1 (by simp)
  have h2 := h.2
  exact ⟨this.1, by unfold leftF; simp at this; omega⟩
theorem inDots (s : Tx) : inD (tx s) k_DOTS = .ok (.bool (isdot s)) := by
  have e : ∀ a : List Nat, ((⟨a.toArray⟩ : Str) == ⟨s.toArray⟩) = decide (s = a) := fun a => by
    by_cases h : s = a
    · subst h; simp
    · rw [decide_eq_false h]
      apply beq_eq_false_iff_ne.mpr
      intro z
      apply h
      have := congrArg (fun x => x.cps.toList) z
      simpa using this.symm
  have : inB (tx s) k_DOTS = some (isdot s) := by
    show some (((⟨[46].toArray⟩ : Str) == ⟨s.toArray⟩) || (((⟨[46, 46].toArray⟩ : Str) == ⟨s.toArray⟩) || false)) = _
    rw [e, e, Bool.or_false]
    rfl
  unfold inD
  rw [this]
theorem okT_one : okT one := by unfold okT one; decide
theorem gone_ok (w : Way) (h : okS w.s) : g_gone [w.d] = .ok (gone w).d := by
  have h1 := left_ok w.r w.s h
  have hl := left_okS (r := w.r) h
  have e1 := eqD_tup (b := []) h.1 (by simp)
  have e2 := neD_tup (b := []) hl.1 (by simp)
  have l1 := h.2
  have l2 := hl.2
  unfold g_gone f_gone
  rw [runF_eq]
  unfold gone Way.d
  obtain ⟨r, s, e⟩ := w
  simp only at *
  unfold t_gone_4 t_gone_3 t_gone_2 t_gone_1
  by_cases h0 : s = []
  · subst h0
    simp at e1
    simp [e1]
  · simp [h0] at e1
    obtain ⟨p, z, ep⟩ := (List.eq_nil_or_concat s).resolve_left h0
    rw [List.concat_eq_append] at ep
    have hz := inDots z
    by_cases h2 : leftF r s = []
    · rw [h2] at h1 e2
      simp at h1 e2
      cases r <;> simp [e1, h1, e2, h0, h2, one]
    · simp [h2] at e2
      have hlast : (s.map tx).getLast? = some (tx z) := by rw [ep]; simp
      have hld : lastdot s = isdot z := by unfold lastdot; rw [ep, List.getLast?_concat]
      cases e <;> simp [e1, h1, e2, h0, h2, hlast, hz, hld]
/-! ### as the law goes -/
def bstep (st : List Tx × Nat) (s : Tx) : List Tx × Nat := if s = two then (st.1, st.2 + 1) else if s = one then st else if 0 < st.2 then (st.1, st.2 - 1) else (st.1 ++ [s], st.2)
theorem bstep_back (ss : List Tx) : ss.reverse.foldl bstep ([], 0) = ((back ss).1.reverse, (back ss).2) := by
  induction ss with
  | nil => rfl
  | cons s ss ih =>
    rw [List.reverse_cons, List.foldl_append, ih]
    show bstep _ s = _
    unfold bstep
    rw [back]
    by_cases h2 : s = two
    · simp [h2]
    · by_cases h1 : s = one
      · subst h1; simp [h2]
      · by_cases h0 : 0 < (back ss).2
        · simp [h2, h1, h0]
        · have : (back ss).2 = 0 := by omega
          simp [h2, h1, h0, this]
theorem lgone_turn (x0 x1 x2 x3 : Option D) (l : List Tx) (u : Nat) (s : Tx) (hl : l.length ≤ 100000) :
    b__law_gone_1 [x0, x1, x2, x3, some (.list (l.map tx)), some (.int u), some (tx s)] = .nx [x0, x1, x2, x3, some (.list ((bstep (l, u) s).1.map tx)), some (.int (bstep (l, u) s).2), some (tx s)] := by
  unfold b__law_gone_1 bstep one two
  by_cases h2 : s = [46, 46]
  · subst h2; simp
  · by_cases h1 : s = [46]
    · subst h1; simp
    · by_cases h0 : 0 < u
      · have e : ((u - 1 : Nat) : Int) = (u : Int) - 1 := by omega
        simp [h1, h2, h0, e]
      · have : u = 0 := by omega
        subst this
        simp (disch := omega) [h1, h2, if_pos]
theorem lgone_loop (x0 x1 x2 x3 : Option D) : ∀ (ss l : List Tx) (u : Nat) (o : Option D), l.length + ss.length ≤ 100000 → ∃ o', forL (gNm 6) b__law_gone_1 (ss.map tx) [x0, x1, x2, x3, some (.list (l.map tx)), some (.int u), o] =
    .nx [x0, x1, x2, x3, some (.list ((ss.foldl bstep (l, u)).1.map tx)), some (.int (ss.foldl bstep (l, u)).2), o']
  | [], l, u, o, _ => ⟨o, rfl⟩
  | s :: ss, l, u, o, hl => by
    simp only [List.length_cons] at hl
    have hb : (bstep (l, u) s).1.length ≤ l.length + 1 := by
      unfold bstep; split <;> (try split) <;> (try split) <;> simp
    obtain ⟨o', ih⟩ := lgone_loop x0 x1 x2 x3 ss (bstep (l, u) s).1 (bstep (l, u) s).2 (some (tx s)) (by omega)
    refine ⟨o', ?_⟩
    rw [List.map_cons, forL_name]
    simp only [List.set_cons_succ, List.set_cons_zero, lgone_turn x0 x1 x2 x3 l u s (by omega), oLoop_nx, ih, List.foldl_cons]
theorem flat_rep {α : Type} (x : α) : ∀ n : Nat, (List.replicate n [x]).flatten = List.replicate n x
  | 0 => rfl
  | n + 1 => by rw [List.replicate_succ, List.flatten_cons, flat_rep x n]; rfl
theorem back_len : ∀ ss : List Tx, (back ss).1.length + (back ss).2 ≤ ss.length
  | [] => by simp [back]
  | s :: ss => by
    have := back_len ss
    rw [back]
    split
    · simp; omega
    · split
      · simp; omega
      · split
        · simp; omega
        · simp; omega
theorem back_okT {ss : List Tx} (h : ∀ l ∈ ss, okT l) : ∀ l ∈ (back ss).1, okT l := by
  induction ss with
  | nil => simp [back]
  | cons s ss ih =>
    have ih := ih fun l hl => h l (List.mem_cons_of_mem _ hl)
    rw [back]
    split
    · exact ih
    · split
      · exact ih
      · split
        · exact ih
        · intro l hl
          rcases List.mem_cons.mp hl with rfl | hl
          · exact h _ List.mem_cons_self
          · exact ih l hl
theorem inDots' (s : Tx) : inD (tx s) (.tuple [tx [46], tx [46, 46]]) = .ok (.bool (isdot s)) := inDots s
theorem lgone_tail (w : Way) (h : okS w.s) (l : List Tx) (hl : l = leftF w.r w.s) (o5 o6 : Option D) : runK (t__law_gone_3 [some w.d, some (.bool w.r), some (.tuple (w.s.map tx)), some (.bool w.e), some (.list (l.map tx)), o5, o6]) = .ok (gone w).d := by
  have hl' := left_okS (r := w.r) h
  rw [← hl] at hl'
  have e1 := eqD_tup (b := []) h.1 (by simp)
  have e2 := eqD_list_nil hl'.1
  have l1 := h.2
  have l2 := hl'.2
  unfold gone
  rw [← hl]
  unfold Way.d
  obtain ⟨r, s, e⟩ := w
  simp only at *
  unfold t__law_gone_3 t__law_gone_2
  by_cases h0 : s = []
  · subst h0
    simp at e1
    simp [e1]
  · simp [h0] at e1
    obtain ⟨p, z, ep⟩ := (List.eq_nil_or_concat s).resolve_left h0
    rw [List.concat_eq_append] at ep
    have hz := inDots' z
    by_cases h2 : l = []
    · rw [h2] at e2
      simp at e2
      cases r <;> simp [e1, e2, h0, h2, one]
    · simp [h2] at e2
      have hlast : (s.map tx).getLast? = some (tx z) := by rw [ep]; simp
      have hld : lastdot s = isdot z := by unfold lastdot; rw [ep, List.getLast?_concat]
      cases e <;> simp [e1, e2, h0, h2, hlast, hz, hld]
theorem lgone_ok (w : Way) (h : okS w.s) : g__law_gone [w.d] = .ok (gone w).d := by
  have l1 := h.2
  obtain ⟨o', hloop⟩ := lgone_loop (some w.d) (some (.bool w.r)) (some (.tuple (w.s.map tx))) (some (.bool w.e)) w.s.reverse [] 0 none (by simp; omega)
  rw [bstep_back, List.map_reverse] at hloop
  simp only at hloop
  have hb := back_len w.s
  have ht := lgone_tail w h (leftF w.r w.s) rfl (some (.int (back w.s).2)) o'
  rw [left_back] at ht
  unfold g__law_gone f__law_gone
  rw [runF_eq]
  have hd : w.d = .tuple [.bool w.r, .tuple (w.s.map tx), .bool w.e] := rfl
  rw [hd] at ht hloop ⊢
  simp
  unfold t__law_gone_8 t__law_gone_7 t__law_gone_6
  simp at hloop ⊢
  rw [hloop]
  unfold t__law_gone_5 t__law_gone_4
  cases hr : w.r with
  | true =>
    rw [hr] at ht
    simp [dots] at ht
    simp
    exact ht
  | false =>
    rw [hr] at ht
    simp [dots] at ht
    simp (disch := omega) [if_pos, flat_rep]
    exact ht
end Wp

set_option Elab.async false
set_option linter.all false
set_option maxRecDepth 100000
set_option maxHeartbeats 4000000
namespace Wp
open PySem PySem.Spec PyProof.Rows L2 Wm
/-! ### texts and steps by cells -/
theorem text_turn (x0 x1 : Option D) (acc : List Nat) (n k : Int) (hl : acc.length ≤ 100000) (hk : big k = true) : ∃ c ∈ T, b__law_text_1 [x0, x1, some (tx T), some (tx acc), some (.int n), some (.int k)] = .nx [x0, x1, some (tx T), some (tx (acc ++ [c])), some (.int (n.fdiv 94)), some (.int k)] := by
  obtain ⟨e, h⟩ := (show _ ∧ _ from ⟨(fmod_range (n + 31 * k * k) (b := 94) (by decide)).1, (fmod_range (n + 31 * k * k) (b := 94) (by decide)).2⟩)
  obtain ⟨s, es, hs, _⟩ := atI_mem (l := T) e (by rw [lT]; exact h)
  have b31 : big 31 = true := by decide
  refine ⟨s, hs, ?_⟩
  unfold b__law_text_1
  simp (disch := omega) [b31, hk, lT, es, if_pos]
theorem text_loop (x0 x1 : Option D) : ∀ (j : Nat) (lo : Int) (acc : List Nat) (o : Option D) (n : Int), 0 ≤ lo → lo + j ≤ 10000 → acc.length + j ≤ 10000 → (∀ c ∈ acc, c ∈ T) → ∃ m n' o', forL (gNm 5) b__law_text_1 (rangeD lo j) [x0, x1, some (tx T), some (tx acc), some (.int n), o] = .nx [x0, x1, some (tx T), some (tx m), some (.int n'), o'] ∧ (∀ c ∈ m, c ∈ T) ∧ m.length = acc.length + j
  | 0, lo, acc, o, n, _, _, _, ha => ⟨acc, n, o, rfl, ha, rfl⟩
  | j + 1, lo, acc, o, n, h0, hj, hl, ha => by
    obtain ⟨c, hc, ht⟩ := text_turn x0 x1 acc n lo (by omega) (by unfold big; simp; omega)
    obtain ⟨m, n', o', h1, h2, h3⟩ := text_loop x0 x1 j (lo + 1) (acc ++ [c]) (some (.int lo)) (n.fdiv 94) (by omega) (by omega) (by simp; omega) (fun z hz => by
      rcases List.mem_append.mp hz with m | m
      · exact ha z m
      · rw [List.mem_singleton.mp m]; exact hc)
    refine ⟨m, n', o', ?_, h2, by rw [h3]; simp; omega⟩
    rw [rangeD_cons, forL_name]
    show oLoop (b__law_text_1 [x0, x1, some (tx T), some (tx acc), some (.int n), some (.int lo)]) _ = _
    rw [ht, oLoop_nx, h1]
theorem text_ok (c m : Int) (h0 : 0 < m) (h1 : m ≤ 1000) : ∃ l, g__law_text [.int c, .int m] = .ok (tx l) ∧ (∀ x ∈ l, x ∈ T) ∧ 0 < l.length ∧ (l.length : Int) = 1 + c.fmod m := by
  obtain ⟨r0, r1⟩ := fmod_range c h0
  obtain ⟨acc, n', o', e1, e2, e3⟩ := text_loop (some (.int c)) (some (.int m)) (1 + c.fmod m).toNat 0 [] none (c.fdiv m) (by omega) (by omega) (by simp; omega) (by simp)
  simp at e3
  refine ⟨acc, ?_, e2, by omega, by omega⟩
  unfold g__law_text f__law_text t__law_text_5 t__law_text_4 t__law_text_3 t__law_text_2
  rw [runF_eq]
  have hs : small62 (1 + c.fmod m) = true := by unfold small62; simp; omega
  have hm : m ≠ 0 := by omega
  have hm2 : m.natAbs < 1073741824 := by omega
  have eT : ([32, 33, 34, 35, 36, 38, 39, 40, 41, 42, 43, 44, 45, 46, 47, 48, 49, 50, 51, 52, 53, 54, 55, 56, 57, 58, 59, 60, 61, 62, 63, 64, 65, 66, 67, 68, 69, 70, 71, 72, 73, 74, 75, 76, 77, 78, 79, 80, 81, 82, 83, 84, 85, 86, 87, 88, 89, 90, 91, 92, 93, 94, 95, 96, 97, 98, 99, 100, 101, 102, 103, 104, 105, 106, 107, 108, 109, 110, 111, 112, 113, 114, 115, 116, 117, 118, 119, 120, 121, 122, 123, 124, 125, 126] : List Nat) = T := rfl
  simp [hm, hm2, hs, eT, rgK]
  rw [e1]
  simp
theorem in_okT {l : Tx} (h : ∀ x ∈ l, x ∈ T) (hl : l.length ≤ 1000) : okT l := ⟨fun c hc => T128 c (h c hc), hl⟩
/-- a text of signs, one at least -/
def okN (l : Tx) : Prop := (∀ c ∈ l, c ∈ T) ∧ l ≠ [] ∧ l.length ≤ 1000
theorem okN.t {l : Tx} (h : okN l) : okT l := in_okT h.1 h.2.2
theorem step_okN (c : Int) : ∃ l, g__law_step [.int c] = .ok (tx l) ∧ okN l ∧ l.length ≤ 9 := by
  obtain ⟨i0, i1⟩ := fmod_range (c.fdiv 8) (b := 8) (by decide)
  obtain ⟨x3, ex3, hx3, _⟩ := atI_mem (l := [tx [46, 46, 46], tx [46, 97], tx [46, 46, 98], tx [97, 46], tx [45], tx [126], tx [97, 47, 98], tx [58]]) i0 i1
  have g3 : ∃ l, x3 = tx l ∧ okN l ∧ l.length ≤ 9 := by
    simp only [List.mem_cons, List.not_mem_nil, or_false] at hx3
    rcases hx3 with h | h | h | h | h | h | h | h <;> exact ⟨_, h, by unfold okN; decide⟩
  obtain ⟨l3, rfl, g3⟩ := g3
  obtain ⟨j0, j1⟩ := fmod_range (c.fdiv 8) (b := 3) (by decide)
  obtain ⟨x1, ex1, hx1, _⟩ := atI_mem (l := [97, 98, 99]) j0 j1
  obtain ⟨k0, k1⟩ := fmod_range ((c.fdiv 8).fdiv 3) (b := 2) (by decide)
  have em := mulD_s [x1] (1 + ((c.fdiv 8).fdiv 3).fmod 2) (by simp; omega) (by omega) (by omega)
  obtain ⟨l4, e4, h4, h40, h4l⟩ := text_ok (c.fdiv 8) 9 (by decide) (by decide)
  have h49 := fmod_range (c.fdiv 8) (b := 9) (by decide)
  unfold g__law_step f__law_step t__law_step_4 t__law_step_3 t__law_step_2 t__law_step_1
  rw [runF_eq]
  simp
  by_cases c1 : c.fmod 8 < 2
  · exact ⟨[46, 46], by simp [c1], by unfold okN; decide, by decide⟩
  by_cases c2 : c.fmod 8 = 2
  · exact ⟨[46], by simp [c2], by unfold okN; decide, by decide⟩
  by_cases c3 : c.fmod 8 = 3
  · exact ⟨l3, by simp [c3, ex3], g3⟩
  by_cases c4 : c.fmod 8 < 6
  · refine ⟨_, by simp [c1, c2, c3, c4, ex1, em]; rfl, ⟨?_, ?_, ?_⟩, by simp; omega⟩
    · intro z hz
      rw [List.mem_replicate] at hz
      rw [hz.2]
      exact (show ∀ x ∈ [97, 98, 99], x ∈ T by decide) x1 hx1
    · intro z
      have := congrArg List.length z
      simp at this
      omega
    · simp; omega
  · exact ⟨l4, by simp [c1, c2, c3, c4, e4], ⟨h4, by intro z; subst z; simp at h40, by omega⟩, by omega⟩
/-! ### ways that are alike -/
theorem shp_way {w : Way} (h : okS w.s) : shp 2 w.d := shp_tuple (shpAll_cons shp_bool (shpAll_cons (shp_tuple (shS h.1)) (shpAll_cons shp_bool shpAll_nil)))
theorem eqv_way (w : Way) : PyData.eqv w.d w.d = true := by
  show ((w.r == w.r) && (PyData.eqvAll (w.s.map tx) (w.s.map tx) && ((w.e == w.e) && true))) = true
  rw [eqvAll_txs]
  simp
theorem comp_str (x0 x1 : Option D) (s : List Tx) : lcL (gNm 2) (tNo (tB (eIsi "str" (eVar 2)))) (eVar 2) [x0, x1, none] (s.map tx) = .ok [] := by
  have := lcL_filter (tg := gNm 2) (cond := tNo (tB (eIsi "str" (eVar 2)))) (elt := eVar 2) (ρ0 := [x0, x1, none]) tx (fun _ => false) tx (xs := s) fun x _ => ⟨_, rfl, by simp, fun z => nomatch z⟩
  rw [this]
  simp
theorem same_ok (w : Way) (h : okS w.s) : g__law_same_way [w.d, w.d] = .ok (.bool true) := by
  have e := eqR_ok (shp_way h) (shp_way h)
  rw [eqv_way] at e
  have l := h.2
  have e0 : eqR (.list []) (.list []) = .ok (.bool true) := by rw [eqR_ok (k := 1) (j := 1) (shp_list shpAll_nil) (shp_list shpAll_nil)]; rfl
  have hc := comp_str (some w.d) (some w.d) w.s
  have hd : w.d = .tuple [.bool w.r, .tuple (w.s.map tx), .bool w.e] := rfl
  unfold g__law_same_way f__law_same_way
  rw [runF_eq]
  rw [hd] at e hc ⊢
  simp (disch := omega) [if_pos, hc, e0, e]
theorem gone_okS (w : Way) (h : okS w.s) : okS (gone w).s := by
  unfold gone
  split
  · exact h
  · split
    · exact left_okS h
    · split
      · exact ⟨by simp, by simp⟩
      · exact ⟨by simp; exact okT_one, by simp⟩
theorem gone_r (w : Way) : (gone w).r = w.r := by
  unfold gone
  split
  · rfl
  · split
    · rfl
    · split <;> simp_all
theorem gone_nodot {w : Way} (h : w.r = true) : ∀ z ∈ (gone w).s, isdot z = false := by
  unfold gone
  split
  · rename_i h0; rw [h0]; simp
  · split
    · rename_i h1 h2
      intro z hz
      simp only at hz
      rw [left_back, h] at hz
      simp [dots] at hz
      have := back_free w.s z hz
      unfold isdot
      simp [this.1, this.2]
    · simp [h]
theorem take_okS {S : List Tx} (h : okS S) (n : Nat) : okS (S.take n) := ⟨fun l hl => h.1 l (List.mem_of_mem_take hl), by have := h.2; simp; omega⟩
/-- loops that hold something -/
theorem loop_all {i : Nat} {body : En → Out} (P : En → Prop) (ds : List D) (ρ : En) (h0 : P ρ) (h : ∀ d ∈ ds, ∀ ρ, P ρ → ∃ ρ2, body (ρ.set i (some d)) = .nx ρ2 ∧ P ρ2) : ∃ ρ', forL (gNm i) body ds ρ = .nx ρ' ∧ P ρ' :=
  forL_go P h0 fun d hd ρ hρ => by
    obtain ⟨ρ2, h1, h2⟩ := h d hd ρ hρ
    exact ⟨_, ρ2, rfl, .inl h1, h2⟩
/-- the step by a cell -/
noncomputable def stp (c : Int) : Tx := Classical.choose (step_okN c)
theorem stp_ok (c : Int) : g__law_step [.int c] = .ok (tx (stp c)) := (Classical.choose_spec (step_okN c)).1
theorem stp_okN (c : Int) : okN (stp c) := (Classical.choose_spec (step_okN c)).2.1
theorem stp_len (c : Int) : (stp c).length ≤ 9 := (Classical.choose_spec (step_okN c)).2.2
theorem stp_okT (c : Int) : okT (stp c) := (stp_okN c).t
theorem okT_take {l : Tx} (h : okT l) (n : Nat) : okT (l.take n) := ⟨fun c hc => h.1 c (List.mem_of_mem_take hc), by have := h.2; simp; omega⟩
theorem rep_map {α β : Type} (f : α → β) (l : List α) : ∀ n : Nat, (List.replicate n (l.map f)).flatten = ((List.replicate n l).flatten).map f
  | 0 => rfl
  | n + 1 => by rw [List.replicate_succ, List.replicate_succ, List.flatten_cons, List.flatten_cons, List.map_append, rep_map f l n]
theorem okS_stretch {S : List Tx} (h : okS S) : okS (((List.replicate 8 (S.map fun l => l.take 5)).flatten).take 400) := ⟨fun l hl => by
  obtain ⟨m, h1, h2⟩ := List.mem_flatten.mp (List.mem_of_mem_take hl)
  rw [List.mem_replicate] at h1
  rw [h1.2] at h2
  obtain ⟨z, hz, rfl⟩ := List.mem_map.mp h2
  exact okT_take (h.1 z hz) 5, by simp; omega⟩
theorem fdiv2 (n : Nat) : ((n : Int).fdiv 2) = ((n / 2 : Nat) : Int) := by
  rw [Int.fdiv_eq_ediv_of_nonneg _ (by decide)]; omega
/-- the places at which the laws of ways cut -/
theorem places (n : Nat) : ∀ d ∈ ([PyData.int n, PyData.int ((n : Int).fdiv 2)] ++ rangeD 0 ((min n 13 : Nat) : Int).toNat), ∃ m : Nat, d = .int m ∧ m ≤ n := fun d hd => by
  rcases List.mem_append.mp hd with h | h
  · simp only [List.mem_cons, List.not_mem_nil, or_false] at h
    rcases h with rfl | rfl
    · exact ⟨n, rfl, Nat.le_refl _⟩
    · exact ⟨n / 2, by rw [fdiv2], by omega⟩
  · unfold rangeD at h
    obtain ⟨i, hi, rfl⟩ := List.mem_map.mp h
    rw [List.mem_range] at hi
    exact ⟨i, by simp, by omega⟩
/-! ### holders -/
def hold (w : Way) : List Tx := if (gone w).e = true then (gone w).s else (gone w).s.dropLast
theorem hold_okS (w : Way) (h : okS w.s) : okS (hold w) := by
  have hg := gone_okS w h
  unfold hold
  split
  · exact hg
  · exact ⟨fun l hl => hg.1 l ((List.dropLast_sublist _).subset hl), by have := hg.2; simp; omega⟩
theorem gone_ends (w : Way) (h : w.s = [] → w.e = true) : (gone w).s = [] → (gone w).e = true := by
  unfold gone
  split
  · exact h
  · split
    · intro h1; simp_all
    · split <;> simp
theorem cut_m1 {α : Type} (s : List α) : cutL s none (some (-1)) = s.dropLast := by
  unfold cutL
  rw [HT.sIx_none]
  have e : HT.sIx s.length s.length (some (-1)) = s.length - 1 := by
    unfold HT.sIx
    simp
    omega
  rw [e, List.dropLast_eq_take]
  simp
theorem holder_ok (w : Way) (h : okS w.s) : g_holder [w.d] = .ok (.tuple ((hold w).map tx)) := by
  have h1 := gone_ok w h
  have hd : (gone w).d = .tuple [.bool (gone w).r, .tuple ((gone w).s.map tx), .bool (gone w).e] := rfl
  rw [hd] at h1
  unfold g_holder f_holder
  rw [runF_eq]
  unfold hold
  cases he : (gone w).e with
  | true => rw [he] at h1; simp [h1]
  | false => rw [he] at h1; simp [h1, cut_m1]
theorem lholder_ok (w : Way) (h : okS w.s) (hne : w.s = [] → w.e = true) : g__law_holder [w.d] = .ok (.tuple ((hold w).map tx)) := by
  have h1 := lgone_ok w h
  have hd : (gone w).d = .tuple [.bool (gone w).r, .tuple ((gone w).s.map tx), .bool (gone w).e] := rfl
  rw [hd] at h1
  have hend := gone_ends w hne
  unfold g__law_holder f__law_holder
  rw [runF_eq]
  unfold hold
  cases he : (gone w).e with
  | true => rw [he] at h1; simp [h1]
  | false =>
    rw [he] at h1
    have h0 : (gone w).s ≠ [] := fun z => by rw [hend z] at he; cases he
    have hpos : 0 < (gone w).s.length := List.length_pos_iff.mpr h0
    have ec : ((gone w).s.length : Int) - 1 = (((gone w).s.length - 1 : Nat) : Int) := by omega
    simp [h1, ec, cutL_to]
    rw [List.dropLast_eq_take, List.length_map]
end Wp

set_option Elab.async false
set_option linter.all false
set_option maxRecDepth 100000
set_option maxHeartbeats 4000000
namespace Wp
open PySem PySem.Spec PyProof.Rows L2 Wm
def f_is_whole : En → Out :=
  (sRet (e2 neD (e2 ixD (eVar 0) (eC (.int 0))) (eC (tx []))))
def g_is_whole : List D → Rs D := runF 1 f_is_whole
def f_way_behind : En → Out :=
  (sSeq (sIf (tB (e2 ixD (eVar 1) (eC (.int 0))))
      (sRet (eVar 1))
      sNx)
    (sSeq (sIf (tB (e2 eqD (e2 ixD (eVar 1) (eC (.int 1))) (eTup aNil)))
      (sRet (eVar 0))
      sNx)
    (sRet (eTup (aCons (eC (.bool true)) (aCons (e2 addD (eCall 1 g_holder (aCons (eVar 0) aNil)) (e2 ixD (eVar 1) (eC (.int 1)))) (aCons (e2 ixD (eVar 1) (eC (.int 2))) aNil)))))))
def g_way_behind : List D → Rs D := runF 2 f_way_behind
def t_resolved_1 : En → Out :=
  (sSeq (sIf (tB (e2 eqD (eVar 2) (eC (tx []))))
      (sSet 2 (e2 ixD (eVar 0) (eC (.int 0))))
      sNx)
    (sRet (eTup (aCons (eVar 2) (aCons (eVar 3) (aCons (eVar 4) (aCons (eCall 1 g_gone (aCons (eCall 2 g_way_behind (aCons (e2 ixD (eVar 0) (eC (.int 3))) (aCons (eVar 5) aNil))) aNil)) (aCons (eVar 6) (aCons (eVar 7) aNil)))))))))
def t_resolved_2 : En → Out :=
  (sSeq (sIf (tAn (tB (e2 eqD (eVar 2) (eC (tx [])))) (tB (e2 isD (eVar 3) (eC .none))))
      (sSeq (sSet 3 (e2 ixD (eVar 0) (eC (.int 1))))
    (sSet 4 (e2 ixD (eVar 0) (eC (.int 2)))))
      sNx)
    t_resolved_1)
def t_resolved_3 : En → Out :=
  (sSeq (sIf (tAn (tNo (tB (e2 ixD (eVar 5) (eC (.int 0))))) (tAn (tB (e2 eqD (e2 ixD (eVar 5) (eC (.int 1))) (eTup aNil))) (tB (e2 isD (eVar 6) (eC .none)))))
      (sSet 6 (e2 ixD (eVar 0) (eC (.int 4))))
      sNx)
    t_resolved_2)
def t_resolved_4 : En → Out :=
  (sSeq (sUnp (gTp 6 (gsCons (gNm 2) (gsCons (gNm 3) (gsCons (gNm 4) (gsCons (gNm 5) (gsCons (gNm 6) (gsCons (gNm 7) gsNil))))))) (eVar 1))
    t_resolved_3)
def f_resolved : En → Out :=
  (sSeq (sIf (tNo (tB (eCall 1 g_is_whole (aCons (eVar 0) aNil))))
      sBad
      sNx)
    t_resolved_4)
def g_resolved : List D → Rs D := runF 8 f_resolved
def b__law_same_pairs_1 : En → Out :=
  (sSeq (sIf (tOr' (tNo (tB (eIsi "tuple" (eVar 1)))) (tOr' (tB (e2 neD (eBlt lenD (aCons (eVar 1) aNil)) (eC (.int 2)))) (tNo (tB (eIsi "str" (e2 ixD (eVar 1) (eC (.int 0))))))))
      (sRet (eC (.bool false)))
      sNx)
    (sIf (tAn (tB (e2 isntD (e2 ixD (eVar 1) (eC (.int 1))) (eC .none))) (tNo (tB (eIsi "str" (e2 ixD (eVar 1) (eC (.int 1)))))))
      (sRet (eC (.bool false)))
      sNx))
def f__law_same_pairs : En → Out :=
  (sSeq (sIf (tB (e2 isD (eVar 0) (eC .none)))
      (sRet (eC (.bool true)))
      sNx)
    (sSeq (sIf (tNo (tB (eIsi "tuple" (eVar 0))))
      (sRet (eC (.bool false)))
      sNx)
    (sSeq (sFor (eIt iSeq (eVar 0)) (gNm 1)
      b__law_same_pairs_1)
    (sRet (eC (.bool true))))))
def g__law_same_pairs : List D → Rs D := runF 2 f__law_same_pairs
def b__law_same_1 : En → Out :=
  (sIf (tAn (tB (e2 isntD (eVar 2) (eC .none))) (tNo (tB (eIsi "str" (eVar 2)))))
      (sRet (eC (.bool false)))
      sNx)
def f__law_same : En → Out :=
  (sSeq (sIf (tOr' (tNo (tB (eIsi "tuple" (eVar 0)))) (tOr' (tB (e2 neD (eBlt lenD (aCons (eVar 0) aNil)) (eC (.int 6)))) (tNo (tB (eIsi "str" (e2 ixD (eVar 0) (eC (.int 0))))))))
      (sRet (eC (.bool false)))
      sNx)
    (sSeq (sIf (tAn (tB (e2 isntD (e2 ixD (eVar 0) (eC (.int 2))) (eC .none))) (tOr' (tB (eIsi "bool" (e2 ixD (eVar 0) (eC (.int 2))))) (tNo (tB (eIsi "int" (e2 ixD (eVar 0) (eC (.int 2))))))))
      (sRet (eC (.bool false)))
      sNx)
    (sSeq (sFor (eIt iSeq (eLst (aCons (e2 ixD (eVar 0) (eC (.int 1))) (aCons (e2 ixD (eVar 0) (eC (.int 5))) aNil)))) (gNm 2)
      b__law_same_1)
    (sRet (eAn (eCall 2 g__law_same_way (aCons (e2 ixD (eVar 0) (eC (.int 3))) (aCons (e2 ixD (eVar 1) (eC (.int 3))) aNil))) (eAn (eCall 1 g__law_same_pairs (aCons (e2 ixD (eVar 0) (eC (.int 4))) aNil)) (e2 eqD (eVar 0) (eVar 1))))))))
def g__law_same : List D → Rs D := runF 3 f__law_same
def b__law_scheme_1 : En → Out :=
  (sSeq (sSet 3 (e2 fdivD (eVar 3) (eC (.int 8))))
    (sSet 2 (e2 addD (eVar 2) (e2 ixD (e2 addD (eVar 1) (eC (tx [48, 49, 50, 51, 52, 53, 54, 55, 56, 57]))) (e2 modD (e2 addD (eVar 3) (e2 mulD (eC (.int 7)) (eVar 4))) (eC (.int 62)))))))
def t__law_scheme_2 : En → Out :=
  (sSeq (sFor (iRange1 (e2 modD (eVar 3) (eC (.int 8)))) (gNm 4)
      b__law_scheme_1)
    (sRet (eVar 2)))
def t__law_scheme_3 : En → Out :=
  (sSeq (sSet 3 (e2 fdivD (eVar 0) (eC (.int 52))))
    t__law_scheme_2)
def t__law_scheme_4 : En → Out :=
  (sSeq (sSet 2 (e2 ixD (eVar 1) (e2 modD (eVar 0) (eC (.int 52)))))
    t__law_scheme_3)
def f__law_scheme : En → Out :=
  (sSeq (sSet 1 (eC (tx [97, 98, 99, 100, 101, 102, 103, 104, 105, 106, 107, 108, 109, 110, 111, 112, 113, 114, 115, 116, 117, 118, 119, 120, 121, 122, 65, 66, 67, 68, 69, 70, 71, 72, 73, 74, 75, 76, 77, 78, 79, 80, 81, 82, 83, 84, 85, 86, 87, 88, 89, 90])))
    t__law_scheme_4)
def g__law_scheme : List D → Rs D := runF 5 f__law_scheme
def b__law_question_1 : En → Out :=
  (sSeq (sSet 3 (e2 addD (e2 fdivD (eVar 0) (eC (.int 12))) (e2 mulD (eC (.int 71)) (eVar 2))))
    (sSeq (sSet 4 (eC .none))
    (sSeq (sIf (tB (e2 gtD (e2 modD (e2 fdivD (eVar 3) (eC (.int 3))) (eC (.int 3))) (eC (.int 0))))
      (sSet 4 (eSl (eCall 2 g__law_text (aCons (e2 fdivD (eVar 3) (eC (.int 9))) (aCons (eC (.int 6)) aNil))) (oSo (e2 subD (e2 modD (e2 fdivD (eVar 3) (eC (.int 3))) (eC (.int 3))) (eC (.int 1)))) oNo))
      sNx)
    (sApp 1 (eTup (aCons (eCall 2 g__law_text (aCons (eVar 3) (aCons (eC (.int 5)) aNil))) (aCons (eVar 4) aNil)))))))
def f__law_question : En → Out :=
  (sSeq (sIf (tB (e2 eqD (e2 modD (eVar 0) (eC (.int 3))) (eC (.int 0))))
      (sRet (eC .none))
      sNx)
    (sSeq (sSet 1 (eLst aNil))
    (sSeq (sFor (iRange1 (e2 modD (e2 fdivD (eVar 0) (eC (.int 3))) (eC (.int 4)))) (gNm 2)
      b__law_question_1)
    (sRet (eBlt tupD (aCons (eVar 1) aNil))))))
def g__law_question : List D → Rs D := runF 5 f__law_question
def f__law_mark : En → Out :=
  (sSeq (sIf (tB (e2 eqD (e2 modD (eVar 0) (eC (.int 3))) (eC (.int 0))))
      (sRet (eC .none))
      sNx)
    (sRet (eSl (eCall 2 g__law_text (aCons (e2 fdivD (eVar 0) (eC (.int 3))) (aCons (eC (.int 7)) aNil))) (oSo (e2 subD (e2 modD (eVar 0) (eC (.int 3))) (eC (.int 1)))) oNo)))
def g__law_mark : List D → Rs D := runF 1 f__law_mark
def f__law_way : En → Out :=
  (sSeq (sSet 3 (eBlt tupD (aCons (eLc (eIt iSeq (eVar 0)) [4] (gNm 4) cYes (eCall 1 g__law_step (aCons (eVar 4) aNil))) aNil)))
    (sSeq (sIf (tB (e2 eqD (eVar 3) (eTup aNil)))
      (sRet (eTup (aCons (eVar 1) (aCons (eTup aNil) (aCons (eVar 1) aNil)))))
      sNx)
    (sRet (eTup (aCons (eVar 1) (aCons (eVar 3) (aCons (eVar 2) aNil)))))))
def g__law_way : List D → Rs D := runF 5 f__law_way
def t__law_address_1 : En → Out :=
  (sSeq (sSet 10 (eCall 1 g__law_question (aCons (eCall 2 g__law_cell_at (aCons (eVar 0) (aCons (e2 addD (eVar 1) (eC (.int 2))) aNil))) aNil)))
    (sRet (eTup (aCons (eVar 5) (aCons (eVar 6) (aCons (eVar 7) (aCons (eVar 9) (aCons (eVar 10) (aCons (eCall 1 g__law_mark (aCons (eCall 2 g__law_cell_at (aCons (eVar 0) (aCons (e2 addD (eVar 1) (eC (.int 3))) aNil))) aNil)) aNil)))))))))
def t__law_address_2 : En → Out :=
  (sSeq (sSet 9 (eCall 3 g__law_way (aCons (eVar 3) (aCons (eVar 8) (aCons (e2 eqD (e2 modD (e2 fdivD (eVar 4) (eC (.int 48))) (eC (.int 2))) (eC (.int 1))) aNil)))))
    t__law_address_1)
def t__law_address_3 : En → Out :=
  (sSeq (sSet 8 (eOr (e2 neD (eVar 5) (eC (tx []))) (eOr (e2 isntD (eVar 6) (eC .none)) (e2 eqD (e2 modD (e2 fdivD (eVar 4) (eC (.int 24))) (eC (.int 2))) (eC (.int 1))))))
    t__law_address_2)
def t__law_address_4 : En → Out :=
  (sSeq (sIf (tB (e2 gtD (e2 modD (e2 fdivD (eVar 4) (eC (.int 4))) (eC (.int 3))) (eC (.int 0))))
      (sSeq (sSet 6 (eCall 2 g__law_text (aCons (eCall 2 g__law_cell_at (aCons (eVar 0) (aCons (e2 addD (eVar 1) (eC (.int 1))) aNil))) (aCons (eC (.int 12)) aNil))))
    (sIf (tB (e2 eqD (e2 modD (e2 fdivD (eVar 4) (eC (.int 12))) (eC (.int 2))) (eC (.int 1))))
      (sSet 7 (e2 modD (e2 fdivD (eCall 2 g__law_cell_at (aCons (eVar 0) (aCons (e2 addD (eVar 1) (eC (.int 1))) aNil))) (eC (.int 7))) (eC (.int 65536))))
      sNx))
      sNx)
    t__law_address_3)
def t__law_address_5 : En → Out :=
  (sSeq (sIf (tOr' (tB (eVar 2)) (tB (e2 eqD (e2 modD (eVar 4) (eC (.int 4))) (eC (.int 0)))))
      (sSet 5 (eCall 1 g__law_scheme (aCons (e2 fdivD (eVar 4) (eC (.int 64))) aNil)))
      sNx)
    t__law_address_4)
def t__law_address_6 : En → Out :=
  (sSeq (sSet 7 (eC .none))
    t__law_address_5)
def t__law_address_7 : En → Out :=
  (sSeq (sSet 6 (eC .none))
    t__law_address_6)
def t__law_address_8 : En → Out :=
  (sSeq (sSet 5 (eC (tx [])))
    t__law_address_7)
def f__law_address : En → Out :=
  (sSeq (sSet 4 (eCall 2 g__law_cell_at (aCons (eVar 0) (aCons (eVar 1) aNil))))
    t__law_address_8)
def g__law_address : List D → Rs D := runF 11 f__law_address
def t__law_resolved_1 : En → Out :=
  (sSeq (sIf (tB (e2 isD (eVar 6) (eC .none)))
      (sSet 6 (e2 ixD (eVar 0) (eC (.int 4))))
      sNx)
    (sRet (e2 addD (eSl (eVar 0) oNo (oSo (eC (.int 3)))) (eTup (aCons (eCall 1 g__law_gone (aCons (e2 ixD (eVar 0) (eC (.int 3))) aNil)) (aCons (eVar 6) (aCons (eVar 7) aNil)))))))
def t__law_resolved_2 : En → Out :=
  (sSeq (sIf (tB (e2 neD (e2 ixD (eVar 5) (eC (.int 1))) (eTup aNil)))
      (sSeq (sSet 8 (eTup (aCons (eC (.bool true)) (aCons (e2 addD (eCall 1 g__law_holder (aCons (e2 ixD (eVar 0) (eC (.int 3))) aNil)) (e2 ixD (eVar 5) (eC (.int 1)))) (aCons (e2 ixD (eVar 5) (eC (.int 2))) aNil)))))
    (sRet (e2 addD (eSl (eVar 0) oNo (oSo (eC (.int 3)))) (eTup (aCons (eCall 1 g__law_gone (aCons (eVar 8) aNil)) (aCons (eVar 6) (aCons (eVar 7) aNil)))))))
      sNx)
    t__law_resolved_1)
def t__law_resolved_3 : En → Out :=
  (sSeq (sIf (tB (e2 ixD (eVar 5) (eC (.int 0))))
      (sRet (e2 addD (eSl (eVar 0) oNo (oSo (eC (.int 3)))) (eTup (aCons (eCall 1 g__law_gone (aCons (eVar 5) aNil)) (aCons (eVar 6) (aCons (eVar 7) aNil))))))
      sNx)
    t__law_resolved_2)
def t__law_resolved_4 : En → Out :=
  (sSeq (sIf (tB (e2 isntD (eVar 3) (eC .none)))
      (sRet (eTup (aCons (e2 ixD (eVar 0) (eC (.int 0))) (aCons (eVar 3) (aCons (eVar 4) (aCons (eCall 1 g__law_gone (aCons (eVar 5) aNil)) (aCons (eVar 6) (aCons (eVar 7) aNil))))))))
      sNx)
    t__law_resolved_3)
def t__law_resolved_5 : En → Out :=
  (sSeq (sIf (tB (e2 neD (eVar 2) (eC (tx []))))
      (sRet (eTup (aCons (eVar 2) (aCons (eVar 3) (aCons (eVar 4) (aCons (eCall 1 g__law_gone (aCons (eVar 5) aNil)) (aCons (eVar 6) (aCons (eVar 7) aNil))))))))
      sNx)
    t__law_resolved_4)
def f__law_resolved : En → Out :=
  (sSeq (sUnp (gTp 6 (gsCons (gNm 2) (gsCons (gNm 3) (gsCons (gNm 4) (gsCons (gNm 5) (gsCons (gNm 6) (gsCons (gNm 7) gsNil))))))) (eVar 1))
    t__law_resolved_5)
def g__law_resolved : List D → Rs D := runF 9 f__law_resolved
end Wp

set_option Elab.async false
set_option linter.all false
set_option maxRecDepth 100000
set_option maxHeartbeats 4000000
namespace Wp
open PySem PySem.Spec PyProof.Rows L2 Wm
/-! ### addresses as data -/
def oT : Option Tx → D
  | some l => tx l
  | none => .none
def oI : Option Int → D
  | some i => .int i
  | none => .none
def pD (p : Tx × Option Tx) : D := .tuple [tx p.1, oT p.2]
def qD : Option (List (Tx × Option Tx)) → D
  | some l => .tuple (l.map pD)
  | none => .none
structure Adr where
  sc : Tx
  ho : Option Tx
  dr : Option Int
  w : Way
  q : Option (List (Tx × Option Tx))
  m : Option Tx
def Adr.d (a : Adr) : D := .tuple [tx a.sc, oT a.ho, oI a.dr, a.w.d, qD a.q, oT a.m]
@[simp] theorem nonD_oT (o : Option Tx) : nonD (oT o) = o.isNone := by cases o <;> rfl
@[simp] theorem nonD_oI (o : Option Int) : nonD (oI o) = o.isNone := by cases o <;> rfl
@[simp] theorem nonD_qD (o : Option (List (Tx × Option Tx))) : nonD (qD o) = o.isNone := by cases o <;> rfl
def okO : Option Tx → Prop
  | some l => okT l
  | none => True
def okP (p : Tx × Option Tx) : Prop := okT p.1 ∧ okO p.2
def okQ : Option (List (Tx × Option Tx)) → Prop
  | some l => (∀ p ∈ l, okP p) ∧ l.length ≤ 1000
  | none => True
structure okA (a : Adr) : Prop where
  sc : okT a.sc
  ho : okO a.ho
  w : okS a.w.s
  q : okQ a.q
  m : okO a.m
/-- rooted where it has to be; ends unlike rooted are of ways with steps -/
structure Inv (a : Adr) : Prop where
  root : a.sc ≠ [] ∨ a.ho ≠ none → a.w.r = true
  ends : a.w.s = [] → a.w.e = a.w.r
/-! ### resolved -/
def behind (old w : Way) : Way := if w.r = true then w else if w.s = [] then old else ⟨true, hold old ++ w.s, w.e⟩
def resv (b a : Adr) : Adr where
  sc := if a.sc = [] then b.sc else a.sc
  ho := if a.sc = [] ∧ a.ho = none then b.ho else a.ho
  dr := if a.sc = [] ∧ a.ho = none then b.dr else a.dr
  w := gone (behind b.w a.w)
  q := if a.w.r = false ∧ a.w.s = [] ∧ a.q = none then b.q else a.q
  m := a.m
theorem gone_len (w : Way) : (gone w).s.length ≤ w.s.length + 1 := by
  unfold gone
  split
  · omega
  · split
    · simp only
      rw [left_back]
      have := back_len w.s
      unfold dots
      split <;> simp <;> omega
    · split <;> simp
theorem hold_len (w : Way) : (hold w).length ≤ w.s.length + 1 := by
  have := gone_len w
  unfold hold
  split
  · exact this
  · simp; omega
theorem behind_okS {old w : Way} (h : okS old.s) (h' : okS w.s) (hl : old.s.length + w.s.length ≤ 890) : okS (behind old w).s := by
  unfold behind
  split
  · exact h'
  · split
    · exact h
    · have := hold_len old
      refine ⟨fun l hl => ?_, by simp; omega⟩
      rcases List.mem_append.mp hl with m | m
      · exact (hold_okS old h).1 l m
      · exact h'.1 l m
theorem behind_ok (old w : Way) (h : okS old.s) (h' : okS w.s) (hl : old.s.length + w.s.length ≤ 890) : g_way_behind [old.d, w.d] = .ok (behind old w).d := by
  have h1 := holder_ok old h
  have e1 := eqD_tup (b := []) h'.1 (by simp)
  have hd : w.d = .tuple [.bool w.r, .tuple (w.s.map tx), .bool w.e] := rfl
  have hh := hold_len old
  unfold g_way_behind f_way_behind behind
  rw [runF_eq]
  obtain ⟨r, s, e⟩ := w
  simp only at *
  rw [hd]
  have hod : ∃ od, od = old.d := ⟨_, rfl⟩
  obtain ⟨od, eod⟩ := hod
  rw [← eod] at h1 ⊢
  cases r with
  | true => simp [Way.d]
  | false =>
    by_cases h0 : s = []
    · subst h0
      simp at e1
      simp [e1, eod]
    · simp [h0] at e1
      simp (disch := omega) [e1, h0, h1, if_pos, Way.d]
theorem whole_ok (a : Adr) : g_is_whole [a.d] = .ok (.bool (decide (a.sc ≠ []))) := by
  unfold g_is_whole f_is_whole
  rw [runF_eq]
  simp [Adr.d]
theorem resolved_ok (b a : Adr) (hb : okA b) (ha : okA a) (hw : b.sc ≠ []) (hl : b.w.s.length + a.w.s.length ≤ 890) : g_resolved [b.d, a.d] = .ok (resv b a).d := by
  have h1 := whole_ok b
  have h2 := behind_ok b.w a.w hb.w ha.w hl
  have h3 := gone_ok (behind b.w a.w) (behind_okS hb.w ha.w hl)
  have e1 := eqD_tup (b := []) ha.w.1 (by simp)
  have hbd : b.d = .tuple [tx b.sc, oT b.ho, oI b.dr, b.w.d, qD b.q, oT b.m] := rfl
  have had : a.d = .tuple [tx a.sc, oT a.ho, oI a.dr, a.w.d, qD a.q, oT a.m] := rfl
  have hwd : a.w.d = .tuple [.bool a.w.r, .tuple (a.w.s.map tx), .bool a.w.e] := rfl
  have bne : decide (b.sc ≠ []) = true := by simpa using hw
  rw [bne] at h1
  obtain ⟨bd, ebd⟩ : ∃ bd, bd = b.w.d := ⟨_, rfl⟩
  obtain ⟨ad, ead⟩ : ∃ ad, ad = a.w.d := ⟨_, rfl⟩
  rw [← ebd, ← ead] at h2
  rw [← ebd] at hbd
  rw [← ead] at had
  rw [hbd] at h1
  unfold g_resolved f_resolved t_resolved_4 t_resolved_3 t_resolved_2 t_resolved_1
  rw [runF_eq, hbd, had]
  have key : ∀ (q : Option (List (Tx × Option Tx))) (sc : Tx) (ho : Option Tx) (dr : Option Int), runK (oRet [some (.tuple [tx b.sc, oT b.ho, oI b.dr, bd, qD b.q, oT b.m]), some (.tuple [tx a.sc, oT a.ho, oI a.dr, ad, qD a.q, oT a.m]), some (tx sc), some (oT ho), some (oI dr), some ad, some (qD q), some (oT a.m)]
      (eTup (aCons (eVar 2) (aCons (eVar 3) (aCons (eVar 4) (aCons (eCall 1 g_gone (aCons (eCall 2 g_way_behind (aCons (e2 ixD (eVar 0) (eC (.int 3))) (aCons (eVar 5) aNil))) aNil)) (aCons (eVar 6) (aCons (eVar 7) aNil)))))) [some (.tuple [tx b.sc, oT b.ho, oI b.dr, bd, qD b.q, oT b.m]), some (.tuple [tx a.sc, oT a.ho, oI a.dr, ad, qD a.q, oT a.m]), some (tx sc), some (oT ho), some (oI dr), some ad, some (qD q), some (oT a.m)])) = .ok (.tuple [tx sc, oT ho, oI dr, (gone (behind b.w a.w)).d, qD q, oT a.m]) := by
    intro q sc ho dr
    simp [h2, h3]
  have i0 : ixD ad (.int 0) = .ok (.bool a.w.r) := by rw [ead]; rfl
  have i1 : ixD ad (.int 1) = .ok (.tuple (a.w.s.map tx)) := by rw [ead]; rfl
  clear ead had
  unfold Adr.d resv
  simp only
  generalize a.w.s = s at *
  generalize a.w.r = r at *
  generalize (gone (behind b.w a.w)).d = gd at *
  generalize a.ho = ho at *
  generalize a.q = q at *
  generalize a.sc = sc at *
  generalize a.dr = dr at *
  generalize a.m = m at *
  have e1' : eqD (.tuple (s.map tx)) (.tuple []) = .ok (.bool (decide (s = []))) := e1
  rw [eqD_tt] at e1'
  by_cases c1 : sc = [] <;> by_cases c2 : s = [] <;> cases r <;> cases ho <;> cases q <;> simp [h1, c1, c2, i0, i1] at e1' key ⊢ <;> simp [c1, c2, i0, i1, e1', key]
end Wp

set_option Elab.async false
set_option linter.all false
set_option maxRecDepth 100000
set_option maxHeartbeats 4000000
namespace Wp
open PySem PySem.Spec PyProof.Rows L2 Wm
theorem lresolved_ok (b a : Adr) (hb : okA b) (ha : okA a) (hw : b.sc ≠ []) (hl : b.w.s.length + a.w.s.length ≤ 890) (ib : Inv b) (ia : Inv a) : g__law_resolved [b.d, a.d] = .ok (resv b a).d := by
  have br : b.w.r = true := ib.root (.inl hw)
  have hne : b.w.s = [] → b.w.e = true := fun h => by rw [ib.ends h, br]
  have h1 := lgone_ok a.w ha.w
  have h2 := lgone_ok b.w hb.w
  have h3 := lholder_ok b.w hb.w hne
  have h4 := lgone_ok (behind b.w a.w) (behind_okS hb.w ha.w hl)
  have e1 := neD_tup (b := []) ha.w.1 (by simp)
  have hh := hold_len b.w
  have i2 : ixD a.w.d (.int 2) = .ok (.bool a.w.e) := rfl
  have hbd : b.d = .tuple [tx b.sc, oT b.ho, oI b.dr, b.w.d, qD b.q, oT b.m] := rfl
  have had : a.d = .tuple [tx a.sc, oT a.ho, oI a.dr, a.w.d, qD a.q, oT a.m] := rfl
  obtain ⟨bd, ebd⟩ : ∃ bd, bd = b.w.d := ⟨_, rfl⟩
  obtain ⟨ad, ead⟩ : ∃ ad, ad = a.w.d := ⟨_, rfl⟩
  rw [← ebd] at hbd h2 h3
  rw [← ead] at had h1 i2
  have i0 : ixD ad (.int 0) = .ok (.bool a.w.r) := by rw [ead]; rfl
  have i1 : ixD ad (.int 1) = .ok (.tuple (a.w.s.map tx)) := by rw [ead]; rfl
  have hbeh : a.w.r = false → a.w.s ≠ [] → behind b.w a.w = ⟨true, hold b.w ++ a.w.s, a.w.e⟩ := fun h1 h2 => by unfold behind; rw [if_neg (by simp [h1]), if_neg h2]
  have hbeh2 : a.w.r = true → behind b.w a.w = a.w := fun h1 => by unfold behind; rw [if_pos h1]
  have hbeh3 : a.w.r = false → a.w.s = [] → behind b.w a.w = b.w := fun h1 h2 => by unfold behind; rw [if_neg (by simp [h1]), if_pos h2]
  have hroot := ia.root
  have ls := ha.w.2
  have lb := hb.w.2
  unfold g__law_resolved f__law_resolved t__law_resolved_5 t__law_resolved_4 t__law_resolved_3 t__law_resolved_2 t__law_resolved_1
  rw [runF_eq, hbd, had]
  unfold Adr.d resv
  simp only
  have e1' : neD (.tuple (a.w.s.map tx)) (.tuple []) = .ok (.bool !(decide (a.w.s = []))) := e1
  rw [neD_tt] at e1'
  by_cases c3 : a.w.r = true
  · rw [hbeh2 c3]
    by_cases c1 : a.sc = []
    · cases c4 : a.ho with
      | none => simp [c1, c3, c4, h1, i0]
      | some h => simp [c1, c3, c4, h1, i0]
    · simp [c1, c3, h1, i0]
  · have c3' : a.w.r = false := by simpa using c3
    have c1 : a.sc = [] := by
      by_cases z : a.sc = []
      · exact z
      · exact absurd (hroot (.inl z)) c3
    have c4 : a.ho = none := by
      cases z : a.ho with
      | none => rfl
      | some x => exact absurd (hroot (.inr (by rw [z]; simp))) c3
    by_cases c2 : a.w.s = []
    · rw [hbeh3 c3' c2]
      cases c5 : a.q with
      | none => simp [c1, c2, c3', c4, c5, h2, i0, i1] at e1' ⊢; simp [e1', h2, c5]
      | some h => simp [c1, c2, c3', c4, c5, h2, i0, i1] at e1' ⊢; simp [e1', h2, c5]
    · have hb4 := hbeh c3' c2
      rw [hb4] at h4 ⊢
      simp [Way.d] at h4
      simp [c1, c2, c3', c4, i0, i1] at e1' ⊢
      simp (disch := omega) [e1', h3, h4, i1, i2, if_pos, c2, Way.d]
end Wp

set_option Elab.async false
set_option linter.all false
set_option maxRecDepth 100000
set_option maxHeartbeats 4000000
namespace Wp
open PySem PySem.Spec PyProof.Rows L2 Wm
theorem shp_oT {k : Nat} {o : Option Tx} (h : okO o) : shp k (oT o) := by
  cases o with
  | none => exact shp_none
  | some l => exact shp_tx h.1
theorem shp_oI {k : Nat} {o : Option Int} : shp k (oI o) := by
  cases o with
  | none => exact shp_none
  | some l => exact shp_int
theorem shp_pD {p : Tx × Option Tx} (h : okP p) : shp 1 (pD p) := shp_tuple (shpAll_cons (shp_tx h.1.1) (shpAll_cons (shp_oT h.2) shpAll_nil))
theorem shp_up {k j : Nat} {d : D} (h : shp k d) (hj : k ≤ j) : shp j d := ⟨h.1, Nat.le_trans h.2 hj⟩
theorem shp_qD {q : Option (List (Tx × Option Tx))} (h : okQ q) : shp 2 (qD q) := by
  cases q with
  | none => exact shp_none
  | some l => exact shp_tuple (shpAll_of fun d hd => by
      obtain ⟨p, hp, rfl⟩ := List.mem_map.mp hd
      exact shp_pD (h.1 p hp))
theorem shp_adr {a : Adr} (h : okA a) : shp 3 a.d :=
  shp_tuple (shpAll_cons (shp_tx h.sc.1) (shpAll_cons (shp_oT h.ho) (shpAll_cons shp_oI (shpAll_cons (shp_way h.w) (shpAll_cons (shp_qD h.q) (shpAll_cons (shp_oT h.m) shpAll_nil))))))
theorem pairs_loop (t : Option D) : ∀ (l : List (Tx × Option Tx)) (o : Option D), ∃ o', forL (gNm 1) b__law_same_pairs_1 (l.map pD) [t, o] = .nx [t, o']
  | [], o => ⟨o, rfl⟩
  | p :: l, o => by
    obtain ⟨o', ih⟩ := pairs_loop t l (some (pD p))
    refine ⟨o', ?_⟩
    rw [List.map_cons, forL_name]
    have e : b__law_same_pairs_1 [t, some (pD p)] = .nx [t, some (pD p)] := by
      obtain ⟨a, v⟩ := p
      unfold b__law_same_pairs_1 pD
      cases v with
      | none => simp [oT]
      | some v => simp [oT]
    simp only [List.set_cons_succ, List.set_cons_zero, e, oLoop_nx, ih]
theorem same_pairs_ok (q : Option (List (Tx × Option Tx))) : g__law_same_pairs [qD q] = .ok (.bool true) := by
  unfold g__law_same_pairs f__law_same_pairs
  rw [runF_eq]
  cases q with
  | none => simp [qD]
  | some l =>
    obtain ⟨o', e⟩ := pairs_loop (some (.tuple (l.map pD))) l none
    simp [qD]
    rw [e]
    simp
theorem same_adr (a : Adr) (h : okA a) : g__law_same [a.d, a.d] = .ok (.bool true) := by
  have e := eqR_refl (shp_adr h)
  have h1 := same_ok a.w h.w
  have h2 := same_pairs_ok a.q
  have hd : a.d = .tuple [tx a.sc, oT a.ho, oI a.dr, a.w.d, qD a.q, oT a.m] := rfl
  rw [hd] at e ⊢
  have ht : ∀ (x0 x1 : Option D) (o : Option Tx), b__law_same_1 [x0, x1, some (oT o)] = .nx [x0, x1, some (oT o)] := fun x0 x1 o => by
    unfold b__law_same_1
    cases o <;> simp [oT]
  generalize a.w.d = wd at *
  generalize a.q = q at *
  generalize a.ho = ho at *
  generalize a.m = m at *
  unfold g__law_same f__law_same
  rw [runF_eq]
  cases hdr : a.dr with
  | none =>
    rw [hdr] at e
    simp [oI] at e ⊢
    rw [forL_name]
    simp [ht]
    rw [forL_name]
    simp [ht, h1, h2, e]
  | some x =>
    rw [hdr] at e
    simp [oI] at e ⊢
    rw [forL_name]
    simp [ht]
    rw [forL_name]
    simp [ht, h1, h2, e]
theorem resv_okA {b a : Adr} (hb : okA b) (ha : okA a) (hl : b.w.s.length + a.w.s.length ≤ 890) : okA (resv b a) where
  sc := by unfold resv; simp only; split; exact hb.sc; exact ha.sc
  ho := by unfold resv; simp only; split; exact hb.ho; exact ha.ho
  w := gone_okS _ (behind_okS hb.w ha.w hl)
  q := by unfold resv; simp only; split; exact hb.q; exact ha.q
  m := ha.m
end Wp

set_option Elab.async false
set_option linter.all false
set_option maxRecDepth 100000
set_option maxHeartbeats 4000000
namespace Wp
open PySem PySem.Spec PyProof.Rows L2 Wm
/-! ### addresses by cells -/
theorem cutL_fromI {α : Type} (l : List α) {i : Int} (h : 0 ≤ i) : cutL l (some i) none = l.drop i.toNat := by
  obtain ⟨n, rfl⟩ : ∃ n : Nat, i = n := ⟨i.toNat, by omega⟩
  rw [cutL_from]; simp
def LET : List Nat := [97, 98, 99, 100, 101, 102, 103, 104, 105, 106, 107, 108, 109, 110, 111, 112, 113, 114, 115, 116, 117, 118, 119, 120, 121, 122, 65, 66, 67, 68, 69, 70, 71, 72, 73, 74, 75, 76, 77, 78, 79, 80, 81, 82, 83, 84, 85, 86, 87, 88, 89, 90]
def LEF : List Nat := LET ++ [48, 49, 50, 51, 52, 53, 54, 55, 56, 57]
theorem lLET : LET.length = 52 := by decide
theorem lLEF : LEF.length = 62 := by decide
/-- a scheme's text -/
def okSch (l : Tx) : Prop := ∃ c r, l = c :: r ∧ c ∈ LET ∧ (∀ x ∈ r, x ∈ LEF) ∧ r.length ≤ 7
theorem scheme_turn (x0 : Option D) (acc : List Nat) (n k : Int) (hl : acc.length ≤ 100) (hk : big k = true) : ∃ c ∈ LEF, b__law_scheme_1 [x0, some (tx LET), some (tx acc), some (.int n), some (.int k)] = .nx [x0, some (tx LET), some (tx (acc ++ [c])), some (.int (n.fdiv 8)), some (.int k)] := by
  obtain ⟨e, h⟩ := fmod_range (n.fdiv 8 + 7 * k) (b := 62) (by decide)
  obtain ⟨s, es, hs, _⟩ := atI_mem (l := LEF) e (by rw [lLEF]; exact h)
  have b7 : big 7 = true := by decide
  refine ⟨s, hs, ?_⟩
  unfold LEF at es
  unfold b__law_scheme_1
  simp (disch := omega) [b7, lLET, es, if_pos]
theorem scheme_loop (x0 : Option D) : ∀ (j : Nat) (lo : Int) (acc : List Nat) (o : Option D) (n : Int), 0 ≤ lo → lo + j ≤ 50 → acc.length + j ≤ 50 → ∃ m n' o', forL (gNm 4) b__law_scheme_1 (rangeD lo j) [x0, some (tx LET), some (tx acc), some (.int n), o] = .nx [x0, some (tx LET), some (tx (acc ++ m)), some (.int n'), o'] ∧ (∀ c ∈ m, c ∈ LEF) ∧ m.length = j
  | 0, lo, acc, o, n, _, _, _ => ⟨[], n, o, by rw [List.append_nil]; rfl, by simp, rfl⟩
  | j + 1, lo, acc, o, n, h0, hj, hl => by
    obtain ⟨c, hc, ht⟩ := scheme_turn x0 acc n lo (by omega) (by unfold big; simp; omega)
    obtain ⟨m, n', o', h1, h2, h3⟩ := scheme_loop x0 j (lo + 1) (acc ++ [c]) (some (.int lo)) (n.fdiv 8) (by omega) (by omega) (by simp; omega)
    refine ⟨c :: m, n', o', ?_, fun z hz => ?_, by simp [h3]⟩
    · rw [rangeD_cons, forL_name]
      show oLoop (b__law_scheme_1 [x0, some (tx LET), some (tx acc), some (.int n), some (.int lo)]) _ = _
      rw [ht, oLoop_nx, h1, List.append_assoc]
      rfl
    · rcases List.mem_cons.mp hz with rfl | m
      · exact hc
      · exact h2 z m
theorem scheme_ok (c : Int) : ∃ l, g__law_scheme [.int c] = .ok (tx l) ∧ okSch l := by
  obtain ⟨i0, i1⟩ := fmod_range c (b := 52) (by decide)
  obtain ⟨a, ea, ha, _⟩ := atI_mem (l := LET) i0 (by rw [lLET]; exact i1)
  obtain ⟨j0, j1⟩ := fmod_range (c.fdiv 52) (b := 8) (by decide)
  obtain ⟨m, n', o', e1, e2, e3⟩ := scheme_loop (some (.int c)) ((c.fdiv 52).fmod 8).toNat 0 [a] none (c.fdiv 52) (by omega) (by omega) (by simp; omega)
  refine ⟨a :: m, ?_, a, m, rfl, ha, e2, by omega⟩
  have hs : small62 ((c.fdiv 52).fmod 8) = true := by unfold small62; simp; omega
  unfold LET at ea e1
  unfold g__law_scheme f__law_scheme t__law_scheme_4 t__law_scheme_3 t__law_scheme_2
  rw [runF_eq]
  simp [ea, hs, rgK]
  rw [e1]
  simp
theorem LEF128 : ∀ c ∈ LEF, c < 128 := by decide
theorem LET128 : ∀ c ∈ LET, c < 128 := by decide
theorem okSch.t {l : Tx} (h : okSch l) : okT l := by
  obtain ⟨c, r, rfl, h1, h2, h3⟩ := h
  refine ⟨fun z hz => ?_, by simp; omega⟩
  rcases List.mem_cons.mp hz with rfl | m
  · exact LET128 _ h1
  · exact LEF128 _ (h2 z m)
theorem okSch.ne {l : Tx} (h : okSch l) : l ≠ [] := by
  obtain ⟨c, r, rfl, _⟩ := h; simp
/-- what stands in a question, a mark -/
def okV (l : Tx) : Prop := (∀ c ∈ l, c ∈ T) ∧ l.length ≤ 1000
def okVo : Option Tx → Prop
  | some l => okV l
  | none => True
theorem drop_okV {l : Tx} (h : ∀ c ∈ l, c ∈ T) (hl : l.length ≤ 1000) (n : Nat) : okV (l.drop n) := ⟨fun c hc => h c (List.mem_of_mem_drop hc), by simp; omega⟩
theorem mark_ok (c : Int) : ∃ m, g__law_mark [.int c] = .ok (oT m) ∧ okVo m ∧ ∀ l, m = some l → l.length ≤ 7 := by
  obtain ⟨l, el, h1, h2, h3⟩ := text_ok (c.fdiv 3) 7 (by decide) (by decide)
  obtain ⟨i0, i1⟩ := fmod_range (c.fdiv 3) (b := 7) (by decide)
  obtain ⟨j0, j1⟩ := fmod_range c (b := 3) (by decide)
  unfold g__law_mark f__law_mark
  rw [runF_eq]
  by_cases c0 : c.fmod 3 = 0
  · exact ⟨none, by simp [c0, oT], trivial, (fun l h => by cases h)⟩
  · refine ⟨some (l.drop (c.fmod 3 - 1).toNat), ?_, drop_okV h1 (by omega) _, (fun z h => by cases h; simp; omega)⟩
    simp (disch := omega) [c0, el, if_pos, cutL_fromI, oT]
def okPr (p : Tx × Option Tx) : Prop := okN p.1 ∧ okVo p.2
def okPr5 (p : Tx × Option Tx) : Prop := okPr p ∧ p.1.length ≤ 6 ∧ ∀ v, p.2 = some v → v.length ≤ 6
theorem question_turn (x0 c : Int) (l : List (Tx × Option Tx)) (k : Int) (hl : l.length ≤ 1000) (hk : big k = true) (o3 o4 : Option D) : ∃ p p3 p4, okPr5 p ∧ b__law_question_1 [some (.int c), some (.list (l.map pD)), some (.int k), o3, o4] = .nx [some (.int c), some (.list ((l ++ [p]).map pD)), some (.int k), p3, p4] := by
  generalize hn : c.fdiv 12 + 71 * k = n
  obtain ⟨a, ea, a1, a2, a3⟩ := text_ok n 5 (by decide) (by decide)
  obtain ⟨i0, i1⟩ := fmod_range n (b := 5) (by decide)
  obtain ⟨v, ev, v1, v2, v3⟩ := text_ok (n.fdiv 9) 6 (by decide) (by decide)
  obtain ⟨k0, k1⟩ := fmod_range (n.fdiv 9) (b := 6) (by decide)
  obtain ⟨j0, j1⟩ := fmod_range (n.fdiv 3) (b := 3) (by decide)
  have b71 : big 71 = true := by decide
  have han : okN a := ⟨a1, by intro z; subst z; simp at a2, by omega⟩
  unfold b__law_question_1
  by_cases c0 : 0 < (n.fdiv 3).fmod 3
  · refine ⟨(a, some (v.drop ((n.fdiv 3).fmod 3 - 1).toNat)), some (.int n), some (tx (v.drop ((n.fdiv 3).fmod 3 - 1).toNat)), ⟨⟨han, drop_okV v1 (by omega) _⟩, by simp only; omega, (fun z h => by cases h; simp; omega)⟩, ?_⟩
    simp (disch := omega) [b71, hn, c0, ea, ev, if_pos, cutL_fromI, pD, oT]
  · refine ⟨(a, none), some (.int n), some .none, ⟨⟨han, trivial⟩, by simp only; omega, (fun z h => by cases h)⟩, ?_⟩
    simp (disch := omega) [b71, hn, c0, ea, if_pos, pD, oT]
end Wp

set_option Elab.async false
set_option linter.all false
set_option maxRecDepth 100000
set_option maxHeartbeats 4000000
namespace Wp
open PySem PySem.Spec PyProof.Rows L2 Wm
theorem question_loop (c : Int) : ∀ (j : Nat) (lo : Int) (l : List (Tx × Option Tx)) (o2 o3 o4 : Option D), 0 ≤ lo → lo + j ≤ 50 → l.length + j ≤ 50 → (∀ p ∈ l, okPr5 p) → ∃ (m : List (Tx × Option Tx)) (p2 p3 p4 : Option D), forL (gNm 2) b__law_question_1 (rangeD lo j) [some (.int c), some (.list (l.map pD)), o2, o3, o4] = .nx [some (.int c), some (.list (m.map pD)), p2, p3, p4] ∧ (∀ p ∈ m, okPr5 p) ∧ m.length = l.length + j
  | 0, lo, l, o2, o3, o4, _, _, _, h => ⟨l, o2, o3, o4, rfl, h, rfl⟩
  | j + 1, lo, l, o2, o3, o4, h0, hj, hl, h => by
    obtain ⟨p, p3, p4, hp, ht⟩ := question_turn 0 c l lo (by omega) (by unfold big; simp; omega) o3 o4
    obtain ⟨m, q2, q3, q4, h1, h2, h3⟩ := question_loop c j (lo + 1) (l ++ [p]) (some (.int lo)) p3 p4 (by omega) (by omega) (by simp; omega) (fun z hz => by
      rcases List.mem_append.mp hz with m | m
      · exact h z m
      · rw [List.mem_singleton.mp m]; exact hp)
    refine ⟨m, q2, q3, q4, ?_, h2, by rw [h3]; simp; omega⟩
    rw [rangeD_cons, forL_name]
    show oLoop (b__law_question_1 [some (.int c), some (.list (l.map pD)), some (.int lo), o3, o4]) _ = _
    rw [ht, oLoop_nx, h1]
def okQu : Option (List (Tx × Option Tx)) → Prop
  | some l => (∀ p ∈ l, okPr p) ∧ l.length ≤ 3
  | none => True
def okQ5 (q : Option (List (Tx × Option Tx))) : Prop := ∀ l, q = some l → ∀ p ∈ l, okPr5 p
theorem question_ok (c : Int) : ∃ q, g__law_question [.int c] = .ok (qD q) ∧ okQu q ∧ okQ5 q := by
  obtain ⟨j0, j1⟩ := fmod_range (c.fdiv 3) (b := 4) (by decide)
  unfold g__law_question f__law_question
  rw [runF_eq]
  by_cases c0 : c.fmod 3 = 0
  · exact ⟨none, by simp [c0, qD], trivial, (fun l h => by cases h)⟩
  · obtain ⟨m, p2, p3, p4, e1, e2, e3⟩ := question_loop c ((c.fdiv 3).fmod 4).toNat 0 [] none none none (by omega) (by omega) (by simp; omega) (by simp)
    simp at e3
    refine ⟨some m, ?_, ⟨fun p hp => (e2 p hp).1, by omega⟩, (fun l h => by cases h; exact e2)⟩
    have hs : small62 ((c.fdiv 3).fmod 4) = true := by unfold small62; simp; omega
    simp at e1
    simp [c0, hs, rgK]
    rw [e1]
    simp [qD]
theorem okV.t {l : Tx} (h : okV l) : okT l := in_okT h.1 h.2
theorem okVo.t {o : Option Tx} (h : okVo o) : okO o := by
  cases o with
  | none => trivial
  | some l => exact okV.t h
theorem okQu.t {q : Option (List (Tx × Option Tx))} (h : okQu q) : okQ q := by
  cases q with
  | none => trivial
  | some l => exact ⟨fun p hp => ⟨(h.1 p hp).1.t, okVo.t (h.1 p hp).2⟩, by have := h.2; omega⟩
/-- the way by cells -/
noncomputable def wayOf (cs : List Int) (r e : Bool) : Way := ⟨r, cs.map stp, if cs = [] then r else e⟩
theorem steps_okS {cs : List Int} (h : cs.length ≤ 400) : okS (cs.map stp) := ⟨fun l hl => by
  obtain ⟨c, _, rfl⟩ := List.mem_map.mp hl
  exact stp_okT c, by simp; omega⟩
theorem way_ok (cs : List Int) (r e : Bool) (h : cs.length ≤ 400) : g__law_way [.list (cs.map PyData.int), .bool r, .bool e] = .ok (wayOf cs r e).d := by
  have elc : lcL (gNm 4) cYes (eCall 1 g__law_step (aCons (eVar 4) aNil)) [some (.list (cs.map PyData.int)), some (.bool r), some (.bool e), none, none] (cs.map PyData.int) = .ok ((cs.map stp).map tx) := by
    rw [List.map_map]
    apply lcL_map
    intro c hc
    refine ⟨_, rfl, rfl, ?_⟩
    simp [stp_ok c]
  have hS := steps_okS h
  have e1 := eqD_tup (b := []) hS.1 (by simp)
  have e1' : eqR (.tuple ((cs.map stp).map tx)) (.tuple []) = .ok (.bool (decide (cs = []))) := by
    have : eqD (.tuple ((cs.map stp).map tx)) (.tuple []) = .ok (.bool (decide (cs.map stp = []))) := e1
    rw [eqD_tt] at this
    rw [this]
    cases cs <;> simp
  unfold g__law_way f__law_way wayOf Way.d
  rw [runF_eq]
  simp only [List.map_map] at elc e1'
  by_cases c0 : cs = []
  · subst c0
    simp at e1'
    simp [e1', lcL_nil]
  · simp [c0] at e1'
    simp (disch := omega) [elc, e1', c0, if_pos]
/-- what an address by cells is like -/
structure okG (a : Adr) (n : Nat) : Prop where
  sc : a.sc = [] ∨ okSch a.sc
  ho : ∀ h, a.ho = some h → okN h ∧ h.length ≤ 12
  dr : ∀ x, a.dr = some x → 0 ≤ x ∧ x < 65536 ∧ a.ho ≠ none
  w : ∃ cs : List Int, a.w.s = cs.map stp ∧ cs.length ≤ n
  q : okQu a.q
  m : okVo a.m
  inv : Inv a
  q5 : okQ5 a.q
  m7 : ∀ l, a.m = some l → l.length ≤ 7
theorem okG.a {a : Adr} {n : Nat} (h : okG a n) (hn : n ≤ 400) : okA a where
  sc := by
    rcases h.sc with e | e
    · rw [e]; exact ⟨by simp, by simp⟩
    · exact e.t
  ho := by
    cases e : a.ho with
    | none => trivial
    | some x => exact (h.ho x e).1.t
  w := by
    obtain ⟨cs, e, hl⟩ := h.w
    rw [e]; exact steps_okS (by omega)
  q := h.q.t
  m := h.m.t
theorem okG.len {a : Adr} {n : Nat} (h : okG a n) : a.w.s.length ≤ n := by
  obtain ⟨cs, e, hl⟩ := h.w
  rw [e]; simpa using hl
theorem address_ok (ns : List Int) (f : Nat) (wh : Bool) (cs : List Int) (h : cs.length ≤ 100) : ∃ a, g__law_address [.list (ns.map PyData.int), .int f, .bool wh, .list (cs.map PyData.int)] = .ok a.d ∧ okG a cs.length ∧ (wh = true → a.sc ≠ []) := by
  have hc0 := cell_ok ns f
  have hc1 : g__law_cell_at [.list (ns.map PyData.int), .int ((f : Int) + 1)] = .ok (.int (cell ns (f + 1))) := cell_ok ns (f + 1)
  have hc2 : g__law_cell_at [.list (ns.map PyData.int), .int ((f : Int) + 2)] = .ok (.int (cell ns (f + 2))) := cell_ok ns (f + 2)
  have hc3 : g__law_cell_at [.list (ns.map PyData.int), .int ((f : Int) + 3)] = .ok (.int (cell ns (f + 3))) := cell_ok ns (f + 3)
  generalize cell ns f = hd at hc0
  generalize cell ns (f + 1) = c1 at hc1
  generalize cell ns (f + 2) = c2 at hc2
  generalize cell ns (f + 3) = c3 at hc3
  obtain ⟨sc, esc, hsc⟩ := scheme_ok (hd.fdiv 64)
  obtain ⟨ho, eho, ho1, ho2, ho3⟩ := text_ok c1 12 (by decide) (by decide)
  obtain ⟨h120, h121⟩ := fmod_range c1 (b := 12) (by decide)
  obtain ⟨d0, d1⟩ := fmod_range (c1.fdiv 7) (b := 65536) (by decide)
  obtain ⟨q, eq, hq, hq5⟩ := question_ok c2
  obtain ⟨m, em, hm, hm7⟩ := mark_ok c3
  have hoN : okN ho := ⟨ho1, by intro z; subst z; simp at ho2, by omega⟩
  have fin : ∀ (S : Tx) (H : Option Tx) (Dr : Option Int), (S = [] ∨ okSch S) → (∀ h, H = some h → okN h ∧ h.length ≤ 12) → (∀ x, Dr = some x → 0 ≤ x ∧ x < 65536 ∧ H ≠ none) → (wh = true → S ≠ []) →
      ∃ a, runK (t__law_address_3 [some (.list (ns.map PyData.int)), some (.int f), some (.bool wh), some (.list (cs.map PyData.int)), some (.int hd), some (tx S), some (oT H), some (oI Dr), none, none, none]) = .ok a.d ∧ okG a cs.length ∧ (wh = true → a.sc ≠ []) := by
    intro S H Dr h1 h2 h3 h4
    let r : Bool := decide (S ≠ []) || (!H.isNone || decide ((hd.fdiv 24).fmod 2 = 1))
    have hw := way_ok cs r (decide ((hd.fdiv 48).fmod 2 = 1)) (by omega)
    refine ⟨⟨S, H, Dr, wayOf cs r (decide ((hd.fdiv 48).fmod 2 = 1)), q, m⟩, ?_, ⟨h1, h2, h3, ⟨cs, rfl, Nat.le_refl _⟩, hq, hm, ⟨?_, ?_⟩, hq5, hm7⟩, h4⟩
    · unfold t__law_address_3 t__law_address_2 t__law_address_1 Adr.d
      by_cases k1 : S = [] <;> cases H <;> by_cases k2 : (hd.fdiv 24).fmod 2 = 1 <;> simp [r, k1, k2] at hw ⊢ <;> simp [hw, hc2, hc3, eq, em, k1, k2]
    · intro hx
      show r = true
      simp only [r]
      rcases hx with hx | hx
      · have : decide (S ≠ []) = true := by simpa using hx
        rw [this]; rfl
      · have hx' : H ≠ none := hx
        cases H with
        | none => exact absurd rfl hx'
        | some x => simp
    · intro hx
      have : cs = [] := by
        have hx' : cs.map stp = [] := hx
        simpa using hx'
      show (if cs = [] then r else _) = r
      rw [if_pos this]
  unfold g__law_address f__law_address t__law_address_8 t__law_address_7 t__law_address_6 t__law_address_5 t__law_address_4
  rw [runF_eq]
  by_cases k1 : wh = true ∨ hd.fmod 4 = 0
  · by_cases k2 : 0 < (hd.fdiv 4).fmod 3
    · by_cases k3 : (hd.fdiv 12).fmod 2 = 1
      · obtain ⟨a, e, ha⟩ := fin sc (some ho) (some ((c1.fdiv 7).fmod 65536)) (.inr hsc) (fun h hh => by cases hh; exact ⟨hoN, by omega⟩) (fun x hx => by cases hx; exact ⟨d0, d1, by simp⟩) (fun _ => hsc.ne)
        refine ⟨a, ?_, ha⟩
        rw [← e]
        cases wh <;> simp at k1 <;> simp [hc0, hc1, esc, eho, k1, k2, k3, oT, oI]
      · obtain ⟨a, e, ha⟩ := fin sc (some ho) none (.inr hsc) (fun h hh => by cases hh; exact ⟨hoN, by omega⟩) (fun x hx => by cases hx) (fun _ => hsc.ne)
        refine ⟨a, ?_, ha⟩
        rw [← e]
        cases wh <;> simp at k1 <;> simp [hc0, hc1, esc, eho, k1, k2, k3, oT, oI]
    · obtain ⟨a, e, ha⟩ := fin sc none none (.inr hsc) (fun h hh => by cases hh) (fun x hx => by cases hx) (fun _ => hsc.ne)
      refine ⟨a, ?_, ha⟩
      rw [← e]
      cases wh <;> simp at k1 <;> simp [hc0, esc, k1, k2, oT, oI]
  · have kw : wh = false := by
      cases wh with
      | true => exact absurd (.inl rfl) k1
      | false => rfl
    have k1' : ¬ hd.fmod 4 = 0 := fun z => k1 (.inr z)
    subst kw
    by_cases k2 : 0 < (hd.fdiv 4).fmod 3
    · by_cases k3 : (hd.fdiv 12).fmod 2 = 1
      · obtain ⟨a, e, ha⟩ := fin [] (some ho) (some ((c1.fdiv 7).fmod 65536)) (.inl rfl) (fun h hh => by cases hh; exact ⟨hoN, by omega⟩) (fun x hx => by cases hx; exact ⟨d0, d1, by simp⟩) (fun z => nomatch z)
        refine ⟨a, ?_, ha⟩
        rw [← e]
        simp [hc0, hc1, eho, k1', k2, k3, oT, oI]
      · obtain ⟨a, e, ha⟩ := fin [] (some ho) none (.inl rfl) (fun h hh => by cases hh; exact ⟨hoN, by omega⟩) (fun x hx => by cases hx) (fun z => nomatch z)
        refine ⟨a, ?_, ha⟩
        rw [← e]
        simp [hc0, hc1, eho, k1', k2, k3, oT, oI]
    · obtain ⟨a, e, ha⟩ := fin [] none none (.inl rfl) (fun h hh => by cases hh) (fun x hx => by cases hx) (fun z => nomatch z)
      refine ⟨a, ?_, ha⟩
      rw [← e]
      simp [hc0, k1', k2, oT, oI]
end Wp

set_option Elab.async false
set_option linter.all false
set_option maxRecDepth 100000
set_option maxHeartbeats 4000000
namespace Wp
open PySem PySem.Spec PyProof.Rows L2 Wm
theorem back_sub : ∀ ss : List Tx, ∀ z ∈ (back ss).1, z ∈ ss
  | [], z, h => by simp [back] at h
  | s :: ss, z, h => by
    have ih := back_sub ss z
    rw [back] at h
    split at h
    · exact List.mem_cons_of_mem _ (ih h)
    · split at h
      · exact List.mem_cons_of_mem _ (ih h)
      · split at h
        · exact List.mem_cons_of_mem _ (ih h)
        · rcases List.mem_cons.mp h with rfl | h
          · exact List.mem_cons_self
          · exact List.mem_cons_of_mem _ (ih h)
theorem gone_sub {w : Way} (h : w.r = true) : ∀ z ∈ (gone w).s, z ∈ w.s := by
  unfold gone
  split
  · exact fun z hz => hz
  · split
    · intro z hz
      simp only at hz
      rw [left_back, h] at hz
      simp [dots] at hz
      exact back_sub _ _ hz
    · simp
theorem hold_sub {w : Way} (h : w.r = true) : ∀ z ∈ hold w, z ∈ w.s := by
  unfold hold
  split
  · exact gone_sub h
  · exact fun z hz => gone_sub h z ((List.dropLast_sublist _).subset hz)
theorem behind_r {old w : Way} (h : old.r = true) : (behind old w).r = true := by
  unfold behind
  split
  · assumption
  · split
    · exact h
    · rfl
theorem behind_all {old w : Way} (p : Tx → Prop) (h : old.r = true) (h1 : ∀ z ∈ old.s, p z) (h2 : ∀ z ∈ w.s, p z) : ∀ z ∈ (behind old w).s, p z := by
  unfold behind
  split
  · exact h2
  · split
    · exact h1
    · intro z hz
      rcases List.mem_append.mp hz with m | m
      · exact h1 z (hold_sub h z m)
      · exact h2 z m
theorem behind_ends {old w : Way} (h : old.s = [] → old.e = true) (h' : w.r = true → w.s = [] → w.e = true) : (behind old w).s = [] → (behind old w).e = true := by
  unfold behind
  split
  · exact h' (by assumption)
  · split
    · exact h
    · intro z; simp at z; simp_all
/-- what is told by resolving: whole, without dots -/
structure Whl (f : Adr) : Prop where
  sc : f.sc ≠ []
  r : f.w.r = true
  st : ∀ z ∈ f.w.s, z ≠ [] ∧ isdot z = false
  e : f.w.s = [] → f.w.e = true
  g : gone f.w = f.w
theorem resv_fix {x f : Adr} (h : Whl f) : resv x f = f := by
  unfold resv behind
  rw [if_pos h.r, h.g]
  have h1 := h.sc
  have h2 := h.r
  simp [h1, h2]
theorem resv_whl {b a : Adr} (hs : b.sc ≠ []) (hb : Inv b) (ha : Inv a) (nb : ∀ z ∈ b.w.s, z ≠ []) (na : ∀ z ∈ a.w.s, z ≠ []) : Whl (resv b a) := by
  have br : b.w.r = true := hb.root (.inl hs)
  have hr := behind_r (old := b.w) (w := a.w) br
  refine ⟨?_, ?_, ?_, ?_, gone_gone _⟩
  · unfold resv
    simp only
    split
    · exact hs
    · assumption
  · show (gone _).r = true
    rw [gone_r]; exact hr
  · intro z hz
    exact ⟨behind_all (fun z => z ≠ []) br nb na z (gone_sub hr z hz), gone_nodot hr z hz⟩
  · exact gone_ends _ (behind_ends (fun z => by rw [hb.ends z, br]) (fun r z => by rw [ha.ends z, r]))
theorem inDots3 (s : Tx) (h : s ≠ []) (h' : isdot s = false) : inD (tx s) (.tuple [tx [], tx [46], tx [46, 46]]) = .ok (.bool false) := by
  have e : ∀ a : List Nat, ((⟨a.toArray⟩ : Str) == ⟨s.toArray⟩) = decide (s = a) := fun a => by
    by_cases h : s = a
    · subst h; simp
    · rw [decide_eq_false h]
      apply beq_eq_false_iff_ne.mpr
      intro z
      apply h
      have := congrArg (fun x => x.cps.toList) z
      simpa using this.symm
  have : inB (tx s) (.tuple [tx [], tx [46], tx [46, 46]]) = some false := by
    show some (((⟨[].toArray⟩ : Str) == ⟨s.toArray⟩) || (((⟨[46].toArray⟩ : Str) == ⟨s.toArray⟩) || (((⟨[46, 46].toArray⟩ : Str) == ⟨s.toArray⟩) || false))) = _
    rw [e, e, e]
    unfold isdot one two at h'
    simp at h' ⊢
    exact ⟨h, h'.1, h'.2⟩
  unfold inD
  rw [this]
end Wp

set_option Elab.async false
set_option linter.all false
set_option maxRecDepth 100000
set_option maxHeartbeats 4000000
namespace Wp
open PySem PySem.Spec PyProof.Rows L2 Wm
/-! ### equality of what is told, as equality of data -/
instance : DecidableEq Way := fun a b => decidable_of_iff (a.r = b.r ∧ a.s = b.s ∧ a.e = b.e) (by cases a; cases b; simp)
instance : DecidableEq Adr := fun a b => decidable_of_iff (a.sc = b.sc ∧ a.ho = b.ho ∧ a.dr = b.dr ∧ a.w = b.w ∧ a.q = b.q ∧ a.m = b.m) (by cases a; cases b; simp)
/-- f tells things apart -/
def Tells {α : Type} [DecidableEq α] (f : α → D) : Prop := ∀ a b, PyData.eqv (f a) (f b) = decide (a = b)
theorem tells_tx : Tells (tx : Tx → D) := eqv_tx
theorem eqv_t (xs ys : List D) : PyData.eqv (.tuple xs) (.tuple ys) = PyData.eqvAll xs ys := rfl
theorem eqv_l (xs ys : List D) : PyData.eqv (.list xs) (.list ys) = PyData.eqvAll xs ys := rfl
theorem eqvAll_c (x y : D) (xs ys : List D) : PyData.eqvAll (x :: xs) (y :: ys) = (PyData.eqv x y && PyData.eqvAll xs ys) := rfl
theorem eqvAll_n : PyData.eqvAll [] [] = true := rfl
theorem eqv_b (a b : Bool) : PyData.eqv (.bool a) (.bool b) = decide (a = b) := by cases a <;> cases b <;> rfl
theorem eqv_i (a b : Int) : PyData.eqv (.int a) (.int b) = decide (a = b) := by
  show (a == b) = _
  rw [Bool.eq_iff_iff]; simp
theorem eqvAll_map {α : Type} [DecidableEq α] {f : α → D} (h : Tells f) : ∀ a b : List α, PyData.eqvAll (a.map f) (b.map f) = decide (a = b)
  | [], [] => rfl
  | [], _ :: _ => rfl
  | _ :: _, [] => rfl
  | x :: xs, y :: ys => by
    rw [List.map_cons, List.map_cons, eqvAll_c, h, eqvAll_map h xs ys]
    simp
theorem tells_oT : Tells oT := fun a b => by
  cases a <;> cases b <;> simp [oT, eqv_tx] <;> rfl
theorem tells_oI : Tells oI := fun a b => by
  cases a <;> cases b <;> simp [oI, eqv_i] <;> rfl
theorem tells_pD : Tells pD := fun a b => by
  obtain ⟨a, x⟩ := a
  obtain ⟨b, y⟩ := b
  simp [pD, eqv_t, eqvAll_c, eqvAll_n, eqv_tx, tells_oT x y]
theorem tells_qD : Tells qD := fun a b => by
  cases a <;> cases b <;> simp only [qD, eqv_t, eqvAll_map tells_pD] <;> first | rfl | simp
theorem tells_way : Tells Way.d := fun a b => by
  obtain ⟨a, x, c⟩ := a
  obtain ⟨b, y, d⟩ := b
  simp only [Way.d, eqv_t, eqvAll_c, eqvAll_n, eqv_b, eqvAll_map tells_tx, Bool.and_true, Way.mk.injEq]
  rw [Bool.eq_iff_iff]; simp
theorem tells_adr : Tells Adr.d := fun a b => by
  obtain ⟨a1, a2, a3, a4, a5, a6⟩ := a
  obtain ⟨b1, b2, b3, b4, b5, b6⟩ := b
  simp only [Adr.d, eqv_t, eqvAll_c, eqvAll_n, eqv_tx, tells_oT a2 b2, tells_oI a3 b3, tells_way a4 b4, tells_qD a5 b5, tells_oT a6 b6, Bool.and_true, Adr.mk.injEq]
  rw [Bool.eq_iff_iff]; simp
theorem eqR_tells {α : Type} [DecidableEq α] {f : α → D} (h : Tells f) {a b : α} {k j : Nat} (ha : shp k (f a)) (hb : shp j (f b)) (hk : k ≤ 64 := by decide) (hj : j ≤ 64 := by decide) : eqR (f a) (f b) = .ok (.bool (decide (a = b))) := by
  rw [eqR_ok ha hb hk hj, h]
theorem neR_tells {α : Type} [DecidableEq α] {f : α → D} (h : Tells f) {a b : α} {k j : Nat} (ha : shp k (f a)) (hb : shp j (f b)) (hk : k ≤ 64 := by decide) (hj : j ≤ 64 := by decide) : neR (f a) (f b) = .ok (.bool (!decide (a = b))) := by
  rw [neR_ok ha hb hk hj, h]
theorem neD_adr {a b : Adr} (ha : okA a) (hb : okA b) : neD a.d b.d = .ok (.bool (!decide (a = b))) := by
  have := neR_tells tells_adr (shp_adr ha) (shp_adr hb)
  unfold Adr.d at this ⊢
  rw [neD_tt]
  exact this
theorem eqD_adr {a b : Adr} (ha : okA a) (hb : okA b) : eqD a.d b.d = .ok (.bool (decide (a = b))) := by
  have := eqR_tells tells_adr (shp_adr ha) (shp_adr hb)
  unfold Adr.d at this ⊢
  rw [eqD_tt]
  exact this
theorem neD_way {a b : Way} (ha : okS a.s) (hb : okS b.s) : neD a.d b.d = .ok (.bool (!decide (a = b))) := by
  have := neR_tells tells_way (shp_way ha) (shp_way hb)
  unfold Way.d at this ⊢
  rw [neD_tt]
  exact this
theorem eqD_way {a b : Way} (ha : okS a.s) (hb : okS b.s) : eqD a.d b.d = .ok (.bool (decide (a = b))) := by
  have := eqR_tells tells_way (shp_way ha) (shp_way hb)
  unfold Way.d at this ⊢
  rw [eqD_tt]
  exact this
theorem eqD_oT {a b : Option Tx} : eqD (oT a) (oT b) = .ok (.bool (decide (a = b))) := by
  cases a <;> cases b <;> simp [oT]
theorem neD_oT {a b : Option Tx} : neD (oT a) (oT b) = .ok (.bool (!decide (a = b))) := by
  cases a <;> cases b <;> simp [oT]
end Wp

set_option Elab.async false
set_option linter.all false
set_option maxRecDepth 100000
set_option maxHeartbeats 4000000
namespace Wp
open PySem PySem.Spec PyProof.Rows L2 Wm
def f_plain : En → Out :=
  (sSeq (sUnp (gTp 6 (gsCons (gNm 1) (gsCons (gNm 2) (gsCons (gNm 3) (gsCons (gNm 4) (gsCons (gNm 5) (gsCons (gNm 6) gsNil))))))) (eVar 0))
    (sSeq (sIf (tB (e2 isntD (eVar 2) (eC .none)))
      (sSet 2 (eM0 lowerD (eVar 2)))
      sNx)
    (sRet (eTup (aCons (eM0 lowerD (eVar 1)) (aCons (eVar 2) (aCons (eVar 3) (aCons (eCall 1 g_gone (aCons (eVar 4) aNil)) (aCons (eVar 5) (aCons (eVar 6) aNil))))))))))
def g_plain : List D → Rs D := runF 7 f_plain
def b__law_small_1 : En → Out :=
  (sSeq (sIf (tB (e2 inD (eVar 3) (eVar 1)))
      (sSet 3 (e2 ixD (eC (tx [97, 98, 99, 100, 101, 102, 103, 104, 105, 106, 107, 108, 109, 110, 111, 112, 113, 114, 115, 116, 117, 118, 119, 120, 121, 122])) (eM1 findD (eVar 1) (eVar 3))))
      sNx)
    (sSet 2 (e2 addD (eVar 2) (eVar 3))))
def f__law_small : En → Out :=
  (sSeq (sSet 1 (eC (tx [65, 66, 67, 68, 69, 70, 71, 72, 73, 74, 75, 76, 77, 78, 79, 80, 81, 82, 83, 84, 85, 86, 87, 88, 89, 90])))
    (sSeq (sSet 2 (eC (tx [])))
    (sSeq (sFor (eIt iSeq (eVar 0)) (gNm 3)
      b__law_small_1)
    (sRet (eVar 2)))))
def g__law_small : List D → Rs D := runF 4 f__law_small
def f_a_law_plain : En → Out :=
  (sSeq (sSet 1 (e2 ixD (eVar 0) (eC (.int 1))))
    (sSeq (sIf (tB (e2 isntD (eVar 1) (eC .none)))
      (sSet 1 (eCall 1 g__law_small (aCons (eVar 1) aNil)))
      sNx)
    (sRet (e2 addD (eTup (aCons (eCall 1 g__law_small (aCons (e2 ixD (eVar 0) (eC (.int 0))) aNil)) (aCons (eVar 1) (aCons (e2 ixD (eVar 0) (eC (.int 2))) (aCons (eCall 1 g__law_gone (aCons (e2 ixD (eVar 0) (eC (.int 3))) aNil)) aNil))))) (eSl (eVar 0) (oSo (eC (.int 4))) oNo)))))
def g_a_law_plain : List D → Rs D := runF 2 f_a_law_plain
end Wp

set_option Elab.async false
set_option linter.all false
set_option maxRecDepth 100000
set_option maxHeartbeats 4000000
namespace Wp
open PySem PySem.Spec PyProof.Rows L2 Wm
def b_shared_1 : En → Out :=
  (sAug 2 addI (eC (.int 1)))
def f_shared : En → Out :=
  (sSeq (sSet 2 (eC (.int 0)))
    (sSeq (sWhile (tAn (tB (e2 ltD (eVar 2) (eBlt minD (aCons (eBlt lenD (aCons (eVar 0) aNil)) (aCons (eBlt lenD (aCons (eVar 1) aNil)) aNil))))) (tB (e2 eqD (e2 ixD (eVar 0) (eVar 2)) (e2 ixD (eVar 1) (eVar 2)))))
      b_shared_1)
    (sRet (eVar 2))))
def g_shared : List D → Rs D := runF 3 f_shared
def t_way_between_1 : En → Out :=
  (sSeq (sIf (tB (e2 eqD (eVar 5) (eTup aNil)))
      (sSet 5 (eTup (aCons (eC (tx [46])) aNil)))
      sNx)
    (sRet (eTup (aCons (eC (.bool false)) (aCons (eVar 5) (aCons (e2 ixD (eVar 1) (eC (.int 2))) aNil))))))
def t_way_between_2 : En → Out :=
  (sSeq (sIf (tNo (tB (e2 ixD (eVar 1) (eC (.int 2)))))
      (sAug 5 addI (eSl (e2 ixD (eVar 1) (eC (.int 1))) (oSo (eNeg (eC (.int 1)))) oNo))
      sNx)
    t_way_between_1)
def t_way_between_3 : En → Out :=
  (sSeq (sSet 5 (e2 addD (e2 mulD (eTup (aCons (eC (tx [46, 46])) aNil)) (e2 subD (eBlt lenD (aCons (eVar 2) aNil)) (eVar 4))) (eSl (eVar 3) (oSo (eVar 4)) oNo)))
    t_way_between_2)
def t_way_between_4 : En → Out :=
  (sSeq (sSet 4 (eCall 2 g_shared (aCons (eVar 2) (aCons (eVar 3) aNil))))
    t_way_between_3)
def t_way_between_5 : En → Out :=
  (sSeq (sSet 3 (eCall 1 g_holder (aCons (eVar 1) aNil)))
    t_way_between_4)
def f_way_between : En → Out :=
  (sSeq (sSet 2 (eCall 1 g_holder (aCons (eVar 0) aNil)))
    t_way_between_5)
def g_way_between : List D → Rs D := runF 6 f_way_between
def t_relative_1 : En → Out :=
  (sSeq (sIf (tB (e2 eqD (eVar 4) (e2 ixD (eVar 0) (eC (.int 4)))))
      (sSet 4 (eC .none))
      sNx)
    (sRet (eTup (aCons (eC (tx [])) (aCons (eC .none) (aCons (eC .none) (aCons (eTup (aCons (eC (.bool false)) (aCons (eTup aNil) (aCons (eC (.bool false)) aNil)))) (aCons (eVar 4) (aCons (e2 ixD (eVar 1) (eC (.int 5))) aNil)))))))))
def t_relative_2 : En → Out :=
  (sSeq (sIf (tOr' (tB (e2 neD (eVar 2) (eVar 3))) (tAn (tB (e2 isD (eVar 4) (eC .none))) (tB (e2 isntD (e2 ixD (eVar 0) (eC (.int 4))) (eC .none)))))
      (sRet (eTup (aCons (eC (tx [])) (aCons (eC .none) (aCons (eC .none) (aCons (eCall 2 g_way_between (aCons (eVar 2) (aCons (eVar 3) aNil))) (aCons (eVar 4) (aCons (e2 ixD (eVar 1) (eC (.int 5))) aNil))))))))
      sNx)
    t_relative_1)
def t_relative_3 : En → Out :=
  (sSeq (sSet 4 (e2 ixD (eVar 1) (eC (.int 4))))
    t_relative_2)
def t_relative_4 : En → Out :=
  (sSeq (sIf (tB (e2 neD (eSl (eVar 0) (oSo (eC (.int 1))) (oSo (eC (.int 3)))) (eSl (eVar 1) (oSo (eC (.int 1))) (oSo (eC (.int 3))))))
      (sRet (e2 addD (e2 addD (e2 addD (eTup (aCons (eC (tx [])) aNil)) (eSl (eVar 1) (oSo (eC (.int 1))) (oSo (eC (.int 3))))) (eTup (aCons (eVar 3) aNil))) (eSl (eVar 1) (oSo (eC (.int 4))) oNo)))
      sNx)
    t_relative_3)
def t_relative_5 : En → Out :=
  (sSeq (sIf (tOr' (tB (e2 neD (e2 ixD (eVar 0) (eC (.int 0))) (e2 ixD (eVar 1) (eC (.int 0))))) (tAn (tB (e2 isntD (e2 ixD (eVar 0) (eC (.int 1))) (eC .none))) (tB (e2 isD (e2 ixD (eVar 1) (eC (.int 1))) (eC .none)))))
      (sRet (e2 addD (e2 addD (eSl (eVar 1) oNo (oSo (eC (.int 3)))) (eTup (aCons (eVar 3) aNil))) (eSl (eVar 1) (oSo (eC (.int 4))) oNo)))
      sNx)
    t_relative_4)
def t_relative_6 : En → Out :=
  (sSeq (sSet 3 (eCall 1 g_gone (aCons (e2 ixD (eVar 1) (eC (.int 3))) aNil)))
    t_relative_5)
def t_relative_7 : En → Out :=
  (sSeq (sSet 2 (eCall 1 g_gone (aCons (e2 ixD (eVar 0) (eC (.int 3))) aNil)))
    t_relative_6)
def f_relative : En → Out :=
  (sSeq (sIf (tOr' (tNo (tB (eCall 1 g_is_whole (aCons (eVar 0) aNil)))) (tNo (tB (eCall 1 g_is_whole (aCons (eVar 1) aNil)))))
      sBad
      sNx)
    t_relative_7)
def g_relative : List D → Rs D := runF 5 f_relative
def t__law_pair_1 : En → Out :=
  (sSeq (sIf (tB (e2 eqD (e2 modD (e2 fdivD (eVar 3) (eC (.int 256))) (eC (.int 4))) (eC (.int 1))))
      (sSet 2 (e2 addD (eSl (eVar 2) oNo (oSo (eC (.int 4)))) (eTup (aCons (eC .none) (aCons (e2 ixD (eVar 2) (eC (.int 5))) aNil)))))
      sNx)
    (sRet (eTup (aCons (eVar 1) (aCons (eVar 2) aNil)))))
def t__law_pair_2 : En → Out :=
  (sSeq (sIf (tB (e2 eqD (e2 modD (e2 fdivD (eVar 3) (eC (.int 64))) (eC (.int 4))) (eC (.int 1))))
      (sSet 2 (e2 addD (eSl (eVar 2) oNo (oSo (eC (.int 4)))) (eTup (aCons (e2 ixD (eVar 1) (eC (.int 4))) (aCons (e2 ixD (eVar 2) (eC (.int 5))) aNil)))))
      sNx)
    t__law_pair_1)
def t__law_pair_3 : En → Out :=
  (sSeq (sIf (tB (e2 eqD (e2 modD (e2 fdivD (eVar 3) (eC (.int 8))) (eC (.int 3))) (eC (.int 2))))
      (sSet 2 (e2 addD (e2 addD (eSl (eVar 2) oNo (oSo (eC (.int 3)))) (eTup (aCons (e2 ixD (eVar 1) (eC (.int 3))) aNil))) (eSl (eVar 2) (oSo (eC (.int 4))) oNo)))
      sNx)
    t__law_pair_2)
def t__law_pair_4 : En → Out :=
  (sSeq (sIf (tB (e2 eqD (e2 modD (e2 fdivD (eVar 3) (eC (.int 8))) (eC (.int 3))) (eC (.int 1))))
      (sSeq (sSet 4 (e2 modD (e2 fdivD (eVar 3) (eC (.int 24))) (e2 addD (eBlt lenD (aCons (e2 ixD (e2 ixD (eVar 1) (eC (.int 3))) (eC (.int 1))) aNil)) (eC (.int 1)))))
    (sSeq (sSet 5 (e2 addD (eSl (e2 ixD (e2 ixD (eVar 1) (eC (.int 3))) (eC (.int 1))) oNo (oSo (eVar 4))) (e2 ixD (e2 ixD (eVar 2) (eC (.int 3))) (eC (.int 1)))))
    (sSet 2 (e2 addD (e2 addD (eSl (eVar 2) oNo (oSo (eC (.int 3)))) (eTup (aCons (eTup (aCons (eC (.bool true)) (aCons (eVar 5) (aCons (eOr (e2 ixD (e2 ixD (eVar 2) (eC (.int 3))) (eC (.int 2))) (e2 eqD (eVar 5) (eTup aNil))) aNil)))) aNil))) (eSl (eVar 2) (oSo (eC (.int 4))) oNo)))))
      sNx)
    t__law_pair_3)
def t__law_pair_5 : En → Out :=
  (sSeq (sIf (tB (e2 ltD (e2 modD (eVar 3) (eC (.int 8))) (eC (.int 5))))
      (sSet 2 (e2 addD (eSl (eVar 1) oNo (oSo (eC (.int 3)))) (eSl (eVar 2) (oSo (eC (.int 3))) oNo)))
      sNx)
    t__law_pair_4)
def t__law_pair_6 : En → Out :=
  (sSeq (sSet 3 (eCall 2 g__law_cell_at (aCons (eVar 0) (aCons (eC (.int 8)) aNil))))
    t__law_pair_5)
def t__law_pair_7 : En → Out :=
  (sSeq (sSet 2 (eCall 4 g__law_address (aCons (eVar 0) (aCons (eC (.int 4)) (aCons (eC (.bool true)) (aCons (eSt 2 (eVar 0) (oSo (eC (.int 10))) (oSo (eC (.int 69)))) aNil))))))
    t__law_pair_6)
def f__law_pair : En → Out :=
  (sSeq (sSet 1 (eCall 4 g__law_address (aCons (eVar 0) (aCons (eC (.int 0)) (aCons (eC (.bool true)) (aCons (eSt 2 (eVar 0) (oSo (eC (.int 9))) (oSo (eC (.int 69)))) aNil))))))
    t__law_pair_7)
def g__law_pair : List D → Rs D := runF 6 f__law_pair
def f__law_longer : En → Out :=
  (sSeq (sUnp (gTp 3 (gsCons (gNm 1) (gsCons (gNm 2) (gsCons (gNm 3) gsNil)))) (e2 ixD (eVar 0) (eC (.int 3))))
    (sSeq (sSet 2 (eSl (e2 mulD (eBlt tupD (aCons (eLc (eIt iSeq (eVar 2)) [4] (gNm 4) cYes (eSl (eVar 4) oNo (oSo (eC (.int 5))))) aNil)) (eC (.int 8))) oNo (oSo (eC (.int 180)))))
    (sRet (e2 addD (e2 addD (eSl (eVar 0) oNo (oSo (eC (.int 3)))) (eTup (aCons (eTup (aCons (eVar 1) (aCons (eVar 2) (aCons (eVar 3) aNil)))) aNil))) (eSl (eVar 0) (oSo (eC (.int 4))) oNo)))))
def g__law_longer : List D → Rs D := runF 5 f__law_longer
def t__law_near_1 : En → Out :=
  (sSeq (sIf (tB (e2 eqD (eVar 2) (eC (.int 4))))
      (sRet (e2 addD (e2 addD (eSl (eVar 0) oNo (oSo (eC (.int 1)))) (eTup (aCons (eC .none) (aCons (eC .none) aNil)))) (eSl (eVar 0) (oSo (eC (.int 3))) oNo)))
      sNx)
    (sRet (eVar 1)))
def t__law_near_2 : En → Out :=
  (sSeq (sIf (tAn (tB (e2 eqD (eVar 2) (eC (.int 3)))) (tB (e2 isntD (e2 ixD (eVar 0) (eC (.int 1))) (eC .none))))
      (sRet (e2 addD (e2 addD (eSl (eVar 0) oNo (oSo (eC (.int 2)))) (eTup (aCons (e2 ixD (eLst (aCons (eC (.int 0)) (aCons (eC .none) aNil))) (eBlt intD (aCons (e2 eqD (e2 ixD (eVar 0) (eC (.int 2))) (eC (.int 0))) aNil))) aNil))) (eSl (eVar 0) (oSo (eC (.int 3))) oNo)))
      sNx)
    t__law_near_1)
def t__law_near_3 : En → Out :=
  (sSeq (sIf (tAn (tB (e2 eqD (eVar 2) (eC (.int 2)))) (tB (e2 isntD (e2 ixD (eVar 0) (eC (.int 1))) (eC .none))))
      (sRet (e2 addD (e2 addD (eSl (eVar 0) oNo (oSo (eC (.int 1)))) (eTup (aCons (e2 addD (e2 ixD (eVar 0) (eC (.int 1))) (eC (tx [104]))) aNil))) (eSl (eVar 0) (oSo (eC (.int 2))) oNo)))
      sNx)
    t__law_near_2)
def f__law_near : En → Out :=
  (sSeq (sIf (tB (e2 eqD (eVar 2) (eC (.int 1))))
      (sRet (e2 addD (eSl (eVar 1) oNo (oSo (eC (.int 1)))) (eSl (eVar 0) (oSo (eC (.int 1))) oNo)))
      sNx)
    t__law_near_3)
def g__law_near : List D → Rs D := runF 3 f__law_near
end Wp

set_option Elab.async false
set_option linter.all false
set_option maxRecDepth 100000
/-! WmEq2: in, among texts. -/
namespace Wm
open PySem PySem.Spec PyProof.Rows L2
theorem str_beq (a s : List Nat) : ((⟨a.toArray⟩ : Str) == ⟨s.toArray⟩) = decide (s = a) := by
  rw [Bool.eq_iff_iff]
  simp
  exact eq_comm
theorem eqF_tx (a s : List Nat) : eqF (tx a) (tx s) = decide (s = a) := str_beq a s
theorem any_txs (s : List Nat) : ∀ L : List (List Nat), ((L.map tx).any fun e => eqF e (tx s)) = decide (s ∈ L)
  | [] => rfl
  | a :: L => by
    rw [List.map_cons, List.any_cons, eqF_tx, any_txs s L]
    rw [Bool.eq_iff_iff]; simp
theorem flat_txs : ∀ L : List (List Nat), (L.map tx).all flatD = true
  | [] => rfl
  | a :: L => by rw [List.map_cons, List.all_cons, flat_txs L]; rfl
theorem inB_t (s : List Nat) (L : List (List Nat)) : inB (tx s) (.tuple (L.map tx)) = some (decide (s ∈ L)) := by
  show (if flatD (tx s) && (L.map tx).all flatD then some ((L.map tx).any fun e => eqF e (tx s)) else none) = _
  rw [flat_txs, any_txs]; rfl
theorem inB_l (s : List Nat) (L : List (List Nat)) : inB (tx s) (.list (L.map tx)) = some (decide (s ∈ L)) := by
  show (if flatD (tx s) && (L.map tx).all flatD then some ((L.map tx).any fun e => eqF e (tx s)) else _) = _
  rw [flat_txs, any_txs]; rfl
theorem inD_txt (s : List Nat) (L : List (List Nat)) {ds : List D} (h : ds = L.map tx := by rfl) : inD (tx s) (.tuple ds) = .ok (.bool (decide (s ∈ L))) := by
  subst h; unfold inD; rw [inB_t]
theorem inD_txl (s : List Nat) (L : List (List Nat)) {ds : List D} (h : ds = L.map tx := by rfl) : inD (tx s) (.list ds) = .ok (.bool (decide (s ∈ L))) := by
  subst h; unfold inD; rw [inB_l]
theorem notInD_txt (s : List Nat) (L : List (List Nat)) {ds : List D} (h : ds = L.map tx := by rfl) : notInD (tx s) (.tuple ds) = .ok (.bool (!decide (s ∈ L))) := by
  subst h; unfold notInD; rw [inB_t]
theorem notInD_txl (s : List Nat) (L : List (List Nat)) {ds : List D} (h : ds = L.map tx := by rfl) : notInD (tx s) (.list ds) = .ok (.bool (!decide (s ∈ L))) := by
  subst h; unfold notInD; rw [inB_l]
/-- literal ones -/
@[simp] theorem inD_t0 (s : List Nat) : inD (tx s) (.tuple []) = .ok (.bool false) := by rw [inD_txt s []]; simp
@[simp] theorem inD_l0 (s : List Nat) : inD (tx s) (.list []) = .ok (.bool false) := by rw [inD_txl s []]; simp
@[simp] theorem inD_t1 (s a : List Nat) : inD (tx s) (.tuple [tx a]) = .ok (.bool (decide (s = a))) := by rw [inD_txt s [a]]; simp
@[simp] theorem inD_t2 (s a b : List Nat) : inD (tx s) (.tuple [tx a, tx b]) = .ok (.bool (decide (s = a ∨ s = b))) := by rw [inD_txt s [a, b]]; simp
@[simp] theorem inD_t3 (s a b c : List Nat) : inD (tx s) (.tuple [tx a, tx b, tx c]) = .ok (.bool (decide (s = a ∨ s = b ∨ s = c))) := by rw [inD_txt s [a, b, c]]; simp
@[simp] theorem inD_t4 (s a b c d : List Nat) : inD (tx s) (.tuple [tx a, tx b, tx c, tx d]) = .ok (.bool (decide (s = a ∨ s = b ∨ s = c ∨ s = d))) := by rw [inD_txt s [a, b, c, d]]; simp
@[simp] theorem inD_txt' (s : List Nat) (L : List (List Nat)) : inD (tx s) (.tuple (L.map tx)) = .ok (.bool (decide (s ∈ L))) := inD_txt s L
@[simp] theorem inD_txl' (s : List Nat) (L : List (List Nat)) : inD (tx s) (.list (L.map tx)) = .ok (.bool (decide (s ∈ L))) := inD_txl s L
@[simp] theorem notInD_txt' (s : List Nat) (L : List (List Nat)) : notInD (tx s) (.tuple (L.map tx)) = .ok (.bool (!decide (s ∈ L))) := notInD_txt s L
@[simp] theorem notInD_txl' (s : List Nat) (L : List (List Nat)) : notInD (tx s) (.list (L.map tx)) = .ok (.bool (!decide (s ∈ L))) := notInD_txl s L
theorem atI_map {α β : Type} (f : α → β) (l : List α) (i : Int) : atI (l.map f) i = (atI l i).map f := by
  unfold atI
  rw [List.length_map]
  cases ixN l.length i with
  | none => rfl
  | some j => simp
/-- a comprehension that only sieves -/
theorem lcL_sieve {i : Nat} {cond : En → Rs Bool} {elt : En → Rs D} {ρ0 : En} {xs : List (List Nat)} (p : List Nat → Bool) (h : ∀ x ∈ xs, cond (ρ0.set i (some (tx x))) = .ok (p x)) (he : ∀ x ∈ xs, elt (ρ0.set i (some (tx x))) = .ok (tx x)) : lcL (gNm i) cond elt ρ0 (xs.map tx) = .ok ((xs.filter p).map tx) :=
  lcL_filter tx p tx fun x hx => ⟨_, rfl, h x hx, fun _ => he x hx⟩
end Wm

set_option Elab.async false
set_option linter.all false
set_option maxRecDepth 100000
/-! WmOps6: x.pop(i), a, b = e, f. -/
namespace Wm
open PySem PySem.Spec PyProof.Rows L2
theorem _root_.Wm.DqAll.erase {K : PySem.W.Frag} {H : Hp} : ∀ {vs : List V} {ds : List D} (i : Nat), DqAll K H vs ds → DqAll K H (vs.eraseIdx i) (ds.eraseIdx i)
  | _, _, _, .nil => .nil
  | _, _, 0, .cons _ r => r
  | _, _, i + 1, .cons a r => .cons a (DqAll.erase i r)
section
variable {X : Cx} {W : WX} {fl : Md} {L own own' : List Nat} {e : Expr} {fe : En → Rs D} {pos pos' apos cpos : Pos} {k : Nat}
/-- x.pop(e) alone -/
def popK (i : Nat) (ρ : En) (ds : List D) : D → Out
  | .int z => (match ixN ds.length z with
    | some j => if ds.length ≤ 16777216 then .nx (ρ.set i (some (.list (ds.eraseIdx j)))) else .bad
    | none => .bad)
  | _ => .bad
def sPopI (i : Nat) (fe : En → Rs D) : En → Out := fun ρ => oL (getL ρ i) fun ds => oBind (fe ρ) ρ (popK i ρ ds)
theorem ss_popI (i : Nat) {x : Str} (h : SE X W own e fe) (ho : (own.contains i && decide (i < 100)) = true := by rfl) (one : oneC own i = true := by rfl) (hN : X.N[i]? = some x := by rfl) (hv : Vis X.env.scope x := by first | exact Or.inl rfl | exact Or.inr (Or.inl rfl) | exact Or.inr (Or.inr rfl))
    (hd : (x == ("__debug__" : Str)) = false := by rfl) (hcd : (x == ("__classdict__" : Str)) = false := by rfl)
    (hbase : attributeBase (.Name x pos') "pop" X.env (eval (.Name x pos') X.env) = eval (.Name x pos') X.env := by rfl)
    (hfew : ((backTo cpos (starEach [e] X.env)).all (fun x => !x.1) && (backToKw cpos (keywordEach [] X.env)).all (fun x => x.1.isSome)
      && decide ([e].length + ([] : List Keyword).length + (if ([] : List Keyword).isEmpty then 0 else 1) < 30)) = true := by rfl)
    (hline : (apos.endLine == cpos.line) = true := by rfl) (hs : starEach [e] X.env = (false, eval e X.env) :: starEach [] X.env := by rfl) (hplain : (backTo cpos (starEach [] X.env)).any (·.1) = false := by rfl)
    (hsw : swapsWith (.Call (.Attribute (.Name x pos') "pop" apos) [e] [] cpos) none pos.line X.env = pure false := by rfl) (hE : okE fl own = true := by rfl) :
    SS X W fl L own (.Expr (.Call (.Attribute (.Name x pos') "pop" apos) [e] [] cpos) pos) (sPopI i fe) own := by
  obtain ⟨t, p, r⟩ := h.ex
  refine ⟨_, ps_expr (pe_bm PySem.F.plainAttrs_list PySem.F.slot_list_pop PySem.F.type_list_pop (r := rPopAt) (fun pins s σ H x xs v us Q I rx rxs h => mt_popAt pins s σ H x xs v us Q I rx rxs h) (pe_var hN hv hd hcd) (pa_cons p pa_nil hs) hbase hfew hline hs hplain) hsw, fun H0 Hd0 ρ σ H Hd R Dn q => ?_⟩
  unfold sPopI oL at q
  cases hg : getL ρ i with
  | none => rw [hg] at q; exact q.elim
  | some ds =>
    rw [hg] at q
    obtain ⟨a, vs, h2, h3, h4, h5⟩ := own_at R ho (getL_some hg)
    refine ⟨.ref a, h2, .inl ⟨rfl, vs, .inl (.inl h3)⟩, ?_⟩
    refine r _ _ _ _ _ _ R _ ?_
    cases he : fe ρ with
    | bad => rw [he] at q; exact q
    | ex c fs => rw [he] at q; exact fun cls a H' Hd' s x => exc_of R q s x hE
    | ok d =>
      rw [he] at q
      simp only [oBind_ok] at q
      intro v H1 Hd1 s1 x
      unfold popK at q
      split at q
      · cases x
        split at q
        · rename_i j hj
          split at q
          · rename_i hl
            rw [← h5.length] at hj hl
            obtain ⟨k1, k2, k3, k4⟩ := ixN_seq hj
            exact ⟨a, vs, _, j, vs[j], rfl, rfl, s1.up _ _ h3, by omega, by omega, k1, List.getElem?_eq_getElem k2, q _ _ _ ((R.step s1).mut (List.contains_iff_mem.mp (Bool.and_eq_true_iff.mp ho).1) (of_decide_eq_true (Bool.and_eq_true_iff.mp ho).2) one (getL_some hg) h2 ((dqAll_mono s1.keep h5).erase j))⟩
          · exact q.elim
        · exact q.elim
      · exact q.elim
end
section
variable (ρ : En) (d : D) (ds : List D)
def oPopI (i : Nat) (o : Option (List D)) (r : Rs D) (ρ : En) : Out := oL o fun ds => oBind r ρ (popK i ρ ds)
@[simp] theorem at_sPopI (i : Nat) (f : En → Rs D) : sPopI i f ρ = oPopI i (getL ρ i) (f ρ) ρ := nrfl rfl
@[simp] theorem oPopI_ok (i : Nat) (z : Int) : oPopI i (some ds) (.ok (.int z)) ρ = match ixN ds.length z with
    | some j => if ds.length ≤ 16777216 then .nx (ρ.set i (some (.list (ds.eraseIdx j)))) else .bad
    | none => .bad := nrfl rfl
@[simp] theorem ixN_s0 (n : Nat) : ixN (n + 1) 0 = some 0 := by unfold ixN; simp
end
/-! ### a, b = e, f -/
section
variable {X : Cx} {W : WX} {fl : Md} {L own : List Nat} {e1 e2 : Expr} {fa : En → Rs (List D)} {pos px py pt pt2 : Pos} {kt k2 : Nat}
def parK (i j : Nat) (ρ : En) : List D → Out
  | [d, e] => .nx ((ρ.set i (some d)).set j (some e))
  | _ => .bad
def oBindL (r : Rs (List D)) (ρ : En) (k : List D → Out) : Out := match r with
  | .ok d => k d
  | .ex c fs => .ex c fs ρ
  | .bad => .bad
def sPar (i j : Nat) (fa : En → Rs (List D)) : En → Out := fun ρ => oBindL (fa ρ) ρ (parK i j ρ)
theorem ss_par (i j : Nat) {x y : Str} (C : X.calm = true) (h : SA X W own [e1, e2] fa) (hN : X.N.Nodup) (hi : X.N[i]? = some x := by rfl) (hj : X.N[j]? = some y := by rfl) (hij : i ≠ j := by decide)
    (hx : X.env.scope.names.lookup x = some .local := by rfl) (hy : X.env.scope.names.lookup y = some .local := by rfl)
    (hw : swappedStores [.Tuple [.Name x px, .Name y py] kt pt] (.Tuple [e1, e2] k2 pt2) X.env = pure (some [x, y]) := by rfl)
    (hs : swapsWithSole [.Tuple [.Name x px, .Name y py] kt pt] (.Tuple [e1, e2] k2 pt2) pos.line X.env = pure false := by rfl) (hk : own.contains (1000 + i) = false := by rfl) (hkj : own.contains (1000 + j) = false := by rfl) (hE : okE fl own = true := by rfl) :
    SS X W fl L own (.Assign [.Tuple [.Name x px, .Name y py] kt pt] (.Tuple [e1, e2] k2 pt2) pos) (sPar i j fa) (drp (drp own i) j) := by
  obtain ⟨t, p, r⟩ := h.ex
  refine ⟨_, ps_par C hN hi hj hij hx hy p hw hs, fun H0 Hd0 ρ σ H Hd R Dn q => ?_⟩
  refine r _ _ _ _ _ _ R _ ?_
  unfold sPar oBindL at q
  cases hf : fa ρ with
  | bad => rw [hf] at q; exact q
  | ex c fs => rw [hf] at q; exact fun cls a H' Hd' s x => exc_of R q s x hE
  | ok ds =>
    rw [hf] at q
    simp only at q
    intro vs H1 Hd1 s1 xs
    unfold parK at q
    split at q
    · cases xs with
      | cons a1 r1 => cases r1 with
        | cons a2 r2 => cases r2 with
          | nil => exact ⟨_, _, rfl, q _ _ _ (((R.step s1).set a1 (ncon hk)).set a2 (fun m => ncon hkj (mem_drp.mp m).1))⟩
    · exact q.elim
end
@[simp] theorem at_sPar (i j : Nat) (f : En → Rs (List D)) (ρ : En) : sPar i j f ρ = oBindL (f ρ) ρ (parK i j ρ) := nrfl rfl
@[simp] theorem oBindL_ok (ds : List D) (ρ : En) (k : List D → Out) : oBindL (.ok ds) ρ k = k ds := nrfl rfl
@[simp] theorem parK_ok (i j : Nat) (ρ : En) (d e : D) : parK i j ρ [d, e] = .nx ((ρ.set i (some d)).set j (some e)) := nrfl rfl
end Wm

set_option Elab.async false
set_option linter.all false
set_option maxRecDepth 100000
/-! WmZip: zip and enumerate over lists and tuples alike. -/
namespace Wm
open PySem PySem.Spec PyProof.Rows L2
/-! ### a source: a tuple (t) or a list -/
def SqB (K : PySem.W.Frag) (t : Bool) (H : Hp) (a : Addr) (xs : List V) : Prop := if t = true then SqT K H a xs else SqL K H a xs
def HasB (t : Bool) (h : Heap) (a : Addr) (us : Array Value) : Prop := if t = true then h.IsTuple a us else h.IsList a us
def ItB (t : Bool) (h : Heap) (i a : Addr) (k : Nat) : Prop := if t = true then h.IsTupleIter i a k else h.IsListIter i a k
section
variable {prog : Program} {w : World} {A : Around}
theorem drawsB (t : Bool) (nh : A.handled = none) (i a : Addr) (ne : a ≠ i) (us : Array Value) : Draws prog w A i [i, a] us.size (fun k v => us[k]? = some v) (fun k h => ItB t h i a k ∧ HasB t h a us) := by
  cases t with
  | true => exact Draws.tuple nh i a ne us
  | false => exact Draws.list nh i a ne us
/-- nothing is left at k -/
theorem drawsE (t : Bool) (nh : A.handled = none) (i a : Addr) (us : Array Value) (k : Nat) (hk : us.size ≤ k) : Draws prog w A i [i, a] k (fun _ _ => True) (fun j h => (ItB t h i a j ∧ HasB t h a us) ∧ j = k) := by
  cases t with
  | true =>
    exact { live := fun _ _ y => let ⟨o, q, _⟩ := y.1.1; ⟨o, q⟩
            frame := fun _ _ _ y f => ⟨⟨Heap.IsTupleIter.at y.1.1 fun o e => f i (by simp) o e, Heap.IsTuple.at y.1.2 fun o e => f a (by simp) o e⟩, y.2⟩
            item := fun j s Q E lt y _ => absurd lt (by rw [y.2]; omega)
            done := fun s Q E y f => wpAny_nextOf_tuple_end nh y.1.1 y.1.2 (by simp; omega) f }
  | false =>
    exact { live := fun _ _ y => let ⟨o, q, _⟩ := y.1.1; ⟨o, q⟩
            frame := fun _ _ _ y f => ⟨⟨Heap.IsListIter.at y.1.1 fun o e => f i (by simp) o e, Heap.IsList.at y.1.2 fun o e => f a (by simp) o e⟩, y.2⟩
            item := fun j s Q E lt y _ => absurd lt (by rw [y.2]; omega)
            done := fun s Q E y f => wpAny_nextOf_list_end nh y.1.1 y.1.2 (by simp; omega) f }
theorem itB_obj {t : Bool} {h : Heap} {i a : Addr} {k : Nat} (y : ItB t h i a k) : ∃ o, h.get? i = some o ∧ ∀ v, o.data ≠ .cell v := by
  cases t <;> obtain ⟨o, e, _, d⟩ := y <;> exact ⟨o, e, fun v q => by rw [d] at q; cases q⟩
theorem itB_at {t : Bool} {h h' : Heap} {i a : Addr} {k : Nat} (y : ItB t h i a k) (f : ∀ o, h.get? i = some o → h'.get? i = some o) : ItB t h' i a k := by
  cases t with
  | true => exact Heap.IsTupleIter.at y f
  | false => exact Heap.IsListIter.at y f
def freshIt (t : Bool) (a : Addr) : Obj := { cls := .type (if t = true then "tuple_iterator" else "list_iterator"), data := .fields #[.ref a, .int 0 0] }
theorem beginsB (t : Bool) (a : Addr) (us : Array Value) : Begins (.ref a) (freshIt t a) (fun h => HasB t h a us) := by
  cases t with
  | true => exact begins_tuple a us
  | false => exact begins_list a us
theorem itB_new {t : Bool} {h : Heap} {i a : Addr} (y : h.get? i = some (freshIt t a)) : ItB t h i a 0 := by
  cases t <;> exact ⟨_, y, rfl, rfl⟩
end
section
variable {X : Cx} {pins : List (Addr × Obj)} {σ : L2.St} {H : Hp} {s : Shared}
theorem srcB (I : Inv X pins σ H s) {t : Bool} {a : Addr} {xs : List V} (h : SqB X.K t H a xs) : ∃ us : List Value, Vals xs us ∧ HasB t s.heap a us.toArray ∧ a < s.heap.objs.size := by
  cases t with
  | true =>
    obtain ⟨us, r, p, _⟩ := I.tuple h
    have p' : s.heap.IsTuple a us.toArray := p
    obtain ⟨o, e, _⟩ := id p'
    exact ⟨us, r, p', Heap.lt_size e⟩
  | false =>
    obtain ⟨us, r, p, _⟩ := I.list h
    exact ⟨us, r, p.isList, p.lt⟩
theorem srcB_inj (I : Inv X pins σ H s) {t : Bool} {a : Addr} {xs ys : List V} (h : SqB X.K t H a xs) (h' : SqB X.K t H a ys) : ys = xs := by
  cases t with
  | true => exact I.tuple_inj h' h
  | false => exact I.list_inj h' h
end
/-! ### zip -/
def ItZ (K : PySem.W.Frag) (t u : Bool) (a b : Addr) : It :=
  ⟨fun i H => ∃ (xs ys : List V), SqB K t H a xs ∧ SqB K u H b ys ∧ i < xs.length ∧ i < ys.length,
   fun i H v H' => ∃ T x y, v = V.ref T ∧ H T = none ∧ H' = upd H T (.tup [x, y]) ∧ (∀ xs, SqB K t H a xs → xs[i]? = some x) ∧ (∀ ys, SqB K u H b ys → ys[i]? = some y),
   fun i H => ∃ xs ys : List V, SqB K t H a xs ∧ SqB K u H b ys ∧ (xs.length ≤ i ∨ ys.length ≤ i)⟩
theorem turn_Z {P : Program} {w : World} {K : PySem.W.Frag} {elts : List Expr} {kk : Nat} {tpos : Pos} (t u : Bool) {a b z TI TO i1 i2 : Addr} (S : ZipSep2 z TI TO i1 i2 [i1, a] [i2, b]) (na : a ≠ i1) (nb : b ≠ i2) :
    Turn P w K (.Tuple elts kk tpos) (ItZ K t u a b) [z, TI, TO, i1, i2] z (fun i h => IsZip h z TI TO .none ∧ IsTupOf2 h TI (.ref i1) (.ref i2) ∧ (∃ x y, IsTupOf2 h TO x y) ∧ ItB t h i1 a i ∧ ItB u h i2 b i) where
  mem := List.mem_cons_self
  obj := fun i h y c hc => by
    obtain ⟨y1, y2, ⟨p, q, y3⟩, y4, y5⟩ := y
    simp only [List.mem_cons, List.not_mem_nil, or_false] at hc
    rcases hc with rfl | rfl | rfl | rfl | rfl
    · exact ⟨_, y1, fun v e => nomatch e⟩
    · exact ⟨_, y2, fun v e => nomatch e⟩
    · exact ⟨_, y3, fun v e => nomatch e⟩
    · exact itB_obj y4
    · exact itB_obj y5
  keep := fun i h h' y f => by
    obtain ⟨y1, y2, ⟨p, q, y3⟩, y4, y5⟩ := y
    exact ⟨f z (by simp) _ y1, f TI (by simp) _ y2, ⟨p, q, f TO (by simp) _ y3⟩, itB_at y4 (f i1 (by simp)), itB_at y5 (f i2 (by simp))⟩
  item := by
    intro X hP hw hK calm i pins s σ H E I fr y g
    subst hP hw hK
    obtain ⟨y1, y2, ⟨p, q, y3⟩, y4, y5⟩ := y
    obtain ⟨xs, ys, sx, sy, lx, ly⟩ := g
    obtain ⟨us, rx, px, _⟩ := srcB I sx
    obtain ⟨vs, ry, py, _⟩ := srcB I sy
    have ex : xs[i]? = some xs[i] := List.getElem?_eq_getElem lx
    have ey : ys[i]? = some ys[i] := List.getElem?_eq_getElem ly
    obtain ⟨ux, gx, mx⟩ := rx.get ex
    obtain ⟨uy, gy, my⟩ := ry.get ey
    have nh : X.A.in1.handled = none := I.ok.hd calm
    have zlt : z < s.heap.objs.size := Heap.lt_size y1
    refine wpAny_pyNext_zipD2_item S (drawsB t nh i1 a na us.toArray) (drawsB u nh i2 b nb vs.toArray) y1 y2 y3 ⟨y4, px⟩ ⟨y5, py⟩ (by simp; exact Nat.lt_of_lt_of_eq lx rx.length) (by simp; exact Nat.lt_of_lt_of_eq ly ry.length) fun x1 x2 h1 tk k1 k2 z1 o1 d1 d2 n1 _ f1 => ?_
    have e1 : x1 = ux := by have k : us[i]? = some x1 := by simpa using k1
                            rw [gx] at k; exact (Option.some.inj k).symm
    have e2 : x2 = uy := by have k : vs[i]? = some x2 := by simpa using k2
                            rw [gy] at k; exact (Option.some.inj k).symm
    subst e1 e2
    refine ⟨_, rfl, wpAny_letOwnedTupleGo_zip (s := { s with heap := h1, toks := tk }) z1 fun h2 z2 same => ?_⟩
    have n2 : h2.get? s.heap.objs.size = some { cls := .type "tuple", data := .seq #[x1, x2] } := (same.2 _ (Nat.ne_of_gt zlt)).trans n1
    have J : Inv X pins σ (upd H s.heap.objs.size (.tup [xs[i], ys[i]])) { s with heap := h2, toks := tk } :=
      I.turnedNew (t' := tk) (ch := [z, TI, TO, i1, i2]) (fun c o out e => by
        simp only [List.mem_cons, List.not_mem_nil, or_false, not_or] at out
        exact (same.2 c out.1).trans (f1 c o out.1 out.2.2.1 out.2.2.2.1 out.2.2.2.2 e)) fr (Nat.le_refl _) ⟨by show 2 ≤ sizeLine; decide, [x1, x2], .cons mx (.cons my .nil), ⟨_, n2, rfl, _, rfl⟩⟩
    have apart : ∀ {c : Addr}, c ≠ z → h2.get? c = h1.get? c := fun {c} ne => same.2 c ne
    refine ⟨.ref s.heap.objs.size, _, J, rfl, ⟨_, _, _, rfl, I.hok.fresh (Nat.le_refl _), rfl, fun l hl => by rw [srcB_inj I sx hl]; exact ex, fun l hl => by rw [srcB_inj I sy hl]; exact ey⟩, ⟨z2, (apart S.TIz).trans (f1 _ _ S.TIz S.TITO S.TIi1 S.TIi2 y2), ⟨x1, x2, (apart S.TOz).trans o1⟩, itB_at d1.1 fun o e => (apart (Ne.symm S.zi1)).trans e, itB_at d2.1 fun o e => (apart (Ne.symm S.zi2)).trans e⟩, fun c hc => ?_⟩
    have lt : c < s.heap.objs.size := by
      simp only [List.mem_cons, List.not_mem_nil, or_false] at hc
      rcases hc with rfl | rfl | rfl | rfl | rfl
      · exact zlt
      · exact Heap.lt_size y2
      · exact Heap.lt_size y3
      · obtain ⟨_, e, _⟩ := itB_obj y4; exact Heap.lt_size e
      · obtain ⟨_, e, _⟩ := itB_obj y5; exact Heap.lt_size e
    rw [upd_ne (Nat.ne_of_lt lt)]
    exact (fr c hc).1
  done := by
    intro X hP hw hK calm i pins s σ H E I fr y g
    subst hP hw hK
    obtain ⟨y1, y2, ⟨p, q, y3⟩, y4, y5⟩ := y
    obtain ⟨xs, ys, sx, sy, stop⟩ := g
    obtain ⟨us, rx, px, _⟩ := srcB I sx
    obtain ⟨vs, ry, py, _⟩ := srcB I sy
    have nh : X.A.in1.handled = none := I.ok.hd calm
    have lx := rx.length
    have ly := ry.length
    have fin : ∀ h' tk, (∀ c o, c ≠ z → c ≠ TO → c ≠ i1 → c ≠ i2 → s.heap.get? c = some o → h'.get? c = some o) → (none : Option Value) = none ∧ Inv X pins σ H { s with heap := h', toks := tk } := fun h' tk f =>
      ⟨rfl, I.turnedL (t' := tk) (ch := [z, TI, TO, i1, i2]) (fun c o out e => by
        simp only [List.mem_cons, List.not_mem_nil, or_false, not_or] at out
        exact f c o out.1 out.2.2.1 out.2.2.2.1 out.2.2.2.2 e) fr⟩
    by_cases c1 : xs.length ≤ i
    · by_cases c2 : ys.length ≤ i
      · exact wpAny_pyNext_zipD2_end S (drawsE t nh i1 a us.toArray i (by simp; omega)) (drawsE u nh i2 b vs.toArray i (by simp; omega)) y1 y2 y3 ⟨⟨y4, px⟩, rfl⟩ ⟨⟨y5, py⟩, rfl⟩ (Nat.le_refl _) (Nat.le_refl _) (.inl rfl) fin
      · exact wpAny_pyNext_zipD2_end S (drawsE t nh i1 a us.toArray i (by simp; omega)) (drawsB u nh i2 b nb vs.toArray) y1 y2 y3 ⟨⟨y4, px⟩, rfl⟩ ⟨y5, py⟩ (Nat.le_refl _) (by simp; omega) (.inl rfl) fin
    · exact wpAny_pyNext_zipD2_end S (drawsB t nh i1 a na us.toArray) (drawsE u nh i2 b vs.toArray i (by simp; omega)) y1 y2 y3 ⟨y4, px⟩ ⟨⟨y5, py⟩, rfl⟩ (by simp; omega) (Nat.le_refl _) (.inr rfl) fin
  self := fun A i s Q E y h => wpAny_pyIter_zip y.1 h
def iZipB (K : PySem.W.Frag) (ta : TA) : TI := fun σ H R => ta σ H fun vs H1 => ∃ t u a b xs ys, vs = [V.ref a, V.ref b] ∧ SqB K t H1 a xs ∧ SqB K u H1 b ys ∧ R (ItZ K t u a b) H1
theorem pi_zipB {X : Cx} {e e2 : Expr} {ta : TA} {p pos tpos : Pos} {elts : List Expr} {kk : Nat} (hg : Gl X "zip") (hm : X.mg "zip" = none) (ha : PA X [e, e2] ta)
    (hs : starEach [e, e2] X.env = (false, eval e X.env) :: starEach [e2] X.env := by rfl) (hpl : (backTo pos (starEach [e2] X.env)).any (·.1) = false := by rfl) :
    PI X (.Tuple elts kk tpos) (.Call (.Name "zip" p) [e, e2] [] pos) (iZipB X.K ta) := by
  refine ⟨fun pins s σ H R I h => Call_ (ld_blt I hg hm boot_zip (callWith_type1 (thn (ha.run pos pins s σ H _ I h) fun ws s1 ⟨vs, H1, I1, rel, t, u, a, b, xs, ys, ev, sx, sy, q⟩ => ?_) hs hpl))⟩
  subst ev
  rcases rel with _ | ⟨r1, _ | ⟨r2, _ | _⟩⟩
  cases r1
  cases r2
  obtain ⟨us, _, px, la⟩ := srcB I1 sx
  obtain ⟨vs, _, py, lb⟩ := srcB I1 sy
  refine zip_begins2 (beginsB t a us.toArray) (beginsB u b vs.toArray) px py fun h' y1 y2 y3 y4 y5 _ f => wpAny_pyIter_zip y1 ?_
  refine ⟨s1.heap.objs.size + 4, [s1.heap.objs.size + 4, s1.heap.objs.size + 2, s1.heap.objs.size + 3, s1.heap.objs.size, s1.heap.objs.size + 1], _, _, H1, rfl, I1.kept (t' := s1.toks) f, turn_Z t u (zip_sep2 (fp1 := [a]) (fp2 := [b]) (by simpa using la) (by simpa using lb)) (Nat.ne_of_lt la) (Nat.ne_of_lt (Nat.lt_succ_of_lt lb)), ⟨y1, y2, ⟨_, _, y3⟩, itB_new y4, itB_new y5⟩, fun c hc => ?_, q⟩
  have le : s1.heap.objs.size ≤ c := by
    simp only [List.mem_cons, List.not_mem_nil, or_false] at hc
    rcases hc with rfl | rfl | rfl | rfl | rfl
    · exact Nat.le_add_right _ 4
    · exact Nat.le_add_right _ 2
    · exact Nat.le_add_right _ 3
    · exact Nat.le_refl _
    · exact Nat.le_add_right _ 1
  exact I1.fpOk le (I1.hok.fresh le)
/-! ### enumerate -/
def ItE (K : PySem.W.Frag) (t : Bool) (a : Addr) : It :=
  ⟨fun i H => ∃ xs : List V, SqB K t H a xs ∧ i < xs.length,
   fun i H v H' => ∃ T x, v = V.ref T ∧ H T = none ∧ H' = upd H T (.tup [.int (i : Nat), x]) ∧ ∀ xs, SqB K t H a xs → xs[i]? = some x,
   fun i H => ∃ xs : List V, SqB K t H a xs ∧ xs.length ≤ i⟩
theorem turn_E {P : Program} {w : World} {K : PySem.W.Frag} {elts : List Expr} {kk : Nat} {tpos : Pos} (t : Bool) {a e i1 : Addr} (n1 : e ≠ i1) (n2 : e ∉ [i1, a]) (na : a ≠ i1) :
    Turn P w K (.Tuple elts kk tpos) (ItE K t a) [e, i1] e (fun i h => (∃ old, IsEnum h e i1 ((i : Nat) : Int) old) ∧ ItB t h i1 a i) where
  mem := List.mem_cons_self
  obj := fun i h y c hc => by
    obtain ⟨⟨old, y1⟩, y2⟩ := y
    simp only [List.mem_cons, List.not_mem_nil, or_false] at hc
    rcases hc with rfl | rfl
    · exact ⟨_, y1, fun v e => nomatch e⟩
    · exact itB_obj y2
  keep := fun i h h' y f => let ⟨⟨old, y1⟩, y2⟩ := y; ⟨⟨old, f e (by simp) _ y1⟩, itB_at y2 (f i1 (by simp))⟩
  item := by
    intro X hP hw hK calm i pins s σ H E I fr y g
    subst hP hw hK
    obtain ⟨⟨old, y1⟩, y2⟩ := y
    obtain ⟨xs, sx, lx⟩ := g
    obtain ⟨us, rx, px, _⟩ := srcB I sx
    have ex : xs[i]? = some xs[i] := List.getElem?_eq_getElem lx
    obtain ⟨ux, gx, mx⟩ := rx.get ex
    have nh : X.A.in1.handled = none := I.ok.hd calm
    have elt : e < s.heap.objs.size := Heap.lt_size y1
    refine wpAny_pyNext_enum_itemD (drawsB t nh i1 a na us.toArray) y1 ⟨y2, px⟩ (by simp; exact Nat.lt_of_lt_of_eq lx rx.length) n1 n2 fun x1 h1 tk k1 o1 d1 new1 _ f1 => ?_
    have e1 : x1 = ux := by have k : us[i]? = some x1 := by simpa using k1
                            rw [gx] at k; exact (Option.some.inj k).symm
    subst e1
    refine ⟨_, rfl, wpAny_letOwnedTupleGo_enum (s := { s with heap := h1, toks := tk + 1 }) o1 fun h2 z2 same => ?_⟩
    have new2 : h2.get? s.heap.objs.size = some { cls := .type "tuple", data := .seq #[.int i tk, x1] } := (same.2 _ (Nat.ne_of_gt elt)).trans new1
    have J : Inv X pins σ (upd H s.heap.objs.size (.tup [.int (i : Nat), xs[i]])) { s with heap := h2, toks := tk + 1 } :=
      I.turnedNew (t' := tk + 1) (ch := [e, i1]) (fun c o out q => by
        simp only [List.mem_cons, List.not_mem_nil, or_false, not_or] at out
        exact (same.2 c out.1).trans (f1 c o out.1 out.2 q)) fr (Nat.le_refl _) ⟨by show 2 ≤ sizeLine; decide, [.int i tk, x1], .cons ⟨_, rfl⟩ (.cons mx .nil), ⟨_, new2, rfl, _, rfl⟩⟩
    refine ⟨.ref s.heap.objs.size, _, J, rfl, ⟨_, _, rfl, I.hok.fresh (Nat.le_refl _), rfl, fun l hl => by rw [srcB_inj I sx hl]; exact ex⟩, ⟨⟨x1, by rw [Int.natCast_add]; exact z2⟩, itB_at d1.1 fun o q => (same.2 _ (Ne.symm n1)).trans q⟩, fun c hc => ?_⟩
    have lt : c < s.heap.objs.size := by
      simp only [List.mem_cons, List.not_mem_nil, or_false] at hc
      rcases hc with rfl | rfl
      · exact elt
      · obtain ⟨_, q, _⟩ := itB_obj y2; exact Heap.lt_size q
    rw [upd_ne (Nat.ne_of_lt lt)]
    exact (fr c hc).1
  done := by
    intro X hP hw hK calm i pins s σ H E I fr y g
    subst hP hw hK
    obtain ⟨⟨old, y1⟩, y2⟩ := y
    obtain ⟨xs, sx, lx⟩ := g
    obtain ⟨us, rx, px, _⟩ := srcB I sx
    have nh : X.A.in1.handled = none := I.ok.hd calm
    have ll := rx.length
    exact wpAny_pyNext_enum_endD (drawsE t nh i1 a us.toArray i (by simp; omega)) y1 ⟨⟨y2, px⟩, rfl⟩ fun h' f =>
      ⟨rfl, I.turnedL (t' := s.toks) (ch := [e, i1]) (fun c o out q => by
        simp only [List.mem_cons, List.not_mem_nil, or_false, not_or] at out
        exact f c o out.2 q) fr⟩
  self := fun A i s Q E y h => let ⟨⟨_, y1⟩, _⟩ := y; wpAny_pyIter_enum y1 h
theorem meets_enumB {v : Value} {o : Obj} {G : Heap → Prop} (B : Begins v o G) :
    Meets (Builtin.«enumerate.__new__» ⟨[.type "enumerate", v], []⟩) (fun _ R s => G s.heap ∧
      R (.ok (.ret (.ref (s.heap.push o).objs.size))) { s with heap := (s.heap.push o).push { cls := .type "enumerate", data := .fields #[.none, .bool false, .ref s.heap.objs.size, rawInt 0, .none, .none] } }) :=
  .of_wp fun prog w A R s y => by
    obtain ⟨hp, gs, dr, tk, os⟩ := s
    obtain ⟨y1, y2⟩ := y
    have hsub := sub_enumerate
    have it : ∀ {A' : Around} {E : Value → Shared → Prop} {Q : Value → Shared → Prop}, Q (.ref hp.objs.size) ⟨hp.push o, gs, dr, tk, os⟩ → wpAny (model prog w) A' (pyIter v) Q E ⟨hp, gs, dr, tk, os⟩ :=
      fun q => B.iter prog w _ _ ⟨hp, gs, dr, tk, os⟩ _ y1 q
    wp_walk using it
    refine wpAny_stack_any fun _ => wpAny_pure ?_
    split
    · next c _ _ _ _ _ =>
      generalize (c == Value.type "enumerate") = k
      cases k <;> (wp_walk using it; exact ⟨_, rfl, y2⟩)
    · wp_walk using it
      exact ⟨_, rfl, y2⟩
def iEnumB (K : PySem.W.Frag) (ta : TA) : TI := fun σ H R => ta σ H fun vs H1 => ∃ t a xs, vs = [V.ref a] ∧ SqB K t H1 a xs ∧ R (ItE K t a) H1
theorem pi_enumB {X : Cx} {e : Expr} {ta : TA} {p pos tpos : Pos} {elts : List Expr} {kk : Nat} (hg : Gl X "enumerate") (hm : X.mg "enumerate" = none) (ha : PA X [e] ta) (hs : starEach [e] X.env = [(false, eval e X.env)] := by rfl) :
    PI X (.Tuple elts kk tpos) (.Call (.Name "enumerate" p) [e] [] pos) (iEnumB X.K ta) := by
  refine ⟨fun pins s σ H R I h => Call_ (ld_blt I hg hm boot_enumerate (callWith_type1 (thn (ha.run pos pins s σ H _ I h) fun ws s1 ⟨vs, H1, I1, rel, t, a, xs, ev, sx, q⟩ => ?_) hs rfl))⟩
  subst ev
  rcases rel with _ | ⟨r1, _ | _⟩
  cases r1
  obtain ⟨us, _, px, la⟩ := srcB I1 sx
  have B := beginsB t a us.toArray
  refine callType_new F.called_enumerate (by decide) (F.typeCall_enumerate_1 _) (F.newCall_enumerate_1 _) (fun obj => F.args_object_init_2 obj _) F.entry_enumerate_new (meets_enumB B) ⟨px, ?_⟩
  have z1 : (s1.heap.push (freshIt t a)).objs.size = s1.heap.objs.size + 1 := Heap.size_push ..
  show _ ∧ _
  rw [z1]
  have y1 : IsEnum ((s1.heap.push (freshIt t a)).push { cls := .type "enumerate", data := .fields #[.none, .bool false, .ref s1.heap.objs.size, rawInt 0, .none, .none] }) (s1.heap.objs.size + 1) s1.heap.objs.size 0 .none := by
    rw [← z1]
    exact Heap.get?_push_size _ rfl
  have y2 : ((s1.heap.push (freshIt t a)).push { cls := .type "enumerate", data := .fields #[.none, .bool false, .ref s1.heap.objs.size, rawInt 0, .none, .none] }).get? s1.heap.objs.size = some (freshIt t a) := Heap.get?_push_of_some _ (Heap.get?_push_size _ B.free)
  refine ⟨⟨_, y1, rfl⟩, wpAny_pyIter_enum y1 ?_⟩
  refine ⟨s1.heap.objs.size + 1, [s1.heap.objs.size + 1, s1.heap.objs.size], _, _, H1, rfl, I1.kept (t' := s1.toks) fun c o e => Heap.get?_push_of_some _ (Heap.get?_push_of_some _ e), turn_E t (a := a) (Nat.succ_ne_self _) ?_ (Nat.ne_of_lt la), ⟨⟨_, y1⟩, itB_new y2⟩, fun c hc => ?_, q⟩
  · simp only [List.mem_cons, List.not_mem_nil, or_false, not_or]
    exact ⟨Nat.succ_ne_self _, Nat.ne_of_gt (Nat.lt_succ_of_lt la)⟩
  · have le : s1.heap.objs.size ≤ c := by
      simp only [List.mem_cons, List.not_mem_nil, or_false] at hc
      rcases hc with rfl | rfl
      · exact Nat.le_add_right _ 1
      · exact Nat.le_refl _
    exact I1.fpOk le (I1.hok.fresh le)
/-! ### the layer's rules -/
def seqOf : D → Option (List D)
  | .list ds => some ds
  | .tuple ds => some ds
  | _ => none
theorem Dq.seqB {K : PySem.W.Frag} {H : Hp} {v : V} {d : D} {ds : List D} (h : Dq K H v d) (e : seqOf d = some ds) : ∃ t a vs, v = V.ref a ∧ SqB K t H a vs ∧ DqAll K H vs ds := by
  cases h with
  | lst h r => cases e; exact ⟨false, _, _, rfl, h, r⟩
  | tup h r => cases e; exact ⟨true, _, _, rfl, h, r⟩
  | _ => cases e
theorem sqB_same {K : PySem.W.Frag} {H H' : Hp} {t : Bool} {a : Addr} {xs : List V} (e : Same H H') (h : SqB K t H a xs) : SqB K t H' a xs := by
  cases t with
  | true => exact sqt_same e h
  | false => exact Same.seq e h
def iEn : D → Rs (List D) := fun d => match seqOf d with
  | some ds => .ok (enumFrom 0 ds)
  | none => .bad
def iZip (d e : D) : Rs (List D) := match seqOf d, seqOf e with
  | some ds, some es => .ok (zipD ds es)
  | _, _ => .bad
def eIt2 (g : D → D → Rs (List D)) (f f2 : En → Rs D) : En → Rs (List D) := fun ρ => f ρ >>= fun d => f2 ρ >>= fun e => g d e
theorem walks_E {K : PySem.W.Frag} {t : Bool} {a : Addr} {vs : List V} {ds : List D} {Hd1 : Hp} (h : SqB K t Hd1 a vs) (r : DqAll K Hd1 vs ds) : Walks K (ItE K t a) (enumFrom 0 ds) Hd1 := fun H Hd u s i => by
  have hH := sqB_same s (sqB_same u h)
  have hl := r.length
  refine ⟨fun d hd => ?_, fun hi => ⟨vs, hH, by rw [enum_len] at hi; omega⟩⟩
  obtain ⟨e', he, rfl⟩ := enum_get hd
  have li := (List.getElem?_eq_some_iff.mp he).1
  refine ⟨⟨vs, hH, by omega⟩, fun x H' y => ?_⟩
  obtain ⟨T, x1, rfl, hT, rfl, e2⟩ := y
  rw [Nat.zero_add]
  exact pair_step s hT (.int _) (dq_mono u (r.get' he (e2 vs hH)))
theorem zip_get {a b : List D} {i : Nat} {d : D} (h : (zipD a b)[i]? = some d) : ∃ x y, a[i]? = some x ∧ b[i]? = some y ∧ d = .tuple [x, y] := by
  unfold zipD at h
  rw [List.getElem?_map] at h
  cases hz : (a.zip b)[i]? with
  | none => rw [hz] at h; cases h
  | some p =>
    rw [hz] at h
    cases h
    obtain ⟨h1, h2⟩ := List.getElem?_zip_eq_some.mp hz
    exact ⟨p.1, p.2, h1, h2, rfl⟩
theorem walks_Z {K : PySem.W.Frag} {t u : Bool} {a b : Addr} {vs ws : List V} {ds es : List D} {Hd1 : Hp} (h : SqB K t Hd1 a vs) (r : DqAll K Hd1 vs ds) (h2 : SqB K u Hd1 b ws) (r2 : DqAll K Hd1 ws es) : Walks K (ItZ K t u a b) (zipD ds es) Hd1 := fun H Hd m s i => by
  have hH := sqB_same s (sqB_same m h)
  have hH2 := sqB_same s (sqB_same m h2)
  have hl := r.length
  have hl2 := r2.length
  refine ⟨fun d hd => ?_, fun hi => ⟨vs, ws, hH, hH2, ?_⟩⟩
  · obtain ⟨x, y, e1, e2, rfl⟩ := zip_get hd
    have l1 := (List.getElem?_eq_some_iff.mp e1).1
    have l2 := (List.getElem?_eq_some_iff.mp e2).1
    refine ⟨⟨vs, ws, hH, hH2, by omega, by omega⟩, fun v H' y => ?_⟩
    obtain ⟨T, x1, y1, rfl, hT, rfl, g1, g2⟩ := y
    exact pair_step s hT (dq_mono m (r.get' e1 (g1 vs hH))) (dq_mono m (r2.get' e2 (g2 ws hH2)))
  · unfold zipD at hi
    rw [List.length_map, List.length_zip] at hi
    omega
section
variable {X : Cx} {W : WX} {own : List Nat} {e e2 : Expr} {f f2 : En → Rs D} {p pos tpos : Pos} {elts : List Expr} {kk : Nat}
theorem si_en (h : SE X W own e f) (hm : X.mg "enumerate" = none) (hg : Gl X "enumerate" := by rfl) (hs : starEach [e] X.env = [(false, eval e X.env)] := by rfl) (hs' : starEach [e] X.env = (false, eval e X.env) :: starEach [] X.env := by rfl) :
    SI X W own (.Tuple elts kk tpos) (.Call (.Name "enumerate" p) [e] [] pos) (eIt iEn f) := by
  obtain ⟨t, pp, r⟩ := h.ex
  refine ⟨_, pi_enumB hg hm (pa_cons pp pa_nil hs') hs, fun H0 Hd0 ρ σ H Hd R Q q => ?_⟩
  refine r _ _ _ _ _ _ R _ ?_
  unfold eIt at q
  cases hf : f ρ with
  | bad => rw [hf] at q; exact q
  | ex c fs => rw [hf] at q; exact q
  | ok d =>
    rw [hf] at q
    intro v H1 Hd1 s1 x
    have q1 : PoI X W σ H1 Hd1 (iEn d) Q := PoI.step q s1
    unfold iEn at q1
    cases hd : seqOf d with
    | none => rw [hd] at q1; exact q1.elim
    | some ds =>
      rw [hd] at q1
      obtain ⟨t, a, vs, rfl, h1, h2⟩ := x.seqB hd
      exact ⟨t, a, vs, rfl, sqB_same s1.sub h1, q1 _ H1 Hd1 (.refl s1.sub) (walks_E h1 h2)⟩
theorem si_zip (h : SE X W own e f) (h2 : SE X W own e2 f2) (hm : X.mg "zip" = none) (hg : Gl X "zip" := by rfl)
    (hs : starEach [e, e2] X.env = (false, eval e X.env) :: starEach [e2] X.env := by rfl) (hpl : (backTo pos (starEach [e2] X.env)).any (·.1) = false := by rfl) (hs' : starEach [e2] X.env = (false, eval e2 X.env) :: starEach [] X.env := by rfl) :
    SI X W own (.Tuple elts kk tpos) (.Call (.Name "zip" p) [e, e2] [] pos) (eIt2 iZip f f2) := by
  obtain ⟨t, pp, r⟩ := h.ex
  obtain ⟨t2, pp2, r2⟩ := h2.ex
  refine ⟨_, pi_zipB hg hm (pa_cons pp (pa_cons pp2 pa_nil hs') hs) hs hpl, fun H0 Hd0 ρ σ H Hd R Q q => ?_⟩
  refine r _ _ _ _ _ _ R _ ?_
  unfold eIt2 at q
  cases hf : f ρ with
  | bad => rw [hf] at q; exact q
  | ex c fs => rw [hf] at q; exact q
  | ok d =>
    rw [hf] at q
    intro v H1 Hd1 s1 x
    have q1 : PoI X W σ H1 Hd1 (f2 ρ >>= fun e => iZip d e) Q := PoI.step q s1
    refine r2 _ _ _ _ _ _ (R.step s1) _ ?_
    cases hf2 : f2 ρ with
    | bad => rw [hf2] at q1; exact q1
    | ex c fs => rw [hf2] at q1; exact q1
    | ok d2 =>
      rw [hf2] at q1
      intro v2 H2 Hd2 s2 x2
      have q2 : PoI X W σ H2 Hd2 (iZip d d2) Q := PoI.step q1 s2
      unfold iZip at q2
      cases hd : seqOf d with
      | none => rw [hd] at q2; exact q2.elim
      | some ds =>
        cases hd2 : seqOf d2 with
        | none => rw [hd, hd2] at q2; exact q2.elim
        | some es =>
          rw [hd, hd2] at q2
          obtain ⟨t, a, vs, rfl, h1, g1⟩ := x.seqB hd
          obtain ⟨u, b, ws, rfl, k1, k2⟩ := x2.seqB hd2
          have h1' := sqB_same s2.keep h1
          exact ⟨t, u, a, b, vs, ws, rfl, sqB_same s2.sub h1', sqB_same s2.sub k1, q2 _ H2 Hd2 (.refl s2.sub) (walks_Z h1' (dqAll_mono s2.keep g1) k1 k2)⟩
end
/-! ### reckoning -/
section
variable (ρ : En) (d : D) (ds es : List D)
def kIt2 (g : D → D → Rs (List D)) (r : Rs D) (f : En → Rs D) (ρ : En) : Rs (List D) := r >>= fun d => f ρ >>= fun e => g d e
@[simp] theorem at_eIt2 (g : D → D → Rs (List D)) (f f2 : En → Rs D) : eIt2 g f f2 ρ = kIt2 g (f ρ) f2 ρ := nrfl rfl
@[simp] theorem kIt2_ok (g : D → D → Rs (List D)) (f : En → Rs D) : kIt2 g (.ok d) f ρ = f ρ >>= g d := nrfl rfl
@[simp] theorem iZip_tt : iZip (.tuple ds) (.tuple es) = .ok (zipD ds es) := nrfl rfl
@[simp] theorem iZip_tl : iZip (.tuple ds) (.list es) = .ok (zipD ds es) := nrfl rfl
@[simp] theorem iZip_ll : iZip (.list ds) (.list es) = .ok (zipD ds es) := nrfl rfl
@[simp] theorem iEn_t : iEn (.tuple ds) = .ok (enumFrom 0 ds) := nrfl rfl
@[simp] theorem iEn_l : iEn (.list ds) = .ok (enumFrom 0 ds) := nrfl rfl
@[simp] theorem zipD_cons (a b : D) : zipD (a :: ds) (b :: es) = .tuple [a, b] :: zipD ds es := nrfl rfl
@[simp] theorem zipD_nil_l : zipD [] es = [] := nrfl rfl
@[simp] theorem zipD_nil_r : zipD ds [] = [] := by unfold zipD; cases ds <;> rfl
theorem enumFrom_cons (i : Nat) : enumFrom i (d :: ds) = .tuple [.int i, d] :: enumFrom (i + 1) ds := nrfl rfl
end
end Wm

set_option Elab.async false
set_option linter.all false
set_option maxRecDepth 100000
set_option maxHeartbeats 4000000
namespace Wp
open PySem PySem.Spec PyProof.Rows L2 Wm
def k_OTHERS : D := (tx [32, 33, 34, 35, 36, 38, 39, 40, 41, 42, 43, 44, 47, 58, 59, 60, 61, 62, 63, 64, 91, 92, 93, 94, 96, 123, 124, 125, 126])
def f_is_text : En → Out :=
  (sRet (eAn (eIsi "str" (eVar 0)) (eBlt allD (aCons (eLc (eIt iSeq (eVar 0)) [1] (gNm 1) cYes (e2 inD (eVar 1) (e2 addD (eC k_PLAIN) (eC k_OTHERS)))) aNil))))
def g_is_text : List D → Rs D := runF 2 f_is_text
def f_is_step : En → Out :=
  (sRet (eAn (eCall 1 g_is_text (aCons (eVar 0) aNil)) (eAn (e2 neD (eVar 0) (eC (tx []))) (e2 notInD (eVar 0) (eC k_DOTS)))))
def g_is_step : List D → Rs D := runF 1 f_is_step
def f_name_of : En → Out :=
  (sSeq (sIf (tB (e2 eqD (e2 ixD (eVar 0) (eC (.int 0))) (eC (tx [115, 116, 101, 112]))))
      (sRet (eC (tx [])))
      sNx)
    (sSeq (sIf (tB (e2 eqD (e2 ixD (eVar 0) (eC (.int 0))) (eC (tx [112, 97, 114, 116]))))
      (sRet (e2 ixD (eVar 0) (eC (.int 2))))
      sNx)
    (sRet (e2 ixD (eVar 0) (eC (.int 1))))))
def g_name_of : List D → Rs D := runF 1 f_name_of
def f_names_of : En → Out :=
  (sRet (eLc (eIt iSeq (e2 ixD (eVar 0) (eC (.int 0)))) [1] (gNm 1) (tB (e2 neD (e2 ixD (eVar 1) (eC (.int 0))) (eC (tx [115, 116, 101, 112])))) (eCall 1 g_name_of (aCons (eVar 1) aNil))))
def g_names_of : List D → Rs D := runF 2 f_names_of
def k_MOST_SIGNS : D := (.int 60)
def k_FIGURES : D := (tx [48, 49, 50, 51, 52, 53, 54, 55, 56, 57])
def f_is_number : En → Out :=
  (sSeq (sIf (tOr' (tNo (tB (eChain leD leD (eC (.int 1)) (eBlt lenD (aCons (eVar 0) aNil)) (eC k_MOST_SIGNS)))) (tNo (tB (eBlt allD (aCons (eLc (eIt iSeq (eVar 0)) [1] (gNm 1) cYes (e2 inD (eVar 1) (eC k_FIGURES))) aNil)))))
      (sRet (eC (.bool false)))
      sNx)
    (sRet (eOr (e2 neD (e2 ixD (eVar 0) (eC (.int 0))) (eC (tx [48]))) (e2 eqD (eVar 0) (eC (tx [48]))))))
def g_is_number : List D → Rs D := runF 2 f_is_number
def k_LETTERS : D := (tx [97, 98, 99, 100, 101, 102, 103, 104, 105, 106, 107, 108, 109, 110, 111, 112, 113, 114, 115, 116, 117, 118, 119, 120, 121, 122])
def f_is_word : En → Out :=
  (sRet (eAn (eChain leD leD (eC (.int 1)) (eBlt lenD (aCons (eVar 0) aNil)) (eC k_MOST_SIGNS)) (eBlt allD (aCons (eLc (eIt iSeq (eVar 0)) [1] (gNm 1) cYes (e2 inD (eVar 1) (eC k_LETTERS))) aNil))))
def g_is_word : List D → Rs D := runF 2 f_is_word
def t_fits_piece_1 : En → Out :=
  (sSeq (sIf (tB (e2 eqD (e2 ixD (eVar 0) (eC (.int 0))) (eC (tx [110, 117, 109, 98, 101, 114]))))
      (sRet (eCall 1 g_is_number (aCons (eVar 1) aNil)))
      sNx)
    (sRet (eOr (e2 neD (e2 ixD (eVar 0) (eC (.int 0))) (eC (tx [119, 111, 114, 100]))) (eCall 1 g_is_word (aCons (eVar 1) aNil)))))
def t_fits_piece_2 : En → Out :=
  (sSeq (sIf (tB (e2 eqD (e2 ixD (eVar 0) (eC (.int 0))) (eC (tx [112, 97, 114, 116]))))
      (sSeq (sSet 2 (e2 gtD (eBlt lenD (aCons (eVar 1) aNil)) (e2 addD (eBlt lenD (aCons (e2 ixD (eVar 0) (eC (.int 1))) aNil)) (eBlt lenD (aCons (e2 ixD (eVar 0) (eC (.int 3))) aNil)))))
    (sRet (eAn (eVar 2) (eAn (eM1 startD (eVar 1) (e2 ixD (eVar 0) (eC (.int 1)))) (eM1 endD (eVar 1) (e2 ixD (eVar 0) (eC (.int 3))))))))
      sNx)
    t_fits_piece_1)
def t_fits_piece_3 : En → Out :=
  (sSeq (sIf (tB (e2 eqD (e2 ixD (eVar 0) (eC (.int 0))) (eC (tx [115, 116, 101, 112]))))
      (sRet (e2 eqD (eVar 1) (e2 ixD (eVar 0) (eC (.int 1)))))
      sNx)
    t_fits_piece_2)
def f_fits_piece : En → Out :=
  (sSeq (sIf (tB (e2 inD (eVar 1) (eC k_DOTS)))
      (sRet (eC (.bool false)))
      sNx)
    t_fits_piece_3)
def g_fits_piece : List D → Rs D := runF 3 f_fits_piece
def t_steps_by_1 : En → Out :=
  (sSeq (sIf (tAn (tB (e2 gtD (eBlt lenD (aCons (eVar 2) aNil)) (eC (.int 0)))) (tB (e2 eqD (e2 ixD (e2 ixD (eVar 2) (eNeg (eC (.int 1)))) (eC (.int 0))) (eC (tx [114, 101, 115, 116])))))
      (sItm 6 (eNeg (eC (.int 1))) (eSl (eVar 4) (oSo (e2 subD (eBlt lenD (aCons (eVar 2) aNil)) (eC (.int 1)))) oNo))
      (sIf (tB (e2 gtD (eBlt lenD (aCons (eVar 4) aNil)) (eBlt lenD (aCons (eVar 2) aNil))))
      (sRet (eC .none))
      sNx))
    (sRet (eVar 6)))
def t_steps_by_2 : En → Out :=
  (sSeq (sSet 6 (eLc (iRange1 (eBlt lenD (aCons (eVar 2) aNil))) [7] (gNm 7) cYes (eSl (eVar 4) (oSo (eVar 7)) (oSo (e2 addD (eVar 7) (eC (.int 1)))))))
    t_steps_by_1)
def t_steps_by_3 : En → Out :=
  (sSeq (sIf (tOr' (tNo (tB (eVar 3))) (tOr' (tB (e2 neD (eVar 5) (e2 ixD (eVar 0) (eC (.int 1))))) (tB (e2 ltD (eBlt lenD (aCons (eVar 4) aNil)) (eBlt lenD (aCons (eVar 2) aNil))))))
      (sRet (eC .none))
      sNx)
    t_steps_by_2)
def t_steps_by_4 : En → Out :=
  (sSeq (sUnp (gTp 3 (gsCons (gNm 3) (gsCons (gNm 4) (gsCons (gNm 5) gsNil)))) (eVar 1))
    t_steps_by_3)
def f_steps_by : En → Out :=
  (sSeq (sSet 2 (e2 ixD (eVar 0) (eC (.int 0))))
    t_steps_by_4)
def g_steps_by : List D → Rs D := runF 8 f_steps_by
def f_value_of : En → Out :=
  (sSeq (sIf (tB (e2 eqD (e2 ixD (eVar 0) (eC (.int 0))) (eC (tx [114, 101, 115, 116]))))
      (sRet (eBlt listD (aCons (eVar 1) aNil)))
      sNx)
    (sSeq (sIf (tB (e2 eqD (e2 ixD (eVar 0) (eC (.int 0))) (eC (tx [110, 117, 109, 98, 101, 114]))))
      (sRet (eBlt intD (aCons (e2 ixD (eVar 1) (eC (.int 0))) aNil)))
      sNx)
    (sSeq (sIf (tB (e2 eqD (e2 ixD (eVar 0) (eC (.int 0))) (eC (tx [112, 97, 114, 116]))))
      (sRet (eSl (e2 ixD (eVar 1) (eC (.int 0))) (oSo (eBlt lenD (aCons (e2 ixD (eVar 0) (eC (.int 1))) aNil))) (oSo (e2 subD (eBlt lenD (aCons (e2 ixD (eVar 1) (eC (.int 0))) aNil)) (eBlt lenD (aCons (e2 ixD (eVar 0) (eC (.int 3))) aNil))))))
      sNx)
    (sRet (e2 ixD (eVar 1) (eC (.int 0)))))))
def g_value_of : List D → Rs D := runF 2 f_value_of
def b_bound_1 : En → Out :=
  (sSeq (sIf (tNo (tB (eBlt allD (aCons (eLc (eIt iSeq (eVar 5)) [6] (gNm 6) cYes (eCall 2 g_fits_piece (aCons (eVar 4) (aCons (eVar 6) aNil)))) aNil))))
      (sRet (eC .none))
      sNx)
    (sIf (tB (e2 neD (e2 ixD (eVar 4) (eC (.int 0))) (eC (tx [115, 116, 101, 112]))))
      (sApp 2 (eTup (aCons (eCall 1 g_name_of (aCons (eVar 4) aNil)) (aCons (eCall 2 g_value_of (aCons (eVar 4) (aCons (eVar 5) aNil))) aNil))))
      sNx))
def t_bound_2 : En → Out :=
  (sSeq (sFor (eIt2 iZip (e2 ixD (eVar 0) (eC (.int 0))) (eVar 3)) (gTp 2 (gsCons (gNm 4) (gsCons (gNm 5) gsNil)))
      b_bound_1)
    (sRet (eVar 2)))
def t_bound_3 : En → Out :=
  (sSeq (sIf (tB (e2 isD (eVar 3) (eC .none)))
      (sRet (eC .none))
      sNx)
    t_bound_2)
def t_bound_4 : En → Out :=
  (sSeq (sSet 3 (eCall 2 g_steps_by (aCons (eVar 0) (aCons (eVar 1) aNil))))
    t_bound_3)
def f_bound : En → Out :=
  (sSeq (sSet 2 (eLst aNil))
    t_bound_4)
def g_bound : List D → Rs D := runF 7 f_bound
def t_serves_1 : En → Out :=
  (sSeq (sIf (tB (e2 eqD (e2 ixD (eVar 0) (eC (.int 0))) (eC (tx [112, 97, 114, 116]))))
      (sRet (eAn (eCall 1 g_is_text (aCons (eVar 1) aNil)) (eAn (e2 neD (eVar 1) (eC (tx []))) (e2 notInD (e2 addD (e2 addD (e2 ixD (eVar 0) (eC (.int 1))) (eVar 1)) (e2 ixD (eVar 0) (eC (.int 3)))) (eC k_DOTS)))))
      sNx)
    (sRet (eCall 1 g_is_step (aCons (eVar 1) aNil))))
def t_serves_2 : En → Out :=
  (sSeq (sIf (tB (e2 eqD (e2 ixD (eVar 0) (eC (.int 0))) (eC (tx [119, 111, 114, 100]))))
      (sRet (eAn (eIsi "str" (eVar 1)) (eCall 1 g_is_word (aCons (eVar 1) aNil))))
      sNx)
    t_serves_1)
def t_serves_3 : En → Out :=
  (sSeq (sIf (tB (e2 eqD (e2 ixD (eVar 0) (eC (.int 0))) (eC (tx [110, 117, 109, 98, 101, 114]))))
      (sRet (eAn (eIsi "int" (eVar 1)) (eAn (eNo (eIsi "bool" (eVar 1))) (eChain leD ltD (eC (.int 0)) (eVar 1) (e2 powD (eC (.int 10)) (eC (.int 60)))))))
      sNx)
    t_serves_2)
def f_serves : En → Out :=
  (sSeq (sIf (tB (e2 eqD (e2 ixD (eVar 0) (eC (.int 0))) (eC (tx [114, 101, 115, 116]))))
      (sRet (eAn (eIsi "list" (eVar 1)) (eAn (e2 neD (eVar 1) (eLst aNil)) (eBlt allD (aCons (eLc (eIt iSeq (eVar 1)) [2] (gNm 2) cYes (eCall 1 g_is_step (aCons (eVar 2) aNil))) aNil)))))
      sNx)
    t_serves_3)
def g_serves : List D → Rs D := runF 3 f_serves
def t_steps_for_1 : En → Out :=
  (sSeq (sIf (tB (e2 eqD (e2 ixD (eVar 0) (eC (.int 0))) (eC (tx [112, 97, 114, 116]))))
      (sRet (eLst (aCons (e2 addD (e2 addD (e2 ixD (eVar 0) (eC (.int 1))) (e2 ixD (eVar 2) (eC (.int 0)))) (e2 ixD (eVar 0) (eC (.int 3)))) aNil)))
      sNx)
    (sRet (eLst (aCons (eBlt strD (aCons (e2 ixD (eVar 2) (eC (.int 0))) aNil)) aNil))))
def t_steps_for_2 : En → Out :=
  (sSeq (sIf (tB (e2 eqD (e2 ixD (eVar 0) (eC (.int 0))) (eC (tx [114, 101, 115, 116]))))
      (sRet (e2 ixD (eVar 2) (eC (.int 0))))
      sNx)
    t_steps_for_1)
def t_steps_for_3 : En → Out :=
  (sSeq (sIf (tOr' (tB (e2 neD (eBlt lenD (aCons (eVar 2) aNil)) (eC (.int 1)))) (tNo (tB (eCall 2 g_serves (aCons (eVar 0) (aCons (e2 ixD (eVar 2) (eC (.int 0))) aNil))))))
      sBad
      sNx)
    t_steps_for_2)
def t_steps_for_4 : En → Out :=
  (sSeq (sSet 2 (eLc (eIt iSeq (eVar 1)) [3, 4] (gTp 2 (gsCons (gNm 3) (gsCons (gNm 4) gsNil))) (tB (e2 eqD (eVar 3) (eCall 1 g_name_of (aCons (eVar 0) aNil)))) (eVar 4)))
    t_steps_for_3)
def f_steps_for : En → Out :=
  (sSeq (sIf (tB (e2 eqD (e2 ixD (eVar 0) (eC (.int 0))) (eC (tx [115, 116, 101, 112]))))
      (sRet (eLst (aCons (e2 ixD (eVar 0) (eC (.int 1))) aNil)))
      sNx)
    t_steps_for_4)
def g_steps_for : List D → Rs D := runF 5 f_steps_for
def b_filled_1 : En → Out :=
  (sSet 2 (e2 addD (eVar 2) (eCall 2 g_steps_for (aCons (eVar 3) (aCons (eVar 1) aNil)))))
def b_filled_2 : En → Out :=
  (sIf (tB (e2 notInD (eVar 5) (eVar 4)))
      sBad
      sNx)
def t_filled_3 : En → Out :=
  (sSeq (sFor (eIt iSeq (eVar 1)) (gTp 2 (gsCons (gNm 5) (gsCons (gNm 6) gsNil)))
      b_filled_2)
    (sRet (eTup (aCons (eC (.bool true)) (aCons (eBlt tupD (aCons (eVar 2) aNil)) (aCons (e2 ixD (eVar 0) (eC (.int 1))) aNil))))))
def t_filled_4 : En → Out :=
  (sSeq (sSet 4 (eCall 1 g_names_of (aCons (eVar 0) aNil)))
    t_filled_3)
def t_filled_5 : En → Out :=
  (sSeq (sFor (eIt iSeq (e2 ixD (eVar 0) (eC (.int 0)))) (gNm 3)
      b_filled_1)
    t_filled_4)
def f_filled : En → Out :=
  (sSeq (sSet 2 (eLst aNil))
    t_filled_5)
def g_filled : List D → Rs D := runF 7 f_filled
end Wp

set_option Elab.async false
set_option linter.all false
set_option maxRecDepth 100000
/-! WmTxt: texts that begin, that end, numbers and their figures, all of. -/
namespace Wm
open PySem PySem.Spec PyProof.Rows L2
theorem startD_s (a b : List Nat) : startD ⟨a.toArray⟩ (tx b) = .ok (.bool (decide (b <+: a))) := by
  show Rs.ok (PyData.bool (Txt.startswith _ _)) = _
  congr 2
  unfold Txt.startswith
  rw [PySem.StrLaws.subAt_eq]
  simp only [str_len, List.drop_zero, Nat.zero_add]
  rw [Bool.eq_iff_iff]
  simp
  constructor
  · rintro ⟨_, h⟩
    exact ⟨a.drop b.length, by
      have := List.take_append_drop b.length a
      rw [h] at this; exact this⟩
  · rintro ⟨r, rfl⟩
    simp
theorem endD_s (a b : List Nat) : endD ⟨a.toArray⟩ (tx b) = .ok (.bool (decide (b <:+ a))) := by
  show Rs.ok (PyData.bool (Txt.endswith _ _)) = _
  congr 2
  unfold Txt.endswith
  rw [PySem.StrLaws.subAt_eq]
  simp only [str_len, Nat.zero_add]
  rw [Bool.eq_iff_iff]
  simp
  constructor
  · rintro ⟨hl, h⟩
    refine ⟨a.take (a.length - b.length), ?_⟩
    have e : (a.drop (a.length - b.length)).take b.length = a.drop (a.length - b.length) := List.take_of_length_le (by simp; omega)
    rw [e] at h
    have := List.take_append_drop (a.length - b.length) a
    rw [h] at this; exact this
  · rintro ⟨r, rfl⟩
    simp
/-! ### all of a list of truths -/
theorem boolsOf_map : ∀ bs : List Bool, boolsOf (bs.map PyData.bool) = some bs
  | [] => rfl
  | b :: bs => by
    show (boolsOf (bs.map PyData.bool)).map _ = _
    rw [boolsOf_map bs]; rfl
theorem allD_map {α : Type} (p : α → Bool) (xs : List α) : allD [.list (xs.map fun x => .bool (p x))] = .ok (.bool (xs.all p)) := by
  have h := boolsOf_map (xs.map p)
  rw [List.map_map] at h
  have e : (PyData.bool ∘ p) = fun x => PyData.bool (p x) := rfl
  rw [e] at h
  unfold allD
  simp only [h]
  rw [List.all_map]
  rfl
/-- a comprehension over a text -/
theorem lcL_signs {i : Nat} {elt : En → Rs D} {ρ0 : En} (p : Nat → Bool) {l : List Nat} (h : ∀ c ∈ l, elt (ρ0.set i (some (tx [c]))) = .ok (.bool (p c))) : lcL (gNm i) cYes elt ρ0 (l.map fun c => tx [c]) = .ok (l.map fun c => .bool (p c)) :=
  lcL_map (fun c => tx [c]) (fun c => .bool (p c)) fun c hc => ⟨_, rfl, rfl, h c hc⟩
/-! ### numbers -/
abbrev figs (n : Nat) : List Nat := TL.numL n
abbrev valF (l : List Nat) : Nat := NumText.digitsVal l
theorem strD_n (n : Nat) (h : n < 10 ^ 100) : strD [.int n] = .ok (tx (figs n)) := by
  have e : ((n : Int).natAbs.log2 < 1920) := by
    show n.log2 < 1920
    by_cases h0 : n = 0
    · subst h0; decide
    · rw [Nat.log2_lt h0]
      exact Nat.lt_of_lt_of_le h (by decide +kernel)
  unfold strD
  simp only [e, if_true]
  rw [SX.num_S]
@[simp] theorem strD_s (a : List Nat) : strD [tx a] = .ok (tx a) := nrfl rfl
def isfig (c : Nat) : Bool := decide (48 ≤ c) && decide (c ≤ 57)
theorem intD_s (a : List Nat) (h : a.all isfig = true) (hne : a ≠ []) (hl : a.length ≤ 640) : intD [tx a] = .ok (.int (valF a)) := by
  have e := SX.int_S (a := a) h hne (by omega)
  unfold intD
  simp only [str_len, hl, if_true]
  rw [e]
theorem figs_all (n : Nat) : (figs n).all isfig = true := by
  rw [List.all_eq_true]
  intro c hc
  have := TL.numL_digits n c hc
  unfold isfig
  simp [this.1, this.2]
theorem figs_ne (n : Nat) : figs n ≠ [] := TL.numL_ne n
theorem valF_figs (n : Nat) : valF (figs n) = n := TL.numL_val n
theorem figs_len {n k : Nat} (hk : 0 < k) (h : n < 10 ^ k) : (figs n).length ≤ k := TL.numL_len hk h
/-- no 0 ahead of others -/
def canon (l : List Nat) : Prop := l = [48] ∨ ∃ c r, l = c :: r ∧ c ≠ 48
theorem figs_valF {l : List Nat} (h : l.all isfig = true) (hc : canon l) : figs (valF l) = l := by
  have hA : NumText.AllDigits l := fun c m => by
    have := List.all_eq_true.mp h c m
    unfold isfig at this
    simpa using this
  have key : ∀ (n : Nat), l.length = n + 1 → (n = 0 ∨ ∃ c r, l = c :: r ∧ 49 ≤ c) → figs (valF l) = l := fun n hl hd => by
    have e := NumText.toDigits_digitsVal n l hl hA hd
    show (Nat.toDigits 10 (NumText.digitsVal l)).map Char.toNat = l
    rw [e, List.map_map]
    have : ∀ c ∈ l, (Char.toNat ∘ Char.ofNat) c = c := fun c m => by
      have := hA c m
      have hv : c.isValidChar := by left; omega
      show (Char.ofNat c).toNat = c
      rw [Char.ofNat, dif_pos hv]
      rfl
    rw [List.map_congr_left this, List.map_id']
  rcases hc with rfl | ⟨c, r, rfl, hc⟩
  · exact key 0 rfl (.inl rfl)
  · have := hA c List.mem_cons_self
    exact key r.length rfl (.inr ⟨c, r, rfl, by omega⟩)
theorem figs_canon (n : Nat) : canon (figs n) := by
  induction n using Nat.strongRecOn with
  | ind n ih =>
    by_cases h : n < 10
    · rw [show figs n = [48 + n] from TL.numL_lt h]
      by_cases h0 : n = 0
      · subst h0; exact .inl rfl
      · exact .inr ⟨48 + n, [], rfl, by omega⟩
    · rw [show figs n = figs (n / 10) ++ [48 + n % 10] from TL.numL_step (by omega)]
      rcases ih (n / 10) (by omega) with e | ⟨c, r, e, hc⟩
      · exfalso
        have v := valF_figs (n / 10)
        rw [e] at v
        have : valF [48] = 0 := rfl
        omega
      · rw [e]; exact .inr ⟨c, r ++ [48 + n % 10], rfl, hc⟩
theorem foldV (l : List Nat) : ∀ a : Nat, l.all isfig = true → l.foldl (fun acc c => acc * 10 + (c - 48)) a < (a + 1) * 10 ^ l.length := by
  induction l with
  | nil => intro a _; simp
  | cons c l ih =>
    intro a h
    rw [List.all_cons, Bool.and_eq_true] at h
    have := ih (a * 10 + (c - 48)) h.2
    unfold isfig at h
    simp at h
    rw [List.foldl_cons, List.length_cons, Nat.pow_succ]
    have h1 : (a * 10 + (c - 48) + 1) * 10 ^ l.length ≤ ((a + 1) * 10) * 10 ^ l.length := Nat.mul_le_mul_right _ (by omega)
    calc _ < _ := this
      _ ≤ _ := h1
      _ = _ := by rw [Nat.mul_assoc, Nat.mul_comm 10 (10 ^ l.length)]
theorem valF_lt (l : List Nat) (h : l.all isfig = true) : valF l < 10 ^ l.length := by
  have := foldV l 0 h
  rw [Nat.zero_add, Nat.one_mul] at this
  exact this
/-! ### kinds of things -/
section
theorem kit_bool_int : kitB "bool" "int" = some true := by decide +kernel
theorem kit_list_list : kitB "list" "list" = some true := by decide +kernel
theorem kit_str_list : kitB "str" "list" = some false := by decide +kernel
theorem kit_int_list : kitB "int" "list" = some false := by decide +kernel
theorem kit_str_int : kitB "str" "int" = some false := by decide +kernel
theorem kit_str_bool : kitB "str" "bool" = some false := by decide +kernel
theorem kit_list_bool : kitB "list" "bool" = some false := by decide +kernel
theorem kit_list_int : kitB "list" "int" = some false := by decide +kernel
theorem kit_list_str : kitB "list" "str" = some false := by decide +kernel
theorem kit_int_str : kitB "int" "str" = some false := by decide +kernel
theorem kit_none_list : kitB "NoneType" "list" = some false := by decide +kernel
theorem kit_none_tuple : kitB "NoneType" "tuple" = some false := by decide +kernel
theorem kit_list_tuple : kitB "list" "tuple" = some false := by decide +kernel
theorem kit_str_tuple : kitB "str" "tuple" = some false := by decide +kernel
theorem kit_int_tuple : kitB "int" "tuple" = some false := by decide +kernel
theorem kit_none_bool : kitB "NoneType" "bool" = some false := by decide +kernel
theorem kit_none_int : kitB "NoneType" "int" = some false := by decide +kernel
theorem kit_tuple_bool : kitB "tuple" "bool" = some false := by decide +kernel
theorem kit_tuple_str : kitB "tuple" "str" = some false := by decide +kernel
theorem kit_tuple_list : kitB "tuple" "list" = some false := by decide +kernel
theorem kit_tuple_int : kitB "tuple" "int" = some false := by decide +kernel
theorem kit_bool_str : kitB "bool" "str" = some false := by decide +kernel
theorem kit_bool_tuple : kitB "bool" "tuple" = some false := by decide +kernel
theorem kit_bool_list : kitB "bool" "list" = some false := by decide +kernel
theorem isi_of {T : String} {d : D} {b : Bool} (h : kitB (tyD d) T = some b) (hx : exB d = false := by rfl) : isiD T d = .ok (.bool b) := by
  unfold isiD; rw [hx, if_neg (by decide), h]
@[simp] theorem isiD_b_int (b : Bool) : isiD "int" (.bool b) = .ok (.bool true) := isi_of kit_bool_int
@[simp] theorem isiD_l_list (b : List D) : isiD "list" (.list b) = .ok (.bool true) := isi_of kit_list_list
@[simp] theorem isiD_s_list (b : Str) : isiD "list" (.str b) = .ok (.bool false) := isi_of kit_str_list
@[simp] theorem isiD_i_list (b : Int) : isiD "list" (.int b) = .ok (.bool false) := isi_of kit_int_list
@[simp] theorem isiD_s_int (b : Str) : isiD "int" (.str b) = .ok (.bool false) := isi_of kit_str_int
@[simp] theorem isiD_s_bool (b : Str) : isiD "bool" (.str b) = .ok (.bool false) := isi_of kit_str_bool
@[simp] theorem isiD_l_bool (b : List D) : isiD "bool" (.list b) = .ok (.bool false) := isi_of kit_list_bool
@[simp] theorem isiD_l_int (b : List D) : isiD "int" (.list b) = .ok (.bool false) := isi_of kit_list_int
@[simp] theorem isiD_l_str (b : List D) : isiD "str" (.list b) = .ok (.bool false) := isi_of kit_list_str
@[simp] theorem isiD_i_str (b : Int) : isiD "str" (.int b) = .ok (.bool false) := isi_of kit_int_str
@[simp] theorem isiD_n_list : isiD "list" .none = .ok (.bool false) := isi_of kit_none_list
@[simp] theorem isiD_n_tuple : isiD "tuple" .none = .ok (.bool false) := isi_of kit_none_tuple
@[simp] theorem isiD_n_bool : isiD "bool" .none = .ok (.bool false) := isi_of kit_none_bool
@[simp] theorem isiD_n_int : isiD "int" .none = .ok (.bool false) := isi_of kit_none_int
@[simp] theorem isiD_l_tuple (b : List D) : isiD "tuple" (.list b) = .ok (.bool false) := isi_of kit_list_tuple
@[simp] theorem isiD_s_tuple (b : Str) : isiD "tuple" (.str b) = .ok (.bool false) := isi_of kit_str_tuple
@[simp] theorem isiD_i_tuple (b : Int) : isiD "tuple" (.int b) = .ok (.bool false) := isi_of kit_int_tuple
@[simp] theorem isiD_t_bool (b : List D) : isiD "bool" (.tuple b) = .ok (.bool false) := isi_of kit_tuple_bool
@[simp] theorem isiD_t_str (b : List D) : isiD "str" (.tuple b) = .ok (.bool false) := isi_of kit_tuple_str
@[simp] theorem isiD_t_list (b : List D) : isiD "list" (.tuple b) = .ok (.bool false) := isi_of kit_tuple_list
@[simp] theorem isiD_t_int (b : List D) : isiD "int" (.tuple b) = .ok (.bool false) := isi_of kit_tuple_int
@[simp] theorem isiD_b_str (b : Bool) : isiD "str" (.bool b) = .ok (.bool false) := isi_of kit_bool_str
@[simp] theorem isiD_b_tuple (b : Bool) : isiD "tuple" (.bool b) = .ok (.bool false) := isi_of kit_bool_tuple
@[simp] theorem isiD_b_list (b : Bool) : isiD "list" (.bool b) = .ok (.bool false) := isi_of kit_bool_list
end
end Wm

set_option Elab.async false
set_option linter.all false
set_option maxRecDepth 100000
/-! WmOrd: > and < of tuples and lists; index of tuples and lists of texts -/
namespace Wm
open PySem PySem.Spec PyProof.Rows L2
open PySem.W (alike dataLt gt_data lt_data)
section
variable {X : Cx}
def ordOk (d e : D) : Bool := (alike d e && !nonD d && decide (min d.depth e.depth ≤ 64)) && (ndB d && ndB e)
def rGtD (K : PySem.W.Frag) : R2 := fun x y H Q => ∃ d e, Dp K H x d ∧ Dp K H y e ∧ ordOk d e = true ∧ Q (.bl (dataLt e d)) H
def rLtD (K : PySem.W.Frag) : R2 := fun x y H Q => ∃ d e, Dp K H x d ∧ Dp K H y e ∧ ordOk d e = true ∧ Q (.bl (dataLt d e)) H
theorem ordOk_inv {d e : D} (h : ordOk d e = true) : alike d e = true ∧ d ≠ .none ∧ min d.depth e.depth ≤ 64 := by
  unfold ordOk at h
  rw [Bool.and_eq_true] at h
  have h := h.1
  rw [Bool.and_eq_true, Bool.and_eq_true, decide_eq_true_eq] at h
  refine ⟨h.1.1, fun z => ?_, h.2⟩
  rw [z] at h
  simp [nonD] at h
theorem ordOk_nd {d e : D} (h : ordOk d e = true) : ndB d = true ∧ ndB e = true := by
  unfold ordOk at h
  rw [Bool.and_eq_true] at h
  exact Bool.and_eq_true_iff.mp h.2
theorem op_gtD (hu : X.A.units + 64 < cLine) : OpR X (compareOp .Gt) (rGtD X.K) := by
  intro pins s σ H x y v u Q I rx ry h
  obtain ⟨d, e, hd, he, o, q⟩ := h
  obtain ⟨o1, o2, o3⟩ := ordOk_inv o
  obtain ⟨as, r1⟩ := Dp.reads I d x v hd rx
  obtain ⟨bs, r2⟩ := Dp.reads I e y u he ry
  exact gt_data r1 r2 o1 o2 (by omega) ⟨.bl _, H, I, rfl, q⟩
theorem op_ltD (hu : X.A.units + 64 < cLine) : OpR X (compareOp .Lt) (rLtD X.K) := by
  intro pins s σ H x y v u Q I rx ry h
  obtain ⟨d, e, hd, he, o, q⟩ := h
  obtain ⟨o1, o2, o3⟩ := ordOk_inv o
  obtain ⟨as, r1⟩ := Dp.reads I d x v hd rx
  obtain ⟨bs, r2⟩ := Dp.reads I e y u he ry
  exact lt_data r1 r2 o1 o2 (by omega) ⟨.bl _, H, I, rfl, q⟩
def gtO (d e : D) : Rs D := if ordOk d e = true then .ok (.bool (dataLt e d)) else .bad
def ltO (d e : D) : Rs D := if ordOk d e = true then .ok (.bool (dataLt d e)) else .bad
theorem gtOS : OpS X (rGtD X.K) gtO := by
  intro W σ H Hd x y dx dy s hx hy Q q
  unfold gtO at q
  split at q
  · rename_i ho
    exact ⟨dx, dy, (hx.dp s).dp (ordOk_nd ho).1, (hy.dp s).dp (ordOk_nd ho).2, ho, PoE.at s q (.bl _)⟩
  · exact q.elim
theorem ltOS : OpS X (rLtD X.K) ltO := by
  intro W σ H Hd x y dx dy s hx hy Q q
  unfold ltO at q
  split at q
  · rename_i ho
    exact ⟨dx, dy, (hx.dp s).dp (ordOk_nd ho).1, (hy.dp s).dp (ordOk_nd ho).2, ho, PoE.at s q (.bl _)⟩
  · exact q.elim
end
/-! ### index -/
def firstAt (b : Str) : List Str → Option Nat
  | [] => none
  | x :: r => if x = b then some 0 else (firstAt b r).map (· + 1)
theorem firstAt_ok {b : Str} : ∀ {L : List Str} {j : Nat}, firstAt b L = some j → L[j]? = some b ∧ ∀ m, m < j → L[m]? ≠ some b
  | [], j, h => by cases h
  | x :: r, j, h => by
    rw [firstAt] at h
    split at h
    · rename_i e
      cases h
      exact ⟨by rw [e]; rfl, fun m hm => absurd hm (by omega)⟩
    · rename_i e
      cases hf : firstAt b r with
      | none => rw [hf] at h; cases h
      | some i =>
        rw [hf] at h
        cases h
        obtain ⟨a, c⟩ := firstAt_ok hf
        refine ⟨a, fun m hm => ?_⟩
        cases m with
        | zero => intro z; exact e (Option.some.inj z)
        | succ m => exact c m (by simp only at hm; omega)
def indD (ds : List D) : List D → Rs D
  | [.str b] => match strsOf ds with
    | some L => match firstAt b L with
      | some j => .ok (.int (j : Nat))
      | none => .bad
    | none => .bad
  | _ => .bad
def onT (g : List D → Rs D) : D → Rs D
  | .tuple ds => g ds
  | _ => .bad
def onL (g : List D → Rs D) : D → Rs D
  | .list ds => g ds
  | _ => .bad
/-- C.index(e), C a module's tuple of texts -/
def eIndC (d : D) (fa : En → Rs (List D)) : En → Rs D := fun ρ => onT (fun ds => fa ρ >>= indD ds) d
/-- l.index(e), l a list of texts -/
def eIndL (fo : En → Rs D) (fa : En → Rs (List D)) : En → Rs D := fun ρ => fo ρ >>= onL fun ds => fa ρ >>= indD ds
/-- a module's tuple on which no dict hangs -/
def NoD (K : PySem.W.Frag) (mg : Str → Option Value) (x : Str) : Prop := ∃ e o, mg x = some (.ref e) ∧ K.lookup e = some o ∧ o.cls = .type "tuple" ∧ o.dict = none
def tyC (K : PySem.W.Frag) (x : V) (_ : Hp) : Prop := ∃ e o, x = .ref e ∧ K.lookup e = some o ∧ o.cls = .type "tuple" ∧ o.dict = none
def tyLst (K : PySem.W.Frag) (x : V) (H : Hp) : Prop := ∃ p ys, x = .ref p ∧ SqL K H p ys
section
variable {X : Cx}
theorem ty_C : TyOk X "tuple" (tyC X.K) := by
  intro pins σ H s x v I r ty
  obtain ⟨p, o, rfl, h, hc, hd⟩ := ty
  cases r
  refine ⟨⟨o, I.kIn p o h, hc⟩, fun b e => ?_⟩
  cases e
  exact ⟨o, I.kIn p o h, hd⟩
theorem ty_L : TyOk X "list" (tyLst X.K) := by
  intro pins σ H s x v I r ty
  obtain ⟨p, ys, rfl, h⟩ := ty
  cases r
  obtain ⟨its, _, ⟨o, n, e, hc, hd, _⟩, _⟩ := I.list h
  refine ⟨⟨o, e, hc⟩, fun b e' => ?_⟩
  cases e'
  exact ⟨o, e, hd⟩
end
section
variable {X : Cx} {W : WX} {own : List Nat} {x : Str} {o e : Expr} {fo : En → Rs D} {fa : En → Rs (List D)} {p apos pos : Pos}
theorem se_indG {d : D} (h : Glb X.K X.mg x d) (nd : NoD X.K X.mg x) (ha : SAb X W own [e] fa) (hg : Gl X x := by rfl) (hdb : (x == ("__debug__" : Str)) = false := by rfl)
    (hbase : attributeBase (.Name x p) "index" X.env (eval (.Name x p) X.env) = eval (.Name x p) X.env := by rfl)
    (hfew : ((backTo pos (starEach [e] X.env)).all (fun x => !x.1) && (backToKw pos (keywordEach [] X.env)).all (fun x => x.1.isSome)
      && decide ([e].length + ([] : List Keyword).length + (if ([] : List Keyword).isEmpty then 0 else 1) < 30)) = true := by rfl)
    (hline : (apos.endLine == pos.line) = true := by rfl) (hs : starEach [e] X.env = (false, eval e X.env) :: starEach [] X.env := by rfl) (hplain : (backTo pos (starEach [] X.env)).any (·.1) = false := by rfl) :
    SE X W own (.Call (.Attribute (.Name x p) "index" apos) [e] [] pos) (eIndC d fa) := by
  obtain ⟨u, v, hm, r, dq⟩ := h
  obtain ⟨a, ob, hm', hk, hc, hd⟩ := nd
  obtain ⟨ta, pa, ra⟩ := ha.ex
  rw [hm'] at hm
  cases hm
  have hv : v = .ref a := by
    have := r.abs
    cases v <;> first | (cases r; rfl) | (obtain ⟨t, z⟩ := r; done) | (obtain ⟨t, z⟩ := r; cases z; done) | (cases r; done)
  subst hv
  refine ⟨_, pe_mG ty_C PySem.F.plainAttrs_tuple PySem.F.slot_tuple_index PySem.F.type_tuple_index mt_tup_index (pe_glob hg hm' r hdb) pa hbase hfew hline hs hplain, fun H0 Hd0 ρ σ H Hd R Q q => ?_⟩
  refine ⟨⟨a, ob, rfl, hk, hc, hd⟩, ra _ _ _ _ _ _ R _ ?_⟩
  unfold eIndC onT at q
  split at q
  rotate_left
  · exact q.elim
  cases hf : fa ρ with
  | bad => rw [hf] at q; exact q
  | ex c fs => rw [hf] at q; exact q
  | ok es =>
    rw [hf] at q
    intro vs H1 Hd1 s1 xs
    have q1 := PoE.step q s1
    simp only at q1
    change PoE X W σ H1 Hd1 (indD _ es) Q at q1
    unfold indD at q1
    split at q1
    rotate_left
    · exact q1.elim
    split at q1
    rotate_left
    · exact q1.elim
    split at q1
    rotate_left
    · exact q1.elim
    rename_i L hL _ j hj
    obtain ⟨y, rfl, hy⟩ := xs.inv1
    obtain ⟨b', vs', e1, h1, h2, _⟩ := Dv.tup (.refl H1) (.inl (dq H1))
    cases e1
    have ez := strsOf_ok hL h2
    subst ez
    obtain ⟨f1, f2⟩ := firstAt_ok hj
    exact ⟨a, L, _, j, rfl, by rw [hy.str], h1, f1, f2, PoE.at s1.sub q1 (.int _)⟩
theorem se_indL (ho : SB X W own o fo) (ha : SAb X W own [e] fa)
    (hbase : attributeBase o "index" X.env (eval o X.env) = eval o X.env := by rfl)
    (hfew : ((backTo pos (starEach [e] X.env)).all (fun x => !x.1) && (backToKw pos (keywordEach [] X.env)).all (fun x => x.1.isSome)
      && decide ([e].length + ([] : List Keyword).length + (if ([] : List Keyword).isEmpty then 0 else 1) < 30)) = true := by rfl)
    (hline : (apos.endLine == pos.line) = true := by rfl) (hs : starEach [e] X.env = (false, eval e X.env) :: starEach [] X.env := by rfl) (hplain : (backTo pos (starEach [] X.env)).any (·.1) = false := by rfl) :
    SE X W own (.Call (.Attribute o "index" apos) [e] [] pos) (eIndL fo fa) := by
  obtain ⟨t, p, rr⟩ := ho.ex
  obtain ⟨ta, pa, ra⟩ := ha.ex
  refine ⟨_, pe_mG ty_L PySem.F.plainAttrs_list PySem.F.slot_list_index PySem.F.type_list_index mt_index p pa hbase hfew hline hs hplain, fun H0 Hd0 ρ σ H Hd R Q q => ?_⟩
  refine rr _ _ _ _ _ _ R _ ?_
  unfold eIndL at q
  cases hf : fo ρ with
  | bad => rw [hf] at q; exact q
  | ex c fs => rw [hf] at q; exact q
  | ok d =>
    rw [hf] at q
    intro v H1 Hd1 s1 x
    have q1 : PoE X W σ H1 Hd1 (onL (fun ds => fa ρ >>= indD ds) d) Q := PoE.step q s1
    unfold onL at q1
    split at q1
    rotate_left
    · exact q1.elim
    obtain ⟨b, vs, rfl, l1, l2, l3⟩ := Dv.lst s1.sub x
    refine ⟨⟨b, vs, rfl, l1⟩, ra _ _ _ _ _ _ (R.step s1) _ ?_⟩
    cases hg : fa ρ with
    | bad => rw [hg] at q1; exact q1
    | ex c fs => rw [hg] at q1; exact q1
    | ok es =>
      rw [hg] at q1
      intro us H2 Hd2 s2 xs
      have x2 := x.step s1.sub s2
      have q2 := PoE.step q1 s2
      change PoE X W σ H2 Hd2 (indD _ es) Q at q2
      unfold indD at q2
      split at q2
      rotate_left
      · exact q2.elim
      split at q2
      rotate_left
      · exact q2.elim
      split at q2
      rotate_left
      · exact q2.elim
      rename_i L hL _ j hj
      obtain ⟨y, rfl, hy⟩ := xs.inv1
      obtain ⟨b', vs', e1, h1, h2, _⟩ := Dv.lst s2.sub x2
      cases e1
      have ez := strsOf_ok hL h2
      subst ez
      obtain ⟨f1, f2⟩ := firstAt_ok hj
      refine ⟨b, _, y, j, _, rfl, rfl, h1, by rw [hy.str]; rfl, by rw [List.all_map]; exact List.all_eq_true.mpr fun _ _ => rfl, by rw [List.getElem?_map, f1]; rfl, by rw [hy.str]; simp [eqV], fun m z hm hz => ?_, PoE.at s2.sub q2 (.int _)⟩
      rw [List.getElem?_map] at hz
      cases hL' : L[m]? with
      | none => rw [hL'] at hz; cases hz
      | some w =>
        rw [hL'] at hz
        cases hz
        rw [hy.str]
        show (w == _) = false
        rw [beq_eq_false_iff_ne]
        intro z
        exact f2 m hm (by rw [hL', z])
end
end Wm

set_option Elab.async false
set_option linter.all false
set_option maxRecDepth 100000
set_option maxHeartbeats 4000000
namespace Wp
open PySem PySem.Spec PyProof.Rows L2 Wm
def k_RISING : D := (.tuple [(tx [114, 101, 115, 116]), (tx [103, 97, 112]), (tx [119, 111, 114, 100]), (tx [110, 117, 109, 98, 101, 114]), (tx [112, 97, 114, 116]), (tx [115, 116, 101, 112])])
def f_worth_of : En → Out :=
  (sSeq (sIf (tB (e2 eqD (e2 ixD (eVar 0) (eC (.int 0))) (eC (tx [112, 97, 114, 116]))))
      (sRet (eTup (aCons (eIndC k_RISING (aCons (eC (tx [112, 97, 114, 116])) aNil)) (aCons (e2 addD (eBlt lenD (aCons (e2 ixD (eVar 0) (eC (.int 1))) aNil)) (eBlt lenD (aCons (e2 ixD (eVar 0) (eC (.int 3))) aNil))) (aCons (eBlt lenD (aCons (e2 ixD (eVar 0) (eC (.int 1))) aNil)) aNil)))))
      sNx)
    (sRet (eTup (aCons (eIndC k_RISING (aCons (e2 ixD (eVar 0) (eC (.int 0))) aNil)) (aCons (eC (.int 0)) (aCons (eC (.int 0)) aNil))))))
def g_worth_of : List D → Rs D := runF 1 f_worth_of
def b_worth_more_1 : En → Out :=
  (sIf (tB (e2 neD (eCall 1 g_worth_of (aCons (eVar 2) aNil)) (eCall 1 g_worth_of (aCons (eVar 3) aNil))))
      (sRet (e2 gtO (eCall 1 g_worth_of (aCons (eVar 2) aNil)) (eCall 1 g_worth_of (aCons (eVar 3) aNil))))
      sNx)
def f_worth_more : En → Out :=
  (sSeq (sFor (eIt2 iZip (e2 ixD (eVar 0) (eC (.int 0))) (e2 ixD (eVar 1) (eC (.int 0)))) (gTp 2 (gsCons (gNm 2) (gsCons (gNm 3) gsNil)))
      b_worth_more_1)
    (sRet (e2 ltD (eBlt lenD (aCons (e2 ixD (eVar 0) (eC (.int 0))) aNil)) (eBlt lenD (aCons (e2 ixD (eVar 1) (eC (.int 0))) aNil)))))
def g_worth_more : List D → Rs D := runF 4 f_worth_more
end Wp

set_option Elab.async false
set_option linter.all false
set_option maxRecDepth 100000
set_option maxHeartbeats 4000000
namespace Wp
open PySem PySem.Spec PyProof.Rows L2 Wm
/-! ### pieces, patterns, values as data -/
def kStep : Tx := [115, 116, 101, 112]
def kPart : Tx := [112, 97, 114, 116]
def kNum : Tx := [110, 117, 109, 98, 101, 114]
def kWord : Tx := [119, 111, 114, 100]
def kGap : Tx := [103, 97, 112]
def kRest : Tx := [114, 101, 115, 116]
inductive Pc where
  | step (t : Tx) | part (h n t : Tx) | num (n : Tx) | word (n : Tx) | gap (n : Tx) | rest (n : Tx)
  deriving DecidableEq
def Pc.d : Pc → D
  | .step t => .tuple [tx kStep, tx t]
  | .part h n t => .tuple [tx kPart, tx h, tx n, tx t]
  | .num n => .tuple [tx kNum, tx n]
  | .word n => .tuple [tx kWord, tx n]
  | .gap n => .tuple [tx kGap, tx n]
  | .rest n => .tuple [tx kRest, tx n]
def Pc.k : Pc → Tx
  | .step _ => kStep | .part _ _ _ => kPart | .num _ => kNum | .word _ => kWord | .gap _ => kGap | .rest _ => kRest
/-- the name; of a step none -/
def Pc.n : Pc → Tx
  | .step _ => [] | .part _ n _ => n | .num n => n | .word n => n | .gap n => n | .rest n => n
def Pc.isStep : Pc → Bool
  | .step _ => true | _ => false
def Pc.isRest : Pc → Bool
  | .rest _ => true | _ => false
structure Pat where
  ps : List Pc
  e : Bool
  deriving DecidableEq
def pcs (ps : List Pc) : D := .tuple (ps.map Pc.d)
def Pat.d (p : Pat) : D := .tuple [pcs p.ps, .bool p.e]
def okPc : Pc → Prop
  | .step t => okT t | .part h n t => okT h ∧ okT n ∧ okT t | .num n => okT n | .word n => okT n | .gap n => okT n | .rest n => okT n
@[simp] theorem ix_pc0 (p : Pc) : ixD p.d (.int 0) = .ok (tx p.k) := by cases p <;> rfl
@[simp] theorem ix_pat0 (p : Pat) : ixD p.d (.int 0) = .ok (pcs p.ps) := rfl
@[simp] theorem ix_pat1 (p : Pat) : ixD p.d (.int 1) = .ok (.bool p.e) := rfl
@[simp] theorem len_pcs (ps : List Pc) : lenD [pcs ps] = .ok (.int ps.length) := by unfold pcs; simp
@[simp] theorem iSeq_pcs (ps : List Pc) : iSeq (pcs ps) = .ok (ps.map Pc.d) := rfl
theorem k_step (p : Pc) : decide (p.k = [115, 116, 101, 112]) = p.isStep := by cases p <;> rfl
theorem k_rest (p : Pc) : decide (p.k = [114, 101, 115, 116]) = p.isRest := by cases p <;> rfl
theorem name_ok (p : Pc) : g_name_of [p.d] = .ok (tx p.n) := by
  unfold g_name_of f_name_of
  rw [runF_eq]
  cases p <;> simp [Pc.d, Pc.n, kStep, kPart, kNum, kWord, kGap, kRest]
/-! ### what fits -/
def isNum (s : Tx) : Bool := decide (1 ≤ s.length) && decide (s.length ≤ 60) && s.all isfig && (decide (s.head? ≠ some 48) || decide (s = [48]))
def islow (c : Nat) : Bool := decide (97 ≤ c) && decide (c ≤ 122)
def isWord (s : Tx) : Bool := decide (1 ≤ s.length) && decide (s.length ≤ 60) && s.all islow
def fitP (p : Pc) (s : Tx) : Bool := !isdot s && match p with
  | .step t => decide (s = t)
  | .part h _ t => decide (h.length + t.length < s.length) && (decide (h <+: s) && decide (t <:+ s))
  | .num _ => isNum s
  | .word _ => isWord s
  | .gap _ => true
  | .rest _ => true
theorem fig_in : ∀ c, c < 128 → decide (c ∈ [48, 49, 50, 51, 52, 53, 54, 55, 56, 57]) = isfig c := by decide +kernel
theorem low_in : ∀ c, c < 128 → decide (c ∈ [97, 98, 99, 100, 101, 102, 103, 104, 105, 106, 107, 108, 109, 110, 111, 112, 113, 114, 115, 116, 117, 118, 119, 120, 121, 122]) = islow c := by decide +kernel
theorem len60 (s : Tx) (ρ : En) (h : okT s) : eChain leD leD (eC (.int 1)) (eBlt lenD (aCons (eVar 0) aNil)) (eC k_MOST_SIGNS) (some (tx s) :: ρ) = .ok (.bool (decide (1 ≤ s.length) && decide (s.length ≤ 60))) := by
  have hl := h.2
  have hk : k_MOST_SIGNS = .int 60 := rfl
  have e1 : decide ((1 : Int) ≤ (s.length : Int)) = decide (1 ≤ s.length) := by rw [decide_eq_decide]; omega
  have e2 : decide ((s.length : Int) ≤ 60) = decide (s.length ≤ 60) := by rw [decide_eq_decide]; omega
  simp only [at_eChain, ch1_ok, at_eBlt, at_aCons, at_aNil, eVar_0, kCons_ok, kCons'_ok, ok_bind, lenD_s, at_eC, hk]
  have f1 : leD (.int 1) (.int (s.length : Int)) = .ok (.bool (decide ((1 : Int) ≤ (s.length : Int)))) := rfl
  have f2 : leD (.int (s.length : Int)) (.int 60) = .ok (.bool (decide ((s.length : Int) ≤ 60))) := rfl
  rw [if_pos (by omega), ch2_ok, f1, ch3_ok, at_eC, k2'_ok, f2, e1, e2]
  cases decide (1 ≤ s.length) <;> simp
theorem all_signs {p : Nat → Bool} {K : List Nat} {k : D} (hk : k = tx K) (s : Tx) (h : okT s) (hp : ∀ c, c < 128 → decide (c ∈ K) = p c) (o : Option D) :
    eBlt allD (aCons (eLc (eIt iSeq (eVar 0)) [1] (gNm 1) cYes (e2 inD (eVar 1) (eC k))) aNil) [some (tx s), o] = .ok (.bool (s.all p)) := by
  have hl := h.2
  have lc := lcL_signs (i := 1) (elt := e2 inD (eVar 1) (eC k)) (ρ0 := [some (tx s), none]) p (l := s) (fun c hc => by
    have := hp c (h.1 c hc)
    show e2 inD (eVar 1) (eC k) [some (tx s), some (tx [c])] = _
    simp only [hk, at_e2, eVar_1, eVar_0, at_eC, k2_ok, k2'_ok, inD_s, this])
  have la := allD_map p s
  simp only [at_eBlt, at_aCons, at_aNil, at_eLc, at_eIt, eVar_0, ok_bind, iSeq_s, lcK_ok, wipeE_cons, wipeE_nil, List.set_cons_succ, List.set_cons_zero, List.length_map]
  rw [if_pos (by omega), lc]
  simp only [mkL_ok, kCons_ok, at_aNil, kCons'_ok, ok_bind, la]
theorem num_ok (s : Tx) (h : okT s) : g_is_number [tx s] = .ok (.bool (isNum s)) := by
  have h1 := len60 s [none] h
  have h2 := all_signs (k := k_FIGURES) rfl s h fig_in none
  unfold g_is_number f_is_number
  rw [runF_eq]
  simp only [List.map_cons, List.map_nil, List.length_cons, List.length_nil, List.replicate, List.cons_append, List.nil_append, Nat.reduceAdd, Nat.reduceSub]
  simp only [at_sSeq, at_sIf, at_tOr, at_tNo, at_tB, h1, h2, asB_b, kNo_ok, kOr_ok]
  unfold isNum
  cases hc : (decide (1 ≤ s.length) && decide (s.length ≤ 60)) with
  | false => simp
  | true =>
    cases h3 : s.all isfig with
    | false => simp
    | true =>
      have hl := h.2
      obtain ⟨c, r, rfl⟩ : ∃ c r, s = c :: r := by
        cases s with
        | nil => simp at hc
        | cons c r => exact ⟨c, r, rfl⟩
      simp only [List.length_cons] at hl
      simp (disch := omega) [if_pos]
      by_cases h4 : c = 48
      · simp [h4]
      · simp [h4]
theorem word_ok (s : Tx) (h : okT s) : g_is_word [tx s] = .ok (.bool (isWord s)) := by
  have h1 := len60 s [none] h
  have h2 := all_signs (k := k_LETTERS) rfl s h low_in none
  unfold g_is_word f_is_word
  rw [runF_eq]
  simp only [List.map_cons, List.map_nil, List.length_cons, List.length_nil, List.replicate, List.cons_append, List.nil_append, Nat.reduceAdd, Nat.reduceSub]
  simp only [at_sRet, at_eAn, h1, anK_b, h2]
  unfold isWord
  cases (decide (1 ≤ s.length) && decide (s.length ≤ 60)) <;> simp
theorem fits_ok (p : Pc) (s : Tx) (hp : okPc p) (h : okT s) : g_fits_piece [p.d, tx s] = .ok (.bool (fitP p s)) := by
  have hd := inDots s
  have h1 := num_ok s h
  have h2 := word_ok s h
  have hl := h.2
  unfold g_fits_piece f_fits_piece t_fits_piece_3 t_fits_piece_2 t_fits_piece_1
  rw [runF_eq]
  unfold fitP
  cases hx : isdot s with
  | true => rw [hx] at hd; simp [hd]
  | false =>
    rw [hx] at hd
    cases p with
    | step t => simp [Pc.d, hd, kStep]
    | part a n t =>
      have la := hp.1.2
      have lt := hp.2.2.2
      have e : decide (((a.length : Int) + (t.length : Int)) < (s.length : Int)) = decide (a.length + t.length < s.length) := by rw [decide_eq_decide]; omega
      have s1 := startD_s s a
      have s2 := endD_s s t
      simp (disch := omega) [Pc.d, hd, kPart, if_pos, s1, s2]
      rw [e]
      by_cases c1 : a.length + t.length < s.length
      · have c1' : (a.length : Int) + (t.length : Int) < (s.length : Int) := by omega
        by_cases c2 : a <+: s <;> simp [c1, c1', c2, s1, s2]
      · have c1' : ¬ (a.length : Int) + (t.length : Int) < (s.length : Int) := by omega
        by_cases c2 : a <+: s <;> simp [c1, c1', c2, s1, s2]
    | num n => simp [Pc.d, hd, kNum, h1]
    | word n => simp [Pc.d, hd, kWord, h2]
    | gap n => simp [Pc.d, hd, kGap]
    | rest n => simp [Pc.d, hd, kRest]
end Wp

set_option Elab.async false
set_option linter.all false
set_option maxRecDepth 100000
set_option maxHeartbeats 4000000
namespace Wp
open PySem PySem.Spec PyProof.Rows L2 Wm
inductive Vl where
  | t (x : Tx) | i (n : Nat) | l (xs : List Tx)
  deriving DecidableEq
def Vl.d : Vl → D
  | .t x => tx x | .i n => .int n | .l xs => .list (xs.map tx)
abbrev Bd := List (Tx × Vl)
def prD (p : Tx × Vl) : D := .tuple [tx p.1, p.2.d]
def bdD (v : Bd) : D := .list (v.map prD)
def bdO : Option Bd → D
  | some v => bdD v
  | none => .none
def tlT (s : List Tx) : D := .tuple (s.map tx)
def lastRest (ps : List Pc) : Bool := (ps.getLast?.map Pc.isRest).getD false
def slices (n : Nat) (ss : List Tx) : List (List Tx) := (List.range n).map fun k => (ss.take (k + 1)).drop k
/-- for each piece its steps -/
def stepsBy (p : Pat) (w : Way) : Option (List (List Tx)) :=
  if w.r = false ∨ w.e ≠ p.e ∨ w.s.length < p.ps.length then none
  else if lastRest p.ps = true then some ((slices p.ps.length w.s).set (p.ps.length - 1) (w.s.drop (p.ps.length - 1)))
  else if p.ps.length < w.s.length then none else some (slices p.ps.length w.s)
def valOf (p : Pc) (ss : List Tx) : Vl := match p with
  | .rest _ => .l ss
  | .num _ => .i (valF (ss.headD []))
  | .part h _ t => .t (((ss.headD []).take ((ss.headD []).length - t.length)).drop h.length)
  | _ => .t (ss.headD [])
def bdT : List (Pc × List Tx) → Option Bd
  | [] => some []
  | (p, ss) :: r => if ss.all (fitP p) = true then (bdT r).map fun v => if p.isStep = true then v else (p.n, valOf p ss) :: v else none
def boundF (p : Pat) (w : Way) : Option Bd := (stepsBy p w).bind fun t => bdT (p.ps.zip t)
/-- each piece but a rest has one step -/
def Fed : Pc × List Tx → Prop := fun q => (∀ s ∈ q.2, okT s) ∧ q.2.length ≤ 1000 ∧ (q.1.isRest = true ∨ ∃ s, q.2 = [s])
theorem value_ok (p : Pc) (ss : List Tx) (hp : okPc p) (h : Fed (p, ss)) (hf : ss.all (fitP p) = true) : g_value_of [p.d, tlT ss] = .ok (valOf p ss).d := by
  obtain ⟨h1, h2, h3⟩ := h
  simp only at h1 h2 h3
  unfold g_value_of f_value_of
  rw [runF_eq]
  unfold tlT
  have one : p.isRest = false → ∃ s, ss = [s] := fun z => h3.resolve_left (by rw [z]; simp)
  cases p with
  | rest n => simp [Pc.d, kRest, valOf, Vl.d]
  | num n =>
    obtain ⟨s, rfl⟩ := one rfl
    have hs := h1 s (by simp)
    simp [fitP] at hf
    have hn := hf.2
    unfold isNum at hn
    simp at hn
    have hne : s ≠ [] := fun z => by subst z; simp at hn
    have e := intD_s s (by rw [List.all_eq_true]; exact hn.1.2) hne (by omega)
    simp [Pc.d, kNum, e, valOf, Vl.d]
  | part a n t =>
    obtain ⟨s, rfl⟩ := one rfl
    have hs := (h1 s (by simp)).2
    have la := hp.1.2
    have lt := hp.2.2.2
    simp [fitP] at hf
    have hle := hf.2.1
    have e1 : ((s.length : Int) - (t.length : Int)) = ((s.length - t.length : Nat) : Int) := by omega
    simp (disch := omega) [Pc.d, kPart, if_pos, e1, cutL_mid, valOf, Vl.d]
  | step t => obtain ⟨s, rfl⟩ := one rfl; simp [Pc.d, kStep, valOf, Vl.d]
  | word n => obtain ⟨s, rfl⟩ := one rfl; simp [Pc.d, kWord, valOf, Vl.d]
  | gap n => obtain ⟨s, rfl⟩ := one rfl; simp [Pc.d, kGap, valOf, Vl.d]
theorem fits_all (p : Pc) (ss : List Tx) (hp : okPc p) (h : ∀ s ∈ ss, okT s) (o0 o1 o2 o3 o6 : Option D) (hl : ss.length ≤ 1000) :
    eBlt allD (aCons (eLc (eIt iSeq (eVar 5)) [6] (gNm 6) cYes (eCall 2 g_fits_piece (aCons (eVar 4) (aCons (eVar 6) aNil)))) aNil) [o0, o1, o2, o3, some p.d, some (tlT ss), o6] = .ok (.bool (ss.all (fitP p))) := by
  have lc := lcL_map (tg := gNm 6) (cond := cYes) (elt := eCall 2 g_fits_piece (aCons (eVar 4) (aCons (eVar 6) aNil))) (ρ0 := [o0, o1, o2, o3, some p.d, some (tlT ss), none]) tx (fun s => .bool (fitP p s)) (xs := ss) (fun s hs => ⟨_, rfl, rfl, by
    have := fits_ok p s hp (h s hs)
    simp [this]⟩)
  have la := allD_map (fitP p) ss
  have it : iSeq (tlT ss) = .ok (ss.map tx) := rfl
  simp only [at_eBlt, at_aCons, at_aNil, at_eLc, at_eIt, eVar_5, eVar_4, eVar_3, eVar_2, eVar_1, eVar_0, ok_bind, it, lcK_ok, wipeE_cons, wipeE_nil, List.set_cons_succ, List.set_cons_zero, List.length_map]
  rw [if_pos (by omega), lc]
  simp only [mkL_ok, kCons_ok, at_aNil, kCons'_ok, ok_bind, la]
theorem bound_loop (o0 o1 o3 : Option D) : ∀ (ps : List Pc) (ts : List (List Tx)) (acc : Bd) (o4 o5 o6 : Option D), (∀ p ∈ ps, okPc p) → (∀ q ∈ ps.zip ts, Fed q) → acc.length + ps.length ≤ 1000 →
    match bdT (ps.zip ts) with
    | some v => ∃ p4 p5 p6, forL (gTp 2 (gsCons (gNm 4) (gsCons (gNm 5) gsNil))) b_bound_1 (zipD (ps.map Pc.d) (ts.map tlT)) [o0, o1, some (bdD acc), o3, o4, o5, o6] = .nx [o0, o1, some (bdD (acc ++ v)), o3, p4, p5, p6]
    | none => forL (gTp 2 (gsCons (gNm 4) (gsCons (gNm 5) gsNil))) b_bound_1 (zipD (ps.map Pc.d) (ts.map tlT)) [o0, o1, some (bdD acc), o3, o4, o5, o6] = .rt .none
  | [], ts, acc, o4, o5, o6, _, _, _ => by simp [bdT]
  | _ :: _, [], acc, o4, o5, o6, _, _, _ => by simp [bdT]
  | p :: ps, ss :: ts, acc, o4, o5, o6, hp, hf, hl => by
    have okp := hp p List.mem_cons_self
    have fed : Fed (p, ss) := hf (p, ss) List.mem_cons_self
    have fa := fits_all p ss okp fed.1 o0 o1 (some (bdD acc)) o3 o6 fed.2.1
    have nm := name_ok p
    have ks := k_step p
    simp only [List.length_cons] at hl
    rw [List.zip_cons_cons]
    show match bdT ((p, ss) :: ps.zip ts) with | some v => _ | none => _
    rw [bdT]
    have step1 : forL (gTp 2 (gsCons (gNm 4) (gsCons (gNm 5) gsNil))) b_bound_1 (zipD ((p :: ps).map Pc.d) ((ss :: ts).map tlT)) [o0, o1, some (bdD acc), o3, o4, o5, o6] = oLoop (b_bound_1 [o0, o1, some (bdD acc), o3, some p.d, some (tlT ss), o6]) (forL (gTp 2 (gsCons (gNm 4) (gsCons (gNm 5) gsNil))) b_bound_1 (zipD (ps.map Pc.d) (ts.map tlT))) := by
      rw [List.map_cons, List.map_cons, zipD_cons, forL_cons]
      simp
    rw [step1]
    cases hall : ss.all (fitP p) with
    | false =>
      rw [hall] at fa
      simp only [Bool.false_eq_true, if_false]
      have : b_bound_1 [o0, o1, some (bdD acc), o3, some p.d, some (tlT ss), o6] = .rt .none := by
        unfold b_bound_1
        simp only [at_sSeq, at_sIf, at_tNo, at_tB, fa]
        simp
      rw [this]
      simp
    | true =>
      rw [hall] at fa
      have va := value_ok p ss okp fed hall
      simp only [if_true]
      have turn : b_bound_1 [o0, o1, some (bdD acc), o3, some p.d, some (tlT ss), o6] = .nx [o0, o1, some (bdD (if p.isStep = true then acc else acc ++ [(p.n, valOf p ss)])), o3, some p.d, some (tlT ss), o6] := by
        unfold b_bound_1
        simp only [at_sSeq, at_sIf, at_tNo, at_tB, fa]
        cases hst : p.isStep with
        | true =>
          rw [hst] at ks
          have ks' : p.k = [115, 116, 101, 112] := by simpa using ks
          simp [ks']
        | false =>
          rw [hst] at ks
          have ks' : ¬ p.k = [115, 116, 101, 112] := by simpa using ks
          simp (disch := omega) [ks', nm, va, bdD, prD, if_pos]
      rw [turn, oLoop_nx]
      have ih := bound_loop o0 o1 o3 ps ts (if p.isStep = true then acc else acc ++ [(p.n, valOf p ss)]) (some p.d) (some (tlT ss)) o6 (fun q hq => hp q (List.mem_cons_of_mem _ hq)) (fun q hq => hf q (List.mem_cons_of_mem _ hq)) (by
        split
        · omega
        · simp; omega)
      cases hb : bdT (ps.zip ts) with
      | none => rw [hb] at ih; simpa using ih
      | some v =>
        rw [hb] at ih
        obtain ⟨p4, p5, p6, e⟩ := ih
        refine ⟨p4, p5, p6, ?_⟩
        rw [e]
        cases p.isStep <;> simp
/-! ### steps_by, bound -/
theorem take_drop_one {α : Type} (l : List α) (k : Nat) (h : k < l.length) : (l.take (k + 1)).drop k = [l[k]] := by
  rw [List.take_add_one, List.drop_append_of_le_length (by simp; omega)]
  simp [h]
theorem rest_last (ps : List Pc) : (ps.map Pc.d).getLast? = ps.getLast?.map Pc.d := by simp
theorem steps_by_ok (p : Pat) (w : Way) (hw : okS w.s) (hl : p.ps.length ≤ 1000) : g_steps_by [p.d, w.d] = .ok (match stepsBy p w with | some t => .list (t.map tlT) | none => .none) := by
  have ls := hw.2
  have rd : w.d = .tuple [.bool w.r, tlT w.s, .bool w.e] := rfl
  have lt : ∀ s : List Tx, lenD [tlT s] = .ok (.int s.length) := fun s => by unfold tlT; simp
  have elc : ∀ ρ0 : En, ρ0.length = 8 → ρ0[4]? = some (some (tlT w.s)) → lcL (gNm 7) cYes (eSl (eVar 4) (oSo (eVar 7)) (oSo (e2 addD (eVar 7) (eC (.int 1))))) ρ0 (rangeD 0 p.ps.length) = .ok ((slices p.ps.length w.s).map tlT) := by
    intro ρ0 h8 h4
    unfold rangeD slices
    rw [List.map_map]
    apply lcL_map
    intro k hk
    refine ⟨ρ0.set 7 (some (.int ((0 : Int) + k))), rfl, rfl, ?_⟩
    have v7 : eVar 7 (ρ0.set 7 (some (.int ((0 : Int) + k)))) = .ok (.int k) := by
      unfold eVar
      rw [List.getElem?_set_self (by omega)]
      simp
    have v4 : eVar 4 (ρ0.set 7 (some (.int ((0 : Int) + k)))) = .ok (tlT w.s) := by
      unfold eVar
      rw [List.getElem?_set_ne (by omega), h4]
    simp only [at_eSl, v4, slK_ok, at_oSo, v7, ok_bind, soK_i, slK'_ok, at_e2, k2_ok, at_eC, k2'_ok, addD_i, slK''_ok]
    unfold tlT
    rw [slD_t, cutL_mid' _ k (k + 1) _ _ rfl (by simp), ← List.map_take, ← List.map_drop]
    rfl
  have s62 : small62 (p.ps.length : Int) = true := by unfold small62; simp; omega
  have lrg : (rangeD 0 p.ps.length).length = p.ps.length := by unfold rangeD; simp
  have lsl : (slices p.ps.length w.s).length = p.ps.length := by unfold slices; simp
  have tail : ∀ (o0 o1 : Option D) (r e : Bool), ¬ w.s.length < p.ps.length → runK (t_steps_by_2 [o0, o1, some (pcs p.ps), some (.bool r), some (tlT w.s), some (.bool e), none, none]) =
      .ok (match (if lastRest p.ps = true then some ((slices p.ps.length w.s).set (p.ps.length - 1) (w.s.drop (p.ps.length - 1))) else if p.ps.length < w.s.length then none else some (slices p.ps.length w.s)) with | some t => PyData.list (t.map tlT) | none => .none) := by
    intro o0 o1 r e hle
    have he := elc [o0, o1, some (pcs p.ps), some (.bool r), some (tlT w.s), some (.bool e), none, none] rfl rfl
    unfold t_steps_by_2 t_steps_by_1
    simp only [at_sSeq, at_sSet, at_eLc, at_iRange1, at_eBlt, at_aCons, at_aNil, eVar_2, eVar_1, eVar_0, kCons_ok, kCons'_ok, ok_bind, len_pcs, rgK, s62, if_true, Int.toNat_natCast, lcK_ok, lrg, wipeE_cons, wipeE_nil, List.set_cons_succ, List.set_cons_zero]
    rw [if_pos (by omega), he]
    simp only [mkL_ok, oSet_ok, oSeq_nx, List.set_cons_succ, List.set_cons_zero]
    by_cases h0 : p.ps = []
    · have hz : p.ps.length = 0 := by rw [h0]; rfl
      rw [h0] at lsl ⊢
      have hsl : slices 0 w.s = [] := rfl
      have hlr : lastRest [] = false := rfl
      simp [hsl, lt, hlr]
      by_cases hw0 : 0 < w.s.length
      · simp [hw0, List.length_pos_iff.mp hw0]
      · have : w.s = [] := by cases hs : w.s with | nil => rfl | cons a b => rw [hs] at hw0; simp at hw0
        simp [this]
    · have hpos : 0 < p.ps.length := List.length_pos_iff.mpr h0
      obtain ⟨q, z, ez⟩ := (List.eq_nil_or_concat p.ps).resolve_left h0
      rw [List.concat_eq_append] at ez
      have eg : p.ps.getLast? = some z := by rw [ez, List.getLast?_concat]
      have ixl : ixD (pcs p.ps) (.int (-1)) = .ok z.d := by
        unfold pcs
        simp only [ixD_t, atI_m1, rest_last, eg, Option.map_some]
      have kr := k_rest z
      have hlr : lastRest p.ps = z.isRest := by unfold lastRest; rw [eg]; rfl
      have gt : (0 : Int) < (p.ps.length : Int) := by omega
      cases hr : z.isRest with
      | true =>
        rw [hr] at kr
        have kr' : z.k = [114, 101, 115, 116] := by simpa using kr
        have setm : setI ((slices p.ps.length w.s).map tlT) (-1) (tlT (w.s.drop (p.ps.length - 1))) = some (((slices p.ps.length w.s).set (p.ps.length - 1) (w.s.drop (p.ps.length - 1))).map tlT) := by
          unfold setI
          have : ixN ((slices p.ps.length w.s).map tlT).length (-1) = some (p.ps.length - 1) := by
            rw [List.length_map, lsl]
            unfold ixN
            have e1 : ((-1 : Int) + (p.ps.length : Int)).toNat = p.ps.length - 1 := by omega
            rw [if_neg (by omega), if_pos (by omega), e1]
          rw [this, List.map_set]
        have sl : slD (tlT w.s) (some ((p.ps.length : Int) - 1)) none = .ok (tlT (w.s.drop (p.ps.length - 1))) := by
          unfold tlT
          have e : ((p.ps.length : Int) - 1) = ((p.ps.length - 1 : Nat) : Int) := by omega
          rw [slD_t, e, cutL_from, List.map_drop]
        rw [hlr, hr]
        simp [-List.map_set, gt, hpos, h0, ixl, kr', sl, setm]
      | false =>
        rw [hr] at kr
        have kr' : ¬ z.k = [114, 101, 115, 116] := by simpa using kr
        by_cases hgt : p.ps.length < w.s.length
        · have hgt' : (p.ps.length : Int) < (w.s.length : Int) := by omega
          rw [hlr, hr]
          simp [gt, hpos, h0, ixl, kr', lt, hgt, hgt']
        · have hgt' : ¬ (p.ps.length : Int) < (w.s.length : Int) := by omega
          rw [hlr, hr]
          simp [gt, hpos, h0, ixl, kr', lt, hgt, hgt']
  unfold g_steps_by f_steps_by t_steps_by_4 t_steps_by_3
  rw [runF_eq, rd]
  unfold stepsBy
  by_cases c1 : w.r = false
  · simp [c1]
  · have c1' : w.r = true := by simpa using c1
    by_cases c2 : w.e = p.e
    · by_cases c3 : w.s.length < p.ps.length
      · have c3' : (w.s.length : Int) < (p.ps.length : Int) := by omega
        simp [c1', c2, lt, c3, c3']
      · have c3' : ¬ (w.s.length : Int) < (p.ps.length : Int) := by omega
        simp [c1', c2, lt, c3, c3']
        exact tail _ _ _ _ c3
    · simp [c1', c2]
/-- a rest stands last alone -/
def RestLast (ps : List Pc) : Prop := ∀ q ∈ ps.dropLast, q.isRest = false
theorem slices_get (n : Nat) (ss : List Tx) (k : Nat) (hk : k < n) (hs : k < ss.length) : (slices n ss)[k]? = some [ss[k]] := by
  unfold slices
  rw [List.getElem?_map, List.getElem?_range hk]
  simp only [Option.map_some]
  rw [take_drop_one ss k hs]
theorem slices_fed {n : Nat} {ss x : List Tx} (h : n ≤ ss.length) (hx : x ∈ slices n ss) : ∃ s ∈ ss, x = [s] := by
  unfold slices at hx
  obtain ⟨k, hk, rfl⟩ := List.mem_map.mp hx
  rw [List.mem_range] at hk
  exact ⟨ss[k], List.getElem_mem _, take_drop_one ss k (by omega)⟩
theorem stepsBy_fed {p : Pat} {w : Way} {t : List (List Tx)} (hw : okS w.s) (h : stepsBy p w = some t) : ∀ q ∈ p.ps.zip t, Fed q := by
  have one : ∀ (q : Pc) (s : Tx), s ∈ w.s → Fed (q, [s]) := fun q s hs => ⟨fun z hz => by rw [List.mem_singleton.mp hz]; exact hw.1 s hs, by simp, .inr ⟨s, rfl⟩⟩
  unfold stepsBy at h
  split at h
  · cases h
  · rename_i c
    have hle : p.ps.length ≤ w.s.length := by
      by_cases z : w.s.length < p.ps.length
      · exact absurd (.inr (.inr z)) c
      · omega
    split at h
    · rename_i hl
      cases h
      intro q hq
      obtain ⟨k, hk, ek⟩ := List.getElem_of_mem hq
      rw [List.getElem_zip] at ek
      simp only [List.length_zip, List.length_set] at hk
      subst ek
      by_cases hk1 : k = p.ps.length - 1
      · subst hk1
        rw [List.getElem_set_self]
        refine ⟨fun s hs => hw.1 s (List.mem_of_mem_drop hs), by have := hw.2; simp; omega, .inl ?_⟩
        unfold lastRest at hl
        rw [List.getLast?_eq_getElem?, List.getElem?_eq_getElem (by omega)] at hl
        exact hl
      · rw [List.getElem_set_ne (Ne.symm hk1)]
        obtain ⟨s, hs, e⟩ := slices_fed hle (List.getElem_mem (l := slices p.ps.length w.s) (by omega : k < _))
        rw [e]
        exact one _ s hs
    · split at h
      · cases h
      · cases h
        intro q hq
        obtain ⟨s, hs, e⟩ := slices_fed hle (List.of_mem_zip hq).2
        obtain ⟨a, b⟩ := q
        simp only at e
        subst e
        exact one a s hs
theorem bound_ok (p : Pat) (w : Way) (hp : ∀ q ∈ p.ps, okPc q) (hw : okS w.s) (hl : p.ps.length ≤ 900) : g_bound [p.d, w.d] = .ok (bdO (boundF p w)) := by
  have h1 := steps_by_ok p w hw (by omega)
  unfold boundF
  unfold g_bound f_bound t_bound_4 t_bound_3 t_bound_2
  rw [runF_eq]
  cases hs : stepsBy p w with
  | none => rw [hs] at h1; simp [h1, bdO]
  | some t =>
    rw [hs] at h1
    have fed := stepsBy_fed hw hs
    have lp := bound_loop (some p.d) (some w.d) (some (.list (t.map tlT))) p.ps t [] none none none hp fed (by simp; omega)
    have it : iZip (pcs p.ps) (.list (t.map tlT)) = .ok (zipD (p.ps.map Pc.d) (t.map tlT)) := rfl
    have nn : nonD (.list (t.map tlT)) = false := rfl
    have e0 : bdD [] = .list [] := rfl
    rw [e0] at lp
    cases hb : bdT (p.ps.zip t) with
    | none =>
      rw [hb] at lp
      simp only at lp
      simp [h1, it, nn]
      rw [lp]
      simp [hb, bdO]
    | some v =>
      rw [hb] at lp
      obtain ⟨p4, p5, p6, e⟩ := lp
      simp [h1, it, nn]
      rw [e]
      simp [hb, bdO]
end Wp

set_option Elab.async false
set_option linter.all false
set_option maxRecDepth 100000
set_option maxHeartbeats 4000000
namespace Wp
open PySem PySem.Spec PyProof.Rows L2 Wm
/-! ### filled -/
def sgnB (c : Nat) : Bool := decide (32 ≤ c) && decide (c ≤ 126) && decide (c ≠ 37)
/-- a text of signs -/
def okG' (s : Tx) : Prop := ∀ c ∈ s, sgnB c = true
def PO : Tx := [97, 98, 99, 100, 101, 102, 103, 104, 105, 106, 107, 108, 109, 110, 111, 112, 113, 114, 115, 116, 117, 118, 119, 120, 121, 122, 65, 66, 67, 68, 69, 70, 71, 72, 73, 74, 75, 76, 77, 78, 79, 80, 81, 82, 83, 84, 85, 86, 87, 88, 89, 90, 48, 49, 50, 51, 52, 53, 54, 55, 56, 57, 45, 95, 46, 32, 33, 34, 35, 36, 38, 39, 40, 41, 42, 43, 44, 47, 58, 59, 60, 61, 62, 63, 64, 91, 92, 93, 94, 96, 123, 124, 125, 126]
theorem po_ok : addD k_PLAIN k_OTHERS = .ok (tx PO) := by
  unfold k_PLAIN k_OTHERS
  rw [addD_s]
  rfl
theorem sgnB_in : ∀ c, c < 128 → decide (c ∈ PO) = sgnB c := by decide +kernel
theorem text_ok' (s : Tx) (h : okT s) : g_is_text [tx s] = .ok (.bool (s.all sgnB)) := by
  have lc := lcL_signs (i := 1) (elt := e2 inD (eVar 1) (e2 addD (eC k_PLAIN) (eC k_OTHERS))) (ρ0 := [some (tx s), none]) sgnB (l := s) (fun c hc => by
    have := sgnB_in c (h.1 c hc)
    show e2 inD (eVar 1) (e2 addD (eC k_PLAIN) (eC k_OTHERS)) [some (tx s), some (tx [c])] = _
    simp only [at_e2, eVar_1, eVar_0, at_eC, k2_ok, k2'_ok, po_ok, inD_s, this])
  have la := allD_map sgnB s
  have hl := h.2
  unfold g_is_text f_is_text
  rw [runF_eq]
  simp (disch := omega) [if_pos, lc, la]
theorem step_ok' (s : Tx) (h : okT s) : g_is_step [tx s] = .ok (.bool (s.all sgnB && (decide (s ≠ []) && !isdot s))) := by
  have h1 := text_ok' s h
  have hd : notInD (tx s) k_DOTS = .ok (.bool (!isdot s)) := by
    have := inDots s
    unfold inD notInD at *
    cases hb : inB (tx s) k_DOTS with
    | none => rw [hb] at this; cases this
    | some b => rw [hb] at this; simp only at this ⊢; cases this; rfl
  unfold g_is_step f_is_step
  rw [runF_eq]
  simp only [List.map_cons, List.map_nil, List.length_cons, List.length_nil, List.replicate, List.cons_append, List.nil_append, Nat.reduceAdd, Nat.reduceSub, Nat.sub_self]
  generalize hb : s.all sgnB = b at h1 ⊢
  simp [h1, hd]
  cases b with
  | false => simp
  | true => by_cases hs : s = [] <;> simp [hs]
def servP (p : Pc) (v : Vl) : Bool := match p, v with
  | .rest _, .l xs => decide (xs ≠ []) && xs.all fun s => s.all sgnB && (decide (s ≠ []) && !isdot s)
  | .num _, .i n => decide (n < 10 ^ 60)
  | .word _, .t x => isWord x
  | .part h _ t, .t x => x.all sgnB && (decide (x ≠ []) && !isdot (h ++ x ++ t))
  | .gap _, .t x => x.all sgnB && (decide (x ≠ []) && !isdot x)
  | _, _ => false
def okVl : Vl → Prop
  | .t x => okT x | .i _ => True | .l xs => okS xs
theorem notDots (s : Tx) : notInD (tx s) k_DOTS = .ok (.bool (!isdot s)) := by
  have := inDots s
  unfold inD notInD at *
  cases hb : inB (tx s) k_DOTS with
  | none => rw [hb] at this; cases this
  | some b => rw [hb] at this; simp only at this ⊢; cases this; rfl
/-- kinds go together -/
def kindP (p : Pc) (v : Vl) : Prop := match p, v with
  | .rest _, .l _ => True | .num _, .i _ => True | .word _, .t _ => True | .part _ _ _, .t _ => True | .gap _, .t _ => True | _, _ => False
theorem serves_ok (p : Pc) (v : Vl) (hp : okPc p) (hv : okVl v) (hk : kindP p v) : g_serves [p.d, v.d] = .ok (.bool (servP p v)) := by
  unfold g_serves f_serves t_serves_3 t_serves_2 t_serves_1
  rw [runF_eq]
  cases p with
  | step t => cases v <;> exact absurd hk id
  | rest n =>
    cases v with
    | l xs =>
      have n1 := neD_list_nil hv.1
      have hl := hv.2
      have lc := lcL_map (tg := gNm 2) (cond := cYes) (elt := eCall 1 g_is_step (aCons (eVar 2) aNil)) (ρ0 := [some (.tuple [tx kRest, tx n]), some (.list (xs.map tx)), none]) tx (fun s => .bool (s.all sgnB && (decide (s ≠ []) && !isdot s))) (xs := xs) (fun s hs => ⟨_, rfl, rfl, by
        have := step_ok' s (hv.1 s hs)
        simp [this]⟩)
      have la := allD_map (fun s : Tx => s.all sgnB && (decide (s ≠ []) && !isdot s)) xs
      rw [neD_ll] at n1
      unfold kRest at lc
      have lx : (xs.map tx).length ≤ 16777216 := by simp; omega
      simp only [Pc.d, Vl.d, kRest, servP]
      simp only [List.map_cons, List.map_nil, List.length_cons, List.length_nil, List.replicate, List.cons_append, List.nil_append, Nat.reduceAdd, Nat.reduceSub]
      by_cases h0 : xs = []
      · simp [h0] at n1 ⊢; simp [n1]
      · simp only [h0, ne_eq, not_false_iff, decide_true] at n1
        have e1 : (e2 neD (eVar 1) (eLst aNil)) [some (.tuple [tx [114, 101, 115, 116], tx n]), some (.list (xs.map tx)), none] = .ok (.bool true) := by simp [n1]
        have e2' : eBlt allD (aCons (eLc (eIt iSeq (eVar 1)) [2] (gNm 2) cYes (eCall 1 g_is_step (aCons (eVar 2) aNil))) aNil) [some (.tuple [tx [114, 101, 115, 116], tx n]), some (.list (xs.map tx)), none] = .ok (.bool (xs.all fun s : Tx => s.all sgnB && (decide (s ≠ []) && !isdot s))) := by
          simp only [at_eBlt, at_aCons, at_aNil, at_eLc, at_eIt, eVar_1, eVar_0, ok_bind, iSeq_l, lcK_ok, wipeE_cons, wipeE_nil, List.set_cons_succ, List.set_cons_zero]
          rw [if_pos lx, lc]
          simp only [mkL_ok, kCons_ok, at_aNil, kCons'_ok, ok_bind, la]
        have ei : eIsi "list" (eVar 1) [some (.tuple [tx [114, 101, 115, 116], tx n]), some (.list (xs.map tx)), none] = .ok (.bool true) := by simp
        simp only [at_sSeq, at_sIf, at_tB]
        have et : e2 eqD (e2 ixD (eVar 0) (eC (PyData.int 0))) (eC (tx [114, 101, 115, 116])) [some (.tuple [tx [114, 101, 115, 116], tx n]), some (.list (xs.map tx)), none] = .ok (.bool true) := by simp
        simp only [et, asB_b, oIf_ok, if_true, at_sRet, at_eAn, ei, anK_b, e1, e2', oRet_ok, oSeq_rt, runK_rt]
        simp [h0]
    | t x => exact absurd hk id
    | i x => exact absurd hk id
  | num n =>
    cases v with
    | i k =>
      have hb : ((10 : Int) ^ (60 : Int).toNat) = 10 ^ 60 := rfl
      have e1 : decide ((k : Int) < 10 ^ 60) = decide (k < 10 ^ 60) := by rw [decide_eq_decide]; omega
      have e0 : (0 : Int) ≤ (k : Int) := by omega
      have pw : powD (.int 10) (.int 60) = .ok (.int (10 ^ 60)) := by rw [powD_i]; rfl
      have c1 : leD (.int 0) (.int k) = .ok (.bool true) := by show Rs.ok (PyData.bool (decide _)) = _; rw [decide_eq_true e0]
      have c2 : ltD (.int k) (.int (10 ^ 60)) = .ok (.bool (decide (k < 10 ^ 60))) := by show Rs.ok (PyData.bool (decide _)) = _; rw [e1]
      simp only [Pc.d, Vl.d, kNum, servP]
      simp [pw]
      try omega
    | t x => exact absurd hk id
    | l x => exact absurd hk id
  | word n =>
    cases v with
    | t x =>
      have h1 := word_ok x hv
      simp [Pc.d, Vl.d, kWord, servP, h1]
    | i x => exact absurd hk id
    | l x => exact absurd hk id
  | part a n t =>
    cases v with
    | t x =>
      have h1 := text_ok' x hv
      have la := hp.1.2
      have lt := hp.2.2.2
      have lx : x.length ≤ 1000 := hv.2
      have nd := notDots (a ++ x ++ t)
      simp only [Pc.d, Vl.d, kPart, servP]
      generalize hb : x.all sgnB = b at h1 ⊢
      simp [h1]
      cases b with
      | false => simp
      | true =>
        by_cases hx : x = []
        · simp [hx]
        · simp at nd
          simp (disch := omega) [hx, if_pos, nd]
    | i x => exact absurd hk id
    | l x => exact absurd hk id
  | gap n =>
    cases v with
    | t x =>
      have h1 := step_ok' x hv
      simp only [Pc.d, Vl.d, kGap, servP]
      generalize hb : x.all sgnB = b at h1 ⊢
      simp [h1]
    | i x => exact absurd hk id
    | l x => exact absurd hk id
def fillP (p : Pc) (v : Vl) : List Tx := match p, v with
  | .step t, _ => [t]
  | .rest _, .l xs => xs
  | .num _, .i n => [figs n]
  | .part h _ t, .t x => [h ++ x ++ t]
  | _, .t x => [x]
  | _, _ => []
end Wp

set_option Elab.async false
set_option linter.all false
set_option maxRecDepth 100000
set_option maxHeartbeats 4000000
namespace Wp
open PySem PySem.Spec PyProof.Rows L2 Wm
def b__law_names_1 : En → Out :=
  (sSeq (sSet 9 (e2 addD (e2 fdivD (eVar 0) (e2 addD (eC (.int 49)) (e2 mulD (eC (.int 11)) (eVar 8)))) (e2 mulD (e2 mulD (eC (.int 3)) (eVar 8)) (eVar 8))))
    (sSeq (sIf (tB (e2 eqD (eVar 8) (eVar 4)))
      (sSet 9 (e2 addD (eVar 9) (eVar 6)))
      sNx)
    (sSet 7 (e2 addD (eVar 7) (e2 ixD (eVar 2) (e2 modD (eVar 9) (eC (.int 26))))))))
def b__law_names_2 : En → Out :=
  (sSeq (sSet 7 (eC (tx [])))
    (sSeq (sFor (iRange1 (eVar 3)) (gNm 8)
      b__law_names_1)
    (sSeq (sIf (tAn (tB (e2 eqD (e2 modD (e2 fdivD (eVar 0) (eC (.int 343))) (eC (.int 2))) (eC (.int 1)))) (tB (e2 eqD (e2 modD (eVar 6) (eC (.int 2))) (eC (.int 1)))))
      (sSet 7 (e2 addD (eVar 7) (e2 ixD (eVar 2) (e2 modD (e2 fdivD (eVar 0) (eC (.int 686))) (eC (.int 26))))))
      sNx)
    (sApp 5 (eVar 7)))))
def t__law_names_3 : En → Out :=
  (sSeq (sFor (iRange1 (eVar 1)) (gNm 6)
      b__law_names_2)
    (sRet (eVar 5)))
def t__law_names_4 : En → Out :=
  (sSeq (sSet 5 (eLst aNil))
    t__law_names_3)
def t__law_names_5 : En → Out :=
  (sSeq (sSet 4 (e2 modD (e2 fdivD (eVar 0) (eC (.int 7))) (eVar 3)))
    t__law_names_4)
def t__law_names_6 : En → Out :=
  (sSeq (sSet 3 (e2 addD (eC (.int 1)) (e2 modD (eVar 0) (eC (.int 7)))))
    t__law_names_5)
def f__law_names : En → Out :=
  (sSeq (sSet 2 (eC (tx [97, 98, 99, 100, 101, 102, 103, 104, 105, 106, 107, 108, 109, 110, 111, 112, 113, 114, 115, 116, 117, 118, 119, 120, 121, 122])))
    t__law_names_6)
def g__law_names : List D → Rs D := runF 10 f__law_names
def f__law_signs : En → Out :=
  (sSeq (sSet 0 (eC (tx [32, 33, 34, 35, 36, 38, 39, 40, 41, 42, 43, 44, 45, 46, 47, 48, 49, 50, 51, 52, 53, 54, 55, 56, 57, 58, 59, 60, 61, 62, 63, 64, 65, 66, 67, 68, 69, 70, 71, 72, 73, 74, 75, 76, 77, 78, 79, 80, 81, 82, 83, 84, 85, 86, 87, 88, 89, 90])))
    (sRet (e2 addD (eVar 0) (eC (tx [91, 92, 93, 94, 95, 96, 97, 98, 99, 100, 101, 102, 103, 104, 105, 106, 107, 108, 109, 110, 111, 112, 113, 114, 115, 116, 117, 118, 119, 120, 121, 122, 123, 124, 125, 126])))))
def g__law_signs : List D → Rs D := runF 1 f__law_signs
def b_p_law_text_1 : En → Out :=
  (sSet 2 (e2 addD (eVar 2) (e2 ixD (eVar 1) (e2 modD (e2 fdivD (eVar 0) (e2 addD (eC (.int 30)) (e2 mulD (e2 mulD (eC (.int 17)) (eVar 3)) (eVar 3)))) (eBlt lenD (aCons (eVar 1) aNil))))))
def f_p_law_text : En → Out :=
  (sSeq (sSet 1 (e2 ixD (eLst (aCons (eC (tx [97, 98])) (aCons (eC (tx [97, 49])) (aCons (eC (tx [48, 49, 50, 51, 52, 53, 54, 55, 56, 57])) (aCons (eC (tx [97, 46])) (aCons (eCall0 g__law_signs) (aCons (eC (tx [46, 47, 123, 125, 126, 97, 98])) aNil))))))) (e2 modD (eVar 0) (eC (.int 6)))))
    (sSeq (sSet 2 (eC (tx [])))
    (sSeq (sFor (iRange1 (e2 modD (e2 fdivD (eVar 0) (eC (.int 6))) (eC (.int 5)))) (gNm 3)
      b_p_law_text_1)
    (sRet (eVar 2)))))
def g_p_law_text : List D → Rs D := runF 4 f_p_law_text
def f_p_law_step : En → Out :=
  (sSeq (sSet 1 (eCall 1 g_p_law_text (aCons (eVar 0) aNil)))
    (sSeq (sIf (tB (e2 inD (eVar 1) (eTup (aCons (eC (tx [])) (aCons (eC (tx [46])) (aCons (eC (tx [46, 46])) aNil))))))
      (sSet 1 (e2 addD (eVar 1) (e2 ixD (eC (tx [97, 98, 49, 122])) (e2 modD (e2 fdivD (eVar 0) (eC (.int 30))) (eC (.int 4))))))
      sNx)
    (sRet (eVar 1))))
def g_p_law_step : List D → Rs D := runF 2 f_p_law_step
def f__law_piece : En → Out :=
  (sSeq (sIf (tB (e2 ltD (e2 modD (eVar 0) (eC (.int 8))) (eC (.int 2))))
      (sRet (eTup (aCons (eC (tx [115, 116, 101, 112])) (aCons (eCall 1 g_p_law_step (aCons (e2 fdivD (eVar 0) (eC (.int 8))) aNil)) aNil))))
      sNx)
    (sSeq (sIf (tB (e2 ltD (e2 modD (eVar 0) (eC (.int 8))) (eC (.int 4))))
      (sSeq (sSet 2 (eCall 1 g_p_law_text (aCons (e2 fdivD (eVar 0) (eC (.int 8))) aNil)))
    (sSeq (sSet 3 (eCall 1 g_p_law_text (aCons (e2 fdivD (eVar 0) (eC (.int 240))) aNil)))
    (sSeq (sIf (tB (e2 eqD (e2 addD (eVar 2) (eVar 3)) (eC (tx []))))
      (sSet 2 (e2 ixD (eC (tx [97, 98, 49, 46])) (e2 modD (e2 fdivD (eVar 0) (eC (.int 16))) (eC (.int 4)))))
      sNx)
    (sRet (eTup (aCons (eC (tx [112, 97, 114, 116])) (aCons (eVar 2) (aCons (eVar 1) (aCons (eVar 3) aNil)))))))))
      sNx)
    (sRet (eTup (aCons (e2 ixD (eLst (aCons (eC (tx [110, 117, 109, 98, 101, 114])) (aCons (eC (tx [119, 111, 114, 100])) (aCons (eC (tx [103, 97, 112])) (aCons (eC (tx [103, 97, 112])) aNil))))) (e2 subD (e2 modD (eVar 0) (eC (.int 8))) (eC (.int 4)))) (aCons (eVar 1) aNil))))))
def g__law_piece : List D → Rs D := runF 4 f__law_piece
def f__law_pattern : En → Out :=
  (sSeq (sSet 3 (eLc (eIt2 iZip (eVar 2) (eVar 1)) [4, 5] (gTp 2 (gsCons (gNm 4) (gsCons (gNm 5) gsNil))) cYes (eCall 2 g__law_piece (aCons (eVar 4) (aCons (eVar 5) aNil)))))
    (sSeq (sIf (tAn (tB (e2 eqD (e2 modD (eVar 0) (eC (.int 4))) (eC (.int 1)))) (tB (e2 neD (eVar 3) (eLst aNil))))
      (sItm 3 (eNeg (eC (.int 1))) (eTup (aCons (eC (tx [114, 101, 115, 116])) (aCons (e2 ixD (eVar 1) (e2 subD (eBlt lenD (aCons (eVar 3) aNil)) (eC (.int 1)))) aNil))))
      sNx)
    (sRet (eTup (aCons (eBlt tupD (aCons (eVar 3) aNil)) (aCons (eOr (e2 eqD (eVar 3) (eLst aNil)) (e2 eqD (e2 modD (e2 fdivD (eVar 0) (eC (.int 4))) (eC (.int 2))) (eC (.int 1)))) aNil))))))
def g__law_pattern : List D → Rs D := runF 6 f__law_pattern
def t__law_near_step_1 : En → Out :=
  (sSeq (sIf (tB (e2 eqD (e2 ixD (eVar 0) (eC (.int 0))) (eC (tx [119, 111, 114, 100]))))
      (sRet (e2 mulD (e2 ixD (eC (tx [97, 98, 99, 120, 121, 122])) (e2 modD (e2 fdivD (eVar 1) (eC (.int 8))) (eC (.int 6)))) (e2 addD (eC (.int 1)) (e2 modD (e2 fdivD (eVar 1) (eC (.int 48))) (eC (.int 60))))))
      sNx)
    (sRet (eCall 1 g_p_law_step (aCons (e2 fdivD (eVar 1) (eC (.int 8))) aNil))))
def t__law_near_step_2 : En → Out :=
  (sSeq (sIf (tB (e2 eqD (e2 ixD (eVar 0) (eC (.int 0))) (eC (tx [110, 117, 109, 98, 101, 114]))))
      (sRet (eBlt strD (aCons (e2 modD (e2 fdivD (eVar 1) (eC (.int 8))) (e2 ixD (eLst (aCons (eC (.int 10)) (aCons (eC (.int 100)) (aCons (e2 powD (eC (.int 10)) (eC (.int 9))) (aCons (e2 powD (eC (.int 10)) (eC (.int 60))) aNil))))) (e2 modD (eVar 1) (eC (.int 4))))) aNil)))
      sNx)
    t__law_near_step_1)
def t__law_near_step_3 : En → Out :=
  (sSeq (sIf (tB (e2 eqD (e2 ixD (eVar 0) (eC (.int 0))) (eC (tx [112, 97, 114, 116]))))
      (sRet (e2 addD (e2 addD (e2 addD (e2 ixD (eVar 0) (eC (.int 1))) (eVar 2)) (e2 mulD (eC (tx [49])) (eBlt intD (aCons (e2 eqD (eVar 2) (eC (tx []))) aNil)))) (e2 ixD (eVar 0) (eC (.int 3)))))
      sNx)
    t__law_near_step_2)
def t__law_near_step_4 : En → Out :=
  (sSeq (sIf (tB (e2 eqD (e2 ixD (eVar 0) (eC (.int 0))) (eC (tx [115, 116, 101, 112]))))
      (sRet (e2 ixD (eVar 0) (eC (.int 1))))
      sNx)
    t__law_near_step_3)
def f__law_near_step : En → Out :=
  (sSeq (sSet 2 (eCall 1 g_p_law_text (aCons (e2 fdivD (eVar 1) (eC (.int 8))) aNil)))
    t__law_near_step_4)
def g__law_near_step : List D → Rs D := runF 3 f__law_near_step
def b__law_steps_1 : En → Out :=
  (sApp 2 (eCall 1 g_p_law_step (aCons (e2 fdivD (eVar 5) (e2 addD (eC (.int 7)) (eVar 6))) aNil)))
def b__law_steps_2 : En → Out :=
  (sSeq (sSet 5 (e2 fdivD (e2 ixD (eVar 1) (e2 modD (eVar 3) (eBlt lenD (aCons (eVar 1) aNil)))) (e2 addD (e2 fdivD (eVar 3) (eBlt lenD (aCons (eVar 1) aNil))) (eC (.int 1)))))
    (sSeq (sApp 2 (eCall 2 g__law_near_step (aCons (eVar 4) (aCons (eVar 5) aNil))))
    (sIf (tB (e2 eqD (e2 ixD (eVar 4) (eC (.int 0))) (eC (tx [114, 101, 115, 116]))))
      (sFor (iRange1 (e2 modD (e2 fdivD (eVar 5) (eC (.int 3))) (eC (.int 4)))) (gNm 6)
      b__law_steps_1)
      sNx)))
def f__law_steps : En → Out :=
  (sSeq (sSet 2 (eLst aNil))
    (sSeq (sFor (eIt iEn (e2 ixD (eVar 0) (eC (.int 0)))) (gTp 2 (gsCons (gNm 3) (gsCons (gNm 4) gsNil)))
      b__law_steps_2)
    (sRet (eVar 2))))
def g__law_steps : List D → Rs D := runF 7 f__law_steps
end Wp

set_option Elab.async false
set_option linter.all false
set_option maxRecDepth 100000
set_option maxHeartbeats 4000000
namespace Wp
open PySem PySem.Spec PyProof.Rows L2 Wm
/-! ### the drawn texts -/
theorem signs_ok : g__law_signs [] = .ok (tx T) := isStr_eq (by decide +kernel)
def PLS : List Tx := [[97, 98], [97, 49], [48, 49, 50, 51, 52, 53, 54, 55, 56, 57], [97, 46], T, [46, 47, 123, 125, 126, 97, 98]]
theorem PLS_ok : ∀ p ∈ PLS, 0 < p.length ∧ p.length ≤ 100 ∧ ∀ x ∈ p, x ∈ T := by decide
theorem ptext_turn (c : Int) (P : Tx) (h0 : 0 < P.length) (h1 : P.length ≤ 100) (acc : Tx) (hl : acc.length ≤ 100) (k : Nat) (hk : k ≤ 10) : ∃ s ∈ P, b_p_law_text_1 [some (.int c), some (tx P), some (tx acc), some (.int k)] = .nx [some (.int c), some (tx P), some (tx (acc ++ [s])), some (.int k)] := by
  obtain ⟨e, h⟩ := fmod_range (c.fdiv (30 + 17 * (k : Int) * k)) (b := (P.length : Int)) (by omega)
  obtain ⟨s, hs0, hs, _⟩ := atI_mem (l := P) e h
  have b17 : big 17 = true := by decide
  have bk : big (k : Int) = true := by unfold big; simp; omega
  have hp : 17 * (k : Int) * k ≤ 1700 := by
    have : (k : Int) * k ≤ 10 * 10 := Int.mul_le_mul (by omega) (by omega) (by omega) (by omega)
    have e : 17 * (k : Int) * k = 17 * ((k : Int) * k) := by rw [Int.mul_assoc]
    omega
  have hp0 : 0 ≤ 17 * (k : Int) * k := Int.mul_nonneg (by omega) (by omega)
  have b17k : big (17 * (k : Int)) = true := by unfold big; simp; omega
  have hd : (30 + 17 * (k : Int) * k) ≠ 0 := by omega
  have hd2 : (30 + 17 * (k : Int) * k).natAbs < 1073741824 := by omega
  have hP : (P.length : Int) ≠ 0 := by omega
  refine ⟨s, hs, ?_⟩
  unfold b_p_law_text_1
  have hPn : P ≠ [] := fun z => by subst z; simp at h0
  simp (disch := omega) [b17, bk, b17k, hd, hd2, hPn, hs0, if_pos]
theorem ptext_loop (c : Int) (P : Tx) (hP : 0 < P.length ∧ P.length ≤ 100 ∧ ∀ x ∈ P, x ∈ T) : ∀ (j lo : Nat) (acc : Tx) (o : Option D), lo + j ≤ 10 → acc.length + j ≤ 100 → (∀ x ∈ acc, x ∈ T) → ∃ m o', forL (gNm 3) b_p_law_text_1 (rangeD lo j) [some (.int c), some (tx P), some (tx acc), o] = .nx [some (.int c), some (tx P), some (tx m), o'] ∧ (∀ x ∈ m, x ∈ T) ∧ m.length = acc.length + j
  | 0, lo, acc, o, _, _, ha => ⟨acc, o, rfl, ha, rfl⟩
  | j + 1, lo, acc, o, hj, hl, ha => by
    obtain ⟨s, hs, ht⟩ := ptext_turn c P hP.1 hP.2.1 acc (by omega) lo (by omega)
    obtain ⟨m, o', h1, h2, h3⟩ := ptext_loop c P hP j (lo + 1) (acc ++ [s]) (some (.int lo)) (by omega) (by simp; omega) (fun z hz => by
      rcases List.mem_append.mp hz with m | m
      · exact ha z m
      · rw [List.mem_singleton.mp m]; exact hP.2.2 s hs)
    refine ⟨m, o', ?_, h2, by rw [h3]; simp; omega⟩
    rw [rangeD_cons, forL_name]
    show oLoop (b_p_law_text_1 [some (.int c), some (tx P), some (tx acc), some (.int lo)]) _ = _
    rw [ht, oLoop_nx]
    exact h1
theorem ptext_ok (c : Int) : ∃ l, g_p_law_text [.int c] = .ok (tx l) ∧ (∀ x ∈ l, x ∈ T) ∧ l.length ≤ 4 := by
  obtain ⟨e, h⟩ := fmod_range c (b := 6) (by decide)
  obtain ⟨x, ex, hx, _⟩ := atI_mem (l := PLS.map tx) e (by simpa [PLS] using h)
  obtain ⟨P, hP, rfl⟩ := List.mem_map.mp hx
  obtain ⟨r0, r1⟩ := fmod_range (c.fdiv 6) (b := 5) (by decide)
  obtain ⟨m, o', h1, h2, h3⟩ := ptext_loop c P (PLS_ok P hP) ((c.fdiv 6).fmod 5).toNat 0 [] none (by omega) (by simp; omega) (by simp)
  refine ⟨m, ?_, h2, by rw [h3]; simp; omega⟩
  have sg := signs_ok
  have hs : small62 ((c.fdiv 6).fmod 5) = true := by unfold small62; simp; omega
  have ex' : atI [tx [97, 98], tx [97, 49], tx [48, 49, 50, 51, 52, 53, 54, 55, 56, 57], tx [97, 46], tx T, tx [46, 47, 123, 125, 126, 97, 98]] (c.fmod 6) = some (tx P) := ex
  unfold g_p_law_text f_p_law_text
  rw [runF_eq]
  simp [sg, ex', hs, rgK]
  rw [show ((0 : Nat) : Int) = 0 from rfl] at h1
  rw [h1]
  simp
noncomputable def pxt (c : Int) : Tx := Classical.choose (ptext_ok c)
theorem pxt_ok (c : Int) : g_p_law_text [.int c] = .ok (tx (pxt c)) := (Classical.choose_spec (ptext_ok c)).1
theorem pxt_T (c : Int) : ∀ x ∈ pxt c, x ∈ T := (Classical.choose_spec (ptext_ok c)).2.1
theorem pxt_len (c : Int) : (pxt c).length ≤ 4 := (Classical.choose_spec (ptext_ok c)).2.2
theorem pxt_t (c : Int) : okT (pxt c) := in_okT (pxt_T c) (by have := pxt_len c; omega)
/-- a step that is none of the dots -/
structure okSt (s : Tx) : Prop where
  t : ∀ x ∈ s, x ∈ T
  ne : s ≠ []
  len : s.length ≤ 5
  dot : isdot s = false
theorem okSt.o {s : Tx} (h : okSt s) : okT s := in_okT h.t (by have := h.len; omega)
theorem pstep_ok (c : Int) : ∃ l, g_p_law_step [.int c] = .ok (tx l) ∧ okSt l := by
  obtain ⟨e, h⟩ := fmod_range (c.fdiv 30) (b := 4) (by decide)
  obtain ⟨x, ex, hx, _⟩ := atI_mem (l := [97, 98, 49, 122]) e h
  have xT : x ∈ T := (show ∀ z ∈ [97, 98, 49, 122], z ∈ T by decide) x hx
  have xd : x ≠ 46 := (show ∀ z ∈ [97, 98, 49, 122], z ≠ 46 by decide) x hx
  have h1 := pxt_ok c
  have h2 := pxt_T c
  have h3 := pxt_len c
  unfold g_p_law_step f_p_law_step
  rw [runF_eq]
  generalize pxt c = s at h1 h2 h3
  by_cases c1 : s = [] ∨ s = [46] ∨ s = [46, 46]
  · have hin : inD (tx s) (.tuple [tx [], tx [46], tx [46, 46]]) = .ok (.bool true) := by
      rw [inD_t3]
      rcases c1 with rfl | rfl | rfl <;> simp
    refine ⟨s ++ [x], ?_, ?_, by simp, by simp; omega, ?_⟩
    · simp (disch := omega) [h1, hin, ex, if_pos]
    · intro z hz
      rcases List.mem_append.mp hz with m | m
      · exact h2 z m
      · rw [List.mem_singleton.mp m]; exact xT
    · unfold isdot one two
      rcases c1 with rfl | rfl | rfl <;> simp [xd]
  · have hin : inD (tx s) (.tuple [tx [], tx [46], tx [46, 46]]) = .ok (.bool false) := by
      rw [inD_t3]
      simp at c1 ⊢
      simp [c1]
    refine ⟨s, by simp [h1, hin], h2, fun z => c1 (.inl z), by omega, ?_⟩
    unfold isdot one two
    simp at c1 ⊢
    simp [c1]
noncomputable def pst (c : Int) : Tx := Classical.choose (pstep_ok c)
theorem pst_ok (c : Int) : g_p_law_step [.int c] = .ok (tx (pst c)) := (Classical.choose_spec (pstep_ok c)).1
theorem pst_g (c : Int) : okSt (pst c) := (Classical.choose_spec (pstep_ok c)).2
/-! ### the drawn pieces -/
def gdP (n : Tx) : Pc → Prop
  | .step t => okSt t
  | .part h m t => m = n ∧ (∀ x ∈ h, x ∈ T) ∧ (∀ x ∈ t, x ∈ T) ∧ h ++ t ≠ [] ∧ h.length ≤ 4 ∧ t.length ≤ 4
  | .num m => m = n | .word m => m = n | .gap m => m = n | .rest _ => False
theorem gdP.ok {n : Tx} {p : Pc} (hn : okT n) (h : gdP n p) : okPc p := by
  cases p with
  | step t => exact okSt.o h
  | part a m t =>
    obtain ⟨rfl, h1, h2, _, h3, h4⟩ := h
    exact ⟨in_okT h1 (by omega), hn, in_okT h2 (by omega)⟩
  | num m => cases h; exact hn
  | word m => cases h; exact hn
  | gap m => cases h; exact hn
  | rest m => exact h.elim
theorem piece_ok (c : Int) (n : Tx) : ∃ p : Pc, g__law_piece [.int c, tx n] = .ok p.d ∧ gdP n p := by
  have h1 := pst_ok (c.fdiv 8)
  have h2 := pxt_ok (c.fdiv 8)
  have h3 := pxt_ok (c.fdiv 240)
  obtain ⟨e, h⟩ := fmod_range c (b := 8) (by decide)
  obtain ⟨f, g⟩ := fmod_range (c.fdiv 16) (b := 4) (by decide)
  obtain ⟨x, ex, hx, _⟩ := atI_mem (l := [97, 98, 49, 46]) f g
  have xT : x ∈ T := (show ∀ z ∈ [97, 98, 49, 46], z ∈ T by decide) x hx
  have l2 := pxt_len (c.fdiv 8)
  have l3 := pxt_len (c.fdiv 240)
  unfold g__law_piece f__law_piece
  rw [runF_eq]
  by_cases c1 : c.fmod 8 < 2
  · exact ⟨.step (pst (c.fdiv 8)), by simp [c1, h1, Pc.d, kStep], pst_g _⟩
  by_cases c2 : c.fmod 8 < 4
  · by_cases c3 : pxt (c.fdiv 8) ++ pxt (c.fdiv 240) = []
    · have c4 : pxt (c.fdiv 8) = [] ∧ pxt (c.fdiv 240) = [] := by simpa using c3
      refine ⟨.part [x] n (pxt (c.fdiv 240)), by simp (disch := omega) [c1, c2, h2, h3, c4, ex, Pc.d, kPart, if_pos], rfl, ?_, pxt_T _, by simp, by simp, l3⟩
      intro z hz
      rw [List.mem_singleton.mp hz]; exact xT
    · refine ⟨.part (pxt (c.fdiv 8)) n (pxt (c.fdiv 240)), ?_, rfl, pxt_T _, pxt_T _, c3, l2, l3⟩
      have c3' : ¬ (pxt (c.fdiv 8) = [] ∧ pxt (c.fdiv 240) = []) := by simpa using c3
      by_cases c5 : pxt (c.fdiv 8) = []
      · have c6 : pxt (c.fdiv 240) ≠ [] := fun z => c3' ⟨c5, z⟩
        simp (disch := omega) [c1, c2, h2, h3, c5, c6, Pc.d, kPart, if_pos]
      · simp (disch := omega) [c1, c2, h2, h3, c5, Pc.d, kPart, if_pos]
  · have cs : c.fmod 8 - 4 = 0 ∨ c.fmod 8 - 4 = 1 ∨ c.fmod 8 - 4 = 2 ∨ c.fmod 8 - 4 = 3 := by omega
    rcases cs with z | z | z | z
    · exact ⟨.num n, by simp [c1, c2, z, Pc.d, kNum], rfl⟩
    · exact ⟨.word n, by simp [c1, c2, z, Pc.d, kWord], rfl⟩
    · exact ⟨.gap n, by simp [c1, c2, z, Pc.d, kGap], rfl⟩
    · exact ⟨.gap n, by simp [c1, c2, z, Pc.d, kGap], rfl⟩
noncomputable def pcx (c : Int) (n : Tx) : Pc := Classical.choose (piece_ok c n)
theorem pcx_ok (c : Int) (n : Tx) : g__law_piece [.int c, tx n] = .ok (pcx c n).d := (Classical.choose_spec (piece_ok c n)).1
theorem pcx_g (c : Int) (n : Tx) : gdP n (pcx c n) := (Classical.choose_spec (piece_ok c n)).2
/-! ### the drawn names -/
def lts : List Nat := [97, 98, 99, 100, 101, 102, 103, 104, 105, 106, 107, 108, 109, 110, 111, 112, 113, 114, 115, 116, 117, 118, 119, 120, 121, 122]
theorem lts_at : ∀ i, i < 26 → lts[i]? = some (97 + i) := by decide
theorem lts_I (z : Int) : atI lts (z.fmod 26) = some (97 + (z.fmod 26).toNat) := by
  obtain ⟨e, h⟩ := fmod_range z (b := 26) (by decide)
  obtain ⟨x, ex, _, hx⟩ := atI_mem (l := lts) e h
  rw [ex, ← hx, lts_at _ (by omega)]
def nl (c : Int) (a k j : Nat) : Nat := 97 + ((c.fdiv (49 + 11 * j) + 3 * j * j + if j = a then (k : Int) else 0).fmod 26).toNat
theorem nm_turn (c : Int) (o1 o3 o5 o9 : Option D) (a k j : Nat) (hj : j ≤ 10) (acc : Tx) (hl : acc.length ≤ 100) : ∃ p9, b__law_names_1 [some (.int c), o1, some (tx lts), o3, some (.int a), o5, some (.int k), some (tx acc), some (.int j), o9] = .nx [some (.int c), o1, some (tx lts), o3, some (.int a), o5, some (.int k), some (tx (acc ++ [nl c a k j])), some (.int j), p9] := by
  have b11 : big 11 = true := by decide
  have ll : lts.length = 26 := rfl
  have b3 : big 3 = true := by decide
  have bj : big (j : Int) = true := by unfold big; simp; omega
  have b3j : big (3 * (j : Int)) = true := by unfold big; simp; omega
  have hd : (49 + 11 * (j : Int)) ≠ 0 := by omega
  have hd2 : (49 + 11 * (j : Int)).natAbs < 1073741824 := by omega
  have h1 := lts_I (c.fdiv (49 + 11 * j) + 3 * j * j + k)
  have h2 := lts_I (c.fdiv (49 + 11 * j) + 3 * j * j)
  refine ⟨some (.int (c.fdiv (49 + 11 * j) + 3 * j * j + if j = a then (k : Int) else 0)), ?_⟩
  unfold b__law_names_1 nl
  by_cases e : j = a
  · subst e
    simp (disch := omega) [b11, b3, bj, b3j, hd, hd2, h1, ll, if_pos]
  · have e' : ¬ (j : Int) = (a : Int) := by omega
    simp (disch := omega) [b11, b3, bj, b3j, hd, hd2, h2, e, e', ll, if_pos]
theorem nm_loop (c : Int) (o1 o3 o5 : Option D) (a k : Nat) : ∀ (m lo : Nat) (acc : Tx) (o8 o9 : Option D), lo + m ≤ 10 → acc.length + m ≤ 100 → ∃ p8 p9, forL (gNm 8) b__law_names_1 (rangeD lo m) [some (.int c), o1, some (tx lts), o3, some (.int a), o5, some (.int k), some (tx acc), o8, o9] = .nx [some (.int c), o1, some (tx lts), o3, some (.int a), o5, some (.int k), some (tx (acc ++ ((List.range m).map fun j => nl c a k (lo + j)))), p8, p9]
  | 0, lo, acc, o8, o9, _, _ => ⟨o8, o9, by simp [rangeD]⟩
  | m + 1, lo, acc, o8, o9, h, hl => by
    obtain ⟨p9, h1⟩ := nm_turn c o1 o3 o5 o9 a k lo (by omega) acc (by omega)
    obtain ⟨q8, q9, h2⟩ := nm_loop c o1 o3 o5 a k m (lo + 1) (acc ++ [nl c a k lo]) (some (.int lo)) p9 (by omega) (by simp; omega)
    refine ⟨q8, q9, ?_⟩
    rw [rangeD_cons, forL_name]
    show oLoop (b__law_names_1 [some (.int c), o1, some (tx lts), o3, some (.int a), o5, some (.int k), some (tx acc), some (.int lo), o9]) _ = _
    rw [h1, oLoop_nx]
    refine h2.trans ?_
    have e : (List.range m).map (fun j => nl c a k (lo + 1 + j)) = (List.range m).map ((fun j => nl c a k (lo + j)) ∘ Nat.succ) := by
      apply List.map_congr_left
      intro j _
      show nl c a k (lo + 1 + j) = nl c a k (lo + (j + 1))
      congr 1
      omega
    rw [List.range_succ_eq_map, List.map_cons, List.map_map, e]
    simp only [List.append_assoc, List.singleton_append, Nat.add_zero]
def nsz (c : Int) : Nat := (1 + c.fmod 7).toNat
def nat' (c : Int) : Nat := ((c.fdiv 7).fmod (1 + c.fmod 7)).toNat
def nmk (c : Int) (k : Nat) : Tx := ((List.range (nsz c)).map fun j => nl c (nat' c) k j) ++ if (c.fdiv 343).fmod 2 = 1 ∧ (k : Int).fmod 2 = 1 then [97 + ((c.fdiv 686).fmod 26).toNat] else []
theorem nm_turn2 (c : Int) (o1 o7 o8 o9 : Option D) (acc : List Tx) (hl : acc.length ≤ 100) (k : Nat) : ∃ p7 p8 p9, b__law_names_2 [some (.int c), o1, some (tx lts), some (.int (1 + c.fmod 7)), some (.int ((c.fdiv 7).fmod (1 + c.fmod 7))), some (.list (acc.map tx)), some (.int k), o7, o8, o9] = .nx [some (.int c), o1, some (tx lts), some (.int (1 + c.fmod 7)), some (.int ((c.fdiv 7).fmod (1 + c.fmod 7))), some (.list ((acc ++ [nmk c k]).map tx)), some (.int k), p7, p8, p9] := by
  obtain ⟨e, h⟩ := fmod_range c (b := 7) (by decide)
  obtain ⟨e2, h2⟩ := fmod_range (c.fdiv 7) (b := 1 + c.fmod 7) (by omega)
  obtain ⟨p8, p9, h1⟩ := nm_loop c o1 (some (.int (1 + c.fmod 7))) (some (.list (acc.map tx))) (nat' c) k (nsz c) 0 [] o8 o9 (by unfold nsz; omega) (by unfold nsz; simp; omega)
  have ea : ((nat' c : Nat) : Int) = (c.fdiv 7).fmod (1 + c.fmod 7) := by unfold nat'; omega
  have hs : small62 (1 + c.fmod 7) = true := by unfold small62; simp; omega
  have h3 := lts_I (c.fdiv 686)
  have ll : lts.length = 26 := rfl
  rw [ea] at h1
  refine ⟨some (tx (nmk c k)), p8, p9, ?_⟩
  have hln : ((List.range (nsz c)).map fun j => nl c (nat' c) k (0 + j)).length ≤ 100 := by unfold nsz; simp; omega
  have el : (fun j => nl c (nat' c) k (0 + j)) = fun j => nl c (nat' c) k j := by funext j; rw [Nat.zero_add]
  rw [el] at hln h1
  unfold b__law_names_2
  simp only [at_sSeq, at_sSet, at_eC, oSet_ok, oSeq_nx, List.set_cons_succ, List.set_cons_zero, at_sFor, at_iRange1, eVar_3, eVar_2, eVar_1, eVar_0, ok_bind, rgK_i _ hs]
  have e0 : rangeD 0 (1 + c.fmod 7).toNat = rangeD ((0 : Nat) : Int) (nsz c) := rfl
  simp only [e0, oFor_ok, h1, oSeq_nx]
  unfold nmk
  generalize (List.range (nsz c)).map (fun j => nl c (nat' c) k j) = m at hln
  by_cases c1 : (c.fdiv 343).fmod 2 = 1
  · by_cases c2 : (k : Int).fmod 2 = 1
    · simp (disch := omega) [c1, c2, h3, ll, if_pos]
    · simp (disch := omega) [c1, c2, h3, if_pos]
  · simp (disch := omega) [c1, if_pos]
theorem nm_loop2 (c : Int) (o1 : Option D) : ∀ (m lo : Nat) (acc : List Tx) (o6 o7 o8 o9 : Option D), acc.length + m ≤ 100 → ∃ p6 p7 p8 p9, forL (gNm 6) b__law_names_2 (rangeD lo m) [some (.int c), o1, some (tx lts), some (.int (1 + c.fmod 7)), some (.int ((c.fdiv 7).fmod (1 + c.fmod 7))), some (.list (acc.map tx)), o6, o7, o8, o9] = .nx [some (.int c), o1, some (tx lts), some (.int (1 + c.fmod 7)), some (.int ((c.fdiv 7).fmod (1 + c.fmod 7))), some (.list ((acc ++ (List.range m).map fun k => nmk c (lo + k)).map tx)), p6, p7, p8, p9]
  | 0, lo, acc, o6, o7, o8, o9, _ => ⟨o6, o7, o8, o9, by simp [rangeD]⟩
  | m + 1, lo, acc, o6, o7, o8, o9, h => by
    obtain ⟨p7, p8, p9, h1⟩ := nm_turn2 c o1 o7 o8 o9 acc (by omega) lo
    obtain ⟨q6, q7, q8, q9, h2⟩ := nm_loop2 c o1 m (lo + 1) (acc ++ [nmk c lo]) (some (.int lo)) p7 p8 p9 (by simp; omega)
    refine ⟨q6, q7, q8, q9, ?_⟩
    rw [rangeD_cons, forL_name]
    show oLoop (b__law_names_2 [some (.int c), o1, some (tx lts), some (.int (1 + c.fmod 7)), some (.int ((c.fdiv 7).fmod (1 + c.fmod 7))), some (.list (acc.map tx)), some (.int lo), o7, o8, o9]) _ = _
    rw [h1, oLoop_nx]
    refine h2.trans ?_
    have e : (List.range m).map (fun k => nmk c (lo + 1 + k)) = (List.range m).map ((fun k => nmk c (lo + k)) ∘ Nat.succ) := by
      apply List.map_congr_left
      intro j _
      show nmk c (lo + 1 + j) = nmk c (lo + (j + 1))
      congr 1
      omega
    rw [List.range_succ_eq_map, List.map_cons, List.map_map, e]
    simp only [List.append_assoc, List.singleton_append, Nat.add_zero]
def nms (c : Int) (m : Nat) : List Tx := (List.range m).map (nmk c)
theorem nms_ok (c : Int) (m : Nat) (hm : m ≤ 100) : g__law_names [.int c, .int m] = .ok (.list ((nms c m).map tx)) := by
  obtain ⟨e, h⟩ := fmod_range c (b := 7) (by decide)
  obtain ⟨p6, p7, p8, p9, h1⟩ := nm_loop2 c (some (.int m)) m 0 [] none none none none (by simp; omega)
  have hs : small62 (m : Int) = true := by unfold small62; simp; omega
  have hd : 1 + c.fmod 7 ≠ 0 := by omega
  have hd2 : (1 + c.fmod 7).natAbs < 1073741824 := by omega
  have eL : ([97, 98, 99, 100, 101, 102, 103, 104, 105, 106, 107, 108, 109, 110, 111, 112, 113, 114, 115, 116, 117, 118, 119, 120, 121, 122] : List Nat) = lts := rfl
  have e0 : rangeD ((0 : Nat) : Int) m = rangeD 0 m := rfl
  have en : (fun k => nmk c (0 + k)) = nmk c := by funext j; rw [Nat.zero_add]
  rw [e0, en] at h1
  unfold nms
  unfold g__law_names f__law_names t__law_names_6 t__law_names_5 t__law_names_4 t__law_names_3
  rw [runF_eq]
  simp only [List.map_nil, List.nil_append] at h1
  simp [hd, hd2, hs, eL, rgK, h1]
theorem nms_len (c : Int) (m : Nat) : (nms c m).length = m := by unfold nms; simp
/-- a name -/
structure okNm (n : Tx) : Prop where
  l : ∀ x ∈ n, islow x = true
  ne : n ≠ []
  len : n.length ≤ 8
theorem okNm.t {n : Tx} (h : okNm n) : okT n := ⟨fun x hx => by
  have := h.l x hx
  unfold islow at this
  simp at this
  omega, by have := h.len; omega⟩
theorem nmk_g (c : Int) (k : Nat) : okNm (nmk c k) := by
  obtain ⟨e, h⟩ := fmod_range c (b := 7) (by decide)
  have low : ∀ z : Int, islow (97 + (z.fmod 26).toNat) = true := fun z => by
    obtain ⟨e, h⟩ := fmod_range z (b := 26) (by decide)
    unfold islow
    simp
    omega
  have l1 : ((List.range (nsz c)).map fun j => nl c (nat' c) k j).length = nsz c := by simp
  refine ⟨?_, ?_, ?_⟩
  · intro x hx
    unfold nmk at hx
    rcases List.mem_append.mp hx with m | m
    · obtain ⟨j, _, rfl⟩ := List.mem_map.mp m
      exact low _
    · split at m
      · rw [List.mem_singleton.mp m]; exact low _
      · cases m
  · intro z
    have := congrArg List.length z
    unfold nmk at this
    rw [List.length_append, l1] at this
    unfold nsz at this
    simp at this
    omega
  · unfold nmk
    rw [List.length_append, l1]
    unfold nsz
    split <;> simp <;> omega
theorem nmk_inj (c : Int) (j k : Nat) (hj : j < 26) (hk : k < 26) (h : nmk c j = nmk c k) : j = k := by
  obtain ⟨e, h0⟩ := fmod_range c (b := 7) (by decide)
  obtain ⟨e2, h2⟩ := fmod_range (c.fdiv 7) (b := 1 + c.fmod 7) (by omega)
  have hlt : nat' c < nsz c := by unfold nat' nsz; omega
  have g : ∀ i, (nmk c i)[nat' c]? = some (nl c (nat' c) i (nat' c)) := fun i => by
    unfold nmk
    rw [List.getElem?_append_left (by simpa using hlt), List.getElem?_map, List.getElem?_range hlt]
    rfl
  have q := g j
  rw [h, g k] at q
  have q' := Option.some.inj q
  unfold nl at q'
  simp only [if_true] at q'
  generalize c.fdiv (49 + 11 * (nat' c : Int)) + 3 * (nat' c : Int) * (nat' c : Int) = z at q'
  have r1 := fmod_range (z + j) (b := 26) (by decide)
  have r2 := fmod_range (z + k) (b := 26) (by decide)
  rw [Int.fmod_eq_emod_of_nonneg _ (by decide)] at r1 r2 q'
  rw [Int.fmod_eq_emod_of_nonneg _ (by decide)] at q'
  omega
theorem nms_nodup (c : Int) (m : Nat) (hm : m ≤ 26) : (nms c m).Nodup := by
  unfold nms
  apply List.pairwise_map.mpr
  refine List.Pairwise.imp_of_mem ?_ (List.nodup_range (n := m))
  intro i j hi hj hij z
  rw [List.mem_range] at hi hj
  exact hij (nmk_inj c i j (by omega) (by omega) z)
theorem nms_g (c : Int) (m : Nat) : ∀ n ∈ nms c m, okNm n := fun n hn => by
  obtain ⟨k, _, rfl⟩ := List.mem_map.mp hn
  exact nmk_g c k
end Wp

set_option Elab.async false
set_option linter.all false
set_option maxRecDepth 100000
set_option maxHeartbeats 4000000
namespace Wp
open PySem PySem.Spec PyProof.Rows L2 Wm
/-! ### names, steps, filled -/
def gapNames (ps : List Pc) : List Tx := (ps.filter fun p => !p.isStep).map Pc.n
theorem names_of_ok (p : Pat) (hl : p.ps.length ≤ 1000) : g_names_of [p.d] = .ok (.list ((gapNames p.ps).map tx)) := by
  unfold g_names_of f_names_of
  rw [runF_eq]
  have lc := lcL_filter (tg := gNm 1) (cond := tB (e2 neD (e2 ixD (eVar 1) (eC (.int 0))) (eC (tx [115, 116, 101, 112])))) (elt := eCall 1 g_name_of (aCons (eVar 1) aNil)) (ρ0 := [some p.d, none]) Pc.d (fun q => !q.isStep) (fun q => tx q.n) (xs := p.ps) (fun q hq => ⟨_, rfl, by
    have ks := k_step q
    simp [ks, neD_s], fun _ => by
    have := name_ok q
    simp [this]⟩)
  have hl' : (p.ps.map Pc.d).length ≤ 16777216 := by simp; omega
  simp only [List.map_cons, List.map_nil, List.length_cons, List.length_nil, List.replicate, List.cons_append, List.nil_append, Nat.reduceAdd, Nat.reduceSub]
  simp only [at_sRet, at_eLc, at_eIt, at_e2, eVar_0, at_eC, ok_bind, k2_ok, k2'_ok, ix_pat0, iSeq_pcs, lcK_ok, wipeE_cons, wipeE_nil, List.set_cons_succ, List.set_cons_zero]
  rw [if_pos hl', lc]
  unfold gapNames
  rw [List.map_map]
  simp
/-- the values of a name -/
def valsOf (vs : Bd) (n : Tx) : List Vl := (vs.filter fun q => decide (q.1 = n)).map (·.2)
theorem steps_for_step (t : Tx) (d : D) : g_steps_for [(Pc.step t).d, d] = .ok (.list [tx t]) := by
  unfold g_steps_for f_steps_for
  rw [runF_eq]
  simp [Pc.d, kStep]
theorem steps_for_ok (p : Pc) (vs : Bd) (v : Vl) (hp : okPc p) (hs : p.isStep = false) (hv : okVl v) (hk : kindP p v) (h1 : valsOf vs p.n = [v]) (h2 : servP p v = true) (hl : vs.length ≤ 1000) : g_steps_for [p.d, bdD vs] = .ok (.list ((fillP p v).map tx)) := by
  have nm := name_ok p
  have sv := serves_ok p v hp hv hk
  rw [h2] at sv
  have lc : ∀ x2 : Option D, lcL (gTp 2 (gsCons (gNm 3) (gsCons (gNm 4) gsNil))) (tB (e2 eqD (eVar 3) (eCall 1 g_name_of (aCons (eVar 0) aNil)))) (eVar 4) [some p.d, some (bdD vs), x2, none, none] (vs.map prD) = .ok ((valsOf vs p.n).map Vl.d) := fun x2 => by
    have := lcL_filter (tg := gTp 2 (gsCons (gNm 3) (gsCons (gNm 4) gsNil))) (cond := tB (e2 eqD (eVar 3) (eCall 1 g_name_of (aCons (eVar 0) aNil)))) (elt := eVar 4) (ρ0 := [some p.d, some (bdD vs), x2, none, none]) prD (fun q => decide (q.1 = p.n)) (fun q => q.2.d) (xs := vs) (fun q hq => ⟨[some p.d, some (bdD vs), x2, some (tx q.1), some q.2.d], by
      unfold prD
      simp, by simp [nm], fun _ => by simp⟩)
    rw [this]
    unfold valsOf
    rw [List.map_map]
    rfl
  rw [h1] at lc
  have it : iSeq (bdD vs) = .ok (vs.map prD) := rfl
  have hl' : (vs.map prD).length ≤ 16777216 := by simp; omega
  have ks := k_step p
  rw [hs] at ks
  have ks' : ¬ p.k = [115, 116, 101, 112] := by simpa using ks
  unfold g_steps_for f_steps_for t_steps_for_4 t_steps_for_3 t_steps_for_2 t_steps_for_1
  rw [runF_eq]
  simp only [List.map_cons, List.map_nil, List.length_cons, List.length_nil, List.replicate, List.cons_append, List.nil_append, Nat.reduceAdd, Nat.reduceSub]
  have e1 : ∀ ρ, sIf (tB (e2 eqD (e2 ixD (eVar 0) (eC (PyData.int 0))) (eC (tx [115, 116, 101, 112])))) (sRet (eLst (aCons (e2 ixD (eVar 0) (eC (.int 1))) aNil))) sNx (some p.d :: ρ) = .nx (some p.d :: ρ) := fun ρ => by simp [ks']
  simp only [at_sSeq, e1, oSeq_nx]
  simp only [at_sSet, at_eLc, at_eIt, eVar_1, eVar_0, ok_bind, it, lcK_ok, wipeE_cons, wipeE_nil, List.set_cons_succ, List.set_cons_zero]
  rw [if_pos hl', lc]
  simp only [mkL_ok, oSet_ok, oSeq_nx, List.set_cons_succ, List.set_cons_zero, List.map_cons, List.map_nil]
  have e3 : eCall 2 g_serves (aCons (eVar 0) (aCons (e2 ixD (eVar 2) (eC (.int 0))) aNil)) [some p.d, some (bdD vs), some (.list [v.d]), none, none] = .ok (.bool true) := by simp [sv]
  have e4 : sIf (tOr' (tB (e2 neD (eBlt lenD (aCons (eVar 2) aNil)) (eC (.int 1)))) (tNo (tB (eCall 2 g_serves (aCons (eVar 0) (aCons (e2 ixD (eVar 2) (eC (.int 0))) aNil)))))) sBad sNx [some p.d, some (bdD vs), some (.list [v.d]), none, none] = .nx [some p.d, some (bdD vs), some (.list [v.d]), none, none] := by
    simp [sv]
  simp only [at_sSeq, e4, oSeq_nx]
  cases p with
  | step t => cases hs
  | rest n =>
    cases v with
    | l xs => simp [Pc.d, kRest, Vl.d, fillP]
    | t x => exact hk.elim
    | i x => exact hk.elim
  | num n =>
    cases v with
    | i k =>
      have hk60 : k < 10 ^ 60 := by simpa [servP] using h2
      have sn := strD_n k (Nat.lt_of_lt_of_le hk60 (Nat.pow_le_pow_right (by decide) (by decide)))
      simp [Pc.d, kNum, Vl.d, fillP, sn]
    | t x => exact hk.elim
    | l x => exact hk.elim
  | word n =>
    cases v with
    | t x => simp [Pc.d, kWord, Vl.d, fillP]
    | i x => exact hk.elim
    | l x => exact hk.elim
  | gap n =>
    cases v with
    | t x => simp [Pc.d, kGap, Vl.d, fillP]
    | i x => exact hk.elim
    | l x => exact hk.elim
  | part a n t =>
    cases v with
    | t x =>
      have la := hp.1.2
      have lt := hp.2.2.2
      have lx : x.length ≤ 1000 := hv.2
      simp (disch := omega) [Pc.d, kPart, Vl.d, fillP, if_pos]
    | i x => exact hk.elim
    | l x => exact hk.elim
/-- what a piece asks of the values -/
def Sup (vs : Bd) (p : Pc) (ss : List Tx) : Prop := (∃ t, p = .step t ∧ ss = [t]) ∨ (p.isStep = false ∧ ∃ v, okVl v ∧ kindP p v ∧ valsOf vs p.n = [v] ∧ servP p v = true ∧ fillP p v = ss)
theorem filled_loop (P0 : D) (vs : Bd) (hl : vs.length ≤ 1000) : ∀ (ps : List Pc) (t : List (List Tx)) (acc : List Tx) (o3 o4 o5 o6 : Option D), (∀ p ∈ ps, okPc p) → ps.length = t.length → (∀ q ∈ ps.zip t, Sup vs q.1 q.2) → acc.length + t.flatten.length ≤ 10000 → ∃ p3, forL (gNm 3) b_filled_1 (ps.map Pc.d) [some P0, some (bdD vs), some (.list (acc.map tx)), o3, o4, o5, o6] = .nx [some P0, some (bdD vs), some (.list ((acc ++ t.flatten).map tx)), p3, o4, o5, o6]
  | [], [], acc, o3, o4, o5, o6, _, _, _, _ => ⟨o3, by simp⟩
  | p :: ps, ss :: t, acc, o3, o4, o5, o6, hp, he, hq, ha => by
    have hs := hq (p, ss) (by rw [List.zip_cons_cons]; exact List.mem_cons_self)
    have e : g_steps_for [p.d, bdD vs] = .ok (.list (ss.map tx)) := by
      rcases hs with ⟨t, h1, h2⟩ | ⟨h1, v, h2, h3, h4, h5, h6⟩
      · simp only at h1 h2
        subst h1 h2
        exact steps_for_step t _
      · simp only at h1 h3 h4 h5 h6
        rw [← h6]
        exact steps_for_ok p vs v (hp p List.mem_cons_self) h1 h2 h3 h4 h5 hl
    simp only [List.flatten_cons, List.length_append] at ha
    obtain ⟨p3, ih⟩ := filled_loop P0 vs hl ps t (acc ++ ss) (some p.d) o4 o5 o6 (fun q hq => hp q (List.mem_cons_of_mem _ hq)) (by simpa using he) (fun q h => hq q (by rw [List.zip_cons_cons]; exact List.mem_cons_of_mem _ h)) (by rw [List.length_append]; omega)
    refine ⟨p3, ?_⟩
    rw [List.map_cons, forL_name]
    have tn : b_filled_1 [some P0, some (bdD vs), some (.list (acc.map tx)), some p.d, o4, o5, o6] = .nx [some P0, some (bdD vs), some (.list ((acc ++ ss).map tx)), some p.d, o4, o5, o6] := by
      unfold b_filled_1
      simp (disch := omega) [e, if_pos]
    simp only [List.set_cons_succ, List.set_cons_zero, tn, oLoop_nx]
    rw [ih, List.flatten_cons, List.append_assoc]
  | [], _ :: _, _, _, _, _, _, _, he, _, _ => by cases he
  | _ :: _, [], _, _, _, _, _, _, he, _, _ => by cases he
theorem filled_ok (p : Pat) (vs : Bd) (t : List (List Tx)) (hl : vs.length ≤ 1000) (hpl : p.ps.length ≤ 1000) (hp : ∀ q ∈ p.ps, okPc q) (he : p.ps.length = t.length) (hq : ∀ q ∈ p.ps.zip t, Sup vs q.1 q.2) (ht : t.flatten.length ≤ 10000) (hn : ∀ q ∈ vs, q.1 ∈ gapNames p.ps) : g_filled [p.d, bdD vs] = .ok (Way.mk true t.flatten p.e).d := by
  obtain ⟨p3, h1⟩ := filled_loop p.d vs hl p.ps t [] none none none none hp he hq (by rw [List.length_nil, Nat.zero_add]; exact ht)
  have h2 := names_of_ok p hpl
  obtain ⟨ρ', h3, o5, o6, h4⟩ := forL_go (tg := gTp 2 (gsCons (gNm 5) (gsCons (gNm 6) gsNil))) (body := b_filled_2) (fun ρ => ∃ o5 o6, ρ = [some p.d, some (bdD vs), some (.list (t.flatten.map tx)), p3, some (.list ((gapNames p.ps).map tx)), o5, o6]) (ds := vs.map prD) (ρ := [some p.d, some (bdD vs), some (.list (t.flatten.map tx)), p3, some (.list ((gapNames p.ps).map tx)), none, none]) ⟨none, none, rfl⟩ (fun d hd ρ hρ => by
    obtain ⟨o5, o6, rfl⟩ := hρ
    obtain ⟨q, hq, rfl⟩ := List.mem_map.mp hd
    have hin := hn q hq
    refine ⟨[some p.d, some (bdD vs), some (.list (t.flatten.map tx)), p3, some (.list ((gapNames p.ps).map tx)), some (tx q.1), some q.2.d], _, ?_, .inl ?_, some (tx q.1), some q.2.d, rfl⟩
    · unfold prD
      simp
    · unfold b_filled_2
      simp only [at_sIf, at_tB, at_e2, eVar_5, eVar_4, eVar_3, eVar_2, eVar_1, eVar_0, k2_ok, k2'_ok, notInD_txl']
      simp [hin])
  subst h4
  have it : iSeq (bdD vs) = .ok (vs.map prD) := rfl
  unfold g_filled f_filled t_filled_5 t_filled_4 t_filled_3
  rw [runF_eq]
  simp only [List.nil_append, List.map_nil] at h1
  simp only [List.map_cons, List.map_nil, List.length_cons, List.length_nil, List.replicate, List.cons_append, List.nil_append, Nat.reduceAdd, Nat.reduceSub]
  generalize t.flatten = S at h1 h3 ⊢
  simp [h1, h2, it, h3]
  rfl
/-! ### bound and filled again -/
theorem filt_one : ∀ {v : Bd} {x : Tx × Vl}, x ∈ v → (v.map (·.1)).Nodup → v.filter (fun y => decide (y.1 = x.1)) = [x]
  | [], _, h, _ => by cases h
  | y :: v, x, h, nd => by
    rw [List.map_cons, List.nodup_cons] at nd
    rw [List.filter_cons]
    rcases List.mem_cons.mp h with rfl | h
    · have : v.filter (fun y => decide (y.1 = x.1)) = [] := by
        rw [List.filter_eq_nil_iff]
        intro z hz q
        have q' : z.1 = x.1 := by simpa using q
        exact nd.1 (by rw [← q']; exact List.mem_map_of_mem hz)
      simp [this]
    · have ne : ¬ y.1 = x.1 := fun q => nd.1 (by rw [q]; exact List.mem_map_of_mem h)
      simp only [ne, decide_false, Bool.false_eq_true, if_false]
      exact filt_one h nd.2
/-- a step of signs -/
def okGs (s : Tx) : Prop := (∀ x ∈ s, x ∈ T) ∧ s ≠ [] ∧ s.length ≤ 1000
theorem okGs.t {s : Tx} (h : okGs s) : okT s := in_okT h.1 h.2.2
theorem T_sgn : ∀ x ∈ T, sgnB x = true := by decide
theorem T_all {s : Tx} (h : ∀ x ∈ s, x ∈ T) : s.all sgnB = true := List.all_eq_true.mpr fun x hx => T_sgn x (h x hx)
theorem num_canon {s : Tx} (h : isNum s = true) : s.all isfig = true ∧ canon s ∧ s.length ≤ 60 ∧ s ≠ [] := by
  unfold isNum at h
  simp only [Bool.and_eq_true, Bool.or_eq_true, decide_eq_true_eq] at h
  obtain ⟨⟨⟨h1, h2⟩, h3⟩, h4⟩ := h
  have hne : s ≠ [] := fun z => by subst z; simp at h1
  refine ⟨h3, ?_, h2, hne⟩
  cases s with
  | nil => exact absurd rfl hne
  | cons c r =>
    rcases h4 with h4 | h4
    · exact .inr ⟨c, r, rfl, by simpa using h4⟩
    · exact .inl h4
theorem bd_serves (p : Pc) (ss : List Tx) (hp : okPc p) (hs : p.isStep = false) (h1 : ∀ s ∈ ss, okGs s) (h2 : ss.length ≤ 900) (h3 : (p.isRest = true ∧ ss ≠ []) ∨ ∃ s, ss = [s]) (hf : ss.all (fitP p) = true) : okVl (valOf p ss) ∧ kindP p (valOf p ss) ∧ servP p (valOf p ss) = true ∧ fillP p (valOf p ss) = ss := by
  have one : p.isRest = false → ∃ s, ss = [s] := fun z => h3.resolve_left (by rw [z]; simp)
  cases p with
  | step t => cases hs
  | rest n =>
    have ne : ss ≠ [] := by
      rcases h3 with h | ⟨s, rfl⟩
      · exact h.2
      · simp
    refine ⟨⟨fun s hs => (h1 s hs).t, h2⟩, trivial, ?_, rfl⟩
    unfold valOf servP
    simp only [Bool.and_eq_true, decide_eq_true_eq]
    refine ⟨ne, List.all_eq_true.mpr fun s hs => ?_⟩
    have g := h1 s hs
    have f := List.all_eq_true.mp hf s hs
    unfold fitP at f
    simp at f
    simp [T_all g.1, g.2.1, f]
  | num n =>
    obtain ⟨s, rfl⟩ := one rfl
    have f : isdot s = false ∧ isNum s = true := by simpa [fitP] using hf
    obtain ⟨g1, g2, g3, g4⟩ := num_canon f.2
    refine ⟨trivial, trivial, ?_, ?_⟩
    · show decide (valF s < 10 ^ 60) = true
      have := valF_lt s g1
      have := Nat.lt_of_lt_of_le this (Nat.pow_le_pow_right (by decide : 0 < 10) g3)
      exact decide_eq_true this
    · show [figs (valF s)] = [s]
      rw [figs_valF g1 g2]
  | word n =>
    obtain ⟨s, rfl⟩ := one rfl
    have f : isdot s = false ∧ isWord s = true := by simpa [fitP] using hf
    exact ⟨(h1 s (by simp)).t, trivial, f.2, rfl⟩
  | gap n =>
    obtain ⟨s, rfl⟩ := one rfl
    have f : isdot s = false := by simpa [fitP] using hf
    have g := h1 s (by simp)
    exact ⟨g.t, trivial, by show (s.all sgnB && (decide (s ≠ []) && !isdot s)) = true; simp [T_all g.1, g.2.1, f], rfl⟩
  | part a n t =>
    obtain ⟨s, rfl⟩ := one rfl
    have g := h1 s (by simp)
    simp only [List.all_cons, List.all_nil, Bool.and_true] at hf
    unfold fitP at hf
    simp only [Bool.and_eq_true, decide_eq_true_eq, Bool.not_eq_true'] at hf
    obtain ⟨f0, f1, ⟨r, rfl⟩, f3⟩ := hf
    rw [List.suffix_iff_eq_drop] at f3
    have key : valOf (.part a n t) [a ++ r] = .t (r.take (r.length - t.length)) := by
      show Vl.t (((a ++ r).take ((a ++ r).length - t.length)).drop a.length) = _
      have e : (a ++ r).length - t.length = a.length + (r.length - t.length) := by simp at f1 ⊢; omega
      rw [e, List.take_length_add_append, List.drop_left]
    have e2 : a ++ (r.take (r.length - t.length)) ++ t = a ++ r := by
      have : t = r.drop (r.length - t.length) := by
        have e : (a ++ r).length - t.length = a.length + (r.length - t.length) := by simp at f1 ⊢; omega
        rw [e, List.drop_length_add_append] at f3
        exact f3
      rw [List.append_assoc]
      congr 1
      conv => lhs; rhs; rw [this]
      exact List.take_append_drop _ _
    have sub : ∀ x ∈ r.take (r.length - t.length), x ∈ T := fun x hx => g.1 x (List.mem_append_right _ (List.mem_of_mem_take hx))
    have len := g.2.2
    simp only [List.length_append] at f1 len
    have ne : r.take (r.length - t.length) ≠ [] := fun z => by
      have := congrArg List.length z
      rw [List.length_take, List.length_nil] at this
      omega
    rw [key]
    refine ⟨in_okT sub (by rw [List.length_take]; omega), trivial, ?_, ?_⟩
    · show ((r.take (r.length - t.length)).all sgnB && (decide (r.take (r.length - t.length) ≠ []) && !isdot (a ++ r.take (r.length - t.length) ++ t))) = true
      rw [e2, T_all sub, f0]
      simp only [Bool.true_and, Bool.not_false, Bool.and_true, decide_eq_true_eq]
      exact ne
    · show [a ++ r.take (r.length - t.length) ++ t] = [a ++ r]
      rw [e2]
theorem bdT_fst : ∀ {ps : List Pc} {t : List (List Tx)} {v : Bd}, ps.length = t.length → bdT (ps.zip t) = some v → v.map (·.1) = gapNames ps
  | [], [], v, _, h => by cases h; rfl
  | [], _ :: _, _, he, _ => by cases he
  | _ :: _, [], _, he, _ => by cases he
  | p :: ps, ss :: t, v, he, h => by
    rw [List.zip_cons_cons, bdT] at h
    split at h
    · cases hb : bdT (ps.zip t) with
      | none => rw [hb] at h; cases h
      | some w =>
        rw [hb] at h
        have ih := bdT_fst (by simpa using he) hb
        have e := Option.some.inj h
        subst e
        unfold gapNames at ih ⊢
        rw [List.filter_cons]
        cases p.isStep <;> simp [ih]
    · cases h
theorem bdT_mem : ∀ {ps : List Pc} {t : List (List Tx)} {v : Bd}, bdT (ps.zip t) = some v → ∀ q ∈ ps.zip t, q.2.all (fitP q.1) = true ∧ (q.1.isStep = false → (q.1.n, valOf q.1 q.2) ∈ v)
  | [], _, _, _, q, hq => by simp at hq
  | _ :: _, [], _, _, q, hq => by simp at hq
  | p :: ps, ss :: t, v, h, q, hq => by
    rw [List.zip_cons_cons] at hq h
    rw [bdT] at h
    split at h
    · rename_i hall
      cases hb : bdT (ps.zip t) with
      | none => rw [hb] at h; cases h
      | some w =>
        rw [hb] at h
        have e := Option.some.inj h
        subst e
        rcases List.mem_cons.mp hq with rfl | hq
        · exact ⟨hall, fun hs => by simp only at hs ⊢; rw [hs]; exact List.mem_cons_self⟩
        · obtain ⟨a, b⟩ := bdT_mem hb q hq
          refine ⟨a, fun hs => ?_⟩
          cases p.isStep
          · exact List.mem_cons_of_mem _ (b hs)
          · exact b hs
    · cases h
theorem bdT_inv : ∀ {ps : List Pc} {t : List (List Tx)} {v : Bd}, bdT (ps.zip t) = some v → ∀ x ∈ v, ∃ q ∈ ps.zip t, q.1.isStep = false ∧ x = (q.1.n, valOf q.1 q.2)
  | [], _, v, h, x, hx => by
    rw [List.zip_nil_left, bdT] at h
    cases h
    cases hx
  | _ :: _, [], v, h, x, hx => by
    rw [List.zip_nil_right, bdT] at h
    cases h
    cases hx
  | p :: ps, ss :: t, v, h, x, hx => by
    rw [List.zip_cons_cons] at h ⊢
    rw [bdT] at h
    split at h
    · cases hb : bdT (ps.zip t) with
      | none => rw [hb] at h; cases h
      | some w =>
        rw [hb] at h
        have e := Option.some.inj h
        subst e
        cases hs : p.isStep with
        | true =>
          rw [hs] at hx
          obtain ⟨q, a, b⟩ := bdT_inv hb x hx
          exact ⟨q, List.mem_cons_of_mem _ a, b⟩
        | false =>
          rw [hs] at hx
          rcases List.mem_cons.mp hx with rfl | hx
          · exact ⟨_, List.mem_cons_self, hs, rfl⟩
          · obtain ⟨q, a, b⟩ := bdT_inv hb x hx
            exact ⟨q, List.mem_cons_of_mem _ a, b⟩
    · cases h
theorem len_le_sum : ∀ {l : List Nat} {n : Nat}, n ∈ l → n ≤ l.sum
  | [], _, h => by cases h
  | a :: l, n, h => by
    rw [List.sum_cons]
    rcases List.mem_cons.mp h with rfl | h
    · omega
    · have := len_le_sum h
      omega
theorem slices_flat (n : Nat) (ss : List Tx) (h : n ≤ ss.length) : (slices n ss).flatten = ss.take n := by
  unfold slices
  induction n with
  | zero => rfl
  | succ n ih =>
    rw [List.range_succ, List.map_append, List.flatten_append, ih (by omega)]
    simp only [List.map_cons, List.map_nil, List.flatten_cons, List.flatten_nil, List.append_nil]
    rw [take_drop_one ss n (by omega), List.take_add_one]
    simp [show n < ss.length by omega]
theorem set_last_flat {α : Type} (l : List (List α)) (n : Nat) (x : List α) (h : l.length = n + 1) : (l.set n x).flatten = (l.take n).flatten ++ x := by
  have e : l.set n x = l.take n ++ [x] := by
    apply List.ext_getElem
    · simp; omega
    · intro i h1 h2
      simp only [List.length_set] at h1
      by_cases hi : i = n
      · subst hi
        rw [List.getElem_set_self, List.getElem_append_right (by simp; omega)]
        simp
      · rw [List.getElem_set_ne (by omega), List.getElem_append_left (by simp; omega), List.getElem_take]
  rw [e]
  simp
theorem slices_take (n m : Nat) (ss : List Tx) (h : m ≤ n) : (slices n ss).take m = slices m ss := by
  unfold slices
  rw [← List.map_take, List.take_range, Nat.min_eq_left h]
theorem stepsBy_flat {p : Pat} {w : Way} {t : List (List Tx)} (h : stepsBy p w = some t) : t.flatten = w.s ∧ p.ps.length = t.length ∧ w.r = true ∧ w.e = p.e ∧ (∀ q ∈ p.ps.zip t, (q.1.isRest = true ∧ q.2 ≠ []) ∨ ∃ s, q.2 = [s]) ∧ ∀ x ∈ t, ∀ s ∈ x, s ∈ w.s := by
  unfold stepsBy at h
  split at h
  · cases h
  · rename_i c
    have c1 : w.r = true := by
      cases hr : w.r with
      | true => rfl
      | false => exact absurd (.inl hr) c
    have c2 : w.e = p.e := by
      by_cases z : w.e = p.e
      · exact z
      · exact absurd (.inr (.inl z)) c
    have hle : p.ps.length ≤ w.s.length := by
      by_cases z : w.s.length < p.ps.length
      · exact absurd (.inr (.inr z)) c
      · omega
    have sl : (slices p.ps.length w.s).length = p.ps.length := by unfold slices; simp
    have mem : ∀ t : List (List Tx), t.flatten = w.s → ∀ x ∈ t, ∀ s ∈ x, s ∈ w.s := fun t e x hx s hs => by rw [← e]; exact List.mem_flatten.mpr ⟨x, hx, hs⟩
    split at h
    · rename_i hl
      cases h
      have hpos : 0 < p.ps.length := by
        cases hps : p.ps with
        | nil => rw [hps] at hl; cases hl
        | cons a b => simp
      obtain ⟨n, hn⟩ : ∃ n, p.ps.length = n + 1 := ⟨p.ps.length - 1, by omega⟩
      have fl : ((slices p.ps.length w.s).set (p.ps.length - 1) (w.s.drop (p.ps.length - 1))).flatten = w.s := by
        rw [hn, Nat.add_sub_cancel, set_last_flat _ n _ (by rw [hn] at sl; exact sl), slices_take _ _ _ (by omega), slices_flat n w.s (by omega), List.take_append_drop]
      refine ⟨fl, by simp [sl], c1, c2, ?_, mem _ fl⟩
      intro q hq
      obtain ⟨k, hk, ek⟩ := List.getElem_of_mem hq
      rw [List.getElem_zip] at ek
      simp only [List.length_zip, List.length_set] at hk
      subst ek
      by_cases hk1 : k = p.ps.length - 1
      · left
        subst hk1
        rw [List.getElem_set_self]
        refine ⟨?_, fun z => ?_⟩
        · unfold lastRest at hl
          rw [List.getLast?_eq_getElem?, List.getElem?_eq_getElem (by omega)] at hl
          exact hl
        · have := congrArg List.length z
          rw [List.length_drop, List.length_nil] at this
          omega
      · right
        rw [List.getElem_set_ne (Ne.symm hk1)]
        obtain ⟨s, hs, e⟩ := slices_fed hle (List.getElem_mem (l := slices p.ps.length w.s) (by omega : k < _))
        exact ⟨s, e⟩
    · split at h
      · cases h
      · cases h
        have fl : (slices p.ps.length w.s).flatten = w.s := by
          rw [slices_flat _ _ hle, List.take_of_length_le (by omega)]
        refine ⟨fl, sl.symm, c1, c2, ?_, mem _ fl⟩
        intro q hq
        obtain ⟨s, hs, e⟩ := slices_fed hle (List.of_mem_zip hq).2
        exact .inr ⟨s, e⟩
theorem seg_len {p : Pat} {w : Way} {t : List (List Tx)} (hs : stepsBy p w = some t) (q : Pc × List Tx) (hq : q ∈ p.ps.zip t) : q.2.length ≤ w.s.length ∨ q.2.length = 1 := by
  obtain ⟨f1, f2, f3, f4, f5, f6⟩ := stepsBy_flat hs
  have zq := List.of_mem_zip hq
  have : q.2.length ≤ t.flatten.length := by
    rw [List.length_flatten]
    exact len_le_sum (List.mem_map_of_mem zq.2)
  rw [f1] at this
  exact .inl this
theorem vl_shp {x : Vl} (h : okVl x) : shp 2 x.d := by
  cases x with
  | t x => exact shp_tx h.1
  | i n => exact shp_int
  | l xs => exact shp_list (shS h.1)
/-- what is bound is well made -/
theorem bound_okVl (p : Pat) (w : Way) (v : Bd) (hb : boundF p w = some v) (hp : ∀ q ∈ p.ps, okPc q) (hw : ∀ s ∈ w.s, okGs s) (hwl : w.s.length ≤ 900) : (∀ x ∈ v, okVl x.2) ∧ v.map (·.1) = gapNames p.ps := by
  unfold boundF at hb
  cases hs : stepsBy p w with
  | none => rw [hs] at hb; cases hb
  | some t =>
    rw [hs] at hb
    have hb' : bdT (p.ps.zip t) = some v := hb
    obtain ⟨f1, f2, f3, f4, f5, f6⟩ := stepsBy_flat hs
    refine ⟨fun x hx => ?_, bdT_fst f2 hb'⟩
    obtain ⟨q, hq, hst, rfl⟩ := bdT_inv hb' x hx
    have zq := List.of_mem_zip hq
    have m1 := (bdT_mem hb' q hq).1
    have ll : q.2.length ≤ 900 := by
      rcases seg_len hs q hq with h | h <;> omega
    exact (bd_serves q.1 q.2 (hp _ zq.1) hst (fun s hs => hw s (f6 _ zq.2 s hs)) ll (f5 _ hq) m1).1
/-- bound, the values turned about, filled again -/
theorem bound_filled (p : Pat) (w : Way) (v v' : Bd) (hb : boundF p w = some v) (hp : ∀ q ∈ p.ps, okPc q) (hl : p.ps.length ≤ 100) (hw : ∀ s ∈ w.s, okGs s) (hwl : w.s.length ≤ 900) (nd : (gapNames p.ps).Nodup) (pm : v'.Perm v) : g_filled [p.d, bdD v'] = .ok w.d ∧ v.map (·.1) = gapNames p.ps := by
  unfold boundF at hb
  cases hs : stepsBy p w with
  | none => rw [hs] at hb; cases hb
  | some t =>
    rw [hs] at hb
    have hb' : bdT (p.ps.zip t) = some v := hb
    obtain ⟨f1, f2, f3, f4, f5, f6⟩ := stepsBy_flat hs
    have fst := bdT_fst f2 hb'
    have lv : v.length ≤ p.ps.length := by
      have := congrArg List.length fst
      unfold gapNames at this
      rw [List.length_map, List.length_map] at this
      rw [this]
      exact List.length_filter_le _ _
    have lv' : v'.length = v.length := pm.length_eq
    have nd' : (v'.map (·.1)).Nodup := by
      have := (pm.map (·.1)).nodup_iff
      rw [this, fst]
      exact nd
    refine ⟨?_, fst⟩
    have := filled_ok p v' t (by omega) (by omega) hp f2 (fun q hq => by
      obtain ⟨m1, m2⟩ := bdT_mem hb' q hq
      have zq := List.of_mem_zip hq
      cases hst : q.1.isStep with
      | true =>
        left
        obtain ⟨pc, ss⟩ := q
        cases pc with
        | step x =>
          rcases f5 _ hq with h | ⟨s, h⟩
          · cases h.1
          · simp only at h m1
            subst h
            have : isdot s = false ∧ s = x := by simpa [fitP] using m1
            exact ⟨x, rfl, by rw [this.2]⟩
        | _ => cases hst
      | false =>
        right
        have mem := m2 hst
        have ll : q.2.length ≤ 900 := by
          rcases f5 _ hq with h | ⟨s, h⟩
          · have : q.2.length ≤ t.flatten.length := by
              rw [List.length_flatten]
              exact len_le_sum (List.mem_map_of_mem zq.2)
            rw [f1] at this
            omega
          · rw [h]; simp
        obtain ⟨g1, g2, g3, g4⟩ := bd_serves q.1 q.2 (hp _ zq.1) hst (fun s hs => hw s (f6 _ zq.2 s hs)) ll (f5 _ hq) m1
        refine ⟨hst, valOf q.1 q.2, g1, g2, ?_, g3, g4⟩
        unfold valsOf
        have := filt_one (pm.mem_iff.mpr mem) nd'
        simp only at this
        rw [this]
        rfl) (by rw [f1]; omega) (fun q hq => by
      rw [← fst]
      exact List.mem_map_of_mem (pm.mem_iff.mp hq))
    rw [this, f1]
    obtain ⟨wr, ws, we⟩ := w
    simp only at f3 f4
    rw [f3, f4]
end Wp

set_option Elab.async false
set_option linter.all false
set_option maxRecDepth 100000
set_option maxHeartbeats 4000000
namespace Wp
open PySem PySem.Spec PyProof.Rows L2 Wm
/-! ### drawn patterns -/
/-- a piece of one name, a rest too -/
def gdR (n : Tx) : Pc → Prop
  | .rest m => m = n
  | p => gdP n p
theorem gdR_n {n : Tx} {p : Pc} (h : gdR n p) (hs : p.isStep = false) : p.n = n := by
  cases p with
  | step t => cases hs
  | part a m t => exact h.1
  | num m => exact h
  | word m => exact h
  | gap m => exact h
  | rest m => exact h
theorem gdR_ok {n : Tx} {p : Pc} (hn : okT n) (h : gdR n p) : okPc p := by
  cases p with
  | rest m => cases (show m = n from h); exact hn
  | step t => exact gdP.ok hn h
  | part a m t => exact gdP.ok hn h
  | num m => exact gdP.ok hn h
  | word m => exact gdP.ok hn h
  | gap m => exact gdP.ok hn h
theorem gdP_R {n : Tx} {p : Pc} (h : gdP n p) : gdR n p := by
  cases p with
  | rest m => exact h.elim
  | _ => exact h
theorem gdP_rest {n : Tx} {p : Pc} (h : gdP n p) : p.isRest = false := by
  cases p with
  | rest m => exact h.elim
  | _ => rfl
/-- named in turn -/
def Nmd : List Pc → List Tx → Prop
  | [], _ => True
  | p :: ps, n :: N => gdR n p ∧ Nmd ps N
  | _ :: _, [] => False
theorem Nmd_sub : ∀ {ps : List Pc} {N : List Tx}, Nmd ps N → (gapNames ps).Sublist N
  | [], N, _ => by simp [gapNames]
  | p :: ps, [], h => h.elim
  | p :: ps, n :: N, h => by
    have ih := Nmd_sub h.2
    unfold gapNames at ih ⊢
    rw [List.filter_cons]
    cases hs : p.isStep with
    | true => simp; exact List.Sublist.cons _ ih
    | false => simp; rw [gdR_n h.1 hs]; exact List.Sublist.cons₂ _ ih
theorem Nmd_ok : ∀ {ps : List Pc} {N : List Tx}, Nmd ps N → (∀ n ∈ N, okT n) → ∀ p ∈ ps, okPc p
  | [], _, _, _, p, hp => by cases hp
  | q :: ps, [], h, _, _, _ => h.elim
  | q :: ps, n :: N, h, hN, p, hp => by
    rcases List.mem_cons.mp hp with rfl | hp
    · exact gdR_ok (hN n List.mem_cons_self) h.1
    · exact Nmd_ok h.2 (fun n hn => hN n (List.mem_cons_of_mem _ hn)) p hp
theorem Nmd_len : ∀ {ps : List Pc} {N : List Tx}, Nmd ps N → ps.length ≤ N.length
  | [], _, _ => by simp
  | q :: ps, [], h => h.elim
  | q :: ps, n :: N, h => by have := Nmd_len h.2; simp; omega
theorem Nmd_zip : ∀ (cs : List Int) (N : List Tx), Nmd ((cs.zip N).map fun q => pcx q.1 q.2) N
  | [], N => by simp [Nmd]
  | c :: cs, [] => by simp [Nmd]
  | c :: cs, n :: N => ⟨gdP_R (pcx_g c n), Nmd_zip cs N⟩
theorem Nmd_set : ∀ {ps : List Pc} {N : List Tx} {i : Nat} {n : Tx}, Nmd ps N → N[i]? = some n → Nmd (ps.set i (.rest n)) N
  | [], _, _, _, _, _ => by simp [Nmd]
  | q :: ps, [], _, _, h, _ => h.elim
  | q :: ps, m :: N, 0, n, h, e => by
    simp at e
    subst e
    exact ⟨rfl, h.2⟩
  | q :: ps, m :: N, i + 1, n, h, e => ⟨h.1, Nmd_set h.2 (by simpa using e)⟩
/-- a drawn pattern of the names -/
structure GoodP (N : List Tx) (p : Pat) : Prop where
  nm : Nmd p.ps N
  last : RestLast p.ps
  e : p.ps = [] → p.e = true
theorem zip_norest (cs : List Int) (N : List Tx) : ∀ q ∈ (cs.zip N).map (fun q => pcx q.1 q.2), q.isRest = false := fun q hq => by
  obtain ⟨x, _, rfl⟩ := List.mem_map.mp hq
  exact gdP_rest (pcx_g _ _)
theorem norest_last {ps : List Pc} (h : ∀ q ∈ ps, q.isRest = false) : RestLast ps := fun q hq => h q (List.dropLast_subset _ hq)
theorem set_last_rest {ps : List Pc} (h : ∀ q ∈ ps, q.isRest = false) (r : Pc) : RestLast (ps.set (ps.length - 1) r) := fun q hq => by
  rw [List.dropLast_eq_take, List.length_set, List.take_set_of_le (by omega)] at hq
  exact h q (List.mem_of_mem_take hq)
theorem pattern_ok (c : Int) (N : List Tx) (cs : List Int) (hN : N.length ≤ 100) (hc : cs.length ≤ 100) (hN' : ∀ n ∈ N, okT n) : ∃ p : Pat, g__law_pattern [.int c, .list (N.map tx), .list (cs.map PyData.int)] = .ok p.d ∧ GoodP N p := by
  let ps : List Pc := (cs.zip N).map fun q => pcx q.1 q.2
  have hps : ps = (cs.zip N).map fun q => pcx q.1 q.2 := rfl
  have nm := Nmd_zip cs N
  have nr := zip_norest cs N
  have lz : ps.length ≤ 100 := by simp [ps]; omega
  have lzN : ps.length ≤ N.length := by simp [ps]; omega
  rw [← hps] at nm nr
  have lc : lcL (gTp 2 (gsCons (gNm 4) (gsCons (gNm 5) gsNil))) cYes (eCall 2 g__law_piece (aCons (eVar 4) (aCons (eVar 5) aNil))) [some (.int c), some (.list (N.map tx)), some (.list (cs.map PyData.int)), none, none, none] (zipD (cs.map PyData.int) (N.map tx)) = .ok (ps.map Pc.d) := by
    have e : zipD (cs.map PyData.int) (N.map tx) = (cs.zip N).map fun q => PyData.tuple [.int q.1, tx q.2] := by
      unfold zipD
      rw [List.zip_map, List.map_map]
      rfl
    rw [e, hps, List.map_map]
    exact lcL_map (fun q : Int × Tx => PyData.tuple [.int q.1, tx q.2]) (fun q => (pcx q.1 q.2).d) fun q _ => ⟨[some (.int c), some (.list (N.map tx)), some (.list (cs.map PyData.int)), none, some (.int q.1), some (tx q.2)], by simp, rfl, by simp [pcx_ok]⟩
  have lz' : (zipD (cs.map PyData.int) (N.map tx)).length ≤ 16777216 := by unfold zipD; simp; omega
  clear_value ps
  have shp : shpAll 2 (ps.map Pc.d) := shpAll_of fun d hd => by
    obtain ⟨q, hq, rfl⟩ := List.mem_map.mp hd
    have ok := Nmd_ok nm hN' q hq
    cases q with
    | step t => exact shp_tuple (shpAll_cons (shp_tx (by decide)) (shpAll_cons (shp_tx ok.1) shpAll_nil))
    | part a n t => exact shp_tuple (shpAll_cons (shp_tx (by decide)) (shpAll_cons (shp_tx ok.1.1) (shpAll_cons (shp_tx ok.2.1.1) (shpAll_cons (shp_tx ok.2.2.1) shpAll_nil))))
    | num n => exact shp_tuple (shpAll_cons (shp_tx (by decide)) (shpAll_cons (shp_tx ok.1) shpAll_nil))
    | word n => exact shp_tuple (shpAll_cons (shp_tx (by decide)) (shpAll_cons (shp_tx ok.1) shpAll_nil))
    | gap n => exact shp_tuple (shpAll_cons (shp_tx (by decide)) (shpAll_cons (shp_tx ok.1) shpAll_nil))
    | rest n => exact shp_tuple (shpAll_cons (shp_tx (by decide)) (shpAll_cons (shp_tx ok.1) shpAll_nil))
  have n1 := neD_nil shp
  have n2 := eqD_nil shp
  unfold g__law_pattern f__law_pattern
  rw [runF_eq]
  simp only [List.map_cons, List.map_nil, List.length_cons, List.length_nil, List.replicate, List.cons_append, List.nil_append, Nat.reduceAdd, Nat.reduceSub]
  have s1 : sSet 3 (eLc (eIt2 iZip (eVar 2) (eVar 1)) [4, 5] (gTp 2 (gsCons (gNm 4) (gsCons (gNm 5) gsNil))) cYes (eCall 2 g__law_piece (aCons (eVar 4) (aCons (eVar 5) aNil)))) [some (.int c), some (.list (N.map tx)), some (.list (cs.map PyData.int)), none, none, none] = .nx [some (.int c), some (.list (N.map tx)), some (.list (cs.map PyData.int)), some (.list (ps.map Pc.d)), none, none] := by
    simp only [at_sSet, at_eLc, at_eIt2, eVar_2, eVar_1, eVar_0, kIt2_ok, ok_bind, iZip_ll, lcK_ok, wipeE_cons, wipeE_nil, List.set_cons_succ, List.set_cons_zero]
    rw [if_pos lz', lc]
    simp
  simp only [at_sSeq, s1, oSeq_nx]
  rw [neD_ll] at n1
  rw [eqD_ll] at n2
  by_cases h0 : ps = []
  · subst h0
    refine ⟨⟨[], true⟩, ?_, ⟨trivial, fun q hq => (by cases hq), fun _ => rfl⟩⟩
    simp at n1 n2
    by_cases c1 : c.fmod 4 = 1
    · simp [c1, n1, n2]; rfl
    · simp [c1, n1, n2]; rfl
  · have hpos : 0 < ps.length := List.length_pos_iff.mpr h0
    have he : ps.isEmpty = false := by
      cases ps with
      | nil => exact absurd rfl h0
      | cons a b => rfl
    have n1' : neR (.list (ps.map Pc.d)) (.list []) = .ok (.bool true) := by rw [n1]; simp [he]
    have n2' : eqR (.list (ps.map Pc.d)) (.list []) = .ok (.bool false) := by rw [n2]; simp [he]
    by_cases c1 : c.fmod 4 = 1
    · have hi : N[ps.length - 1]? = some (N[ps.length - 1]'(by omega)) := List.getElem?_eq_getElem (by omega)
      generalize N[ps.length - 1]'(by omega) = n at hi
      refine ⟨⟨ps.set (ps.length - 1) (.rest n), decide ((c.fdiv 4).fmod 2 = 1)⟩, ?_, ⟨Nmd_set nm hi, set_last_rest nr _, fun z => ?_⟩⟩
      · have setm : setI (ps.map Pc.d) (-1) (.tuple [tx [114, 101, 115, 116], tx n]) = some ((ps.set (ps.length - 1) (.rest n)).map Pc.d) := by
          unfold setI
          have : ixN (ps.map Pc.d).length (-1) = some (ps.length - 1) := by
            rw [List.length_map]
            unfold ixN
            have e1 : ((-1 : Int) + (ps.length : Int)).toNat = ps.length - 1 := by omega
            rw [if_neg (by omega), if_pos (by omega), e1]
          rw [this, List.map_set]
          rfl
        have ix : atI (N.map tx) ((ps.length : Int) - 1) = some (tx n) := by
          have e : ((ps.length : Int) - 1) = ((ps.length - 1 : Nat) : Int) := by omega
          rw [atI_map, e]
          have : atI N ((ps.length - 1 : Nat) : Int) = some n := by
            obtain ⟨x, a, b, d⟩ := atI_mem (l := N) (i := ((ps.length - 1 : Nat) : Int)) (by omega) (by omega)
            rw [a]
            rw [Int.toNat_natCast, hi] at d
            exact d.symm
          rw [this]
          rfl
        have n3 : eqR (.list ((ps.set (ps.length - 1) (.rest n)).map Pc.d)) (.list []) = .ok (.bool false) := by
          rw [← eqD_ll, eqD_nil (k := 2) (by
            rw [List.map_set]
            exact shpAll_of fun d hd => by
              rcases List.mem_or_eq_of_mem_set hd with h | rfl
              · obtain ⟨q, hq, rfl⟩ := List.mem_map.mp h
                have ok := Nmd_ok nm hN' q hq
                cases q with
                | step t => exact shp_tuple (shpAll_cons (shp_tx (by decide)) (shpAll_cons (shp_tx ok.1) shpAll_nil))
                | part a n t => exact shp_tuple (shpAll_cons (shp_tx (by decide)) (shpAll_cons (shp_tx ok.1.1) (shpAll_cons (shp_tx ok.2.1.1) (shpAll_cons (shp_tx ok.2.2.1) shpAll_nil))))
                | num n => exact shp_tuple (shpAll_cons (shp_tx (by decide)) (shpAll_cons (shp_tx ok.1) shpAll_nil))
                | word n => exact shp_tuple (shpAll_cons (shp_tx (by decide)) (shpAll_cons (shp_tx ok.1) shpAll_nil))
                | gap n => exact shp_tuple (shpAll_cons (shp_tx (by decide)) (shpAll_cons (shp_tx ok.1) shpAll_nil))
                | rest n => exact shp_tuple (shpAll_cons (shp_tx (by decide)) (shpAll_cons (shp_tx ok.1) shpAll_nil))
              · exact shp_tuple (shpAll_cons (shp_tx (by decide)) (shpAll_cons (shp_tx (hN' n (List.mem_of_getElem? hi)).1) shpAll_nil)))]
          have : ((ps.set (ps.length - 1) (.rest n)).map Pc.d).isEmpty = false := by
            cases ps with
            | nil => exact absurd rfl h0
            | cons a b => cases b <;> rfl
          rw [this]
        have ln : (ps.map Pc.d).length = ps.length := by simp
        show _ = Rs.ok (PyData.tuple [PyData.tuple ((ps.set (ps.length - 1) (.rest n)).map Pc.d), .bool (decide ((c.fdiv 4).fmod 2 = 1))])
        generalize (ps.set (ps.length - 1) (.rest n)).map Pc.d = out at setm n3 ⊢
        generalize ps.map Pc.d = xs at *
        simp (disch := omega) [c1, n1', setm, ix, n3, ln, if_pos]
      · have := congrArg List.length z
        rw [List.length_set, List.length_nil] at this
        omega
    · refine ⟨⟨ps, decide ((c.fdiv 4).fmod 2 = 1)⟩, ?_, ⟨nm, norest_last nr, fun z => absurd z h0⟩⟩
      simp [c1, n2']
      rfl
end Wp

set_option Elab.async false
set_option linter.all false
set_option maxRecDepth 100000
set_option maxHeartbeats 4000000
namespace Wp
open PySem PySem.Spec PyProof.Rows L2 Wm
/-! ### drawn steps that fit -/
theorem okSt.g {s : Tx} (h : okSt s) : okGs s := ⟨h.t, h.ne, by have := h.len; omega⟩
theorem fig_T : ∀ c, isfig c = true → c ∈ T := by
  intro c h
  unfold isfig at h
  simp at h
  have : ∀ c, c < 58 → 48 ≤ c → c ∈ T := by decide
  exact this c (by omega) h.1
theorem figs_num (n : Nat) (h : n < 10 ^ 60) : isNum (figs n) = true := by
  have l := figs_len (k := 60) (by decide) h
  have ne := figs_ne n
  have l1 : 1 ≤ (figs n).length := by
    cases hf : figs n with
    | nil => exact absurd hf ne
    | cons _ _ => simp
  unfold isNum
  simp only [Bool.and_eq_true, Bool.or_eq_true, decide_eq_true_eq]
  refine ⟨⟨⟨l1, l⟩, figs_all n⟩, ?_⟩
  rcases figs_canon n with e | ⟨c, r, e, hc⟩
  · exact .inr e
  · left
    rw [e]
    simpa using hc
theorem fit_or (p : Pc) (s : Tx) (h : isdot s = false → fitP p s = true) : fitP p s = true ∨ isdot s = true := by
  cases hd : isdot s with
  | true => exact .inr rfl
  | false => exact .inl (h hd)
theorem near_step_ok (n : Tx) (p : Pc) (hp : gdR n p) (hn : okT n) (c : Int) : ∃ s, g__law_near_step [p.d, .int c] = .ok (tx s) ∧ okGs s ∧ (fitP p s = true ∨ isdot s = true) := by
  have px := pxt_ok (c.fdiv 8)
  have pT := pxt_T (c.fdiv 8)
  have pl := pxt_len (c.fdiv 8)
  have ps := pst_ok (c.fdiv 8)
  have pg := pst_g (c.fdiv 8)
  unfold g__law_near_step f__law_near_step t__law_near_step_4 t__law_near_step_3 t__law_near_step_2 t__law_near_step_1
  rw [runF_eq]
  cases p with
  | step t =>
    have ok : okSt t := hp
    exact ⟨t, by simp [Pc.d, kStep, px], ok.g, .inl (by unfold fitP; simp [ok.dot])⟩
  | rest m => exact ⟨pst (c.fdiv 8), by simp [Pc.d, kRest, px, ps], pg.g, .inl (by unfold fitP; simp [pg.dot])⟩
  | gap m => exact ⟨pst (c.fdiv 8), by simp [Pc.d, kGap, px, ps], pg.g, .inl (by unfold fitP; simp [pg.dot])⟩
  | word m =>
    obtain ⟨e, h⟩ := fmod_range (c.fdiv 8) (b := 6) (by decide)
    obtain ⟨x, ex, hx, _⟩ := atI_mem (l := [97, 98, 99, 120, 121, 122]) e h
    have xl : islow x = true ∧ x ∈ T := (show ∀ z ∈ [97, 98, 99, 120, 121, 122], islow z = true ∧ z ∈ T by decide) x hx
    obtain ⟨e2, h2⟩ := fmod_range (c.fdiv 48) (b := 60) (by decide)
    have em := mulD_s [x] (1 + (c.fdiv 48).fmod 60) (by simp; omega) (by omega) (by omega)
    have el : (List.replicate (1 + (c.fdiv 48).fmod 60).toNat [x]).flatten = List.replicate (1 + (c.fdiv 48).fmod 60).toNat x := flat_rep x _
    rw [el] at em
    have lr : 1 ≤ (1 + (c.fdiv 48).fmod 60).toNat ∧ (1 + (c.fdiv 48).fmod 60).toNat ≤ 60 := by omega
    generalize (1 + (c.fdiv 48).fmod 60).toNat = k at em lr
    refine ⟨List.replicate k x, by simp [Pc.d, kWord, px, ex, em], ⟨fun z hz => by rw [List.mem_replicate] at hz; rw [hz.2]; exact xl.2, ?_, by simp; omega⟩, fit_or _ _ fun hd => ?_⟩
    · intro z
      have := congrArg List.length z
      simp at this
      omega
    · unfold fitP isWord
      rw [hd]
      simp [lr, xl.1]
  | num m =>
    obtain ⟨e, h⟩ := fmod_range c (b := 4) (by decide)
    obtain ⟨x, ex, hx, _⟩ := atI_mem (l := [PyData.int 10, .int 100, .int (10 ^ 9), .int (10 ^ 60)]) e h
    obtain ⟨M, rfl, M0, M1⟩ : ∃ M : Int, x = .int M ∧ 0 < M ∧ M ≤ 10 ^ 60 := by
      simp only [List.mem_cons, List.not_mem_nil, or_false] at hx
      rcases hx with h | h | h | h <;> exact ⟨_, h, by decide, by decide⟩
    obtain ⟨r0, r1⟩ := fmod_range (c.fdiv 8) M0
    have hM : M ≠ 0 := by omega
    have p1 : powD (.int 10) (.int 9) = .ok (.int (10 ^ 9)) := by rw [powD_i]; rfl
    have p2 : powD (.int 10) (.int 60) = .ok (.int (10 ^ 60)) := by rw [powD_i]; rfl
    generalize hz : (c.fdiv 8).fmod M = z at r0 r1
    obtain ⟨k, rfl⟩ : ∃ k : Nat, z = k := ⟨z.toNat, by omega⟩
    have hk : k < 10 ^ 60 := by omega
    have sn := strD_n k (Nat.lt_of_lt_of_le hk (Nat.pow_le_pow_right (by decide) (by decide)))
    have fn := figs_num k hk
    obtain ⟨f1, f2, f3, f4⟩ := num_canon fn
    refine ⟨figs k, ?_, ⟨fun z hz => fig_T z (List.all_eq_true.mp f1 z hz), f4, by omega⟩, fit_or _ _ fun hd => by unfold fitP; simp [hd, fn]⟩
    generalize (10 : Int) ^ 9 = A at *
    generalize (10 : Int) ^ 60 = B at *
    simp [Pc.d, kNum, px, p1, p2, ex, hM, hz, sn]
  | part a m t =>
    obtain ⟨rfl, h1, h2, h3, h4, h5⟩ := hp
    have fin : ∀ x : Tx, (∀ z ∈ x, z ∈ T) → x ≠ [] → x.length ≤ 10 → okGs (a ++ x ++ t) ∧ (fitP (.part a m t) (a ++ x ++ t) = true ∨ isdot (a ++ x ++ t) = true) := fun x xT xn xl => by
      refine ⟨⟨fun z hz => ?_, ?_, by simp; omega⟩, fit_or _ _ fun hd => ?_⟩
      · rcases List.mem_append.mp hz with hz | hz
        · rcases List.mem_append.mp hz with hz | hz
          · exact h1 z hz
          · exact xT z hz
        · exact h2 z hz
      · simp [xn]
      · unfold fitP
        rw [hd]
        have l0 : 0 < x.length := List.length_pos_iff.mpr xn
        have p1 : a <+: a ++ x ++ t := ⟨x ++ t, by simp⟩
        have p2 : t <:+ a ++ x ++ t := ⟨a ++ x, rfl⟩
        have p3 : a.length + t.length < (a ++ x ++ t).length := by simp; omega
        simp only [Bool.not_false, Bool.true_and, p1, p2, p3, decide_true, Bool.and_self]
    generalize pxt (c.fdiv 8) = x at px pT pl
    by_cases h0 : x = []
    · subst h0
      obtain ⟨f1, f2⟩ := fin [49] (by decide) (by simp) (by simp)
      have m1 := mulD_s [49] 1 (by simp) (by omega) (by omega)
      exact ⟨_, by simp (disch := omega) [Pc.d, kPart, px, if_pos, m1], f1, f2⟩
    · obtain ⟨f1, f2⟩ := fin x pT h0 (by omega)
      have m0 := mulD_s [49] 0 (by simp) (by omega) (by omega)
      exact ⟨_, by simp (disch := omega) [Pc.d, kPart, px, if_pos, m0, h0], f1, f2⟩
/-- the steps of a piece -/
def Stp (p : Pc) (ss : List Tx) : Prop := ∃ s r, ss = s :: r ∧ (p.isRest = false → r = []) ∧ (∀ x ∈ ss, okGs x) ∧ (fitP p s = true ∨ isdot s = true) ∧ (∀ x ∈ r, isdot x = false) ∧ r.length ≤ 3
theorem rest_loop (o0 o1 o3 o4 : Option D) (z : Int) : ∀ (m lo : Nat) (acc : List Tx) (o6 : Option D), lo + m ≤ 10 → acc.length + m ≤ 10000 → ∃ p6 r, forL (gNm 6) b__law_steps_1 (rangeD lo m) [o0, o1, some (.list (acc.map tx)), o3, o4, some (.int z), o6] = .nx [o0, o1, some (.list ((acc ++ r).map tx)), o3, o4, some (.int z), p6] ∧ r.length = m ∧ (∀ x ∈ r, okSt x)
  | 0, lo, acc, o6, _, _ => ⟨o6, [], by simp [rangeD], rfl, by simp⟩
  | m + 1, lo, acc, o6, h, hl => by
    have hd : (7 + (lo : Int)) ≠ 0 := by omega
    have hd2 : (7 + (lo : Int)).natAbs < 1073741824 := by omega
    have e := pst_ok (z.fdiv (7 + (lo : Int)))
    have tn : b__law_steps_1 [o0, o1, some (.list (acc.map tx)), o3, o4, some (.int z), some (.int lo)] = .nx [o0, o1, some (.list ((acc ++ [pst (z.fdiv (7 + (lo : Int)))]).map tx)), o3, o4, some (.int z), some (.int lo)] := by
      unfold b__law_steps_1
      simp (disch := omega) [hd, hd2, e, if_pos]
    obtain ⟨p6, r, h1, h2, h3⟩ := rest_loop o0 o1 o3 o4 z m (lo + 1) (acc ++ [pst (z.fdiv (7 + (lo : Int)))]) (some (.int lo)) (by omega) (by simp; omega)
    refine ⟨p6, pst (z.fdiv (7 + (lo : Int))) :: r, ?_, by simp [h2], fun x hx => ?_⟩
    · rw [rangeD_cons, forL_name]
      show oLoop (b__law_steps_1 [o0, o1, some (.list (acc.map tx)), o3, o4, some (.int z), some (.int lo)]) _ = _
      rw [tn, oLoop_nx]
      refine h1.trans ?_
      simp
    · rcases List.mem_cons.mp hx with rfl | hx
      · exact pst_g _
      · exact h3 x hx
theorem steps_turn (o0 : Option D) (n : Tx) (p : Pc) (hp : gdR n p) (hn : okT n) (a b c : Int) (acc : List Tx) (hl : acc.length ≤ 9000) (k : Nat) (hk : k ≤ 1000) (o5 o6 : Option D) : ∃ ss p5 p6, b__law_steps_2 [o0, some (.list [.int a, .int b, .int c]), some (.list (acc.map tx)), some (.int k), some p.d, o5, o6] = .nx [o0, some (.list [.int a, .int b, .int c]), some (.list ((acc ++ ss).map tx)), some (.int k), some p.d, p5, p6] ∧ Stp p ss := by
  obtain ⟨e, h⟩ := fmod_range (k : Int) (b := 3) (by decide)
  obtain ⟨x, ex, hx, _⟩ := atI_mem (l := [PyData.int a, .int b, .int c]) e h
  obtain ⟨y, rfl⟩ : ∃ y : Int, x = .int y := by
    simp only [List.mem_cons, List.not_mem_nil, or_false] at hx
    rcases hx with h | h | h <;> exact ⟨_, h⟩
  have kd : (k : Int).fdiv 3 = ((k / 3 : Nat) : Int) := by
    rw [Int.fdiv_eq_ediv_of_nonneg _ (by decide)]
    rfl
  have hd : (k : Int).fdiv 3 + 1 ≠ 0 := by omega
  have hd2 : ((k : Int).fdiv 3 + 1).natAbs < 1073741824 := by omega
  obtain ⟨s, s1, s2, s3⟩ := near_step_ok n p hp hn (y.fdiv ((k : Int).fdiv 3 + 1))
  generalize hz : y.fdiv ((k : Int).fdiv 3 + 1) = z at s1
  have kr := k_rest p
  cases hr : p.isRest with
  | false =>
    rw [hr] at kr
    have kr' : ¬ p.k = [114, 101, 115, 116] := by simpa using kr
    refine ⟨[s], some (.int z), o6, ?_, s, [], rfl, fun _ => rfl, fun x hx => by rw [List.mem_singleton.mp hx]; exact s2, s3, by simp, by simp⟩
    unfold b__law_steps_2
    simp (disch := omega) [ex, hd, hd2, hz, s1, kr', if_pos]
  | true =>
    rw [hr] at kr
    have kr' : p.k = [114, 101, 115, 116] := by simpa using kr
    obtain ⟨e4, h4⟩ := fmod_range (z.fdiv 3) (b := 4) (by decide)
    have hs62 : small62 ((z.fdiv 3).fmod 4) = true := by unfold small62; simp; omega
    obtain ⟨p6, r, q1, q2, q3⟩ := rest_loop o0 (some (.list [.int a, .int b, .int c])) (some (.int k)) (some p.d) z ((z.fdiv 3).fmod 4).toNat 0 (acc ++ [s]) o6 (by omega) (by simp; omega)
    refine ⟨s :: r, some (.int z), p6, ?_, s, r, rfl, fun f => absurd f (by rw [hr]; simp), fun x hx => ?_, s3, fun x hx => (q3 x hx).dot, by omega⟩
    · have e0 : rangeD ((0 : Nat) : Int) ((z.fdiv 3).fmod 4).toNat = rangeD 0 ((z.fdiv 3).fmod 4).toNat := rfl
      rw [e0] at q1
      have ea : acc ++ s :: r = (acc ++ [s]) ++ r := by simp
      rw [ea]
      have lm : (acc.map tx).length ≤ 10000 := by simp; omega
      have em : (acc ++ [s]).map tx = acc.map tx ++ [tx s] := by simp
      rw [em] at q1
      generalize (acc ++ [s] ++ r).map tx = out at q1 ⊢
      generalize acc.map tx = xs at *
      unfold b__law_steps_2
      simp (disch := omega) [ex, hd, hd2, hz, s1, kr', if_pos, rgK_i _ hs62, q1]
    · rcases List.mem_cons.mp hx with rfl | hx
      · exact s2
      · exact (q3 x hx).g
theorem qsteps_loop (o0 : Option D) (a b c : Int) : ∀ (ps : List Pc) (N : List Tx) (i : Nat) (acc : List Tx) (o3 o4 o5 o6 : Option D), Nmd ps N → (∀ n ∈ N, okT n) → acc.length + 4 * ps.length ≤ 9000 → i + ps.length ≤ 1000 → ∃ t p3 p4 p5 p6, forL (gTp 2 (gsCons (gNm 3) (gsCons (gNm 4) gsNil))) b__law_steps_2 (enumFrom i (ps.map Pc.d)) [o0, some (.list [.int a, .int b, .int c]), some (.list (acc.map tx)), o3, o4, o5, o6] = .nx [o0, some (.list [.int a, .int b, .int c]), some (.list ((acc ++ t.flatten).map tx)), p3, p4, p5, p6] ∧ t.length = ps.length ∧ (∀ q ∈ ps.zip t, Stp q.1 q.2) ∧ t.flatten.length ≤ 4 * ps.length
  | [], N, i, acc, o3, o4, o5, o6, _, _, _, _ => ⟨[], o3, o4, o5, o6, by simp [enumFrom], rfl, by simp, by simp⟩
  | p :: ps, [], _, _, _, _, _, _, h, _, _, _ => h.elim
  | p :: ps, n :: N, i, acc, o3, o4, o5, o6, h, hN, hl, hi => by
    simp only [List.length_cons] at hl hi
    obtain ⟨ss, p5, p6, h1, h2⟩ := steps_turn o0 n p h.1 (hN n List.mem_cons_self) a b c acc (by omega) i (by omega) o5 o6
    have ls : ss.length ≤ 4 := by
      obtain ⟨s, r, rfl, _, _, _, _, q⟩ := h2
      simp
      omega
    obtain ⟨t, q3, q4, q5, q6, h3, h4, h5, h6⟩ := qsteps_loop o0 a b c ps N (i + 1) (acc ++ ss) (some (.int i)) (some p.d) p5 p6 h.2 (fun m hm => hN m (List.mem_cons_of_mem _ hm)) (by simp; omega) (by omega)
    refine ⟨ss :: t, q3, q4, q5, q6, ?_, by simp [h4], fun q hq => ?_, by rw [List.flatten_cons, List.length_append, List.length_cons]; omega⟩
    · rw [List.map_cons, enumFrom_cons, forL_cons]
      have tg : gTp 2 (gsCons (gNm 3) (gsCons (gNm 4) gsNil)) (.tuple [.int i, p.d]) [o0, some (.list [.int a, .int b, .int c]), some (.list (acc.map tx)), o3, o4, o5, o6] = .ok [o0, some (.list [.int a, .int b, .int c]), some (.list (acc.map tx)), some (.int i), some p.d, o5, o6] := by simp
      rw [tg, oStore_ok, h1, oLoop_nx, h3, List.flatten_cons, List.append_assoc]
    · rw [List.zip_cons_cons] at hq
      rcases List.mem_cons.mp hq with rfl | hq
      · exact h2
      · exact h5 q hq
theorem steps_ok (N : List Tx) (p : Pat) (hp : GoodP N p) (hN : ∀ n ∈ N, okT n) (hl : N.length ≤ 100) (a b c : Int) : ∃ t : List (List Tx), g__law_steps [p.d, .list [.int a, .int b, .int c]] = .ok (.list (t.flatten.map tx)) ∧ t.length = p.ps.length ∧ (∀ q ∈ p.ps.zip t, Stp q.1 q.2) ∧ t.flatten.length ≤ 4 * p.ps.length := by
  have lp := Nmd_len hp.nm
  obtain ⟨t, p3, p4, p5, p6, h1, h2, h3, h4⟩ := qsteps_loop (some p.d) a b c p.ps N 0 [] none none none none hp.nm hN (by simp; omega) (by omega)
  refine ⟨t, ?_, h2, h3, h4⟩
  have it : iEn (pcs p.ps) = .ok (enumFrom 0 (p.ps.map Pc.d)) := rfl
  generalize t.flatten = S at h1 ⊢
  unfold g__law_steps f__law_steps
  rw [runF_eq]
  simp only [List.map_nil, List.nil_append] at h1
  simp [it, h1]
theorem stp_g {ps : List Pc} {t : List (List Tx)} (h : ∀ q ∈ ps.zip t, Stp q.1 q.2) (hl : t.length = ps.length) : ∀ s ∈ t.flatten, okGs s := fun s hs => by
  obtain ⟨ss, h1, h2⟩ := List.mem_flatten.mp hs
  obtain ⟨k, hk, rfl⟩ := List.getElem_of_mem h1
  have : (ps[k]'(by omega), t[k]) ∈ ps.zip t := by
    rw [← List.getElem_zip (h := by simp; omega)]
    exact List.getElem_mem _
  obtain ⟨x, r, e, _, g, _⟩ := h _ this
  exact g s h2
end Wp

set_option Elab.async false
set_option linter.all false
set_option maxRecDepth 100000
set_option maxHeartbeats 4000000
namespace Wp
open PySem PySem.Spec PyProof.Rows L2 Wm
def k_LEFT_OUT : D := (.int 37)
def k_SIGNS : D := (tx [32, 33, 34, 35, 36, 38, 39, 40, 41, 42, 43, 44, 45, 46, 47, 48, 49, 50, 51, 52, 53, 54, 55, 56, 57, 58, 59, 60, 61, 62, 63, 64, 65, 66, 67, 68, 69, 70, 71, 72, 73, 74, 75, 76, 77, 78, 79, 80, 81, 82, 83, 84, 85, 86, 87, 88, 89, 90, 91, 92, 93, 94, 95, 96, 97, 98, 99, 100, 101, 102, 103, 104, 105, 106, 107, 108, 109, 110, 111, 112, 113, 114, 115, 116, 117, 118, 119, 120, 121, 122, 123, 124, 125, 126])
def t_sign_of_1 : En → Out :=
  (sSeq (sIf (tOr' (tB (e2 ltD (eBlt minD (aCons (eVar 1) (aCons (eVar 2) aNil))) (eC (.int 0)))) (tOr' (tB (e2 eqD (eVar 3) (eC k_LEFT_OUT))) (tNo (tB (eChain leD leD (eC (.int 32)) (eVar 3) (eC (.int 126)))))))
      (sRet (eC .none))
      sNx)
    (sRet (e2 ixD (eC k_SIGNS) (e2 subD (e2 subD (eVar 3) (eC (.int 32))) (eBlt intD (aCons (e2 gtD (eVar 3) (eC k_LEFT_OUT)) aNil))))))
def t_sign_of_2 : En → Out :=
  (sSeq (sSet 3 (e2 addD (e2 mulD (eC (.int 16)) (eVar 1)) (eVar 2)))
    t_sign_of_1)
def t_sign_of_3 : En → Out :=
  (sSeq (sSet 2 (eM1 findD (eC k_SIXTEEN) (eM0 lowerD (e2 ixD (eVar 0) (eC (.int 1))))))
    t_sign_of_2)
def t_sign_of_4 : En → Out :=
  (sSeq (sSet 1 (eM1 findD (eC k_SIXTEEN) (eM0 lowerD (e2 ixD (eVar 0) (eC (.int 0))))))
    t_sign_of_3)
def f_sign_of : En → Out :=
  (sSeq (sIf (tB (e2 neD (eBlt lenD (aCons (eVar 0) aNil)) (eC (.int 2))))
      (sRet (eC .none))
      sNx)
    t_sign_of_4)
def g_sign_of : List D → Rs D := runF 4 f_sign_of
def b_undone_1 : En → Out :=
  (sSeq (sSet 4 (e2 ixD (eVar 0) (eVar 3)))
    (sSeq (sAug 3 addI (eC (.int 1)))
    (sSeq (sIf (tB (e2 eqD (eVar 4) (eC (tx [126]))))
      (sSeq (sSet 4 (eCall 1 g_sign_of (aCons (eSl (eVar 0) (oSo (eVar 3)) (oSo (e2 addD (eVar 3) (eC (.int 2))))) aNil)))
    (sSeq (sAug 3 addI (eC (.int 2)))
    (sIf (tB (e2 isD (eVar 4) (eC .none)))
      (sRet (eC .none))
      sNx)))
      (sIf (tAn (tB (e2 notInD (eVar 4) (eC k_PLAIN))) (tB (e2 notInD (eVar 4) (eVar 1))))
      (sRet (eC .none))
      sNx))
    (sAug 2 addI (eVar 4)))))
def f_undone : En → Out :=
  (sSeq (sSet 2 (eC (tx [])))
    (sSeq (sSet 3 (eC (.int 0)))
    (sSeq (sWhile (tB (e2 ltD (eVar 3) (eBlt lenD (aCons (eVar 0) aNil))))
      b_undone_1)
    (sRet (eVar 2)))))
def g_undone : List D → Rs D := runF 5 f_undone
def t__law_due_1 : En → Out :=
  (sSeq (sSet 2 (e2 addD (eVar 2) (eVar 5)))
    (sSet 3 (e2 addD (eVar 3) (eVar 4))))
def t__law_due_2 : En → Out :=
  (sSeq (sIf (tB (e2 eqD (eVar 5) (eC (tx [126]))))
      (sSeq (sSet 4 (eC (.int 3)))
    (sSeq (sSet 6 (eLc (eIt iSeq (eCall0 g__law_table)) [7] (gNm 7) (tB (e2 eqD (eCall 1 g__law_hex (aCons (eVar 7) aNil)) (eM0 lowerD (eSl (eVar 0) (oSo (e2 addD (eVar 3) (eC (.int 1)))) (oSo (e2 addD (eVar 3) (eC (.int 3)))))))) (eVar 7)))
    (sSeq (sIf (tB (e2 eqD (eVar 6) (eLst aNil)))
      (sRet (eC .none))
      sNx)
    (sSet 5 (e2 ixD (eVar 6) (eC (.int 0)))))))
      (sIf (tAn (tNo (tB (eCall 1 g__law_plain (aCons (eVar 5) aNil)))) (tB (e2 notInD (eVar 5) (eVar 1))))
      (sRet (eC .none))
      sNx))
    t__law_due_1)
def t__law_due_3 : En → Out :=
  (sSeq (sSet 5 (e2 ixD (eVar 0) (eVar 3)))
    t__law_due_2)
def b__law_due_4 : En → Out :=
  (sSeq (sSet 4 (eC (.int 1)))
    t__law_due_3)
def f__law_due : En → Out :=
  (sSeq (sSet 2 (eC (tx [])))
    (sSeq (sSet 3 (eC (.int 0)))
    (sSeq (sWhile (tB (e2 ltD (eVar 3) (eBlt lenD (aCons (eVar 0) aNil))))
      b__law_due_4)
    (sRet (eVar 2)))))
def g__law_due : List D → Rs D := runF 8 f__law_due
end Wp

set_option Elab.async false
set_option linter.all false
set_option maxRecDepth 100000
set_option maxHeartbeats 4000000
namespace Wp
open PySem PySem.Spec PyProof.Rows L2 Wm
/-- the number of a figure to the base 16 -/
def hx (c : Nat) : Int := match X16.idxOf? (lo1 c) with | some i => (i : Int) | none => -1
theorem hx_range : ∀ c, c < 128 → -1 ≤ hx c ∧ hx c < 16 := by decide
def signF (h l : Int) : D :=
  if min h l < 0 ∨ 16 * h + l = 37 ∨ ¬ (32 ≤ 16 * h + l ∧ 16 * h + l ≤ 126) then .none else tx [(16 * h + l).toNat]
theorem T_at : ∀ n : Nat, n < 127 → 32 ≤ n → n ≠ 37 → atI T ((n : Int) - 32 - (if (37 : Int) < n then 1 else 0)) = some n := by decide
theorem sign_of_ok (a b : Nat) (ha : a < 128) (hb : b < 128) : g_sign_of [tx [a, b]] = .ok (signF (hx a) (hx b)) := by
  have h1 := hx_range a ha
  have h2 := hx_range b hb
  have e1 : findD ⟨[48, 49, 50, 51, 52, 53, 54, 55, 56, 57, 97, 98, 99, 100, 101, 102].toArray⟩ (tx [lo1 a]) = .ok (.int (hx a)) := findD_one _ _
  have e2 : findD ⟨[48, 49, 50, 51, 52, 53, 54, 55, 56, 57, 97, 98, 99, 100, 101, 102].toArray⟩ (tx [lo1 b]) = .ok (.int (hx b)) := findD_one _ _
  generalize hx a = h at *
  generalize hx b = l at *
  have b16 : big 16 = true := by decide
  have eT : k_SIGNS = tx T := rfl
  have lT : T.length = 94 := by decide
  unfold g_sign_of f_sign_of t_sign_of_4 t_sign_of_3 t_sign_of_2 t_sign_of_1
  rw [runF_eq]
  simp [lowerD_s, ha, hb, k_SIXTEEN, b16, k_LEFT_OUT, eT, e1, e2, lT]
  have em : (if l < h then l else h) = min h l := by omega
  rw [em]
  unfold signF
  by_cases c1 : min h l < 0
  · simp [c1]
  · by_cases c2 : 16 * h + l = 37
    · simp [c1, c2]
    · by_cases c3 : 32 ≤ 16 * h + l
      · by_cases c4 : 16 * h + l ≤ 126
        · have hT := T_at (16 * h + l).toNat (by omega) (by omega) (by omega)
          rw [Int.toNat_of_nonneg (by omega)] at hT
          simp [c1, c2, c3, c4, hT, lT]
        · simp [c1, c2, c3, c4]
      · simp [c1, c2, c3]
/-! ### the sign that is due -/
def hit (x y s : Nat) : Bool := decide (dg (s / 16) = x) && decide (dg (s % 16) = y)
def dueF (x y : Nat) : D := match T.find? (hit x y) with | some s => tx [s] | none => .none
/-- the two tell the same -/
theorem lo_dg : ∀ c, c < 128 → hx c = -1 ∨ (0 ≤ hx c ∧ lo1 c = dg (hx c).toNat) := by decide
theorem dg_in : ∀ x, x < 16 → dg x ∈ X16 := by decide
theorem T16 : ∀ c ∈ T, c / 16 < 16 ∧ c % 16 < 16 := by decide
theorem both16 : ∀ h, h < 16 → ∀ l, l < 16 → T.find? (hit (dg h) (dg l)) = if 16 * h + l = 37 ∨ ¬ (32 ≤ 16 * h + l ∧ 16 * h + l ≤ 126) then none else some (16 * h + l) := by decide +kernel
theorem no_hx {c : Nat} (h : hx c = -1) : lo1 c ∉ X16 := by
  unfold hx at h
  intro m
  split at h
  · omega
  · rename_i e
    rw [List.idxOf?_eq_none_iff] at e
    exact e m
theorem same (a b : Nat) (ha : a < 128) (hb : b < 128) : dueF (lo1 a) (lo1 b) = signF (hx a) (hx b) := by
  have none1 : ∀ x y, (x ∉ X16 ∨ y ∉ X16) → T.find? (hit x y) = none := fun x y hxy => by
    rw [List.find?_eq_none]
    intro s hs
    obtain ⟨k1, k2⟩ := T16 s hs
    unfold hit
    simp only [Bool.and_eq_true, decide_eq_true_eq]
    rintro ⟨z1, z2⟩
    rcases hxy with h | h
    · exact h (z1 ▸ dg_in _ k1)
    · exact h (z2 ▸ dg_in _ k2)
  unfold dueF
  rcases lo_dg a ha with h1 | ⟨h1, e1⟩
  · rw [none1 _ _ (.inl (no_hx h1)), h1]
    unfold signF
    have := hx_range b hb
    rw [if_pos (.inl (by omega))]
  · rcases lo_dg b hb with h2 | ⟨h2, e2⟩
    · rw [none1 _ _ (.inr (no_hx h2)), h2]
      unfold signF
      rw [if_pos (.inl (by omega))]
    · have r1 := hx_range a ha
      have r2 := hx_range b hb
      rw [e1, e2, both16 _ (by omega) _ (by omega)]
      generalize hx a = h at *
      generalize hx b = l at *
      unfold signF
      by_cases c : 16 * h + l = 37 ∨ ¬ (32 ≤ 16 * h + l ∧ 16 * h + l ≤ 126)
      · rw [if_pos (by omega), if_pos (.inr c)]
      · rw [if_neg (by omega), if_neg (by omega)]
        have : 16 * h.toNat + l.toNat = (16 * h + l).toNat := by omega
        rw [this]
theorem back_all : ∀ c ∈ T, hx (dg (c / 16)) = (c / 16 : Nat) ∧ hx (dg (c % 16)) = (c % 16 : Nat) ∧ hx (up1 (dg (c / 16))) = (c / 16 : Nat) ∧ hx (up1 (dg (c % 16))) = (c % 16 : Nat) ∧ dg (c / 16) < 128 ∧ dg (c % 16) < 128 ∧ up1 (dg (c / 16)) < 128 ∧ up1 (dg (c % 16)) < 128 ∧ c ≠ 37 ∧ 32 ≤ c ∧ c ≤ 126 := by decide
theorem signF_back {c : Nat} (h : c ∈ T) : signF (c / 16 : Nat) (c % 16 : Nat) = tx [c] := by
  obtain ⟨_, _, _, _, _, _, _, _, h1, h2, h3⟩ := back_all c h
  unfold signF
  rw [if_neg (by omega)]
  have : (16 * ((c / 16 : Nat) : Int) + ((c % 16 : Nat) : Int)).toNat = c := by omega
  rw [this]

/-! ### texts undone -/
def sgn (a b : Nat) : Option Nat := T.find? (hit (lo1 a) (lo1 b))
theorem signF_sgn (a b : Nat) (ha : a < 128) (hb : b < 128) : signF (hx a) (hx b) = match sgn a b with | some s => tx [s] | none => .none := (same a b ha hb).symm
theorem sgn_T {a b s : Nat} (h : sgn a b = some s) : s ∈ T := List.mem_of_find?_eq_some h
def und (fr : List Nat) : List Nat → Option (List Nat)
  | [] => some []
  | c :: r => if c = 126 then (match r with
      | a :: b :: r' => (match sgn a b with
        | some s => (und fr r').map (s :: ·)
        | none => none)
      | _ => none)
    else if pln c = true ∨ c ∈ fr then (und fr r).map (c :: ·) else none
theorem und_pair (fr : List Nat) (a b : Nat) (r : List Nat) : und fr (126 :: a :: b :: r) = match sgn a b with | some s => (und fr r).map (s :: ·) | none => none := by rw [und, if_pos rfl]
theorem und_sign (fr : List Nat) {c : Nat} (h : c ≠ 126) (r : List Nat) : und fr (c :: r) = if pln c = true ∨ c ∈ fr then (und fr r).map (c :: ·) else none := by
  rcases r with _ | ⟨a, _ | ⟨b, r⟩⟩ <;> simp [und, h]
def oD : Option (List Nat) → D
  | some l => tx l
  | none => .none
theorem sign_short (l : List Nat) (h : l.length ≤ 2) (h2 : l.length ≠ 2) : g_sign_of [tx l] = .ok .none := by
  unfold g_sign_of f_sign_of
  rw [runF_eq]
  have : ((l.length : Nat) : Int) ≠ 2 := by omega
  simp (disch := omega) [if_pos, this]
theorem cut_two (p : List Nat) (c : Nat) (r : List Nat) : cutL (p ++ c :: r) (some ((p.length : Int) + 1)) (some ((p.length : Int) + 1 + 2)) = r.take 2 := by
  rw [cutL_mid' _ (p.length + 1) (p.length + 3) _ _ (by omega) (by omega), take_mid]
  simp
theorem turn_pair {p r fr acc : List Nat} {a b : Nat} {o : Option D} (ha : a < 128) (hb : b < 128) (hp : p.length ≤ 100000) (hr : r.length ≤ 100000) (hacc : acc.length ≤ 100000) :
    b_undone_1 [some (tx (p ++ 126 :: a :: b :: r)), some (tx fr), some (tx acc), some (.int p.length), o] = match sgn a b with
      | some s => .nx [some (tx (p ++ 126 :: a :: b :: r)), some (tx fr), some (tx (acc ++ [s])), some (.int (p.length + 1 + 2)), some (tx [s])]
      | none => .rt .none := by
  have h1 := atI_mid p 126 (a :: b :: r)
  have h2 := cut_two p 126 (a :: b :: r)
  have h3 := sign_of_ok a b ha hb
  rw [signF_sgn a b ha hb] at h3
  unfold b_undone_1
  cases e : sgn a b with
  | none =>
    rw [e] at h3
    simp (disch := omega) [if_pos, h1, h2, h3]
  | some s =>
    rw [e] at h3
    simp (disch := omega) [if_pos, h1, h2, h3]
theorem turn_end {p r fr acc : List Nat} {o : Option D} (h : r.length < 2) (hp : p.length ≤ 100000) :
    b_undone_1 [some (tx (p ++ 126 :: r)), some (tx fr), some (tx acc), some (.int p.length), o] = .rt .none := by
  have h1 := atI_mid p 126 r
  have h2 := cut_two p 126 r
  rw [List.take_of_length_le (by omega)] at h2
  have h3 := sign_short r (by omega) (by omega)
  unfold b_undone_1
  simp (disch := omega) [if_pos, h1, h2, h3]
theorem turn_sign {p r fr acc : List Nat} {c : Nat} {o : Option D} (hc : c < 128) (h : c ≠ 126) (hp : p.length ≤ 100000) (hr : r.length ≤ 100000) (hacc : acc.length ≤ 100000) :
    b_undone_1 [some (tx (p ++ c :: r)), some (tx fr), some (tx acc), some (.int p.length), o] = if pln c = true ∨ c ∈ fr then .nx [some (tx (p ++ c :: r)), some (tx fr), some (tx (acc ++ [c])), some (.int (p.length + 1)), some (tx [c])] else .rt .none := by
  have h1 := atI_mid p c r
  have h4 : notInD (tx [c]) k_PLAIN = .ok (.bool (!pln c)) := by
    unfold k_PLAIN
    rw [notInD_s, plain_all c hc]
  unfold b_undone_1
  cases e : pln c <;> by_cases e2 : c ∈ fr <;> simp (disch := omega) [if_pos, h1, h, h4, e, e2]
def wcond : En → Rs Bool := tB (e2 ltD (eVar 3) (eBlt lenD (aCons (eVar 0) aNil)))
theorem wcond_ok (l : List Nat) (x1 x2 o : Option D) (k : Nat) (hl : l.length ≤ 1000000) : wcond [some (tx l), x1, x2, some (.int k), o] = .ok (decide (k < l.length)) := by
  unfold wcond
  simp (disch := omega) [if_pos]
theorem undone_loop (fr : List Nat) : ∀ (n : Nat) (r p acc : List Nat) (o : Option D), r.length < n → (∀ c ∈ r, c < 128) → p.length + r.length ≤ 100000 → acc.length + r.length ≤ 100000 →
    runK (oSeq (whileL wcond b_undone_1 n [some (tx (p ++ r)), some (tx fr), some (tx acc), some (.int p.length), o]) (sRet (eVar 2))) = .ok (oD ((und fr r).map (acc ++ ·)))
  | 0, r, p, acc, o, h, _, _, _ => absurd h (by omega)
  | n + 1, [], p, acc, o, _, _, hp, _ => by
    rw [whileL_f (by rw [wcond_ok _ _ _ _ _ (by simp at hp ⊢; omega)]; simp)]
    simp [und, oD]
  | n + 1, c :: r, p, acc, o, h, hc, hp, ha => by
    simp only [List.length_cons] at h hp ha
    rw [whileL_t (by rw [wcond_ok _ _ _ _ _ (by simp; omega)]; simp)]
    have hc0 := hc c List.mem_cons_self
    by_cases e : c = 126
    · subst e
      match r, h, hc, hp, ha with
      | [], h, hc, hp, ha => rw [turn_end (by simp) (by omega)]; simp [und, oD]
      | [a], h, hc, hp, ha => rw [turn_end (by simp) (by omega)]; simp [und, oD]
      | a :: b :: r, h, hc, hp, ha =>
        simp only [List.length_cons] at h hp ha
        rw [turn_pair (hc a (by simp)) (hc b (by simp)) (by omega) (by omega) (by omega)]
        rw [und_pair]
        cases es : sgn a b with
        | none => simp [oD]
        | some s =>
          have ih := undone_loop fr n r (p ++ [126, a, b]) (acc ++ [s]) (some (tx [s])) (by omega) (fun z hz => hc z (by simp [hz])) (by simp; omega) (by simp; omega)
          have e1 : p ++ [126, a, b] ++ r = p ++ 126 :: a :: b :: r := by simp
          have e2 : (((p ++ [126, a, b]).length : Nat) : Int) = (p.length : Int) + 1 + 2 := by simp; omega
          rw [e1, e2] at ih
          simp only [oLoop_nx]
          rw [ih, Option.map_map]
          congr 2
          cases und fr r <;> simp
    · rw [turn_sign hc0 e (by omega) (by omega) (by omega)]
      rw [und_sign fr e]
      by_cases e2 : pln c = true ∨ c ∈ fr
      · rw [if_pos e2, if_pos e2]
        have ih := undone_loop fr n r (p ++ [c]) (acc ++ [c]) (some (tx [c])) (by omega) (fun z hz => hc z (by simp [hz])) (by simp; omega) (by simp; omega)
        have e1 : p ++ [c] ++ r = p ++ c :: r := by simp
        have e3 : (((p ++ [c]).length : Nat) : Int) = (p.length : Int) + 1 := by simp
        rw [e1, e3] at ih
        simp only [oLoop_nx]
        rw [ih, Option.map_map]
        congr 2
        cases und fr r <;> simp
      · rw [if_neg e2, if_neg e2]
        simp [oD]
theorem undone_ok (l fr : List Nat) (h : ∀ c ∈ l, c < 128) (hl : l.length ≤ 10000) : g_undone [tx l, tx fr] = .ok (oD (und fr l)) := by
  have := undone_loop fr fuelW l [] [] none (by unfold fuelW; omega) h (by simp; omega) (by simp; omega)
  have e : (und fr l).map (([] : List Nat) ++ ·) = und fr l := by cases und fr l <;> simp
  rw [e] at this
  unfold g_undone f_undone
  rw [runF_eq]
  simp
  exact this
/-! ### as the law undoes -/
theorem T_ne37 : ∀ c ∈ T, c ≠ 37 := by decide
def pr2 (q : List Nat) (s : Nat) : Bool := decide ([dg (s / 16), dg (s % 16)] = q.map lo1)
theorem pr2_hit (a b s : Nat) : pr2 [a, b] s = hit (lo1 a) (lo1 b) s := by unfold pr2 hit; simp
theorem pr2_short {q : List Nat} (h : q.length < 2) (s : Nat) : pr2 q s = false := by
  unfold pr2
  rcases q with _ | ⟨a, _ | ⟨b, q⟩⟩
  · rfl
  · simp
  · simp at h; omega
theorem cut_two' (p : List Nat) (c : Nat) (r : List Nat) : cutL (p ++ c :: r) (some ((p.length : Int) + 1)) (some ((p.length : Int) + 3)) = r.take 2 := by
  have := cut_two p c r
  rw [show (p.length : Int) + 3 = (p.length : Int) + 1 + 2 by omega]; exact this
def dcomp : En → Rs Bool := tB (e2 eqD (eCall 1 g__law_hex (aCons (eVar 7) aNil)) (eM0 lowerD (eSl (eVar 0) (oSo (e2 addD (eVar 3) (eC (.int 1)))) (oSo (e2 addD (eVar 3) (eC (.int 3)))))))
theorem due_comp (p r : List Nat) (x1 x2 x4 x5 x6 : Option D) (hr : ∀ c ∈ r, c < 128) (hp : p.length + r.length ≤ 200000) :
    lcL (gNm 7) dcomp (eVar 7) [some (tx (p ++ 126 :: r)), x1, x2, some (.int p.length), x4, x5, x6, none] (T.map fun c => tx [c]) = .ok ((T.filter (pr2 (r.take 2))).map fun c => tx [c]) := by
  apply lcL_filter
  intro s hs
  refine ⟨_, rfl, ?_, fun _ => rfl⟩
  have h2 := cut_two' p 126 r
  have h3 : ∀ c ∈ r.take 2, c < 128 := fun c hc => hr c (List.mem_of_mem_take hc)
  have h4 := lowerD_s (r.take 2) h3 (by simp; omega)
  unfold dcomp pr2
  simp (disch := omega) [if_pos, h2, h4, hex_ok hs]
theorem due_pair {p r fr acc : List Nat} (x4 x5 x6 x7 : Option D) (hr : ∀ c ∈ r, c < 128) (hp : p.length ≤ 100000) (hr' : r.length ≤ 100000) (hacc : acc.length ≤ 100000) :
    b__law_due_4 [some (tx (p ++ 126 :: r)), some (tx fr), some (tx acc), some (.int p.length), x4, x5, x6, x7] = match T.find? (pr2 (r.take 2)) with
      | some s => .nx [some (tx (p ++ 126 :: r)), some (tx fr), some (tx (acc ++ [s])), some (.int (p.length + 3)), some (.int 3), some (tx [s]), some (.list ((T.filter (pr2 (r.take 2))).map fun c => tx [c])), x7]
      | none => .rt .none := by
  have h1 := atI_mid p 126 r
  have h2 := due_comp p r (some (tx fr)) (some (tx acc)) (some (.int 3)) (some (tx [126])) x6 hr (by omega)
  unfold dcomp at h2
  have h3 : eqD (.list ((T.filter (pr2 (r.take 2))).map fun c => tx [c])) (.list []) = .ok (.bool ((T.filter (pr2 (r.take 2))).map fun c => tx [c]).isEmpty) :=
    eqD_nil (k := 0) (shpAll_of fun d hd => by
      obtain ⟨c, hc, rfl⟩ := List.mem_map.mp hd
      exact shp_tx (fun z hz => by rw [List.mem_singleton.mp hz]; exact T128 c (List.mem_filter.mp hc).1))
  have h4 : (T.filter (pr2 (r.take 2))).head? = T.find? (pr2 (r.take 2)) := List.head?_filter
  unfold b__law_due_4 t__law_due_3 t__law_due_2 t__law_due_1
  generalize T.filter (pr2 (r.take 2)) = F at h2 h3 h4
  rw [← h4]
  simp (disch := omega) [if_pos, h1, table_ok, lT, h2]
  cases F with
  | nil => simp at h3; simp [h3]
  | cons s F =>
    simp at h3
    simp (disch := omega) [h3, if_pos]
theorem due_sign {p r fr acc : List Nat} {c : Nat} (x4 x5 x6 x7 : Option D) (hc : c < 128) (h : c ≠ 126) (hp : p.length ≤ 100000) (hr' : r.length ≤ 100000) (hacc : acc.length ≤ 100000) :
    b__law_due_4 [some (tx (p ++ c :: r)), some (tx fr), some (tx acc), some (.int p.length), x4, x5, x6, x7] = if pln c = true ∨ c ∈ fr then .nx [some (tx (p ++ c :: r)), some (tx fr), some (tx (acc ++ [c])), some (.int (p.length + 1)), some (.int 1), some (tx [c]), x6, x7] else .rt .none := by
  have h1 := atI_mid p c r
  unfold b__law_due_4 t__law_due_3 t__law_due_2 t__law_due_1
  cases e : pln c <;> by_cases e2 : c ∈ fr <;> simp (disch := omega) [if_pos, h1, h, lplain_ok c hc, e, e2]
theorem due_loop (fr : List Nat) : ∀ (n : Nat) (r p acc : List Nat) (x4 x5 x6 x7 : Option D), r.length < n → (∀ c ∈ r, c < 128) → p.length + r.length ≤ 100000 → acc.length + r.length ≤ 100000 →
    runK (oSeq (whileL wcond b__law_due_4 n [some (tx (p ++ r)), some (tx fr), some (tx acc), some (.int p.length), x4, x5, x6, x7]) (sRet (eVar 2))) = .ok (oD ((und fr r).map (acc ++ ·)))
  | 0, r, p, acc, x4, x5, x6, x7, h, _, _, _ => absurd h (by omega)
  | n + 1, [], p, acc, x4, x5, x6, x7, _, _, hp, _ => by
    have hw : wcond [some (tx (p ++ [])), some (tx fr), some (tx acc), some (.int p.length), x4, x5, x6, x7] = .ok false := by
      unfold wcond
      simp at hp
      simp (disch := omega) [if_pos]
    rw [whileL_f hw]
    simp [und, oD]
  | n + 1, c :: r, p, acc, x4, x5, x6, x7, h, hc, hp, ha => by
    simp only [List.length_cons] at h hp ha
    have hw : wcond [some (tx (p ++ c :: r)), some (tx fr), some (tx acc), some (.int p.length), x4, x5, x6, x7] = .ok true := by
      unfold wcond
      simp (disch := omega) [if_pos]
      omega
    rw [whileL_t hw]
    have hc0 := hc c List.mem_cons_self
    by_cases e : c = 126
    · subst e
      rw [due_pair x4 x5 x6 x7 (fun z hz => hc z (List.mem_cons_of_mem _ hz)) (by omega) (by omega) (by omega)]
      match r, h, hc, hp, ha with
      | [], h, hc, hp, ha =>
        rw [List.find?_eq_none.mpr fun s _ => by rw [pr2_short (by simp)]; simp]
        simp [und, oD]
      | [a], h, hc, hp, ha =>
        rw [List.find?_eq_none.mpr fun s _ => by rw [pr2_short (by simp)]; simp]
        simp [und, oD]
      | a :: b :: r, h, hc, hp, ha =>
        simp only [List.length_cons] at h hp ha
        have ef : T.find? (pr2 ((a :: b :: r).take 2)) = sgn a b := by
          unfold sgn
          congr 1
          funext s
          exact pr2_hit a b s
        rw [und_pair, ef]
        cases es : sgn a b with
        | none => simp [oD]
        | some s =>
          have ih := due_loop fr n r (p ++ [126, a, b]) (acc ++ [s]) (some (.int 3)) (some (tx [s])) (some (.list ((T.filter (pr2 ((a :: b :: r).take 2))).map fun c => tx [c]))) x7 (by omega) (fun z hz => hc z (by simp [hz])) (by simp; omega) (by simp; omega)
          have e1 : p ++ [126, a, b] ++ r = p ++ 126 :: a :: b :: r := by simp
          have e2 : (((p ++ [126, a, b]).length : Nat) : Int) = (p.length : Int) + 3 := by simp
          rw [e1, e2] at ih
          simp only [oLoop_nx]
          rw [ih, Option.map_map]
          congr 2
          cases und fr r <;> simp
    · rw [due_sign x4 x5 x6 x7 hc0 e (by omega) (by omega) (by omega)]
      rw [und_sign fr e]
      by_cases e2 : pln c = true ∨ c ∈ fr
      · rw [if_pos e2, if_pos e2]
        have ih := due_loop fr n r (p ++ [c]) (acc ++ [c]) (some (.int 1)) (some (tx [c])) x6 x7 (by omega) (fun z hz => hc z (by simp [hz])) (by simp; omega) (by simp; omega)
        have e1 : p ++ [c] ++ r = p ++ c :: r := by simp
        have e3 : (((p ++ [c]).length : Nat) : Int) = (p.length : Int) + 1 := by simp
        rw [e1, e3] at ih
        simp only [oLoop_nx]
        rw [ih, Option.map_map]
        congr 2
        cases und fr r <;> simp
      · rw [if_neg e2, if_neg e2]
        simp [oD]
theorem ldue_ok (l fr : List Nat) (h : ∀ c ∈ l, c < 128) (hl : l.length ≤ 10000) : g__law_due [tx l, tx fr] = .ok (oD (und fr l)) := by
  have := due_loop fr fuelW l [] [] none none none none (by unfold fuelW; omega) h (by simp; omega) (by simp; omega)
  have e : (und fr l).map (([] : List Nat) ++ ·) = und fr l := by cases und fr l <;> simp
  rw [e] at this
  unfold g__law_due f__law_due
  rw [runF_eq]
  simp
  exact this
end Wp

set_option Elab.async false
set_option linter.all false
set_option maxRecDepth 100000
set_option maxHeartbeats 4000000
namespace Wp
open PySem PySem.Spec PyProof.Rows L2 Wm
theorem sgn_back {c : Nat} (h : c ∈ T) : sgn (dg (c / 16)) (dg (c % 16)) = some c := by
  obtain ⟨k1, k2, _, _, k5, k6, _⟩ := back_all c h
  have e := signF_sgn _ _ k5 k6
  rw [k1, k2, signF_back h] at e
  cases hs : sgn (dg (c / 16)) (dg (c % 16)) with
  | none => rw [hs] at e; cases e
  | some s =>
    rw [hs] at e
    have : tx [c] = tx [s] := e
    simp at this
    rw [this]
theorem und_enc (fr : List Nat) {c : Nat} (h : c ∈ T) (r : List Nat) : und fr (enc c ++ r) = (und fr r).map (c :: ·) := by
  unfold enc
  cases e : pln c with
  | true =>
    have : c ≠ 126 := by
      intro z; subst z; revert e; decide
    rw [if_pos rfl]
    show und fr (c :: r) = _
    rw [und_sign fr this, if_pos (.inl e)]
  | false =>
    rw [if_neg (by simp)]
    show und fr (126 :: _ :: _ :: r) = _
    rw [und_pair, sgn_back h]
theorem und_wr_app (fr : List Nat) : ∀ (l : List Nat), (∀ c ∈ l, c ∈ T) → ∀ r, und fr (wr l ++ r) = (und fr r).map (l ++ ·)
  | [], _, r => by simp [wr]
  | c :: l, h, r => by
    rw [wr_cons, List.append_assoc, und_enc fr (h c List.mem_cons_self), und_wr_app fr l (fun z hz => h z (List.mem_cons_of_mem _ hz)), Option.map_map]
    rfl
theorem und_nil (fr : List Nat) : und fr [] = some [] := by simp [und]
theorem und_wr (fr l : List Nat) (h : ∀ c ∈ l, c ∈ T) : und fr (wr l) = some l := by
  have := und_wr_app fr l h []
  rw [List.append_nil, und_nil] at this
  simpa using this
theorem enc_T : ∀ c ∈ T, ∀ x ∈ enc c, x ∈ T := by decide
theorem wr_T {l : List Nat} (h : ∀ c ∈ l, c ∈ T) : ∀ x ∈ wr l, x ∈ T := fun x hx => by
  obtain ⟨c, hc, hx⟩ := List.mem_flatMap.mp hx
  exact enc_T c (h c hc) x hx
theorem in128 {l : List Nat} (h : ∀ c ∈ l, c ∈ T) : ∀ x ∈ l, x < 128 := fun x hx => T128 x (h x hx)
/-- a sign by a cell -/
def sg (c : Int) : Nat := (atI T (c.fmod 94)).getD 0
theorem sg_ok (c : Int) : atI T (c.fmod 94) = some (sg c) ∧ sg c ∈ T := by
  obtain ⟨i0, i1⟩ := fmod_range c (b := 94) (by decide)
  obtain ⟨s, es, hs, _⟩ := atI_mem (l := T) i0 (by rw [lT]; exact i1)
  unfold sg
  rw [es]
  exact ⟨rfl, hs⟩
end Wp

set_option Elab.async false
set_option linter.all false
set_option maxRecDepth 100000
/-! WmPart: x.partition(y), x.split(y). -/
namespace Wm
open PySem PySem.Spec PyProof.Rows L2
section
variable {X : Cx} {W : WX} {own : List Nat} {o e : Expr} {fo fa : En → Rs D} {apos pos : Pos}
def partD (a : Str) : D → Rs D
  | .str b => if (b.length == 0) = false ∧ a.length ≤ sizeLine then .ok (.tuple [.str (Txt.partition a b).1, .str (Txt.partition a b).2.1, .str (Txt.partition a b).2.2]) else .bad
  | _ => .bad
theorem se_partition (ho : SB X W own o fo) (ha : SB X W own e fa) (hs : starEach [e] X.env = [(false, eval e X.env)] := by rfl) (hb : attributeBase o "partition" X.env (eval o X.env) = eval o X.env := by rfl) (hl : (apos.endLine == pos.line) = true := by rfl) :
    SE X W own (.Call (.Attribute o "partition" apos) [e] [] pos) (eM1 partD fo fa) :=
  se_m1 PySem.F.slot_str_partition PySem.F.type_str_partition mt_partition (fun W σ H Hd Q a y d s h q => by
    unfold partD at q
    split at q
    · split at q
      · rename_i b hb
        refine ⟨a, b, rfl, by rw [h.str], hb.1, hb.2, fun p hp => ?_⟩
        exact q (.ref p) _ _ (.new s hp) (.tup (.inl (.inl upd_same)) (.cons (.str _) (.cons (.str _) (.cons (.str _) .nil))))
      · exact q.elim
    · exact q.elim) ho ha hs hb hl
def splitD (a : Str) : D → Rs D
  | .str b => if (b.length == 0) = false ∧ a.length + 2 ≤ sizeLine then .ok (.list ((Txt.split a b).map .str)) else .bad
  | _ => .bad
theorem se_split (ho : SB X W own o fo) (ha : SB X W own e fa) (hs : starEach [e] X.env = [(false, eval e X.env)] := by rfl) (hb : attributeBase o "split" X.env (eval o X.env) = eval o X.env := by rfl) (hl : (apos.endLine == pos.line) = true := by rfl) :
    SE X W own (.Call (.Attribute o "split" apos) [e] [] pos) (eM1 splitD fo fa) :=
  se_m1 PySem.F.slot_str_split PySem.F.type_str_split mt_split (fun W σ H Hd Q a y d s h q => by
    unfold splitD at q
    split at q
    · split at q
      · rename_i b hb
        refine ⟨a, b, rfl, by rw [h.str], hb.1, hb.2, fun p hp => ?_⟩
        exact q (.ref p) _ _ (.new s hp) (.lst (.inl (.inl upd_same)) (dq_strs _))
      · exact q.elim
    · exact q.elim) ho ha hs hb hl
end
/-! ### by cells -/
theorem partD_some {a p q : List Nat} {s : Nat} (hl : a.length ≤ 1000000) (e : a = p ++ s :: q) (h : s ∉ p) : partD ⟨a.toArray⟩ (tx [s]) = .ok (.tuple [tx p, tx [s], tx q]) := by
  have hk : TL.par [s] [] a = some (p, q) := by
    rw [e]
    have := TL.par_part1 (s := s) (S := []) (p := p) (rest := q) (acc := []) h
    simpa using this
  have e2 := SX.partition_some (a := a) (b := [s]) (by simp) hk
  unfold partD
  simp only [str_len]
  rw [if_pos ⟨by simp, by unfold sizeLine; omega⟩, e2]
theorem partD_none {a : List Nat} {s : Nat} (hl : a.length ≤ 1000000) (h : s ∉ a) : partD ⟨a.toArray⟩ (tx [s]) = .ok (.tuple [tx a, tx [], tx []]) := by
  have hk : TL.par [s] [] a = none := TL.par_none1 (s := s) (S := []) (p := a) (acc := []) h
  have e2 := SX.partition_none (a := a) (b := [s]) (by simp) hk
  unfold partD
  simp only [str_len]
  rw [if_pos ⟨by simp, by unfold sizeLine; omega⟩, e2]
/-- the text, cut at each s -/
def ctS (s : Nat) : List Nat → List (List Nat)
  | [] => [[]]
  | c :: r => if c = s then [] :: ctS s r else match ctS s r with
    | p :: ps => (c :: p) :: ps
    | [] => [[c]]
theorem ctS_ne (s : Nat) : ∀ l, ctS s l ≠ []
  | [] => by simp [ctS]
  | c :: r => by
    unfold ctS
    split
    · simp
    · split <;> simp
theorem ctS_hit (s : Nat) (r : List Nat) : ctS s (s :: r) = [] :: ctS s r := by rw [ctS, if_pos rfl]
theorem ctS_miss {s c : Nat} (h : c ≠ s) (r : List Nat) : ctS s (c :: r) = match ctS s r with | p :: ps => (c :: p) :: ps | [] => [[c]] := by rw [ctS, if_neg h]
theorem spl_ct (s : Nat) : ∀ (l acc : List Nat), TL.spl [s] 0 acc l = match ctS s l with | p :: ps => (acc ++ p) :: ps | [] => []
  | [], acc => by simp [ctS, TL.spl]
  | c :: r, acc => by
    by_cases h : c = s
    · subst h
      rw [TL.spl_hit (by simp [TL.pre])]
      simp only [List.length_singleton, Nat.sub_self]
      rw [spl_ct c r []]
      rw [ctS_hit]
      have := ctS_ne c r
      cases hc : ctS c r with
      | nil => exact absurd hc this
      | cons p ps => simp
    · rw [TL.spl_miss (by simp [TL.pre, h])]
      rw [spl_ct s r (acc ++ [c])]
      rw [ctS_miss h]
      have := ctS_ne s r
      cases hc : ctS s r with
      | nil => exact absurd hc this
      | cons p ps => simp
theorem splitD_ct {a : List Nat} {s : Nat} (hl : a.length ≤ 1000000) (hs : s < 256) : splitD ⟨a.toArray⟩ (tx [s]) = .ok (.list ((ctS s a).map tx)) := by
  have e2 := SX.split_S (a := a) (b := [s]) (by simp) (by simp [hs])
  unfold splitD
  simp only [str_len]
  rw [if_pos ⟨by simp, by unfold sizeLine; omega⟩, e2, spl_ct s a []]
  have := ctS_ne s a
  cases hc : ctS s a with
  | nil => exact absurd hc this
  | cons p ps => simp [List.map_map]
/-- joined by s -/
def joinC (s : Nat) : List (List Nat) → List Nat
  | [] => []
  | [p] => p
  | p :: q :: r => p ++ s :: joinC s (q :: r)
theorem ct_app (s : Nat) : ∀ (p r : List Nat), s ∉ p → ctS s (p ++ s :: r) = p :: ctS s r
  | [], r, _ => by simp [ctS]
  | c :: p, r, h => by
    simp only [List.mem_cons, not_or] at h
    show ctS s (c :: (p ++ s :: r)) = _
    rw [ctS, if_neg (fun z => h.1 z.symm), ct_app s p r h.2]
theorem ct_one (s : Nat) : ∀ (p : List Nat), s ∉ p → ctS s p = [p]
  | [], _ => rfl
  | c :: p, h => by
    simp only [List.mem_cons, not_or] at h
    rw [ctS, if_neg (fun z => h.1 z.symm), ct_one s p h.2]
theorem ct_join (s : Nat) : ∀ {ps : List (List Nat)}, ps ≠ [] → (∀ p ∈ ps, s ∉ p) → ctS s (joinC s ps) = ps
  | [], h, _ => absurd rfl h
  | [p], _, h => ct_one s p (h p (by simp))
  | p :: q :: r, _, h => by
    show ctS s (p ++ s :: joinC s (q :: r)) = _
    rw [ct_app s p _ (h p (by simp)), ct_join s (by simp) fun x hx => h x (List.mem_cons_of_mem _ hx)]
theorem join_ct (s : Nat) : ∀ l : List Nat, joinC s (ctS s l) = l
  | [] => rfl
  | c :: r => by
    have ih := join_ct s r
    have hn := ctS_ne s r
    unfold ctS
    split
    · rename_i e
      subst e
      cases hc : ctS c r with
      | nil => exact absurd hc hn
      | cons p ps => rw [hc] at ih; show [] ++ c :: joinC c (p :: ps) = _; rw [ih]; rfl
    · cases hc : ctS s r with
      | nil => exact absurd hc hn
      | cons p ps =>
        rw [hc] at ih
        cases ps with
        | nil => simp only [joinC] at ih ⊢; rw [ih]
        | cons q qs => simp only [joinC] at ih ⊢; rw [← ih]; rfl
theorem ct_mem (s : Nat) : ∀ (l : List Nat), ∀ p ∈ ctS s l, s ∉ p
  | [], p, h => by simp [ctS] at h; subst h; simp
  | c :: r, p, h => by
    have ih := ct_mem s r
    unfold ctS at h
    split at h
    · rcases List.mem_cons.mp h with rfl | h
      · simp
      · exact ih p h
    · rename_i hc
      cases hcr : ctS s r with
      | nil => exact absurd hcr (ctS_ne s r)
      | cons q qs =>
        rw [hcr] at h ih
        rcases List.mem_cons.mp h with rfl | h
        · simp only [List.mem_cons, not_or]
          exact ⟨fun z => hc z.symm, ih q (by simp)⟩
        · exact ih p (List.mem_cons_of_mem _ h)
end Wm

set_option Elab.async false
set_option linter.all false
set_option maxRecDepth 100000
/-! WmSet: len(set(xs)), xs a list of any texts. -/
namespace Wm
open PySem PySem.Spec PyProof.Rows L2
/-- each text once, as met -/
def ddS (acc : List Str) (x : Str) : List Str := if x ∈ acc then acc else acc ++ [x]
def dd (xs : List Str) : List Str := xs.foldl ddS []
theorem ddS_mem (acc : List Str) (x k : Str) : k ∈ ddS acc x ↔ (k ∈ acc ∨ k = x) := by
  unfold ddS
  split
  · rename_i h
    constructor
    · exact Or.inl
    · rintro (h' | rfl)
      · exact h'
      · exact h
  · simp
theorem fold_mem : ∀ (xs acc : List Str) (k : Str), k ∈ xs.foldl ddS acc ↔ (k ∈ acc ∨ k ∈ xs)
  | [], acc, k => by simp
  | x :: xs, acc, k => by
    rw [List.foldl_cons, fold_mem xs, ddS_mem, List.mem_cons]
    constructor
    · rintro ((h | h) | h)
      · exact .inl h
      · exact .inr (.inl h)
      · exact .inr (.inr h)
    · rintro (h | h | h)
      · exact .inl (.inl h)
      · exact .inl (.inr h)
      · exact .inr h
theorem fold_len : ∀ (xs acc : List Str), (xs.foldl ddS acc).length ≤ acc.length + xs.length
  | [], acc => by simp
  | x :: xs, acc => by
    rw [List.foldl_cons]
    have := fold_len xs (ddS acc x)
    have h : (ddS acc x).length ≤ acc.length + 1 := by unfold ddS; split <;> simp
    simp only [List.length_cons]
    omega
theorem fold_nodup : ∀ (xs acc : List Str), acc.Nodup → (acc ++ xs).Nodup → (xs.foldl ddS acc).length = acc.length + xs.length
  | [], acc, _, _ => by simp
  | x :: xs, acc, ha, h => by
    have hx : x ∉ acc := fun z => by
      have := (List.nodup_append.mp h).2.2 x z x (by simp)
      exact this rfl
    rw [List.foldl_cons]
    have e : ddS acc x = acc ++ [x] := by unfold ddS; rw [if_neg hx]
    have h2 : (acc ++ [x] ++ xs).Nodup := by simpa using h
    rw [e, fold_nodup xs _ (List.nodup_append.mp h2).1 h2]
    simp only [List.length_append, List.length_cons, List.length_nil]
    omega
theorem fold_full : ∀ (xs acc : List Str), acc.Nodup → (xs.foldl ddS acc).length = acc.length + xs.length → (acc ++ xs).Nodup
  | [], acc, h, _ => by simpa using h
  | x :: xs, acc, ha, h => by
    rw [List.foldl_cons] at h
    have l := fold_len xs (ddS acc x)
    by_cases hx : x ∈ acc
    · have e : ddS acc x = acc := by unfold ddS; rw [if_pos hx]
      rw [e] at h l
      simp only [List.length_cons] at h
      omega
    · have e : ddS acc x = acc ++ [x] := by unfold ddS; rw [if_neg hx]
      rw [e] at h
      have hn : (acc ++ [x]).Nodup := by
        rw [List.nodup_append]
        exact ⟨ha, by simp, fun a m b mb => by simp at mb; subst mb; exact fun z => hx (z ▸ m)⟩
      have := fold_full xs _ hn (by rw [h]; simp only [List.length_append, List.length_cons, List.length_nil]; omega)
      simpa using this
theorem dd_mem (xs : List Str) (k : Str) : k ∈ dd xs ↔ k ∈ xs := by unfold dd; rw [fold_mem]; simp
theorem dd_len (xs : List Str) : (dd xs).length ≤ xs.length := by have := fold_len xs []; simpa [dd] using this
theorem dd_iff (xs : List Str) : (dd xs).length = xs.length ↔ xs.Nodup := by
  constructor
  · intro h; have := fold_full xs [] (by simp) (by simpa [dd] using h); simpa using this
  · intro h; have := fold_nodup xs [] (by simp) (by simpa using h); simpa [dd] using this
theorem dd_take {xs : List Str} {i : Nat} (h : i < xs.length) : dd (xs.take (i + 1)) = ddS (dd (xs.take i)) (xs.getD i Str.empty) := by
  unfold dd
  rw [List.take_succ_eq_append_getElem h, List.foldl_append]
  simp [h]
theorem ddS_len (acc : List Str) (x : Str) : (ddS acc x).length = if decide (x ∈ acc) = true then acc.length else acc.length + 1 := by
  unfold ddS
  by_cases h : x ∈ acc
  · simp [h]
  · simp [h]
/-- at T: the set of these texts -/
def StT (P : Program) (w : World) (h : Heap) (T : Addr) (l : List Str) : Prop := h.SetOf (PySem.strKind P w) T (fun k => decide (k ∈ l)) l.length
theorem StT.at {P : Program} {w : World} {h h' : Heap} {T : Addr} {l : List Str} (a : StT P w h T l) (k : ∀ o, h.get? T = some o → h'.get? T = some o) : StT P w h' T l := by
  obtain ⟨o, x1, x2, x3, ho, r⟩ := a
  exact ⟨o, x1, x2, x3, k o ho, r⟩
section
variable {P : Program} {w : World} {A : Around} {I : Addr} {fp wr : List Addr} {G : Array GenState → Array GenState → Prop} {n : Nat} {Pv : Nat → Value → Prop} {St : Nat → Shared → Prop} {R : Result → Shared → Prop}
theorem upd_texts (wk : WalksS P w A.in1 I fp wr G n Pv St) {T : Addr} (ni : T ∉ fp) {xs : List Str} (ex : xs.length = n) (sm : xs.length ≤ 4000) (pv : ∀ i v, Pv i v → ∃ t, v = .str (xs.getD i Str.empty) t) :
    ∀ (m i : Nat) (s : Shared), i + m = n → St i s → StT P w s.heap T (dd (xs.take i)) → (∀ z, Moved (T :: wr) G s z → StT P w z.heap T (dd xs) → R (.ok (.ret .none)) z) →
      codeAny (model P w) A (.builtin "set.update.loop" ⟨[.ref T, .ref I], []⟩) R s
  | 0, i, s, e, st, a, r => by
    obtain rfl : i = n := by omega
    refine codeAny_builtin PyProof.Rows.F.entry_set_update_loop ?_; rw [Around.under_plainId PyProof.Rows.F.plain_set_update_loop _]
    refine wpAny_bind (m := pyNext (.ref I)) (wk.done s _ _ st fun z mv => ?_)
    have a2 : StT P w z.heap T (dd xs) := by
      have e3 : xs.take i = xs := List.take_of_length_le (by omega)
      rw [e3] at a
      exact a.at fun o => mv.heap T o fun q => ni (wk.sub _ q)
    show wpAny (model P w) A.in1 (ret Value.none) _ _ z; exact wpAny_pure (r z (mv.mono fun b => List.mem_cons_of_mem _) a2)
  | m + 1, i, s, e, st, a, r => by
    have li : i < xs.length := by omega
    refine codeAny_builtin PyProof.Rows.F.entry_set_update_loop ?_; rw [Around.under_plainId PyProof.Rows.F.plain_set_update_loop _]
    refine wpAny_bind (m := pyNext (.ref I)) (wk.item i s _ _ (by omega) st fun v z hv st2 mv => ?_)
    obtain ⟨tk, rfl⟩ := pv i v hv
    have a1 : StT P w z.heap T (dd (xs.take i)) := a.at fun o => mv.heap T o fun q => ni (wk.sub _ q)
    have room : (dd (xs.take i)).length + 1 < scanBound := by
      have := dd_len (xs.take i)
      have l2 : (xs.take i).length ≤ xs.length := by rw [List.length_take]; omega
      unfold scanBound
      omega
    refine wpAny_bind (m := holding [Value.str (xs.getD i Str.empty) tk] (setAdd T (.str (xs.getD i Str.empty) tk))) (wpAny_holding ?_)
    unfold setAdd
    refine wpAny_holding (wpAny_bind ((PySem.strKind P w).pyHash (k := xs.getD i Str.empty) (strKind_is _ _ _ _) ?_))
    refine wpAny_setAddHashed_of (knd := PySem.strKind P w) (s := { z with toks := z.toks + 1 }) (strKind_is _ _ _ _) rfl a1 room fun h2 sb a2 => ?_
    have a3 : StT P w h2 T (dd (xs.take (i + 1))) := by
      unfold StT
      rw [dd_take li]
      refine PyProof.Rows.SetOf_congr a2 (fun k => ?_) (ddS_len _ _).symm
      by_cases c : k ∈ ddS (dd (xs.take i)) (xs.getD i Str.empty)
      · rw [decide_eq_true c]
        rcases (ddS_mem _ _ _).mp c with c | c <;> simp [c]
      · rw [decide_eq_false c]
        have c1 : k ∉ dd (xs.take i) := fun z => c ((ddS_mem _ _ _).mpr (.inl z))
        have c2 : k ≠ xs.getD i Str.empty := fun z => c ((ddS_mem _ _ _).mpr (.inr z))
        rw [decide_eq_false c1, decide_eq_false c2]
        rfl
    refine wpAny_pure ⟨plainId_quiet PyProof.Rows.F.plain_set_update_loop _, upd_texts wk ni ex sm pv m (i + 1) _ (by omega) (wk.frame _ z _ _ st2 (Nat.le_succ _) fun b hb o q => ?_) a3 fun z2 mv2 a4 => ?_⟩
    · exact (sb.2 b fun h => ni (h ▸ hb)).trans q
    · exact r z2 (.trans wk.gtrans ((mv.mono fun b => List.mem_cons_of_mem _).then_heap (Nat.le_succ _) fun b o hb q => (sb.2 b fun h => hb (h ▸ List.mem_cons_self)).trans q) mv2) a4
end
/-- a new set without items -/
abbrev nSet (b : Bool) : Obj := { cls := .type "set", dict := none, data := .set #[] 0 (.fresh 0 0 b) }
section
variable {P : Program} {w : World} {A : Around} {E : Value → Shared → Prop} {s : Shared}
/-- what set(xs) ends with -/
def SetEnd (P : Program) (w : World) (s : Shared) (xs : List Str) (s2 : Shared) : Prop := ∃ h' k, s2 = { s with heap := h', toks := k } ∧ StT P w h' s.heap.objs.size (dd xs) ∧ ∀ b o, s.heap.get? b = some o → h'.get? b = some o
set_option maxHeartbeats 3200000 in
theorem call_texts {l : Addr} {us : Array Value} {xs : List Str} {Q : Value → Shared → Prop} (calm : A.handled = none) (isl : s.heap.IsList l us) (are : PyProof.Rows.StrsAre us.toList xs) (sm : xs.length ≤ 4000)
    (q : ∀ s2, SetEnd P w s xs s2 → Q (.ref s.heap.objs.size) s2) : wpAny (model P w) A (call (.type "set") [.ref l]) Q E s := by
  obtain ⟨c0, t0, mro0⟩ := PySem.F.called_set.mro
  have made0 := PySem.F.called_set.made
  have sub0 := PySem.F.called_set.sub
  have nt0 := PySem.F.called_set.notType
  have cc0 := PySem.F.called_set.canCreate
  have tc0 := PySem.F.typeCall_set_1 (.ref l)
  refine wpAny_call (codeAny_of_tree (?_ : wpAny _ _ (callAny (.type "set") _) _ _ _))
  refine wpAny_pure ⟨Code.quiet_builtin _ (by decide +kernel), codeAny_builtin PySem.F.entry_type_call ?_⟩; rw [Around.under_plain (weight_type_call_type "set" [.ref l] []) rfl]
  repeat (any_goals (first | assumption | wp_step))
  refine codeAny_mono (code_set_new_1 (.ref l) (E := E) (Q₁ := fun v z => ∃ b : Bool, v = .ref s.heap.objs.size ∧ z = { s with heap := s.heap.push (nSet b) }) fun b => ⟨b, rfl, rfl⟩) fun r z hz => ?_
  match r, hz with
  | .error e, hz => exact hz
  | .ok (.ret v), hz =>
    obtain ⟨b, rfl, rfl⟩ := hz
    have gS : (s.heap.push (nSet b)).get? s.heap.objs.size = some (nSet b) := Heap.get?_push_size _ rfl
    have tyS : Shared.TypeIs { s with heap := s.heap.push (nSet b) } (.ref s.heap.objs.size) "set" := ⟨_, gS, rfl⟩
    have lk0 := PySem.F.called_set.init.lookup
    have bd0 := PySem.F.called_set.init.bind (.ref s.heap.objs.size)
    repeat (any_goals (first | assumption | wp_step))
    refine codeAny_mono (codeAny_call_builtin (R := wants (fun r z => r = .none ∧ SetEnd P w s xs z) E) PySem.F.called_set.init.plain PySem.F.entry_set_init (check_set_init_1 tyS ?_)) fun r2 z2 hz2 => ?_
    · obtain ⟨⟨_, od, _, os⟩, gl, cl, nl, dl⟩ := isl
      simp only at cl dl
      subst cl dl
      have gl' : (s.heap.push (nSet b)).get? l = some { cls := .type "list", dict := od, data := .seq us nl, slots := os } := Heap.get?_push_of_some _ gl
      have isl' : (s.heap.push (nSet b)).IsList l us := ⟨_, gl', rfl, nl, rfl⟩
      have no1 := PySem.F.sub_list_set
      have no2 := PySem.F.sub_list_frozenset
      have no3 : (Value.type "list" == Value.type "dict") = false := by decide
      unfold Builtin.«set.__init__» noKeywords Builtin.Frozenset.updateFrom
      generalize eI : pyIter = pI
      wp_walk
      subst eI
      refine wpAny_pyIter_list isl' (wpAny_bind (wpAny_runValue ?_))
      have lt := Heap.lt_size gl
      have sz : (s.heap.push (nSet b)).objs.size = s.heap.objs.size + 1 := Heap.size_push ..
      have len : xs.length = us.size := (StrsAre.len_eq are).symm.trans (Array.length_toList ..)
      refine upd_texts (xs := xs) (n := us.size) (Walks.list (show A.in1.in1.in1.handled = none by simp [calm]) _ l (by rw [sz]; exact Nat.ne_of_lt (Nat.lt_succ_of_lt lt)) us).toS (by rw [sz]; simp only [List.mem_cons, List.not_mem_nil, or_false, not_or]; exact ⟨Nat.ne_of_lt (Nat.lt_succ_self _), Nat.ne_of_gt lt⟩) len sm
        (fun i v hv => SS.strs_at are i v (by rw [Array.getElem?_toList]; exact hv)) us.size 0 _ (by omega) ⟨⟨_, Heap.get?_push_size _ rfl, rfl, rfl⟩, isl'.push _⟩ ?_ ?_
      · refine PyProof.Rows.SetOf_congr ((PyProof.Rows.setObjOf_fresh (knd := PySem.strKind P w) b).setOf (Heap.get?_push_of_some _ gS) (by unfold scanBound; omega)) (fun k => ?_) rfl
        simp [dd]
      · rintro ⟨h2, g2, d2, k2, o2⟩ mv a
        obtain rfl : g2 = s.gens := mv.gens
        obtain rfl : d2 = s.drawn := mv.drawn
        obtain rfl : o2 = s.os := mv.os
        show wpAny _ _ _ _ _ _
        refine wpAny_pure ?_; show wpAny _ _ (ret Value.none) _ _ _
        refine wpAny_pure ⟨rfl, h2, k2, rfl, a, fun p o e => ?_⟩
        have lp := Heap.lt_size e
        refine mv.heap p o ?_ (Heap.get?_push_of_some _ (Heap.get?_push_of_some _ e))
        rw [sz]
        simp only [List.mem_cons, List.not_mem_nil, or_false, not_or]
        exact ⟨Nat.ne_of_lt lp, Nat.ne_of_lt (Nat.lt_succ_of_lt lp)⟩
    · match r2, hz2 with
      | .error e, hz2 => exact hz2
      | .ok (.ret v), hz2 =>
        obtain ⟨rfl, h2, k2, rfl, a1, a2⟩ := hz2
        repeat (any_goals (first | assumption | wp_step))
        exact q _ ⟨h2, k2, rfl, a1, a2⟩
end
def lensetD : D → Rs D
  | .list ds => match strsOf ds with
    | some xs => if xs.length ≤ 4000 then .ok (.int (dd xs).length) else .bad
    | none => .bad
  | _ => .bad
def eLenSet (f : En → Rs D) : En → Rs D := fun ρ => f ρ >>= lensetD
def tLenTx (K : PySem.W.Frag) (ta : TE) : TE := fun σ H Q => ta σ H fun x H1 => ∃ l, ∃ xs : List Str, x = .ref l ∧ SqL K H1 l (xs.map V.str) ∧ xs.length ≤ 4000 ∧ Q (.int (dd xs).length) H1
theorem pe_lenTx {X : Cx} {a : Expr} {ta : TE} {p p2 q pos : Pos} (hc : X.calm = true) (hg : Gl X "len") (hm : X.mg "len" = none) (hg2 : Gl X "set") (hm2 : X.mg "set" = none) (ha : PE X a ta)
    (na : starEach [a] X.env = (false, eval a X.env) :: starEach [] X.env := by rfl) : PE X (.Call (.Name "len" p) [.Call (.Name "set" p2) [a] [] q] [] pos) (tLenTx X.K ta) := by
  refine ⟨fun pins s σ H Q I h => Call_ (ld_blt I hg hm boot_len (PyProof.Rows.callWith_builtin1 (PyProof.Rows.args_cons (Call_ (ld_blt I hg2 hm2 boot_set ?_)) rfl) rfl rfl))⟩
  refine PyProof.Rows.callWith_type1 (PyProof.Rows.args_cons (thn (ha.run pins s σ H _ I h) fun v s1 ⟨x, H1, I1, r1, l, xs, e, hq, sm, q1⟩ => PyProof.Rows.args_nil ?_) na) na rfl
  subst e
  cases r1
  obtain ⟨us, r, pl, _⟩ := I1.list hq
  refine call_texts (I1.ok.hd hc) pl.isList (by simpa using strsAre_of r) sm fun s2 ⟨h2, k2, e, a1, a2⟩ => ?_
  subst e
  refine PyProof.Rows.args_nil ?_
  obtain ⟨o, _, _, _, ho, hex, hd, _, _, _, hf, hn⟩ := a1
  have I2 : Inv X pins σ H1 { s1 with heap := h2, toks := k2 } := I1.kept fun b u e => a2 b u e
  have lim := dd_len xs
  exact call_len_set ho hex hd hf (by rw [hn] <;> omega) ⟨.int (dd xs).length, H1, I2.tok _, ⟨_, by rw [hn]⟩, q1⟩
section
variable {X : Cx} {W : WX} {own : List Nat} {a : Expr} {fa : En → Rs D} {p p2 q pos : Pos}
theorem se_lenset (hc : X.calm = true) (hm : X.mg "len" = none) (hm2 : X.mg "set" = none) (ha : SB X W own a fa) (hg : Gl X "len" := by rfl) (hg2 : Gl X "set" := by rfl)
    (na : starEach [a] X.env = (false, eval a X.env) :: starEach [] X.env := by rfl) : SE X W own (.Call (.Name "len" p) [.Call (.Name "set" p2) [a] [] q] [] pos) (eLenSet fa) := by
  obtain ⟨ta, pa, ra⟩ := ha.ex
  refine ⟨_, pe_lenTx hc hg hm hg2 hm2 pa na, fun H0 Hd0 ρ σ H Hd R Q q => ra _ _ _ _ _ _ R _ ?_⟩
  unfold eLenSet at q
  cases hf : fa ρ with
  | bad => rw [hf] at q; exact q
  | ex c fs => rw [hf] at q; exact q
  | ok d =>
    simp only [hf, ok_bind] at q
    intro v H1 Hd1 s1 x
    unfold lensetD at q
    split at q
    · split at q
      · rename_i ts hs
        split at q
        · rename_i hl
          obtain ⟨b, vs, rfl, h1, h2, _⟩ := x.lst s1.sub
          exact ⟨b, ts, rfl, by rw [← strsOf_ok hs h2]; exact h1, hl, q _ H1 Hd1 s1 (.int _)⟩
        · exact q.elim
      · exact q.elim
    · exact q.elim
end
end Wm

set_option Elab.async false
set_option linter.all false
set_option maxRecDepth 100000
set_option maxHeartbeats 4000000
namespace Wp
open PySem PySem.Spec PyProof.Rows L2 Wm
def f_is_name : En → Out :=
  (sRet (eAn (eIsi "str" (eVar 0)) (eAn (eChain leD leD (eC (.int 1)) (eBlt lenD (aCons (eVar 0) aNil)) (eC (.int 8))) (eBlt allD (aCons (eLc (eIt iSeq (eVar 0)) [1] (gNm 1) cYes (e2 inD (eVar 1) (eC k_LETTERS))) aNil)))))
def g_is_name : List D → Rs D := runF 2 f_is_name
def t_is_piece_1 : En → Out :=
  (sSeq (sIf (tAn (tB (e2 eqD (e2 ixD (eVar 0) (eC (.int 0))) (eC (tx [114, 101, 115, 116])))) (tNo (tB (eVar 1))))
      (sRet (eC (.bool false)))
      sNx)
    (sRet (eAn (e2 inD (e2 ixD (eVar 0) (eC (.int 0))) (eTup (aCons (eC (tx [110, 117, 109, 98, 101, 114])) (aCons (eC (tx [119, 111, 114, 100])) (aCons (eC (tx [103, 97, 112])) (aCons (eC (tx [114, 101, 115, 116])) aNil)))))) (eCall 1 g_is_name (aCons (e2 ixD (eVar 0) (eC (.int 1))) aNil)))))
def t_is_piece_2 : En → Out :=
  (sSeq (sIf (tB (e2 eqD (e2 ixD (eVar 0) (eC (.int 0))) (eC (tx [115, 116, 101, 112]))))
      (sRet (eCall 1 g_is_step (aCons (e2 ixD (eVar 0) (eC (.int 1))) aNil)))
      sNx)
    t_is_piece_1)
def t_is_piece_3 : En → Out :=
  (sSeq (sIf (tB (e2 eqD (eBlt lenD (aCons (eVar 0) aNil)) (eC (.int 4))))
      (sSeq (sSet 2 (eAn (eCall 1 g_is_text (aCons (e2 ixD (eVar 0) (eC (.int 1))) aNil)) (eCall 1 g_is_text (aCons (e2 ixD (eVar 0) (eC (.int 3))) aNil))))
    (sRet (eAn (e2 eqD (e2 ixD (eVar 0) (eC (.int 0))) (eC (tx [112, 97, 114, 116]))) (eAn (eVar 2) (eAn (e2 neD (e2 addD (e2 ixD (eVar 0) (eC (.int 1))) (e2 ixD (eVar 0) (eC (.int 3)))) (eC (tx []))) (eCall 1 g_is_name (aCons (e2 ixD (eVar 0) (eC (.int 2))) aNil)))))))
      sNx)
    t_is_piece_2)
def f_is_piece : En → Out :=
  (sSeq (sIf (tOr' (tNo (tB (eIsi "tuple" (eVar 0)))) (tOr' (tB (e2 notInD (eBlt lenD (aCons (eVar 0) aNil)) (eTup (aCons (eC (.int 2)) (aCons (eC (.int 4)) aNil))))) (tNo (tB (eIsi "str" (e2 ixD (eVar 0) (eC (.int 0))))))))
      (sRet (eC (.bool false)))
      sNx)
    t_is_piece_3)
def g_is_piece : List D → Rs D := runF 3 f_is_piece
def k_MOST_PIECES : D := (.int 12)
def b_is_pattern_1 : En → Out :=
  (sIf (tNo (tB (eCall 2 g_is_piece (aCons (eVar 3) (aCons (e2 eqD (eVar 2) (e2 subD (eVar 1) (eC (.int 1)))) aNil)))))
      (sRet (eC (.bool false)))
      sNx)
def t_is_pattern_2 : En → Out :=
  (sSeq (sSet 4 (eCall 1 g_names_of (aCons (eVar 0) aNil)))
    (sRet (e2 eqD (eLenSet (eVar 4)) (eBlt lenD (aCons (eVar 4) aNil)))))
def t_is_pattern_3 : En → Out :=
  (sSeq (sFor (eIt iEn (e2 ixD (eVar 0) (eC (.int 0)))) (gTp 2 (gsCons (gNm 2) (gsCons (gNm 3) gsNil)))
      b_is_pattern_1)
    t_is_pattern_2)
def t_is_pattern_4 : En → Out :=
  (sSeq (sIf (tOr' (tNo (tB (eIsi "bool" (e2 ixD (eVar 0) (eC (.int 1)))))) (tOr' (tB (e2 gtD (eVar 1) (eC k_MOST_PIECES))) (tAn (tB (e2 eqD (eVar 1) (eC (.int 0)))) (tNo (tB (e2 ixD (eVar 0) (eC (.int 1))))))))
      (sRet (eC (.bool false)))
      sNx)
    t_is_pattern_3)
def t_is_pattern_5 : En → Out :=
  (sSeq (sSet 1 (eBlt lenD (aCons (e2 ixD (eVar 0) (eC (.int 0))) aNil)))
    t_is_pattern_4)
def f_is_pattern : En → Out :=
  (sSeq (sIf (tOr' (tNo (tB (eIsi "tuple" (eVar 0)))) (tOr' (tB (e2 neD (eBlt lenD (aCons (eVar 0) aNil)) (eC (.int 2)))) (tNo (tB (eIsi "tuple" (e2 ixD (eVar 0) (eC (.int 0))))))))
      (sRet (eC (.bool false)))
      sNx)
    t_is_pattern_5)
def g_is_pattern : List D → Rs D := runF 5 f_is_pattern
def k_GAPS : D := (.tuple [(tx [110, 117, 109, 98, 101, 114]), (tx [119, 111, 114, 100]), (tx [114, 101, 115, 116])])
def f_named_gap : En → Out :=
  (sSeq (sUnp (gTp 3 (gsCons (gNm 1) (gsCons (gNm 2) (gsCons (gNm 3) gsNil)))) (eM1 partD (eVar 0) (eC (tx [58]))))
    (sSeq (sIf (tB (e2 eqD (eVar 2) (eC (tx []))))
      (sRet (eTup (aCons (eC (tx [103, 97, 112])) (aCons (eVar 1) aNil))))
      sNx)
    (sSeq (sIf (tB (e2 notInD (eVar 3) (eC k_GAPS)))
      sBad
      sNx)
    (sRet (eTup (aCons (eVar 3) (aCons (eVar 1) aNil)))))))
def g_named_gap : List D → Rs D := runF 4 f_named_gap
def k_FREE : D := (tx [33, 36, 39, 40, 41, 42, 44, 59, 64, 38, 61, 43])
def f_undone_text : En → Out :=
  (sSeq (sSet 1 (eCall 2 g_undone (aCons (eVar 0) (aCons (eC k_FREE) aNil))))
    (sSeq (sIf (tB (e2 isD (eVar 1) (eC .none)))
      sBad
      sNx)
    (sRet (eVar 1))))
def g_undone_text : List D → Rs D := runF 2 f_undone_text
def t_read_piece_1 : En → Out :=
  (sSeq (sIf (tAn (tB (e2 eqD (eVar 1) (eC (tx [])))) (tB (e2 eqD (eVar 6) (eC (tx [])))))
      (sRet (eCall 1 g_named_gap (aCons (eVar 4) aNil)))
      sNx)
    (sRet (eTup (aCons (eC (tx [112, 97, 114, 116])) (aCons (eCall 1 g_undone_text (aCons (eVar 1) aNil)) (aCons (eVar 4) (aCons (eCall 1 g_undone_text (aCons (eVar 6) aNil)) aNil)))))))
def t_read_piece_2 : En → Out :=
  (sSeq (sIf (tB (e2 eqD (eVar 5) (eC (tx []))))
      sBad
      sNx)
    t_read_piece_1)
def t_read_piece_3 : En → Out :=
  (sSeq (sUnp (gTp 3 (gsCons (gNm 4) (gsCons (gNm 5) (gsCons (gNm 6) gsNil)))) (eM1 partD (eVar 3) (eC (tx [125]))))
    t_read_piece_2)
def t_read_piece_4 : En → Out :=
  (sSeq (sIf (tB (e2 eqD (eVar 2) (eC (tx []))))
      (sRet (eTup (aCons (eC (tx [115, 116, 101, 112])) (aCons (eCall 1 g_undone_text (aCons (eVar 0) aNil)) aNil))))
      sNx)
    t_read_piece_3)
def f_read_piece : En → Out :=
  (sSeq (sUnp (gTp 3 (gsCons (gNm 1) (gsCons (gNm 2) (gsCons (gNm 3) gsNil)))) (eM1 partD (eVar 0) (eC (tx [123]))))
    t_read_piece_4)
def g_read_piece : List D → Rs D := runF 7 f_read_piece
def t_read_pattern_1 : En → Out :=
  (sSeq (sIf (tNo (tB (eCall 1 g_is_pattern (aCons (eTup (aCons (eVar 3) (aCons (eVar 2) aNil))) aNil))))
      sBad
      sNx)
    (sRet (eTup (aCons (eVar 3) (aCons (eVar 2) aNil)))))
def t_read_pattern_2 : En → Out :=
  (sSeq (sIf (tB (e2 neD (eVar 0) (eC (tx [47]))))
      (sSet 3 (eBlt tupD (aCons (eLc (eIt iSeq (eM1 splitD (eVar 1) (eC (tx [47])))) [4] (gNm 4) cYes (eCall 1 g_read_piece (aCons (eVar 4) aNil))) aNil)))
      sNx)
    t_read_pattern_1)
def t_read_pattern_3 : En → Out :=
  (sSeq (sIf (tB (eM1 endD (eVar 1) (eC (tx [47]))))
      (sSet 1 (eSl (eVar 1) oNo (oSo (eNeg (eC (.int 1))))))
      sNx)
    t_read_pattern_2)
def t_read_pattern_4 : En → Out :=
  (sSeq (sSet 3 (eTup aNil))
    t_read_pattern_3)
def t_read_pattern_5 : En → Out :=
  (sSeq (sSet 2 (eOr (e2 eqD (eVar 1) (eC (tx []))) (eM1 endD (eVar 1) (eC (tx [47])))))
    t_read_pattern_4)
def t_read_pattern_6 : En → Out :=
  (sSeq (sSet 1 (eSl (eVar 0) (oSo (eC (.int 1))) oNo))
    t_read_pattern_5)
def f_read_pattern : En → Out :=
  (sSeq (sIf (tOr' (tNo (tB (eIsi "str" (eVar 0)))) (tB (e2 neD (eSl (eVar 0) oNo (oSo (eC (.int 1)))) (eC (tx [47])))))
      sBad
      sNx)
    t_read_pattern_6)
def g_read_pattern : List D → Rs D := runF 5 f_read_pattern
def f_show_piece : En → Out :=
  (sSeq (sIf (tB (e2 eqD (e2 ixD (eVar 0) (eC (.int 0))) (eC (tx [115, 116, 101, 112]))))
      (sRet (eCall 1 g_written (aCons (e2 ixD (eVar 0) (eC (.int 1))) aNil)))
      sNx)
    (sSeq (sIf (tB (e2 eqD (e2 ixD (eVar 0) (eC (.int 0))) (eC (tx [112, 97, 114, 116]))))
      (sRet (e2 addD (e2 addD (e2 addD (e2 addD (eCall 1 g_written (aCons (e2 ixD (eVar 0) (eC (.int 1))) aNil)) (eC (tx [123]))) (e2 ixD (eVar 0) (eC (.int 2)))) (eC (tx [125]))) (eCall 1 g_written (aCons (e2 ixD (eVar 0) (eC (.int 3))) aNil))))
      sNx)
    (sSeq (sIf (tB (e2 eqD (e2 ixD (eVar 0) (eC (.int 0))) (eC (tx [103, 97, 112]))))
      (sRet (e2 addD (e2 addD (eC (tx [123])) (e2 ixD (eVar 0) (eC (.int 1)))) (eC (tx [125]))))
      sNx)
    (sRet (e2 addD (e2 addD (e2 addD (e2 addD (eC (tx [123])) (e2 ixD (eVar 0) (eC (.int 1)))) (eC (tx [58]))) (e2 ixD (eVar 0) (eC (.int 0)))) (eC (tx [125])))))))
def g_show_piece : List D → Rs D := runF 1 f_show_piece
def f_show_pattern : En → Out :=
  (sSeq (sSet 1 (e2 addD (eC (tx [47])) (eM1 joinD (eC (tx [47])) (eLc (eIt iSeq (e2 ixD (eVar 0) (eC (.int 0)))) [2] (gNm 2) cYes (eCall 1 g_show_piece (aCons (eVar 2) aNil))))))
    (sSeq (sIf (tAn (tB (e2 ixD (eVar 0) (eC (.int 1)))) (tB (e2 neD (eVar 1) (eC (tx [47])))))
      (sAug 1 addI (eC (tx [47])))
      sNx)
    (sRet (eVar 1))))
def g_show_pattern : List D → Rs D := runF 3 f_show_pattern
end Wp

set_option Elab.async false
set_option linter.all false
set_option maxRecDepth 100000
/-! WmEnT: enumerate over a text. -/
namespace Wm
open PySem PySem.Spec PyProof.Rows L2
section
variable {prog : Program} {w : World} {A : Around}
theorem draws_tx (nh : A.handled = none) (i : Addr) (x : Str) (t : Tok) : Draws prog w A i [i] x.cps.size (fun k v => ∃ c u, x.cps[k]? = some c ∧ v = .str ⟨#[c]⟩ u) (fun k h => h.IsStrIter i (strIterType x) x t k) := by
  unfold strIterType
  cases x.cps.all (· < 128) with
  | true => exact Draws.strAscii nh i x t
  | false => exact Draws.strWide nh i x t
end
theorem itS_obj {h : Heap} {i : Addr} {ty : String} {x : Str} {t : Tok} {k : Nat} (y : h.IsStrIter i ty x t k) : ∃ o, h.get? i = some o ∧ ∀ v, o.data ≠ .cell v :=
  let ⟨o, e, _, d⟩ := y; ⟨o, e, fun v q => by rw [d] at q; cases q⟩
theorem itS_at {h h' : Heap} {i : Addr} {ty : String} {x : Str} {t : Tok} {k : Nat} (y : h.IsStrIter i ty x t k) (f : ∀ o, h.get? i = some o → h'.get? i = some o) : h'.IsStrIter i ty x t k :=
  let ⟨o, e, r⟩ := y; ⟨o, f o e, r⟩
def ItEx (x : Str) : It :=
  ⟨fun i _ => i < x.cps.size,
   fun i H v H' => ∃ T c, v = V.ref T ∧ H T = none ∧ x.cps[i]? = some c ∧ H' = upd H T (.tup [.int (i : Nat), .str ⟨#[c]⟩]),
   fun i _ => x.cps.size ≤ i⟩
theorem turn_Ex {P : Program} {w : World} {K : PySem.W.Frag} {elts : List Expr} {kk : Nat} {tpos : Pos} {x : Str} {tx0 : Tok} {e i1 : Addr} (n1 : e ≠ i1) :
    Turn P w K (.Tuple elts kk tpos) (ItEx x) [e, i1] e (fun i h => ((∃ old, IsEnum h e i1 ((i : Nat) : Int) old) ∧ h.IsStrIter i1 (strIterType x) x tx0 i) ∧ i ≤ x.cps.size) where
  mem := List.mem_cons_self
  obj := fun i h y c hc => by
    obtain ⟨⟨⟨old, y1⟩, y2⟩, _⟩ := y
    simp only [List.mem_cons, List.not_mem_nil, or_false] at hc
    rcases hc with rfl | rfl
    · exact ⟨_, y1, fun v e => nomatch e⟩
    · exact itS_obj y2
  keep := fun i h h' y f => let ⟨⟨⟨old, y1⟩, y2⟩, y3⟩ := y; ⟨⟨⟨old, f e (by simp) _ y1⟩, itS_at y2 (f i1 (by simp))⟩, y3⟩
  item := by
    intro X hP hw hK calm i pins s σ H E I fr y g
    subst hP hw hK
    obtain ⟨⟨⟨old, y1⟩, y2⟩, y3⟩ := y
    have nh : X.A.in1.handled = none := I.ok.hd calm
    have elt : e < s.heap.objs.size := Heap.lt_size y1
    refine wpAny_pyNext_enum_itemD (draws_tx nh i1 x tx0) y1 y2 g n1 (by simp only [List.mem_cons, List.not_mem_nil, or_false]; exact n1) fun v1 h1 tk k1 o1 d1 new1 _ f1 => ?_
    obtain ⟨c, u, k1, rfl⟩ := k1
    refine ⟨_, rfl, wpAny_letOwnedTupleGo_enum (s := { s with heap := h1, toks := tk + 1 }) o1 fun h2 z2 same => ?_⟩
    have new2 : h2.get? s.heap.objs.size = some { cls := .type "tuple", data := .seq #[.int i tk, .str ⟨#[c]⟩ u] } := (same.2 _ (Nat.ne_of_gt elt)).trans new1
    have J : Inv X pins σ (upd H s.heap.objs.size (.tup [.int (i : Nat), .str ⟨#[c]⟩])) { s with heap := h2, toks := tk + 1 } :=
      I.turnedNew (t' := tk + 1) (ch := [e, i1]) (fun b o out q => by
        simp only [List.mem_cons, List.not_mem_nil, or_false, not_or] at out
        exact (same.2 b out.1).trans (f1 b o out.1 out.2 q)) fr (Nat.le_refl _) ⟨by show 2 ≤ sizeLine; decide, [.int i tk, .str ⟨#[c]⟩ u], .cons ⟨_, rfl⟩ (.cons ⟨_, rfl⟩ .nil), ⟨_, new2, rfl, _, rfl⟩⟩
    refine ⟨.ref s.heap.objs.size, _, J, rfl, ⟨_, c, rfl, I.hok.fresh (Nat.le_refl _), k1, rfl⟩, ⟨⟨⟨_, by rw [Int.natCast_add]; exact z2⟩, itS_at d1 fun o q => (same.2 _ (Ne.symm n1)).trans q⟩, g⟩, fun b hb => ?_⟩
    have lt : b < s.heap.objs.size := by
      simp only [List.mem_cons, List.not_mem_nil, or_false] at hb
      rcases hb with rfl | rfl
      · exact elt
      · obtain ⟨_, q, _⟩ := itS_obj y2; exact Heap.lt_size q
    rw [upd_ne (Nat.ne_of_lt lt)]
    exact (fr b hb).1
  done := by
    intro X hP hw hK calm i pins s σ H E I fr y g
    subst hP hw hK
    obtain ⟨⟨⟨old, y1⟩, y2⟩, y3⟩ := y
    have nh : X.A.in1.handled = none := I.ok.hd calm
    obtain rfl : i = x.cps.size := Nat.le_antisymm y3 g
    exact wpAny_pyNext_enum_endD (draws_tx nh i1 x tx0) y1 y2 fun h' f =>
      ⟨rfl, I.turnedL (t' := s.toks) (ch := [e, i1]) (fun b o out q => by
        simp only [List.mem_cons, List.not_mem_nil, or_false, not_or] at out
        exact f b o out.2 q) fr⟩
  self := fun A i s Q E y h => let ⟨⟨⟨_, y1⟩, _⟩, _⟩ := y; wpAny_pyIter_enum y1 h
def iEnumX (K : PySem.W.Frag) (ta : TA) : TI := fun σ H R => ta σ H fun vs H1 => ∃ x, vs = [V.str x] ∧ R (ItEx x) H1
theorem pi_enumX {X : Cx} {e : Expr} {ta : TA} {p pos tpos : Pos} {elts : List Expr} {kk : Nat} (hg : Gl X "enumerate") (hm : X.mg "enumerate" = none) (ha : PA X [e] ta) (hs : starEach [e] X.env = [(false, eval e X.env)] := by rfl) :
    PI X (.Tuple elts kk tpos) (.Call (.Name "enumerate" p) [e] [] pos) (iEnumX X.K ta) := by
  refine ⟨fun pins s σ H R I h => Call_ (ld_blt I hg hm boot_enumerate (callWith_type1 (thn (ha.run pos pins s σ H _ I h) fun ws s1 ⟨vs, H1, I1, rel, x, ev, q⟩ => ?_) hs rfl))⟩
  subst ev
  rcases rel with _ | ⟨r1, _ | _⟩
  obtain ⟨t0, rfl⟩ := r1
  have B := begins_text x t0
  refine callType_new F.called_enumerate (by decide) (F.typeCall_enumerate_1 _) (F.newCall_enumerate_1 _) (fun obj => F.args_object_init_2 obj _) F.entry_enumerate_new (meets_enumB B) ⟨trivial, ?_⟩
  generalize eo : ({ cls := .type (strIterType x), data := .fields #[.str x t0, .int 0 0] } : Obj) = o0
  have fr0 : o0.isFreed = false := by rw [← eo]; rfl
  have z1 : (s1.heap.push o0).objs.size = s1.heap.objs.size + 1 := Heap.size_push ..
  show _ ∧ _
  rw [z1]
  have y1 : IsEnum ((s1.heap.push o0).push { cls := .type "enumerate", data := .fields #[.none, .bool false, .ref s1.heap.objs.size, rawInt 0, .none, .none] }) (s1.heap.objs.size + 1) s1.heap.objs.size 0 .none := by
    rw [← z1]
    exact Heap.get?_push_size _ rfl
  have y2 : ((s1.heap.push o0).push { cls := .type "enumerate", data := .fields #[.none, .bool false, .ref s1.heap.objs.size, rawInt 0, .none, .none] }).get? s1.heap.objs.size = some o0 := Heap.get?_push_of_some _ (Heap.get?_push_size _ fr0)
  refine ⟨⟨_, y1, rfl⟩, wpAny_pyIter_enum y1 ?_⟩
  refine ⟨s1.heap.objs.size + 1, [s1.heap.objs.size + 1, s1.heap.objs.size], _, _, H1, rfl, I1.kept (t' := s1.toks) fun c o e => Heap.get?_push_of_some _ (Heap.get?_push_of_some _ e), turn_Ex (x := x) (tx0 := t0) (Nat.succ_ne_self _), ⟨⟨⟨_, y1⟩, ⟨o0, y2, by rw [← eo], by rw [← eo]; rfl⟩⟩, Nat.zero_le _⟩, fun c hc => ?_, q⟩
  have le : s1.heap.objs.size ≤ c := by
    simp only [List.mem_cons, List.not_mem_nil, or_false] at hc
    rcases hc with rfl | rfl
    · exact Nat.le_add_right _ 1
    · exact Nat.le_refl _
  exact I1.fpOk le (I1.hok.fresh le)
def iEnS : D → Rs (List D)
  | .str a => .ok (enumFrom 0 (signsD a))
  | _ => .bad
theorem walks_Ex {K : PySem.W.Frag} {x : Str} {Hd1 : Hp} : Walks K (ItEx x) (enumFrom 0 (signsD x)) Hd1 := fun H Hd u s i => by
  have ln : (enumFrom 0 (signsD x)).length = x.cps.size := by rw [enum_len]; simp [signsD]
  refine ⟨fun d hd => ?_, fun hi => by rw [ln] at hi; exact hi⟩
  have li : i < x.cps.size := by rw [← ln]; exact (List.getElem?_eq_some_iff.mp hd).1
  obtain ⟨e', he, rfl⟩ := enum_get hd
  refine ⟨li, fun v H' y => ?_⟩
  obtain ⟨T, c, rfl, hT, hc, rfl⟩ := y
  unfold signsD at he
  rw [List.getElem?_map, Array.getElem?_toList, hc] at he
  cases he
  rw [Nat.zero_add]
  exact pair_step s hT (.int _) (.str _)
section
variable {X : Cx} {W : WX} {own : List Nat} {e e2 : Expr} {f f2 : En → Rs D} {p pos tpos : Pos} {elts : List Expr} {kk : Nat}
theorem si_enT (h : SE X W own e f) (hm : X.mg "enumerate" = none) (hg : Gl X "enumerate" := by rfl) (hs : starEach [e] X.env = [(false, eval e X.env)] := by rfl) (hs' : starEach [e] X.env = (false, eval e X.env) :: starEach [] X.env := by rfl) :
    SI X W own (.Tuple elts kk tpos) (.Call (.Name "enumerate" p) [e] [] pos) (eIt iEnS f) := by
  obtain ⟨t, pp, r⟩ := h.ex
  refine ⟨_, pi_enumX hg hm (pa_cons pp pa_nil hs') hs, fun H0 Hd0 ρ σ H Hd R Q q => ?_⟩
  refine r _ _ _ _ _ _ R _ ?_
  unfold eIt at q
  cases hf : f ρ with
  | bad => rw [hf] at q; exact q
  | ex c fs => rw [hf] at q; exact q
  | ok d =>
    rw [hf] at q
    intro v H1 Hd1 s1 x
    have q1 : PoI X W σ H1 Hd1 (iEnS d) Q := PoI.step q s1
    cases x with
    | str a => exact ⟨a, rfl, q1 _ H1 Hd1 (.refl s1.sub) walks_Ex⟩
    | _ => exact q1.elim
end
@[simp] theorem iEnS_s (a : List Nat) : iEnS (tx a) = .ok (enumFrom 0 (a.map fun c => tx [c])) := nrfl rfl
end Wm

set_option Elab.async false
set_option linter.all false
set_option maxRecDepth 100000
set_option maxHeartbeats 4000000
namespace Wp
open PySem PySem.Spec PyProof.Rows L2 Wm
def f_u_law_pair : En → Out :=
  (sSeq (sSet 2 (eC (tx [48, 49, 50, 51, 52, 53, 54, 55, 56, 57, 97, 98, 99, 100, 101, 102])))
    (sSeq (sIf (tB (eVar 1))
      (sSet 2 (eC (tx [48, 49, 50, 51, 52, 53, 54, 55, 56, 57, 65, 66, 67, 68, 69, 70])))
      sNx)
    (sRet (e2 addD (e2 addD (eC (tx [126])) (e2 ixD (eVar 2) (e2 fdivD (eBlt ordD (aCons (eVar 0) aNil)) (eC (.int 16))))) (e2 ixD (eVar 2) (e2 modD (eBlt ordD (aCons (eVar 0) aNil)) (eC (.int 16))))))))
def g_u_law_pair : List D → Rs D := runF 3 f_u_law_pair
def b_u_law_written_1 : En → Out :=
  (sSeq (sSet 6 (eC (.int 0)))
    (sSeq (sIf (tB (e2 neD (eVar 1) (eLst aNil)))
      (sSet 6 (e2 fdivD (e2 ixD (eVar 1) (e2 modD (eVar 4) (eBlt lenD (aCons (eVar 1) aNil)))) (e2 addD (eVar 4) (eC (.int 1)))))
      sNx)
    (sIf (tOr' (tAn (tB (e2 inD (eVar 5) (eVar 2))) (tB (e2 ltD (e2 modD (eVar 6) (eC (.int 4))) (eC (.int 2))))) (tAn (tB (e2 inD (eVar 5) (eC (tx [33, 36, 39, 40, 41, 42, 44, 59, 64, 38, 61, 43])))) (tB (e2 eqD (e2 modD (eVar 6) (eC (.int 4))) (eC (.int 1))))))
      (sSet 3 (e2 addD (eVar 3) (eVar 5)))
      (sSet 3 (e2 addD (eVar 3) (eCall 2 g_u_law_pair (aCons (eVar 5) (aCons (e2 eqD (e2 modD (e2 fdivD (eVar 6) (eC (.int 4))) (eC (.int 2))) (eC (.int 1))) aNil))))))))
def f_u_law_written : En → Out :=
  (sSeq (sSet 2 (eC (tx [97, 98, 99, 100, 101, 102, 103, 104, 105, 106, 107, 108, 109, 110, 111, 112, 113, 114, 115, 116, 117, 118, 119, 120, 121, 122, 65, 66, 67, 68, 69, 70, 71, 72, 73, 74, 75, 76, 77, 78, 79, 80, 81, 82, 83, 84, 85, 86, 87, 88, 89, 90, 48, 49, 50, 51, 52, 53, 54, 55, 56, 57, 45, 95, 46])))
    (sSeq (sSet 3 (eC (tx [])))
    (sSeq (sFor (eIt iEnS (eVar 0)) (gTp 2 (gsCons (gNm 4) (gsCons (gNm 5) gsNil)))
      b_u_law_written_1)
    (sRet (eVar 3)))))
def g_u_law_written : List D → Rs D := runF 7 f_u_law_written
def f__law_piece_text : En → Out :=
  (sSeq (sIf (tB (e2 eqD (e2 ixD (eVar 0) (eC (.int 0))) (eC (tx [115, 116, 101, 112]))))
      (sRet (eCall 2 g_u_law_written (aCons (e2 ixD (eVar 0) (eC (.int 1))) (aCons (eVar 1) aNil))))
      sNx)
    (sSeq (sIf (tB (e2 eqD (e2 ixD (eVar 0) (eC (.int 0))) (eC (tx [112, 97, 114, 116]))))
      (sRet (e2 addD (e2 addD (e2 addD (e2 addD (eCall 2 g_u_law_written (aCons (e2 ixD (eVar 0) (eC (.int 1))) (aCons (eVar 1) aNil))) (eC (tx [123]))) (e2 ixD (eVar 0) (eC (.int 2)))) (eC (tx [125]))) (eCall 2 g_u_law_written (aCons (e2 ixD (eVar 0) (eC (.int 3))) (aCons (eVar 1) aNil)))))
      sNx)
    (sSeq (sIf (tB (e2 eqD (e2 ixD (eVar 0) (eC (.int 0))) (eC (tx [103, 97, 112]))))
      (sRet (e2 addD (e2 addD (eC (tx [123])) (e2 ixD (eVar 0) (eC (.int 1)))) (eC (tx [125]))))
      sNx)
    (sRet (e2 addD (e2 addD (e2 addD (e2 addD (eC (tx [123])) (e2 ixD (eVar 0) (eC (.int 1)))) (eC (tx [58]))) (e2 ixD (eVar 0) (eC (.int 0)))) (eC (tx [125])))))))
def g__law_piece_text : List D → Rs D := runF 2 f__law_piece_text
def f__law_pattern_text : En → Out :=
  (sSeq (sSet 2 (e2 addD (eC (tx [47])) (eM1 joinD (eC (tx [47])) (eLc (eIt iSeq (e2 ixD (eVar 0) (eC (.int 0)))) [3] (gNm 3) cYes (eCall 2 g__law_piece_text (aCons (eVar 3) (aCons (eVar 1) aNil)))))))
    (sSeq (sIf (tAn (tB (e2 ixD (eVar 0) (eC (.int 1)))) (tB (e2 neD (e2 ixD (eVar 0) (eC (.int 0))) (eTup aNil))))
      (sSet 2 (e2 addD (eVar 2) (eC (tx [47]))))
      sNx)
    (sRet (eVar 2))))
def g__law_pattern_text : List D → Rs D := runF 4 f__law_pattern_text
end Wp

set_option Elab.async false
set_option linter.all false
set_option maxRecDepth 100000
set_option maxHeartbeats 4000000
namespace Wp
open PySem PySem.Spec PyProof.Rows L2 Wm
/-! ### is_pattern of pieces -/
@[simp] theorem at_eLenSet (f : En → Rs D) (ρ : En) : eLenSet f ρ = f ρ >>= lensetD := nrfl rfl
def S0 (l : List Nat) : Str := ⟨l.toArray⟩
theorem S0_inj {a b : Tx} (h : S0 a = S0 b) : a = b := by
  have := congrArg (fun x : Str => x.cps.toList) h
  simpa [S0] using this
theorem map_nodup {α β : Type} (f : α → β) (hf : ∀ a b, f a = f b → a = b) : ∀ l : List α, (l.map f).Nodup ↔ l.Nodup
  | [] => by simp
  | a :: l => by
    rw [List.map_cons, List.nodup_cons, List.nodup_cons, map_nodup f hf l]
    constructor
    · rintro ⟨h1, h2⟩; exact ⟨fun m => h1 (List.mem_map.mpr ⟨a, m, rfl⟩), h2⟩
    · rintro ⟨h1, h2⟩
      refine ⟨fun m => ?_, h2⟩
      obtain ⟨b, hb, e⟩ := List.mem_map.mp m
      exact h1 (hf _ _ e ▸ hb)
theorem lenset_tx (l : List Tx) (h : l.length ≤ 1000) : lensetD (.list (l.map tx)) = .ok (.int (dd (l.map S0)).length) := by
  have e : strsOf (l.map tx) = some (l.map S0) := strsOf_tx l
  show (match strsOf (l.map tx) with | some xs => if xs.length ≤ 4000 then Rs.ok (PyData.int (dd xs).length) else .bad | none => .bad) = _
  rw [e]
  simp only [List.length_map]
  rw [if_pos (by omega)]
theorem dd_tx (l : List Tx) : decide (((dd (l.map S0)).length : Int) = (l.length : Int)) = decide l.Nodup := by
  rw [decide_eq_decide]
  have h := dd_iff (l.map S0)
  rw [List.length_map, map_nodup S0 (fun _ _ => S0_inj)] at h
  rw [← h]
  omega
def isNm (n : Tx) : Bool := decide (1 ≤ n.length) && (decide (n.length ≤ 8) && n.all islow)
theorem len8 (s : Tx) (ρ : En) (h : okT s) : eChain leD leD (eC (.int 1)) (eBlt lenD (aCons (eVar 0) aNil)) (eC (.int 8)) (some (tx s) :: ρ) = .ok (.bool (decide (1 ≤ s.length) && decide (s.length ≤ 8))) := by
  have hl := h.2
  have e1 : decide ((1 : Int) ≤ (s.length : Int)) = decide (1 ≤ s.length) := by rw [decide_eq_decide]; omega
  have e2 : decide ((s.length : Int) ≤ 8) = decide (s.length ≤ 8) := by rw [decide_eq_decide]; omega
  simp only [at_eChain, ch1_ok, at_eBlt, at_aCons, at_aNil, eVar_0, kCons_ok, kCons'_ok, ok_bind, lenD_s, at_eC]
  have f1 : leD (.int 1) (.int (s.length : Int)) = .ok (.bool (decide ((1 : Int) ≤ (s.length : Int)))) := rfl
  have f2 : leD (.int (s.length : Int)) (.int 8) = .ok (.bool (decide ((s.length : Int) ≤ 8))) := rfl
  rw [if_pos (by omega), ch2_ok, f1, ch3_ok, at_eC, k2'_ok, f2, e1, e2]
  cases decide (1 ≤ s.length) <;> simp
theorem isname_ok (n : Tx) (h : okT n) : g_is_name [tx n] = .ok (.bool (isNm n)) := by
  have h1 := len8 n [none] h
  have h2 := all_signs (k := k_LETTERS) rfl n h low_in none
  have is : isiD "str" (tx n) = .ok (.bool true) := rfl
  unfold g_is_name f_is_name
  rw [runF_eq]
  simp only [List.map_cons, List.map_nil, List.length_cons, List.length_nil, List.replicate, List.cons_append, List.nil_append, Nat.reduceAdd, Nat.reduceSub]
  simp only [at_sRet, at_eAn, at_eIsi, eVar_0, ok_bind, is, h1, anK_b, h2]
  unfold isNm
  cases decide (1 ≤ n.length) <;> cases decide (n.length ≤ 8) <;> simp
def isPc (p : Pc) (last : Bool) : Bool := match p with
  | .step t => t.all sgnB && (decide (t ≠ []) && !isdot t)
  | .part h n t => (h.all sgnB && t.all sgnB) && (decide (h ++ t ≠ []) && isNm n)
  | .rest n => last && isNm n
  | .num n => isNm n
  | .word n => isNm n
  | .gap n => isNm n
theorem ispiece_ok (p : Pc) (last : Bool) (h : okPc p) : g_is_piece [p.d, .bool last] = .ok (.bool (isPc p last)) := by
  have it : ∀ l : List D, isiD "tuple" (.tuple l) = .ok (.bool true) := fun _ => rfl
  have is : ∀ l : Tx, isiD "str" (tx l) = .ok (.bool true) := fun _ => rfl
  have in2 : notInD (.int 2) (.tuple [.int 2, .int 4]) = .ok (.bool false) := rfl
  have in4 : notInD (.int 4) (.tuple [.int 2, .int 4]) = .ok (.bool false) := rfl
  have ik : ∀ k ∈ [kNum, kWord, kGap, kRest], inD (tx k) (.tuple [tx kNum, tx kWord, tx kGap, tx kRest]) = .ok (.bool true) := by
    intro k hk
    have : k = kNum ∨ k = kWord ∨ k = kGap ∨ k = kRest := by simpa using hk
    rcases this with rfl | rfl | rfl | rfl <;> rfl
  unfold kNum kWord kGap kRest at ik
  unfold g_is_piece f_is_piece t_is_piece_3 t_is_piece_2 t_is_piece_1
  rw [runF_eq]
  cases p with
  | step t =>
    have s := step_ok' t h
    simp [Pc.d, it, is, in2, kStep, s, isPc]
  | part a n t =>
    have s1 := text_ok' a h.1
    have s2 := text_ok' t h.2.2
    have s3 := isname_ok n h.2.1
    have l1 := h.1.2
    have l2 := h.2.2.2
    have ne : neD (tx (a ++ t)) (tx []) = .ok (.bool (!decide (a ++ t = []))) := neD_s _ _
    have ad : addD (tx a) (tx t) = .ok (tx (a ++ t)) := by rw [addD_s, if_pos (by omega)]
    have E : ∀ o : Option D, eAn (eCall 1 g_is_text (aCons (e2 ixD (eVar 0) (eC (.int 1))) aNil)) (eCall 1 g_is_text (aCons (e2 ixD (eVar 0) (eC (.int 3))) aNil)) [some (Pc.d (.part a n t)), some (.bool last), o] = .ok (.bool (a.all sgnB && t.all sgnB)) := fun o => by
      cases ha : a.all sgnB <;> simp [Pc.d, s1, s2, ha]
    have F : eAn (e2 neD (e2 addD (e2 ixD (eVar 0) (eC (.int 1))) (e2 ixD (eVar 0) (eC (.int 3)))) (eC (tx []))) (eCall 1 g_is_name (aCons (e2 ixD (eVar 0) (eC (.int 2))) aNil)) [some (Pc.d (.part a n t)), some (.bool last), some (.bool (a.all sgnB && t.all sgnB))] = .ok (.bool (decide (a ++ t ≠ []) && isNm n)) := by
      generalize a ++ t = u at ne ad
      by_cases hu : u = [] <;> simp [Pc.d, ad, ne, s3, hu]
    have c0 : (tOr' (tNo (tB (eIsi "tuple" (eVar 0)))) (tOr' (tB (e2 notInD (eBlt lenD (aCons (eVar 0) aNil)) (eTup (aCons (eC (.int 2)) (aCons (eC (.int 4)) aNil))))) (tNo (tB (eIsi "str" (e2 ixD (eVar 0) (eC (.int 0)))))))) [some (Pc.d (.part a n t)), some (.bool last), none] = .ok false := by
      simp [Pc.d, it, is, in4]
    have c1 : (tB (e2 eqD (eBlt lenD (aCons (eVar 0) aNil)) (eC (.int 4)))) [some (Pc.d (.part a n t)), some (.bool last), none] = .ok true := by
      simp [Pc.d]
    have c2 : (e2 eqD (e2 ixD (eVar 0) (eC (.int 0))) (eC (tx [112, 97, 114, 116]))) [some (Pc.d (.part a n t)), some (.bool last), some (.bool (a.all sgnB && t.all sgnB))] = .ok (.bool true) := by
      simp [Pc.d, kPart]
    simp only [List.map_cons, List.map_nil, List.length_cons, List.length_nil, List.replicate, List.cons_append, List.nil_append, Nat.reduceAdd, Nat.reduceSub]
    rw [at_sSeq, at_sIf, c0, oIf_ok, if_neg (by decide), at_sNx, oSeq_nx, at_sSeq, at_sIf, c1, oIf_ok, if_pos rfl, at_sSeq, at_sSet, E, oSet_ok, oSeq_nx]
    simp only [List.set_cons_succ, List.set_cons_zero]
    rw [at_sRet, at_eAn, c2, anK_b, if_pos rfl, at_eAn]
    simp only [eVar_2, eVar_1, eVar_0]
    rw [anK_b, F]
    show _ = Rs.ok (PyData.bool ((a.all sgnB && t.all sgnB) && (decide (a ++ t ≠ []) && isNm n)))
    generalize (a.all sgnB && t.all sgnB) = b
    cases b <;> rfl
  | num n => have s := isname_ok n h; simp [Pc.d, it, is, in2, kNum, s, isPc, ik]
  | word n => have s := isname_ok n h; simp [Pc.d, it, is, in2, kWord, s, isPc, ik]
  | gap n => have s := isname_ok n h; simp [Pc.d, it, is, in2, kGap, s, isPc, ik]
  | rest n => have s := isname_ok n h; cases last <;> simp [Pc.d, it, is, in2, kRest, s, isPc, ik]
/-- each piece may be one, the last one perhaps a rest -/
def pcsOk : List Pc → Bool
  | [] => true
  | [p] => isPc p true
  | p :: q :: r => isPc p false && pcsOk (q :: r)
theorem ispat_loop (o0 : Option D) (n : Nat) : ∀ (ps : List Pc) (lo : Nat) (o2 o3 o4 : Option D), lo + ps.length = n → n ≤ 1000 → (∀ p ∈ ps, okPc p) →
    ∃ p2 p3, forL (gTp 2 (gsCons (gNm 2) (gsCons (gNm 3) gsNil))) b_is_pattern_1 (enumFrom lo (ps.map Pc.d)) [o0, some (.int n), o2, o3, o4] = if pcsOk ps = true then .nx [o0, some (.int n), p2, p3, o4] else .rt (.bool false)
  | [], lo, o2, o3, o4, _, _, _ => ⟨o2, o3, by rw [show pcsOk [] = true from rfl, if_pos rfl]; rfl⟩
  | p :: ps, lo, o2, o3, o4, e, hn, h => by
    have tg : gTp 2 (gsCons (gNm 2) (gsCons (gNm 3) gsNil)) (.tuple [.int lo, p.d]) [o0, some (.int n), o2, o3, o4] = .ok [o0, some (.int n), some (.int lo), some p.d, o4] := rfl
    have pk := ispiece_ok p (decide ((lo : Int) = (n : Int) - 1)) (h p (by simp))
    have turn : b_is_pattern_1 [o0, some (.int n), some (.int lo), some p.d, o4] = if isPc p (decide ((lo : Int) = (n : Int) - 1)) = true then .nx [o0, some (.int n), some (.int lo), some p.d, o4] else .rt (.bool false) := by
      unfold b_is_pattern_1
      simp only [at_sIf, at_tNo, at_tB, at_eCall, at_aCons, at_aNil, at_e2, eVar_0, eVar_1, eVar_2, eVar_3, k2_ok, k2'_ok, at_eC, subD_i, eqD_i, kCons_ok, kCons'_ok, ok_bind, kCall_ok, List.length_cons, List.length_nil, Nat.reduceAdd, if_true, pk, asB_b, kNo_ok, oIf_ok]
      cases isPc p (decide ((lo : Int) = (n : Int) - 1)) <;> simp
    rw [List.map_cons, enumFrom, forL_cons, tg, oStore_ok, turn]
    cases ps with
    | nil =>
      have hd : decide ((lo : Int) = (n : Int) - 1) = true := by
        simp only [List.length_cons, List.length_nil] at e
        rw [decide_eq_true_eq]; omega
      rw [hd]
      refine ⟨some (.int lo), some p.d, ?_⟩
      show _ = if isPc p true = true then _ else _
      cases isPc p true <;> simp
      rfl
    | cons q r =>
      have hd : decide ((lo : Int) = (n : Int) - 1) = false := by
        simp only [List.length_cons] at e
        rw [decide_eq_false_iff_not]; omega
      rw [hd]
      obtain ⟨p2, p3, ih⟩ := ispat_loop o0 n (q :: r) (lo + 1) (some (.int lo)) (some p.d) o4 (by simp only [List.length_cons] at e ⊢; omega) hn (fun x hx => h x (List.mem_cons_of_mem _ hx))
      refine ⟨p2, p3, ?_⟩
      show _ = if (isPc p false && pcsOk (q :: r)) = true then _ else _
      cases isPc p false
      · simp
      · simp only [if_true, oLoop_nx, Bool.true_and]
        exact ih
def isPat (p : Pat) : Bool := decide (p.ps.length ≤ 12) && ((decide (p.ps ≠ []) || p.e) && (pcsOk p.ps && decide (gapNames p.ps).Nodup))
theorem ispattern_ok (p : Pat) (hl : p.ps.length ≤ 900) (h : ∀ q ∈ p.ps, okPc q) : g_is_pattern [p.d] = .ok (.bool (isPat p)) := by
  have it : ∀ l : List D, isiD "tuple" (.tuple l) = .ok (.bool true) := fun _ => rfl
  have ib : isiD "bool" (.bool p.e) = .ok (.bool true) := rfl
  have ip : isiD "tuple" (pcs p.ps) = .ok (.bool true) := rfl
  have en : iEn (pcs p.ps) = .ok (enumFrom 0 (p.ps.map Pc.d)) := rfl
  have ln : lenD [p.d] = .ok (.int 2) := rfl
  have ipd : isiD "tuple" p.d = .ok (.bool true) := rfl
  have nm := names_of_ok p (by omega)
  have gl : (gapNames p.ps).length ≤ 1000 := by
    have : (gapNames p.ps).length ≤ p.ps.length := by unfold gapNames; rw [List.length_map]; exact List.length_filter_le ..
    omega
  have ls := lenset_tx (gapNames p.ps) gl
  have dt := dd_tx (gapNames p.ps)
  obtain ⟨p2, p3, lp⟩ := ispat_loop (some p.d) p.ps.length p.ps 0 none none none (by omega) (by omega) h
  have gt : gtD (.int (p.ps.length : Int)) k_MOST_PIECES = .ok (.bool (decide (12 < p.ps.length))) := by
    show Rs.ok (PyData.bool (decide ((12 : Int) < (p.ps.length : Int)))) = _
    congr 2; rw [decide_eq_decide]; omega
  have z0 : decide ((p.ps.length : Int) = 0) = decide (p.ps = []) := by rw [decide_eq_decide, ← List.length_eq_zero_iff]; omega
  unfold g_is_pattern f_is_pattern t_is_pattern_5 t_is_pattern_4 t_is_pattern_3 t_is_pattern_2
  rw [runF_eq]
  simp only [List.map_cons, List.map_nil, List.length_cons, List.length_nil, List.replicate, List.cons_append, List.nil_append, Nat.reduceAdd, Nat.reduceSub, at_sSeq, at_sIf, at_tOr, at_tNo, at_tB, at_eIsi, at_e2, at_eBlt, at_aCons, at_aNil, at_eC, eVar_0, eVar_1, eVar_2, eVar_3, eVar_4, ok_bind, ipd, asB_b, kNo_ok, kOr_ok, kCons_ok, kCons'_ok, ln, k2_ok, k2'_ok, neD_i, ix_pat0, ix_pat1, ip, len_pcs, at_sSet, oSet_ok, oSeq_nx, oIf_ok, ib, gt, at_tAn, kAn_ok, eqD_i, z0, List.set_cons_zero, List.set_cons_succ, at_sNx]
  simp only [Bool.not_true, Bool.false_eq_true, if_false, decide_true, oSeq_nx, oIf_ok, at_sNx, List.map_cons, List.map_nil, List.length_cons, List.length_nil, List.replicate, List.cons_append, List.nil_append, Nat.reduceAdd, Nat.reduceSub, at_sSeq, at_sIf, at_tOr, at_tNo, at_tB, at_eIsi, at_e2, at_eBlt, at_aCons, at_aNil, at_eC, eVar_0, eVar_1, eVar_2, eVar_3, eVar_4, ok_bind, ipd, asB_b, kNo_ok, kOr_ok, kCons_ok, kCons'_ok, ln, k2_ok, k2'_ok, neD_i, ix_pat0, ix_pat1, ip, len_pcs, at_sSet, oSet_ok, ib, gt, at_tAn, kAn_ok, eqD_i, z0, List.set_cons_zero, List.set_cons_succ]
  unfold isPat
  by_cases h12 : p.ps.length ≤ 12
  · have n12 : decide (12 < p.ps.length) = false := by rw [decide_eq_false_iff_not]; omega
    rw [n12, decide_eq_true h12]
    simp only [Bool.false_eq_true, if_false, Bool.true_and]
    have fin : oSeq (oFor (iEn (pcs p.ps)) (gTp 2 (gsCons (gNm 2) (gsCons (gNm 3) gsNil))) b_is_pattern_1 [some p.d, some (.int p.ps.length), none, none, none]) (sSeq (sSet 4 (eCall 1 g_names_of (aCons (eVar 0) aNil))) (sRet (e2 eqD (eLenSet (eVar 4)) (eBlt lenD (aCons (eVar 4) aNil))))) = .rt (.bool (pcsOk p.ps && decide (gapNames p.ps).Nodup)) := by
      rw [en, oFor_ok, lp]
      cases pcsOk p.ps
      · simp
      · simp [nm, ls]
        exact of_decide_eq_true (by simpa using dt)
    by_cases he : p.ps = []
    · cases hpe : p.e
      · simp [he, hpe]
      · simp [he, hpe] at fin ⊢
        simp [fin]
    · simp [he]
      rw [fin]
      simp [he]
  · have n12 : decide (12 < p.ps.length) = true := by rw [decide_eq_true_iff]; omega
    rw [n12, decide_eq_false h12]
    simp
end Wp

set_option Elab.async false
set_option linter.all false
set_option maxRecDepth 100000
set_option maxHeartbeats 4000000
namespace Wp
open PySem PySem.Spec PyProof.Rows L2 Wm
/-! ### patterns read -/
/-- what stands ahead of the first s, what behind it -/
def parF (s : Nat) : Tx → Option (Tx × Tx)
  | [] => none
  | c :: r => if c = s then some ([], r) else (parF s r).map fun q => (c :: q.1, q.2)
theorem parF_none {s : Nat} : ∀ {l : Tx}, parF s l = none → s ∉ l
  | [], _ => by simp
  | c :: r, h => by
    unfold parF at h
    split at h
    · cases h
    · rename_i hc
      rw [Option.map_eq_none_iff] at h
      simp only [List.mem_cons, not_or]
      exact ⟨fun z => hc z.symm, parF_none h⟩
theorem parF_some {s : Nat} : ∀ {l : Tx} {p q : Tx}, parF s l = some (p, q) → l = p ++ s :: q ∧ s ∉ p
  | [], p, q, h => by cases h
  | c :: r, p, q, h => by
    unfold parF at h
    split at h
    · rename_i hc
      cases h
      exact ⟨by rw [hc]; rfl, by simp⟩
    · rename_i hc
      rw [Option.map_eq_some_iff] at h
      obtain ⟨⟨p', q'⟩, h1, h2⟩ := h
      cases h2
      obtain ⟨e1, e2⟩ := parF_some h1
      refine ⟨by rw [e1]; rfl, ?_⟩
      simp only [List.mem_cons, not_or]
      exact ⟨fun z => hc z.symm, e2⟩
theorem parF_not {s : Nat} : ∀ {l : Tx}, s ∉ l → parF s l = none
  | [], _ => rfl
  | c :: r, h => by
    simp only [List.mem_cons, not_or] at h
    unfold parF
    rw [if_neg (fun z => h.1 z.symm), parF_not h.2]
    rfl
theorem parF_app {s : Nat} : ∀ {p : Tx} (q : Tx), s ∉ p → parF s (p ++ s :: q) = some (p, q)
  | [], q, _ => by simp [parF]
  | c :: p, q, h => by
    simp only [List.mem_cons, not_or] at h
    show parF s (c :: (p ++ s :: q)) = _
    unfold parF
    rw [if_neg (fun z => h.1 z.symm), parF_app q h.2]
    rfl
def parD (s : Nat) (l : Tx) : D := match parF s l with
  | some (p, q) => .tuple [tx p, tx [s], tx q]
  | none => .tuple [tx l, tx [], tx []]
theorem part_ok (s : Nat) (l : Tx) (h : l.length ≤ 1000) : partD ⟨l.toArray⟩ (tx [s]) = .ok (parD s l) := by
  unfold parD
  cases hp : parF s l with
  | none => exact partD_none (by omega) (parF_none hp)
  | some pq =>
    obtain ⟨p, q⟩ := pq
    obtain ⟨e1, e2⟩ := parF_some hp
    exact partD_some (by omega) e1 e2
theorem okT_app {a b : Tx} : okT (a ++ b) → okT a ∧ okT b := fun h =>
  ⟨⟨fun c hc => h.1 c (List.mem_append_left _ hc), by have := h.2; rw [List.length_append] at this; omega⟩, ⟨fun c hc => h.1 c (List.mem_append_right _ hc), by have := h.2; rw [List.length_append] at this; omega⟩⟩
theorem okT_tail {c : Nat} {r : Tx} (h : okT (c :: r)) : okT r := (okT_app (a := [c]) h).2
theorem parF_okT {s : Nat} {l p q : Tx} (h : okT l) (e : parF s l = some (p, q)) : okT p ∧ okT q := by
  obtain ⟨e1, _⟩ := parF_some e
  subst e1
  have := okT_app h
  exact ⟨this.1, okT_tail this.2⟩
/-- signs free in steps -/
def FR : Tx := [33, 36, 39, 40, 41, 42, 44, 59, 64, 38, 61, 43]
theorem und_okT (fr : Tx) : ∀ (n : Nat) (l a : Tx), l.length ≤ n → (∀ c ∈ l, c < 128) → und fr l = some a → (∀ c ∈ a, c < 128) ∧ a.length ≤ l.length
  | _, [], a, _, _, e => by rw [und_nil] at e; cases e; simp
  | 0, c :: r, a, hn, _, _ => by simp at hn
  | n + 1, c :: r, a, hn, h, e => by
    simp only [List.length_cons] at hn
    by_cases hc : c = 126
    · subst hc
      match r, e, hn, h with
      | [], e, _, _ => simp [und] at e
      | [x], e, _, _ => simp [und] at e
      | x :: y :: r', e, hn, h =>
        rw [und_pair] at e
        cases hs : sgn x y with
        | none => rw [hs] at e; cases e
        | some s =>
          rw [hs] at e
          simp only [Option.map_eq_some_iff] at e
          obtain ⟨a', e1, rfl⟩ := e
          obtain ⟨h1, h2⟩ := und_okT fr n r' a' (by simp only [List.length_cons] at hn; omega) (fun c hc => h c (by simp [hc])) e1
          refine ⟨fun c hc => ?_, by simp only [List.length_cons]; omega⟩
          rcases List.mem_cons.mp hc with rfl | hc
          · exact T128 _ (sgn_T hs)
          · exact h1 c hc
    · rw [und_sign fr hc] at e
      split at e
      · simp only [Option.map_eq_some_iff] at e
        obtain ⟨a', e1, rfl⟩ := e
        obtain ⟨h1, h2⟩ := und_okT fr n r a' (by omega) (fun c hc => h c (by simp [hc])) e1
        refine ⟨fun x hx => ?_, by simp only [List.length_cons]; omega⟩
        rcases List.mem_cons.mp hx with rfl | hx
        · exact h _ (by simp)
        · exact h1 x hx
      · cases e
theorem und_t {fr l a : Tx} (h : okT l) (e : und fr l = some a) : okT a := by
  obtain ⟨h1, h2⟩ := und_okT fr _ l a (Nat.le_refl _) h.1 e
  exact ⟨h1, Nat.le_trans h2 h.2⟩
def rdGap (s : Tx) : Option Pc := match parF 58 s with
  | none => some (.gap s)
  | some (n, w) => if w = kNum then some (.num n) else if w = kWord then some (.word n) else if w = kRest then some (.rest n) else none
def rdPc (s : Tx) : Option Pc := match parF 123 s with
  | none => (und FR s).map .step
  | some (h, r) => match parF 125 r with
    | none => none
    | some (n, t) => if h = [] ∧ t = [] then rdGap n else match und FR h, und FR t with
      | some a, some b => some (.part a n b)
      | _, _ => none
theorem rdGap_t {s : Tx} {p : Pc} (h : okT s) (e : rdGap s = some p) : okPc p := by
  unfold rdGap at e
  cases hp : parF 58 s with
  | none => rw [hp] at e; cases e; exact h
  | some q =>
    obtain ⟨n, w⟩ := q
    have := (parF_okT h hp).1
    simp only [hp] at e
    split at e
    · cases e; exact this
    · split at e
      · cases e; exact this
      · split at e
        · cases e; exact this
        · cases e
theorem rdPc_t {s : Tx} {p : Pc} (h : okT s) (e : rdPc s = some p) : okPc p := by
  unfold rdPc at e
  cases hp : parF 123 s with
  | none =>
    simp only [hp, Option.map_eq_some_iff] at e
    obtain ⟨a, e1, rfl⟩ := e
    exact und_t h e1
  | some q =>
    obtain ⟨hd, r⟩ := q
    have h1 := parF_okT h hp
    simp only [hp] at e
    cases hp2 : parF 125 r with
    | none => rw [hp2] at e; cases e
    | some q2 =>
      obtain ⟨n, t⟩ := q2
      have h2 := parF_okT h1.2 hp2
      simp only [hp2] at e
      split at e
      · exact rdGap_t h2.1 e
      · split at e
        · rename_i a b ea eb
          cases e
          exact ⟨und_t h1.1 ea, h2.1, und_t h2.2 eb⟩
        · cases e
theorem utext_ok {s a : Tx} (h : okT s) (e : und FR s = some a) : g_undone_text [tx s] = .ok (tx a) := by
  have hl := h.2
  have u := undone_ok s FR h.1 (by omega)
  rw [e] at u
  have kf : k_FREE = tx FR := rfl
  unfold g_undone_text f_undone_text
  rw [runF_eq]
  simp [kf, u, oD]
theorem in_gaps (w : Tx) : notInD (tx w) k_GAPS = .ok (.bool (!(decide (w = kNum) || (decide (w = kWord) || decide (w = kRest))))) := by
  rw [show k_GAPS = .tuple ([kNum, kWord, kRest].map tx) from rfl, notInD_txt' w]
  congr 3
  rw [Bool.eq_iff_iff]
  simp
theorem ngap_ok {s : Tx} {p : Pc} (h : okT s) (e : rdGap s = some p) : g_named_gap [tx s] = .ok p.d := by
  have hl := h.2
  have pt := part_ok 58 s hl
  unfold rdGap at e
  unfold parD at pt
  unfold g_named_gap f_named_gap
  rw [runF_eq]
  cases hp : parF 58 s with
  | none =>
    simp only [hp] at pt e
    cases e
    simp [pt, Pc.d, kGap]
  | some q =>
    obtain ⟨n, w⟩ := q
    simp only [hp] at pt e
    have ig := in_gaps w
    have hw : (decide (w = kNum) || (decide (w = kWord) || decide (w = kRest))) = true ∧ p.d = .tuple [tx w, tx n] := by
      split at e
      · rename_i hw; cases e; exact ⟨by simp [hw], by rw [hw]; rfl⟩
      · split at e
        · rename_i hw; cases e; exact ⟨by simp [hw], by rw [hw]; rfl⟩
        · split at e
          · rename_i hw; cases e; exact ⟨by simp [hw], by rw [hw]; rfl⟩
          · cases e
    rw [hw.1] at ig
    rw [hw.2]
    simp [pt, ig]
theorem rpiece_ok {s : Tx} {p : Pc} (h : okT s) (e : rdPc s = some p) : g_read_piece [tx s] = .ok p.d := by
  have hl := h.2
  have pt := part_ok 123 s hl
  unfold rdPc at e
  unfold parD at pt
  unfold g_read_piece f_read_piece t_read_piece_4 t_read_piece_3 t_read_piece_2 t_read_piece_1
  rw [runF_eq]
  cases hp : parF 123 s with
  | none =>
    simp only [hp, Option.map_eq_some_iff] at pt e
    obtain ⟨a, e1, rfl⟩ := e
    have u := utext_ok h e1
    simp [pt, u, Pc.d, kStep]
  | some q =>
    obtain ⟨hd, r⟩ := q
    have h1 := parF_okT h hp
    simp only [hp] at pt e
    have pt2 := part_ok 125 r h1.2.2
    unfold parD at pt2
    cases hp2 : parF 125 r with
    | none => rw [hp2] at e; cases e
    | some q2 =>
      obtain ⟨n, t⟩ := q2
      have h2 := parF_okT h1.2 hp2
      simp only [hp2] at e pt2
      split at e
      · rename_i c
        have g := ngap_ok h2.1 e
        simp [pt, pt2, c.1, c.2, g]
      · rename_i c
        split at e
        · rename_i a b ea eb
          cases e
          have u1 := utext_ok h1.1 ea
          have u2 := utext_ok h2.2 eb
          by_cases c1 : hd = []
          · have c2 : t ≠ [] := fun z => c ⟨c1, z⟩
            subst c1
            simp [pt, pt2, c2, u1, u2, Pc.d, kPart]
          · simp [pt, pt2, c1, u1, u2, Pc.d, kPart]
        · cases e
/-- all of them -/
def optAll {α : Type} : List (Option α) → Option (List α)
  | [] => some []
  | o :: os => o.bind fun a => (optAll os).map (a :: ·)
theorem optAll_map {α β : Type} {f : α → Option β} : ∀ {l : List α} {r : List β}, optAll (l.map f) = some r → l.length = r.length ∧ ∀ k (h : k < l.length) (h2 : k < r.length), f l[k] = some r[k]
  | [], r, e => by cases e; simp
  | a :: l, r, e => by
    simp only [List.map_cons, optAll, Option.bind_eq_some_iff, Option.map_eq_some_iff] at e
    obtain ⟨b, e1, rs, e2, rfl⟩ := e
    obtain ⟨h1, h2⟩ := optAll_map e2
    refine ⟨by simp [h1], fun k h h3 => ?_⟩
    cases k with
    | zero => exact e1
    | succ k => exact h2 k (by simpa using h) (by simpa using h3)
theorem lcL_opt {tg : D → En → Rs En} {elt : En → Rs D} {ρ0 : En} {f : Tx → Option Pc} : ∀ {l : List Tx} {r : List Pc}, optAll (l.map f) = some r → (∀ x ∈ l, ∀ p, f x = some p → ∃ ρ1, tg (tx x) ρ0 = .ok ρ1 ∧ elt ρ1 = .ok p.d) → lcL tg cYes elt ρ0 (l.map tx) = .ok (r.map Pc.d)
  | [], r, e, _ => by cases e; rfl
  | a :: l, r, e, h => by
    simp only [List.map_cons, optAll, Option.bind_eq_some_iff, Option.map_eq_some_iff] at e
    obtain ⟨b, e1, rs, e2, rfl⟩ := e
    obtain ⟨ρ1, t1, t2⟩ := h a (by simp) b e1
    rw [List.map_cons, lcL_cons, t1, noEx_ok, ok_bind, at_cYes, noEx_ok, ok_bind, if_pos rfl, t2, noEx_ok, ok_bind, lcL_opt e2 (fun x hx => h x (List.mem_cons_of_mem _ hx))]
    rfl
/-- the text of pieces, the first / and the last one taken off -/
def bodyOf (b : Tx) : Tx := if [47] <:+ b then b.dropLast else b
def rdPs (b : Tx) : Option (List Pc) := if b = [] then some [] else optAll ((ctS 47 (bodyOf b)).map rdPc)
def rdEnd (b : Tx) : Bool := decide (b = []) || decide ([47] <:+ b)
def rdPat (s : Tx) : Option Pat := match s with
  | 47 :: b => (rdPs b).bind fun ps => if isPat ⟨ps, rdEnd b⟩ = true then some ⟨ps, rdEnd b⟩ else none
  | _ => none
theorem ct_okT {b : Tx} (h : okT b) : ∀ x ∈ ctS 47 b, okT x := by
  have key : ∀ (l : Tx) x, x ∈ ctS 47 l → (∀ c ∈ x, c ∈ l) ∧ x.length ≤ l.length := by
    intro l
    induction l with
    | nil => intro x hx; simp [ctS] at hx; subst hx; simp
    | cons c r ih =>
      intro x hx
      unfold ctS at hx
      split at hx
      · rcases List.mem_cons.mp hx with rfl | hx
        · simp
        · have := ih x hx
          exact ⟨fun y hy => List.mem_cons_of_mem _ (this.1 y hy), by simp only [List.length_cons]; omega⟩
      · cases hc : ctS 47 r with
        | nil => exact absurd hc (ctS_ne 47 r)
        | cons p ps =>
          rw [hc] at hx ih
          rcases List.mem_cons.mp hx with rfl | hx
          · have := ih p (by simp)
            refine ⟨fun y hy => ?_, by simp only [List.length_cons]; omega⟩
            rcases List.mem_cons.mp hy with rfl | hy
            · simp
            · exact List.mem_cons_of_mem _ (this.1 y hy)
          · have := ih x (List.mem_cons_of_mem _ hx)
            exact ⟨fun y hy => List.mem_cons_of_mem _ (this.1 y hy), by simp only [List.length_cons]; omega⟩
  intro x hx
  have := key b x hx
  exact ⟨fun c hc => h.1 c (this.1 c hc), Nat.le_trans this.2 h.2⟩
theorem rdPs_t {b : Tx} {ps : List Pc} (h : okT b) (e : rdPs b = some ps) : ∀ p ∈ ps, okPc p := by
  unfold rdPs at e
  split at e
  · cases e; simp
  · have hb : okT (bodyOf b) := by
      unfold bodyOf
      split
      · exact ⟨fun c hc => h.1 c (List.dropLast_subset _ hc), by rw [List.length_dropLast]; have := h.2; omega⟩
      · exact h
    obtain ⟨h1, h2⟩ := optAll_map e
    intro p hp
    obtain ⟨k, hk, rfl⟩ := List.getElem_of_mem hp
    exact rdPc_t (ct_okT hb _ (List.getElem_mem (by omega))) (h2 k (by omega) hk)
theorem rdPs_len {b : Tx} {ps : List Pc} (h : okT b) (e : rdPs b = some ps) : ps.length ≤ 1001 := by
  have key : ∀ l : Tx, (ctS 47 l).length ≤ l.length + 1 := by
    intro l
    induction l with
    | nil => simp [ctS]
    | cons c r ih =>
      unfold ctS
      split
      · simp only [List.length_cons]; omega
      · cases hc : ctS 47 r with
        | nil => exact absurd hc (ctS_ne 47 r)
        | cons p ps => rw [hc] at ih; simp only [List.length_cons] at ih ⊢; omega
  unfold rdPs at e
  split at e
  · cases e; simp
  · have h1 := (optAll_map e).1
    have := key (bodyOf b)
    have hb : (bodyOf b).length ≤ b.length := by unfold bodyOf; split <;> simp
    have := h.2
    omega
theorem rpattern_ok {s : Tx} {P : Pat} (h : okT s) (e : rdPat s = some P) : g_read_pattern [tx s] = .ok P.d := by
  match s, e with
  | [], e => cases e
  | c :: b, e =>
    have hc : c = 47 := by
      by_cases z : c = 47
      · exact z
      · unfold rdPat at e
        split at e
        · rename_i q; cases q; exact absurd rfl z
        · cases e
    subst hc
    have hl := h.2
    simp only [List.length_cons] at hl
    have hb : okT b := okT_tail h
    simp only [rdPat, Option.bind_eq_some_iff] at e
    obtain ⟨ps, e1, e2⟩ := e
    split at e2
    rotate_left
    · cases e2
    rename_i hP
    cases e2
    have hps := rdPs_t hb e1
    have ln : ps.length ≤ 12 := by
      unfold isPat at hP
      simp only [Bool.and_eq_true, decide_eq_true_eq] at hP
      exact hP.1
    have ip := ispattern_ok ⟨ps, rdEnd b⟩ (by show ps.length ≤ 900; omega) hps
    rw [hP] at ip
    have ipd : (Pat.d ⟨ps, rdEnd b⟩) = .tuple [.tuple (ps.map Pc.d), .bool (rdEnd b)] := rfl
    rw [ipd] at ip
    have is : isiD "str" (tx (47 :: b)) = .ok (.bool true) := rfl
    have en := endD_s b [47]
    unfold g_read_pattern f_read_pattern t_read_pattern_6 t_read_pattern_5 t_read_pattern_4 t_read_pattern_3 t_read_pattern_2 t_read_pattern_1
    rw [runF_eq, ipd]
    unfold rdPs at e1
    by_cases hbn : b = []
    · rw [if_pos hbn] at e1
      cases e1
      subst hbn
      simp [is, en, rdEnd] at ip ⊢
      simp [ip]
    · rw [if_neg hbn] at e1
      have hbo : okT (bodyOf b) := by
        unfold bodyOf
        split
        · exact ⟨fun c hc => hb.1 c (List.dropLast_subset _ hc), by rw [List.length_dropLast]; omega⟩
        · exact hb
      have sp := splitD_ct (a := bodyOf b) (s := 47) (by have := hbo.2; omega) (by decide)
      have nn : ¬ (47 :: b = [47]) := by simp [hbn]
      have lct : (ctS 47 (bodyOf b)).length ≤ 1000 := by have := (optAll_map e1).1; omega
      have lc : ∀ o3 o4 : Option D, ∀ x0 x1 x2 : Option D, lcL (gNm 4) cYes (eCall 1 g_read_piece (aCons (eVar 4) aNil)) [x0, x1, x2, o3, o4] ((ctS 47 (bodyOf b)).map tx) = .ok (ps.map Pc.d) := fun o3 o4 x0 x1 x2 => lcL_opt e1 (fun x hx p hp => ⟨[x0, x1, x2, o3, some (tx x)], rfl, by simp [rpiece_ok (ct_okT hbo x hx) hp]⟩)
      by_cases he : [47] <:+ b
      · have eb : bodyOf b = b.dropLast := by unfold bodyOf; rw [if_pos he]
        rw [eb] at sp lct lc
        have re : rdEnd b = true := by unfold rdEnd; simp [he]
        rw [re] at ip ⊢
        simp (disch := omega) [is, en, he, hbn, if_pos, cut_m1, sp, lc, lct, ip]
      · have eb : bodyOf b = b := by unfold bodyOf; rw [if_neg he]
        rw [eb] at sp lct lc
        have re : rdEnd b = false := by unfold rdEnd; simp [he, hbn]
        rw [re] at ip ⊢
        simp (disch := omega) [is, en, he, hbn, if_pos, sp, lc, lct, ip]
end Wp

set_option Elab.async false
set_option linter.all false
set_option maxRecDepth 100000
set_option maxHeartbeats 4000000
namespace Wp
open PySem PySem.Spec PyProof.Rows L2 Wm
/-! ### patterns written -/
/-- u writes l: undone it is l, whatever follows -/
structure Ulo (u l : Tx) : Prop where
  un : ∀ r, und FR (u ++ r) = (und FR r).map (l ++ ·)
  sg : ∀ x ∈ u, x < 128 ∧ x ≠ 47 ∧ x ≠ 123 ∧ x ≠ 125
  ln : u.length ≤ 3 * l.length
  ne : l ≠ [] → u ≠ []
theorem Ulo.nil : Ulo [] [] := ⟨fun r => by simp, by simp, by simp, fun h => h⟩
theorem Ulo.app {u v l m : Tx} (h : Ulo u l) (h' : Ulo v m) : Ulo (u ++ v) (l ++ m) where
  un := fun r => by
    rw [List.append_assoc, h.un, h'.un, Option.map_map]
    congr 1
    funext x
    simp
  sg := fun x hx => (List.mem_append.mp hx).elim (h.sg x) (h'.sg x)
  ln := by have := h.ln; have := h'.ln; simp only [List.length_append]; omega
  ne := fun n => by
    by_cases z : l = []
    · by_cases z2 : m = []
      · simp [z, z2] at n
      · have := h'.ne z2; simp [this]
    · have := h.ne z; simp [this]
theorem Ulo.und {u l : Tx} (h : Ulo u l) : Wp.und FR u = some l := by
  have := h.un []
  rw [List.append_nil, und_nil] at this
  simpa using this
theorem okSg : ∀ c, c < 128 → (pln c = true ∨ c ∈ FR) → c ≠ 126 ∧ c ≠ 47 ∧ c ≠ 123 ∧ c ≠ 125 := by decide +kernel
theorem Ulo.sign {c : Nat} (h : pln c = true ∨ c ∈ FR) (hc : c < 128) : Ulo [c] [c] where
  un := fun r => by
    have := okSg c hc h
    show Wp.und FR (c :: r) = _
    rw [und_sign FR this.1, if_pos h]
    rfl
  sg := fun x hx => by
    rw [List.mem_singleton.mp hx]
    have := okSg c hc h
    exact ⟨hc, this.2⟩
  ln := by simp
  ne := fun _ => by simp
theorem pairSg : ∀ c ∈ T, ∀ x ∈ [dg (c / 16), dg (c % 16), up1 (dg (c / 16)), up1 (dg (c % 16))], x < 128 ∧ x ≠ 47 ∧ x ≠ 123 ∧ x ≠ 125 := by decide +kernel
theorem sgn_upp : ∀ c ∈ T, sgn (up1 (dg (c / 16))) (up1 (dg (c % 16))) = some c := by decide +kernel
theorem Ulo.pair {a b c : Nat} (h : sgn a b = some c) (ha : a < 128 ∧ a ≠ 47 ∧ a ≠ 123 ∧ a ≠ 125) (hb : b < 128 ∧ b ≠ 47 ∧ b ≠ 123 ∧ b ≠ 125) : Ulo [126, a, b] [c] where
  un := fun r => by
    show Wp.und FR (126 :: a :: b :: r) = _
    rw [und_pair, h]
    rfl
  sg := fun x hx => by
    simp only [List.mem_cons, List.not_mem_nil, or_false] at hx
    rcases hx with rfl | rfl | rfl
    · decide
    · exact ha
    · exact hb
  ln := by simp
  ne := fun _ => by simp
theorem Ulo.enc {c : Nat} (h : c ∈ T) : Ulo (enc c) [c] := by
  unfold Wp.enc
  split
  · rename_i hp; exact .sign (.inl hp) (T128 c h)
  · exact .pair (sgn_back h) (pairSg c h _ (by simp)) (pairSg c h _ (by simp))
theorem Ulo.wr : ∀ {l : Tx}, (∀ c ∈ l, c ∈ T) → Ulo (wr l) l
  | [], _ => .nil
  | c :: l, h => by
    rw [wr_cons]
    exact Ulo.app (l := [c]) (.enc (h c (by simp))) (Ulo.wr fun x hx => h x (by simp [hx]))
/-! ### the law's writing -/
theorem upair_all : ∀ g : Bool, T.all (fun c => isStr (g_u_law_pair [tx [c], .bool g]) (if g = true then [126, up1 (dg (c / 16)), up1 (dg (c % 16))] else [126, dg (c / 16), dg (c % 16)])) = true := by decide +kernel
theorem upair_ok {c : Nat} (h : c ∈ T) (g : Bool) : g_u_law_pair [tx [c], .bool g] = .ok (tx (if g = true then [126, up1 (dg (c / 16)), up1 (dg (c % 16))] else [126, dg (c / 16), dg (c % 16)])) := isStr_eq (List.all_eq_true.mp (upair_all g) c h)
def utok (z : Int) (c : Nat) : Tx := if (pln c = true ∧ z.fmod 4 < 2) ∨ (c ∈ FR ∧ z.fmod 4 = 1) then [c] else if (z.fdiv 4).fmod 2 = 1 then [126, up1 (dg (c / 16)), up1 (dg (c % 16))] else [126, dg (c / 16), dg (c % 16)]
theorem utok_u (z : Int) {c : Nat} (h : c ∈ T) : Ulo (utok z c) [c] := by
  unfold utok
  split
  · rename_i hc
    exact .sign (hc.imp (fun x => x.1) fun x => x.1) (T128 c h)
  · split
    · exact .pair (sgn_upp c h) (pairSg c h _ (by simp)) (pairSg c h _ (by simp))
    · exact .pair (sgn_back h) (pairSg c h _ (by simp)) (pairSg c h _ (by simp))
theorem utok_0 (c : Nat) : utok 0 c = enc c := by
  unfold utok Wp.enc
  by_cases h : pln c = true <;> simp [h]
def PLN : Tx := [97, 98, 99, 100, 101, 102, 103, 104, 105, 106, 107, 108, 109, 110, 111, 112, 113, 114, 115, 116, 117, 118, 119, 120, 121, 122, 65, 66, 67, 68, 69, 70, 71, 72, 73, 74, 75, 76, 77, 78, 79, 80, 81, 82, 83, 84, 85, 86, 87, 88, 89, 90, 48, 49, 50, 51, 52, 53, 54, 55, 56, 57, 45, 95, 46]
theorem inPLN {c : Nat} (h : c < 128) : inD (tx [c]) (tx PLN) = .ok (.bool (pln c)) := by
  rw [inD_s]
  exact congrArg (fun b => Rs.ok (PyData.bool b)) (plain_all c h)
/-- the cell of the k-th sign -/
def ucell (cs : List Int) (k : Nat) : Int := if cs = [] then 0 else (cs.getD (k % cs.length) 0).fdiv ((k : Int) + 1)
theorem uw_turn (t : D) (cs : List Int) (acc : Tx) (k c : Nat) (o6 : Option D) (hc : c ∈ T) (ha : acc.length ≤ 100000) (hk : k ≤ 100000) (hl : cs.length ≤ 100000) :
    b_u_law_written_1 [some t, some (.list (cs.map .int)), some (tx PLN), some (tx acc), some (.int k), some (tx [c]), o6] = .nx [some t, some (.list (cs.map .int)), some (tx PLN), some (tx (acc ++ utok (ucell cs k) c)), some (.int k), some (tx [c]), some (.int (ucell cs k))] := by
  have pre : ∀ g : En → Out, sSeq (sSet 6 (eC (.int 0))) (sSeq (sIf (tB (e2 neD (eVar 1) (eLst aNil))) (sSet 6 (e2 fdivD (e2 ixD (eVar 1) (e2 modD (eVar 4) (eBlt lenD (aCons (eVar 1) aNil)))) (e2 addD (eVar 4) (eC (.int 1))))) sNx) g) [some t, some (.list (cs.map .int)), some (tx PLN), some (tx acc), some (.int k), some (tx [c]), o6] = g [some t, some (.list (cs.map .int)), some (tx PLN), some (tx acc), some (.int k), some (tx [c]), some (.int (ucell cs k))] := by
    intro g
    have sh : shpAll 1 (cs.map PyData.int) := shpAll_of fun d hd => by
      obtain ⟨x, _, rfl⟩ := List.mem_map.mp hd
      exact shp_int
    have nn := neD_nil sh
    rw [neD_ll] at nn
    unfold ucell
    by_cases he : cs = []
    · subst he
      simp at nn
      simp [nn]
    · have e0 : (cs.map PyData.int).isEmpty = false := by
        cases cs with
        | nil => exact absurd rfl he
        | cons _ _ => rfl
      rw [e0] at nn
      have hp : 0 < cs.length := List.length_pos_iff.mpr he
      have hm : ((k : Int).fmod (cs.length : Int)) = ((k % cs.length : Nat) : Int) := by
        rw [Int.fmod_eq_emod_of_nonneg _ (by omega)]
        rfl
      have hlt : k % cs.length < cs.length := Nat.mod_lt _ hp
      have hn : (cs.length : Int) ≠ 0 := by omega
      have at_ : atI (cs.map PyData.int) ((k % cs.length : Nat) : Int) = some (.int (cs.getD (k % cs.length) 0)) := by
        rw [atI_n, List.getElem?_map]
        simp [hlt]
      simp (disch := omega) only [at_sSeq, at_sSet, at_eC, oSet_ok, List.set_cons_succ, List.set_cons_zero, oSeq_nx, at_sIf, at_tB, at_e2, eVar_1, eVar_0, k2_ok, at_eLst, at_aNil, ok_bind, kLst_ok, List.length_nil, Nat.zero_le, if_true, k2'_ok, neD_ll, nn, Bool.not_false, asB_b, oIf_ok, eVar_4, eVar_3, eVar_2, at_eBlt, at_aCons, kCons_ok, kCons'_ok, lenD_l, List.length_map, modD_i, hm]
      rw [if_pos hn]
      have kk : ¬ (k : Int) + 1 = 0 ∧ ((k : Int) + 1).natAbs < 1073741824 := by omega
      simp only [k2'_ok, ixD_l, at_, k2_ok, addD_i, fdivD_i]
      simp [he, kk]
  unfold b_u_law_written_1
  rw [pre]
  generalize ucell cs k = z
  have c1 := inPLN (T128 c hc)
  have c2 : inD (tx [c]) (tx [33, 36, 39, 40, 41, 42, 44, 59, 64, 38, 61, 43]) = .ok (.bool (decide (c ∈ FR))) := inD_s _ _
  have lt : ltD (.int (z.fmod 4)) (.int 2) = .ok (.bool (decide (z.fmod 4 < 2))) := rfl
  have cond : (tOr' (tAn (tB (e2 inD (eVar 5) (eVar 2))) (tB (e2 ltD (e2 modD (eVar 6) (eC (.int 4))) (eC (.int 2))))) (tAn (tB (e2 inD (eVar 5) (eC (tx [33, 36, 39, 40, 41, 42, 44, 59, 64, 38, 61, 43])))) (tB (e2 eqD (e2 modD (eVar 6) (eC (.int 4))) (eC (.int 1)))))) [some t, some (.list (cs.map .int)), some (tx PLN), some (tx acc), some (.int k), some (tx [c]), some (.int z)] = .ok (decide ((pln c = true ∧ z.fmod 4 < 2) ∨ (c ∈ FR ∧ z.fmod 4 = 1))) := by
    have m4 : modD (.int z) (.int 4) = .ok (.int (z.fmod 4)) := by rw [modD_i, if_pos (by decide)]
    generalize z.fmod 4 = y at m4 lt
    cases hp : pln c <;> rw [hp] at c1 <;> simp only [at_tOr, at_tAn, at_tB, at_e2, eVar_6, eVar_5, eVar_4, eVar_3, eVar_2, eVar_1, eVar_0, k2_ok, k2'_ok, c1, asB_b, kAn_ok, Bool.false_eq_true, if_false, if_true, kOr_ok, at_eC, m4, lt, c2, eqD_i]
    · by_cases hf : c ∈ FR <;> simp [hf]
    · by_cases h2 : y < 2
      · simp [h2]
      · by_cases hf : c ∈ FR <;> simp [hf, h2]
  have pt := upair_ok hc (decide ((z.fdiv 4).fmod 2 = 1))
  rw [at_sIf, cond, oIf_ok]
  unfold utok
  by_cases hcd : (pln c = true ∧ z.fmod 4 < 2) ∨ (c ∈ FR ∧ z.fmod 4 = 1)
  · rw [decide_eq_true hcd, if_pos rfl, if_pos hcd]
    simp (disch := omega) [if_pos]
  · rw [decide_eq_false hcd, if_neg (by decide), if_neg hcd]
    by_cases hg : (z.fdiv 4).fmod 2 = 1
    · simp only [hg, decide_true, if_true] at pt ⊢
      simp (disch := omega) [if_pos, hg, pt]
    · simp only [hg, decide_false, if_false, Bool.false_eq_true] at pt ⊢
      simp (disch := omega) [if_pos, hg, pt]
def uwr (cs : List Int) : Nat → Tx → Tx
  | _, [] => []
  | k, c :: l => utok (ucell cs k) c ++ uwr cs (k + 1) l
theorem utok_len (z : Int) (c : Nat) : (utok z c).length ≤ 3 := by
  unfold utok
  split
  · simp
  · split <;> simp
theorem uwr_len (cs : List Int) : ∀ (l : Tx) (k : Nat), (uwr cs k l).length ≤ 3 * l.length
  | [], _ => by simp [uwr]
  | c :: l, k => by
    have := uwr_len cs l (k + 1)
    have := utok_len (ucell cs k) c
    simp only [uwr, List.length_append, List.length_cons]
    omega
theorem uwr_u (cs : List Int) : ∀ (l : Tx) (k : Nat), (∀ c ∈ l, c ∈ T) → Ulo (uwr cs k l) l
  | [], _, _ => .nil
  | c :: l, k, h => Ulo.app (l := [c]) (utok_u _ (h c (by simp))) (uwr_u cs l (k + 1) fun x hx => h x (by simp [hx]))
theorem uwr_nil : ∀ (l : Tx) (k : Nat), uwr [] k l = wr l
  | [], _ => rfl
  | c :: l, k => by rw [uwr, uwr_nil l, wr_cons]; unfold ucell; rw [if_pos rfl, utok_0]
theorem uw_loop (t : D) (cs : List Int) (hl : cs.length ≤ 100000) : ∀ (l : Tx) (k : Nat) (acc : Tx) (o4 o5 o6 : Option D), (∀ c ∈ l, c ∈ T) → acc.length + 3 * l.length ≤ 100000 → k + l.length ≤ 100000 →
    ∃ p4 p5 p6, forL (gTp 2 (gsCons (gNm 4) (gsCons (gNm 5) gsNil))) b_u_law_written_1 (enumFrom k (l.map fun c => tx [c])) [some t, some (.list (cs.map .int)), some (tx PLN), some (tx acc), o4, o5, o6] = .nx [some t, some (.list (cs.map .int)), some (tx PLN), some (tx (acc ++ uwr cs k l)), p4, p5, p6]
  | [], k, acc, o4, o5, o6, _, _, _ => ⟨o4, o5, o6, by simp [uwr, enumFrom, forL]⟩
  | c :: l, k, acc, o4, o5, o6, h, ha, hk => by
    simp only [List.length_cons] at ha hk
    have tg : gTp 2 (gsCons (gNm 4) (gsCons (gNm 5) gsNil)) (.tuple [.int k, tx [c]]) [some t, some (.list (cs.map .int)), some (tx PLN), some (tx acc), o4, o5, o6] = .ok [some t, some (.list (cs.map .int)), some (tx PLN), some (tx acc), some (.int k), some (tx [c]), o6] := rfl
    have tn := uw_turn t cs acc k c o6 (h c (by simp)) (by omega) (by omega) hl
    have l3 := utok_len (ucell cs k) c
    obtain ⟨p4, p5, p6, ih⟩ := uw_loop t cs hl l (k + 1) (acc ++ utok (ucell cs k) c) (some (.int k)) (some (tx [c])) (some (.int (ucell cs k))) (fun x hx => h x (by simp [hx])) (by rw [List.length_append]; omega) (by omega)
    refine ⟨p4, p5, p6, ?_⟩
    rw [List.map_cons, enumFrom, forL_cons, tg, oStore_ok, tn, oLoop_nx, ih, uwr, List.append_assoc]
theorem uwritten_ok (l : Tx) (cs : List Int) (h : ∀ c ∈ l, c ∈ T) (hl : l.length ≤ 1000) (hc : cs.length ≤ 1000) : g_u_law_written [tx l, .list (cs.map .int)] = .ok (tx (uwr cs 0 l)) := by
  obtain ⟨p4, p5, p6, lp⟩ := uw_loop (tx l) cs (by omega) l 0 [] none none none h (by simp; omega) (by omega)
  have en : iEnS (tx l) = .ok (enumFrom 0 (l.map fun c => tx [c])) := rfl
  unfold g_u_law_written f_u_law_written
  rw [runF_eq]
  unfold PLN at lp
  simp only [List.nil_append] at lp
  simp [en, lp]
/-- a piece as a text: its texts by f -/
def pcT (f : Tx → Tx) : Pc → Tx
  | .step t => f t
  | .part h n t => f h ++ 123 :: (n ++ 125 :: f t)
  | .num n => 123 :: (n ++ 58 :: (kNum ++ [125]))
  | .word n => 123 :: (n ++ 58 :: (kWord ++ [125]))
  | .gap n => 123 :: (n ++ [125])
  | .rest n => 123 :: (n ++ 58 :: (kRest ++ [125]))
def patT (f : Tx → Tx) (p : Pat) : Tx := 47 :: (joinC 47 (p.ps.map (pcT f)) ++ if p.e = true ∧ p.ps ≠ [] then [47] else [])
/-- signs of T, lengths -/
def okPT : Pc → Prop
  | .step t => (∀ c ∈ t, c ∈ T) ∧ t.length ≤ 20
  | .part h n t => ((∀ c ∈ h, c ∈ T) ∧ h.length ≤ 20) ∧ n.length ≤ 20 ∧ (∀ c ∈ t, c ∈ T) ∧ t.length ≤ 20
  | .num n => n.length ≤ 20 | .word n => n.length ≤ 20 | .gap n => n.length ≤ 20 | .rest n => n.length ≤ 20
theorem spiece_ok (p : Pc) (h : okPT p) : g_show_piece [p.d] = .ok (tx (pcT wr p)) := by
  unfold g_show_piece f_show_piece
  rw [runF_eq]
  cases p with
  | step t =>
    have w := written_ok t h.1 (by have := h.2; omega)
    simp [Pc.d, kStep, w, pcT]
  | part a n t =>
    obtain ⟨⟨h1, h2⟩, h3, h4, h5⟩ := h
    have w1 := written_ok a h1 (by omega)
    have w2 := written_ok t h4 (by omega)
    have l1 := len_wr a
    have l2 := len_wr t
    simp (disch := omega) [Pc.d, kPart, w1, w2, pcT, if_pos]
  | num n => have : n.length ≤ 20 := h; simp (disch := omega) [Pc.d, kNum, pcT, if_pos]
  | word n => have : n.length ≤ 20 := h; simp (disch := omega) [Pc.d, kWord, pcT, if_pos]
  | gap n => have : n.length ≤ 20 := h; simp (disch := omega) [Pc.d, kGap, pcT, if_pos]
  | rest n => have : n.length ≤ 20 := h; simp (disch := omega) [Pc.d, kRest, pcT, if_pos]
theorem lpiece_ok (p : Pc) (cs : List Int) (hc : cs.length ≤ 1000) (h : okPT p) : g__law_piece_text [p.d, .list (cs.map .int)] = .ok (tx (pcT (uwr cs 0) p)) := by
  unfold g__law_piece_text f__law_piece_text
  rw [runF_eq]
  cases p with
  | step t =>
    have w := uwritten_ok t cs h.1 (by have := h.2; omega) hc
    simp [Pc.d, kStep, w, pcT]
  | part a n t =>
    obtain ⟨⟨h1, h2⟩, h3, h4, h5⟩ := h
    have w1 := uwritten_ok a cs h1 (by omega) hc
    have w2 := uwritten_ok t cs h4 (by omega) hc
    have l1 := uwr_len cs a 0
    have l2 := uwr_len cs t 0
    simp (disch := omega) [Pc.d, kPart, w1, w2, pcT, if_pos]
  | num n => have : n.length ≤ 20 := h; simp (disch := omega) [Pc.d, kNum, pcT, if_pos]
  | word n => have : n.length ≤ 20 := h; simp (disch := omega) [Pc.d, kWord, pcT, if_pos]
  | gap n => have : n.length ≤ 20 := h; simp (disch := omega) [Pc.d, kGap, pcT, if_pos]
  | rest n => have : n.length ≤ 20 := h; simp (disch := omega) [Pc.d, kRest, pcT, if_pos]
theorem pcT_len {f : Tx → Tx} (hf : ∀ t, (f t).length ≤ 3 * t.length) {p : Pc} (h : okPT p) : (pcT f p).length ≤ 145 := by
  cases p with
  | step t => have := hf t; have := h.2; simp only [pcT]; omega
  | part a n t =>
    obtain ⟨⟨_, h2⟩, h3, _, h5⟩ := h
    have := hf a; have := hf t
    simp only [pcT, List.length_append, List.length_cons]; omega
  | num n => have : n.length ≤ 20 := h; simp [pcT, kNum]; omega
  | word n => have : n.length ≤ 20 := h; simp [pcT, kWord]; omega
  | gap n => have : n.length ≤ 20 := h; simp [pcT]; omega
  | rest n => have : n.length ≤ 20 := h; simp [pcT, kRest]; omega
theorem joinC_L (s : Nat) : ∀ ls : List Tx, joinL [s] ls = joinC s ls
  | [] => rfl
  | [x] => rfl
  | x :: y :: r => by
    show x ++ [s] ++ joinL [s] (y :: r) = x ++ s :: joinC s (y :: r)
    rw [joinC_L s (y :: r)]
    simp
theorem joinC_len (s k : Nat) : ∀ ls : List Tx, (∀ x ∈ ls, x.length ≤ k) → (joinC s ls).length ≤ (k + 1) * ls.length
  | [], _ => by simp [joinC]
  | [x], h => by have := h x (by simp); simp [joinC]; omega
  | x :: y :: r, h => by
    have := h x (by simp)
    have ih := joinC_len s k (y :: r) fun z hz => h z (by simp [hz])
    simp only [joinC, List.length_append, List.length_cons] at ih ⊢
    rw [Nat.mul_add (k + 1) (r.length + 1) 1]
    omega
theorem joinD_C (s : Nat) (ls : List Tx) (h : ∀ x ∈ ls, x.length ≤ 200) (hl : ls.length ≤ 100) : joinD ⟨[s].toArray⟩ (.list (ls.map tx)) = .ok (tx (joinC s ls)) := by
  have hs : ∀ ls : List Tx, (∀ x ∈ ls, x.length ≤ 200) → (ls.map List.length).sum ≤ 200 * ls.length := by
    intro ls
    induction ls with
    | nil => intro _; simp
    | cons x r ih =>
      intro h
      have := h x (by simp)
      have ih := ih fun z hz => h z (by simp [hz])
      simp only [List.map_cons, List.sum_cons, List.length_cons]
      omega
  have := hs ls h
  show joinS _ _ = _
  rw [joinS_tx [s] ls (by simp; omega), joinC_L]
/-- == of (), a tuple -/
theorem pcs_ne (ps : List Pc) (h : ∀ p ∈ ps, okPc p) : neD (pcs ps) (.tuple []) = .ok (.bool (decide (ps ≠ []))) := by
  have sp : ∀ p : Pc, okPc p → shp 2 p.d := fun p hp => by
    cases p <;> refine shp_tuple (k := 1) ?_
    · exact shpAll_cons (shp_tx (by decide)) (shpAll_cons (shp_tx hp.1) shpAll_nil)
    · exact shpAll_cons (shp_tx (by decide)) (shpAll_cons (shp_tx hp.1.1) (shpAll_cons (shp_tx hp.2.1.1) (shpAll_cons (shp_tx hp.2.2.1) shpAll_nil)))
    · exact shpAll_cons (shp_tx (by decide)) (shpAll_cons (shp_tx hp.1) shpAll_nil)
    · exact shpAll_cons (shp_tx (by decide)) (shpAll_cons (shp_tx hp.1) shpAll_nil)
    · exact shpAll_cons (shp_tx (by decide)) (shpAll_cons (shp_tx hp.1) shpAll_nil)
    · exact shpAll_cons (shp_tx (by decide)) (shpAll_cons (shp_tx hp.1) shpAll_nil)
  have s1 : shp 3 (pcs ps) := shp_tuple (shpAll_of fun d hd => by
    obtain ⟨p, hp, rfl⟩ := List.mem_map.mp hd
    exact sp p (h p hp))
  have s2 : shp 1 (.tuple []) := shp_tuple (k := 0) shpAll_nil
  unfold pcs at s1 ⊢
  rw [neD_tt, neR_ok s1 s2]
  congr 2
  cases ps with
  | nil => rfl
  | cons p r =>
    simp
    rfl
theorem joinC_ne (s : Nat) : ∀ {ls : List Tx}, ls ≠ [] → (∀ x ∈ ls, x ≠ []) → joinC s ls ≠ []
  | [], h, _ => absurd rfl h
  | [x], _, h => h x (by simp)
  | x :: y :: r, _, h => by
    have := h x (by simp)
    simp [joinC]
theorem joinC_end (s : Nat) : ∀ {ls : List Tx}, ls ≠ [] → (∀ x ∈ ls, x ≠ [] ∧ s ∉ x) → ¬ [s] <:+ joinC s ls
  | [], h, _ => absurd rfl h
  | [x], _, h => fun z => (h x (by simp)).2 (z.subset (by simp))
  | x :: y :: r, _, h => fun z => by
    have ih := joinC_end s (ls := y :: r) (by simp) fun w hw => h w (by simp [hw])
    have ne := joinC_ne s (ls := y :: r) (by simp) fun w hw => (h w (by simp [hw])).1
    obtain ⟨a, ea⟩ := z
    have e2 : joinC s (x :: y :: r) = (x ++ [s]) ++ joinC s (y :: r) := by simp [joinC]
    rw [e2] at ea
    refine ih ?_
    have l1 := congrArg List.getLast? ea
    obtain ⟨z, ez⟩ : ∃ z, (joinC s (y :: r)).getLast? = some z := by
      cases hz : (joinC s (y :: r)).getLast? with
      | none => rw [List.getLast?_eq_none_iff] at hz; exact absurd hz ne
      | some z => exact ⟨z, rfl⟩
    rw [List.getLast?_append, List.getLast?_append, ez] at l1
    have e3 : some s = some z := by simpa using l1
    cases e3
    obtain ⟨q, eq⟩ := List.getLast?_eq_some_iff.mp ez
    exact ⟨q, eq.symm⟩
theorem spattern_ok (p : Pat) (h : ∀ q ∈ p.ps, okPT q) (hl : p.ps.length ≤ 50) (hne : ∀ q ∈ p.ps, pcT wr q ≠ []) : g_show_pattern [p.d] = .ok (tx (patT wr p)) := by
  have lc : lcL (gNm 2) cYes (eCall 1 g_show_piece (aCons (eVar 2) aNil)) [some p.d, none, none] (p.ps.map Pc.d) = .ok ((p.ps.map (pcT wr)).map tx) := by
    rw [List.map_map]
    exact lcL_map Pc.d _ fun q hq => ⟨_, rfl, rfl, by simp [spiece_ok q (h q hq)]⟩
  have ll : ∀ x ∈ p.ps.map (pcT wr), x.length ≤ 145 := fun x hx => by
    obtain ⟨q, hq, rfl⟩ := List.mem_map.mp hx
    exact pcT_len len_wr (h q hq)
  have jn := joinD_C 47 (p.ps.map (pcT wr)) (fun x hx => by have := ll x hx; omega) (by simp; omega)
  have jl := joinC_len 47 145 (p.ps.map (pcT wr)) ll
  rw [List.length_map] at jl
  have hps : (joinC 47 (p.ps.map (pcT wr)) = []) ↔ p.ps = [] := by
    constructor
    · intro z
      by_cases hp : p.ps = []
      · exact hp
      · exact absurd z (joinC_ne 47 (by simpa using hp) fun x hx => by
          obtain ⟨q, hq, rfl⟩ := List.mem_map.mp hx
          exact hne q hq)
    · intro z; rw [z]; rfl
  have plen : (p.ps.map Pc.d).length ≤ 16777216 := by simp; omega
  unfold g_show_pattern f_show_pattern patT
  rw [runF_eq]
  generalize joinC 47 (p.ps.map (pcT wr)) = J at jn jl hps ⊢
  generalize (p.ps.map (pcT wr)).map tx = PS at jn lc
  have jl2 : J.length ≤ 10000 := by omega
  have lp : p.ps.length ≤ 16777216 := by omega
  cases he : p.e with
  | false => simp (disch := omega) [lc, jn, if_pos, he, lp, plen]
  | true =>
    by_cases hp : p.ps = []
    · have hJ := hps.mpr hp
      subst hJ
      simp (disch := omega) [lc, jn, if_pos, he, hp, lp, plen]
      simp [hp] at lc
      simp [lc, jn]
    · have hJ : J ≠ [] := fun z => hp (hps.mp z)
      simp (disch := omega) [lc, jn, if_pos, he, hp, hJ, lp, plen]
theorem lpattern_ok (p : Pat) (cs : List Int) (hc : cs.length ≤ 1000) (h : ∀ q ∈ p.ps, okPT q) (ho : ∀ q ∈ p.ps, okPc q) (hl : p.ps.length ≤ 50) : g__law_pattern_text [p.d, .list (cs.map .int)] = .ok (tx (patT (uwr cs 0) p)) := by
  have lc : lcL (gNm 3) cYes (eCall 2 g__law_piece_text (aCons (eVar 3) (aCons (eVar 1) aNil))) [some p.d, some (.list (cs.map .int)), none, none] (p.ps.map Pc.d) = .ok ((p.ps.map (pcT (uwr cs 0))).map tx) := by
    rw [List.map_map]
    exact lcL_map Pc.d _ fun q hq => ⟨_, rfl, rfl, by simp [lpiece_ok q cs hc (h q hq)]⟩
  have ll : ∀ x ∈ p.ps.map (pcT (uwr cs 0)), x.length ≤ 145 := fun x hx => by
    obtain ⟨q, hq, rfl⟩ := List.mem_map.mp hx
    exact pcT_len (fun t => uwr_len cs t 0) (h q hq)
  have jn := joinD_C 47 (p.ps.map (pcT (uwr cs 0))) (fun x hx => by have := ll x hx; omega) (by simp; omega)
  have jl := joinC_len 47 145 (p.ps.map (pcT (uwr cs 0))) ll
  rw [List.length_map] at jl
  have plen : (p.ps.map Pc.d).length ≤ 16777216 := by simp; omega
  have ne := pcs_ne p.ps ho
  unfold g__law_pattern_text f__law_pattern_text patT
  rw [runF_eq]
  generalize joinC 47 (p.ps.map (pcT (uwr cs 0))) = J at jn jl ⊢
  generalize (p.ps.map (pcT (uwr cs 0))).map tx = PS at jn lc
  have jl2 : J.length ≤ 10000 := by omega
  have lp : p.ps.length ≤ 16777216 := by omega
  cases he : p.e with
  | false => simp (disch := omega) [lc, jn, if_pos, he, lp, plen]
  | true =>
    by_cases hp : p.ps = []
    · have ne2 : neD (pcs p.ps) (.tuple []) = .ok (.bool false) := by rw [ne, decide_eq_false (fun z => z hp)]
      have pc := congrArg pcs hp
      simp (disch := omega) [lc, jn, if_pos, he, lp, plen, ne2]
    · simp (disch := omega) [lc, jn, if_pos, he, lp, plen, ne, hp]
/-! ### read back -/
theorem low_ne {n : Tx} (h : n.all islow = true) : 58 ∉ n ∧ 125 ∉ n ∧ 47 ∉ n ∧ 123 ∉ n := by
  have key : ∀ x ∈ n, islow x = true := List.all_eq_true.mp h
  refine ⟨fun z => ?_, fun z => ?_, fun z => ?_, fun z => ?_⟩ <;> exact absurd (key _ z) (by decide)
theorem isNm_low {n : Tx} (h : isNm n = true) : n.all islow = true ∧ n ≠ [] := by
  unfold isNm at h
  simp only [Bool.and_eq_true, decide_eq_true_eq] at h
  exact ⟨h.2.2, fun z => by rw [z] at h; simp at h⟩
theorem parF_two {s : Nat} {p : Tx} (q : Tx) (h : s ∉ p) : parF s (p ++ s :: q) = some (p, q) := parF_app q h
theorem rdPc_T {f : Tx → Tx} (hf : ∀ t, (∀ c ∈ t, c ∈ T) → Ulo (f t) t) {p : Pc} {last : Bool} (h : okPT p) (hi : isPc p last = true) : rdPc (pcT f p) = some p := by
  have kl : 123 ∉ ([] : Tx) := by simp
  have gap : ∀ (n : Tx) (w : Tx), n.all islow = true → 125 ∉ w → rdPc (123 :: (n ++ 58 :: (w ++ [125]))) = rdGap (n ++ 58 :: w) := by
    intro n w hn hw
    have h1 : parF 123 (123 :: (n ++ 58 :: (w ++ [125]))) = some ([], n ++ 58 :: (w ++ [125])) := by simp [parF]
    have h2 : parF 125 (n ++ 58 :: (w ++ [125])) = some (n ++ 58 :: w, []) := by
      have : n ++ 58 :: (w ++ [125]) = (n ++ 58 :: w) ++ 125 :: [] := by simp
      rw [this]
      refine parF_app [] ?_
      simp only [List.mem_append, List.mem_cons, not_or]
      exact ⟨(low_ne hn).2.1, by decide, hw⟩
    unfold rdPc
    simp only [h1, h2]
    simp
  cases p with
  | step t =>
    have u := hf t h.1
    have : parF 123 (f t) = none := parF_not fun z => (u.sg _ z).2.2.1 rfl
    unfold rdPc pcT
    simp only [this, u.und]
    rfl
  | part a n t =>
    obtain ⟨⟨h1, _⟩, _, h4, _⟩ := h
    have u1 := hf a h1
    have u2 := hf t h4
    have hi' : ((a.all sgnB && t.all sgnB) && (decide (a ++ t ≠ []) && isNm n)) = true := hi
    simp only [Bool.and_eq_true, decide_eq_true_eq] at hi'
    have hn := isNm_low hi'.2.2
    have e1 : parF 123 (f a ++ 123 :: (n ++ 125 :: f t)) = some (f a, n ++ 125 :: f t) := parF_app _ fun z => (u1.sg _ z).2.2.1 rfl
    have e2 : parF 125 (n ++ 125 :: f t) = some (n, f t) := parF_app _ (low_ne hn.1).2.1
    have e3 : ¬ (f a = [] ∧ f t = []) := fun ⟨z1, z2⟩ => hi'.2.1 (by
      have a0 : a = [] := by
        by_cases c : a = []
        · exact c
        · exact absurd z1 (u1.ne c)
      have t0 : t = [] := by
        by_cases c : t = []
        · exact c
        · exact absurd z2 (u2.ne c)
      rw [a0, t0]; rfl)
    unfold rdPc pcT
    simp only [e1, e2, u1.und, u2.und]
    rw [if_neg e3]
  | num n =>
    have hn := isNm_low (show isNm n = true from hi)
    show rdPc (123 :: (n ++ 58 :: (kNum ++ [125]))) = _
    rw [gap n kNum hn.1 (by decide)]
    unfold rdGap
    rw [parF_app _ (low_ne hn.1).1]
    simp
  | word n =>
    have hn := isNm_low (show isNm n = true from hi)
    show rdPc (123 :: (n ++ 58 :: (kWord ++ [125]))) = _
    rw [gap n kWord hn.1 (by decide)]
    unfold rdGap
    rw [parF_app _ (low_ne hn.1).1]
    simp [kWord, kNum]
  | gap n =>
    have hn := isNm_low (show isNm n = true from hi)
    show rdPc (123 :: (n ++ [125])) = _
    have h1 : parF 123 (123 :: (n ++ [125])) = some ([], n ++ [125]) := by simp [parF]
    have h2 : parF 125 (n ++ [125]) = some (n, []) := parF_app [] (low_ne hn.1).2.1
    unfold rdPc
    simp only [h1, h2]
    simp only [and_self, if_true]
    unfold rdGap
    rw [parF_not (low_ne hn.1).1]
  | rest n =>
    have hn := isNm_low (show isNm n = true by
      have : (last && isNm n) = true := hi
      simp only [Bool.and_eq_true] at this
      exact this.2)
    show rdPc (123 :: (n ++ 58 :: (kRest ++ [125]))) = _
    rw [gap n kRest hn.1 (by decide)]
    unfold rdGap
    rw [parF_app _ (low_ne hn.1).1]
    simp [kRest, kWord, kNum]
theorem pcT_sg {f : Tx → Tx} (hf : ∀ t, (∀ c ∈ t, c ∈ T) → Ulo (f t) t) {p : Pc} {last : Bool} (h : okPT p) (hi : isPc p last = true) : pcT f p ≠ [] ∧ 47 ∉ pcT f p ∧ ∀ x ∈ pcT f p, x < 128 := by
  have lown : ∀ {n : Tx}, isNm n = true → 47 ∉ n ∧ ∀ x ∈ n, x < 128 := fun {n} hn => ⟨(low_ne (isNm_low hn).1).2.2.1, fun x hx => by
    have := List.all_eq_true.mp (isNm_low hn).1 x hx
    unfold islow at this
    simp only [Bool.and_eq_true, decide_eq_true_eq] at this
    omega⟩
  have tag : ∀ (n w : Tx), isNm n = true → (47 ∉ w ∧ ∀ x ∈ w, x < 128) → 123 :: (n ++ 58 :: (w ++ [125])) ≠ [] ∧ 47 ∉ 123 :: (n ++ 58 :: (w ++ [125])) ∧ ∀ x ∈ 123 :: (n ++ 58 :: (w ++ [125])), x < 128 := by
    intro n w hn hw
    have := lown hn
    refine ⟨by simp, ?_, ?_⟩
    · simp only [List.mem_append, List.mem_cons, not_or, List.not_mem_nil]
      exact ⟨by decide, this.1, by decide, hw.1, by decide, by simp⟩
    · intro x hx
      simp only [List.mem_append, List.mem_cons, List.not_mem_nil, or_false] at hx
      rcases hx with rfl | hx | rfl | hx | rfl
      · decide
      · exact this.2 x hx
      · decide
      · exact hw.2 x hx
      · decide
  cases p with
  | step t =>
    have u := hf t h.1
    have hi' : (t.all sgnB && (decide (t ≠ []) && !isdot t)) = true := hi
    simp only [Bool.and_eq_true, decide_eq_true_eq] at hi'
    exact ⟨u.ne hi'.2.1, fun z => (u.sg _ z).2.1 rfl, fun x hx => (u.sg x hx).1⟩
  | part a n t =>
    obtain ⟨⟨h1, _⟩, _, h4, _⟩ := h
    have u1 := hf a h1
    have u2 := hf t h4
    have hi' : ((a.all sgnB && t.all sgnB) && (decide (a ++ t ≠ []) && isNm n)) = true := hi
    simp only [Bool.and_eq_true, decide_eq_true_eq] at hi'
    have := lown hi'.2.2
    refine ⟨by simp [pcT], ?_, ?_⟩
    · simp only [pcT, List.mem_append, List.mem_cons, not_or]
      exact ⟨fun z => (u1.sg _ z).2.1 rfl, by decide, this.1, by decide, fun z => (u2.sg _ z).2.1 rfl⟩
    · intro x hx
      simp only [pcT, List.mem_append, List.mem_cons] at hx
      rcases hx with hx | rfl | hx | rfl | hx
      · exact (u1.sg x hx).1
      · decide
      · exact this.2 x hx
      · decide
      · exact (u2.sg x hx).1
  | num n => exact tag n kNum hi ⟨by decide, by decide⟩
  | word n => exact tag n kWord hi ⟨by decide, by decide⟩
  | rest n =>
    have : (last && isNm n) = true := hi
    simp only [Bool.and_eq_true] at this
    exact tag n kRest this.2 ⟨by decide, by decide⟩
  | gap n =>
    have := lown (show isNm n = true from hi)
    refine ⟨by simp [pcT], ?_, ?_⟩
    · simp only [pcT, List.mem_append, List.mem_cons, not_or, List.not_mem_nil]
      exact ⟨by decide, this.1, by decide, by simp⟩
    · intro x hx
      simp only [pcT, List.mem_append, List.mem_cons, List.not_mem_nil, or_false] at hx
      rcases hx with rfl | hx | rfl
      · decide
      · exact this.2 x hx
      · decide
theorem pcsOk_all : ∀ {ps : List Pc}, pcsOk ps = true → ∀ p ∈ ps, ∃ b, isPc p b = true
  | [], _, p, hp => by cases hp
  | [q], h, p, hp => by rw [List.mem_singleton.mp hp]; exact ⟨true, h⟩
  | q :: r :: s, h, p, hp => by
    have h' : (isPc q false && pcsOk (r :: s)) = true := h
    simp only [Bool.and_eq_true] at h'
    rcases List.mem_cons.mp hp with rfl | hp
    · exact ⟨false, h'.1⟩
    · exact pcsOk_all h'.2 p hp
theorem optAll_T {f : Tx → Tx} (hf : ∀ t, (∀ c ∈ t, c ∈ T) → Ulo (f t) t) : ∀ {ps : List Pc}, (∀ p ∈ ps, okPT p) → (∀ p ∈ ps, ∃ b, isPc p b = true) → optAll ((ps.map (pcT f)).map rdPc) = some ps
  | [], _, _ => rfl
  | p :: ps, h, hi => by
    obtain ⟨b, hb⟩ := hi p (by simp)
    rw [List.map_cons, List.map_cons, optAll, rdPc_T hf (h p (by simp)) hb, optAll_T hf (fun q hq => h q (by simp [hq])) fun q hq => hi q (by simp [hq])]
    rfl
theorem rdPat_T {f : Tx → Tx} (hf : ∀ t, (∀ c ∈ t, c ∈ T) → Ulo (f t) t) {p : Pat} (h : ∀ q ∈ p.ps, okPT q) (hi : isPat p = true) : rdPat (patT f p) = some p := by
  have hi' := hi
  unfold isPat at hi'
  simp only [Bool.and_eq_true, decide_eq_true_eq, Bool.or_eq_true] at hi'
  have al := pcsOk_all hi'.2.2.1
  have sg : ∀ x ∈ p.ps.map (pcT f), x ≠ [] ∧ 47 ∉ x := fun x hx => by
    obtain ⟨q, hq, rfl⟩ := List.mem_map.mp hx
    obtain ⟨b, hb⟩ := al q hq
    exact ⟨(pcT_sg hf (h q hq) hb).1, (pcT_sg hf (h q hq) hb).2.1⟩
  have oa := optAll_T hf h al
  unfold patT rdPat
  by_cases hp : p.ps = []
  · have he : p.e = true := hi'.2.1.resolve_left (fun z => z hp)
    have ep : p = ⟨[], true⟩ := by
      cases p; simp at hp he; rw [hp, he]
    subst ep
    simp [joinC, rdPs, rdEnd]
    exact hi
  · have hm : p.ps.map (pcT f) ≠ [] := by simpa using hp
    have jn := joinC_ne 47 hm fun x hx => (sg x hx).1
    have je := joinC_end 47 hm sg
    have cj := ct_join 47 hm fun x hx => (sg x hx).2
    generalize hJ : joinC 47 (p.ps.map (pcT f)) = J at jn je cj ⊢
    have epat : (⟨p.ps, p.e⟩ : Pat) = p := rfl
    cases he : p.e with
    | false =>
      simp only [Bool.false_eq_true, false_and, if_false, List.append_nil]
      have b1 : bodyOf J = J := by unfold bodyOf; rw [if_neg je]
      have b2 : rdEnd J = false := by unfold rdEnd; simp [jn, je]
      unfold rdPs
      rw [if_neg jn, b1, cj, oa, b2, ← he]
      simp [hi]
    | true =>
      rw [if_pos ⟨rfl, hp⟩]
      have s1 : [47] <:+ J ++ [47] := ⟨J, rfl⟩
      have b1 : bodyOf (J ++ [47]) = J := by unfold bodyOf; rw [if_pos s1]; simp
      have b2 : rdEnd (J ++ [47]) = true := by unfold rdEnd; simp
      have n1 : J ++ [47] ≠ [] := by simp
      have e1 : rdPs (J ++ [47]) = some p.ps := by unfold rdPs; rw [if_neg n1, b1, cj, oa]
      show ((rdPs (J ++ [47])).bind fun ps => if isPat (Pat.mk ps (rdEnd (J ++ [47]))) = true then some (Pat.mk ps (rdEnd (J ++ [47]))) else none) = some p
      rw [e1, b2]
      have e4 : Pat.mk p.ps true = p := by rw [← he]
      simp [e4, hi]
theorem patT_okT {f : Tx → Tx} (hf : ∀ t, (∀ c ∈ t, c ∈ T) → Ulo (f t) t) {p : Pat} (h : ∀ q ∈ p.ps, okPT q) (hi : isPat p = true) (hl : ∀ q ∈ p.ps, (pcT f q).length ≤ 70) : okT (patT f p) := by
  have hi' := hi
  unfold isPat at hi'
  simp only [Bool.and_eq_true, decide_eq_true_eq, Bool.or_eq_true] at hi'
  have al := pcsOk_all hi'.2.2.1
  have sg : ∀ x ∈ p.ps.map (pcT f), ∀ c ∈ x, c < 128 := fun x hx => by
    obtain ⟨q, hq, rfl⟩ := List.mem_map.mp hx
    obtain ⟨b, hb⟩ := al q hq
    exact (pcT_sg hf (h q hq) hb).2.2
  have key : ∀ ls : List Tx, (∀ x ∈ ls, ∀ c ∈ x, c < 128) → ∀ c ∈ joinC 47 ls, c < 128 := by
    intro ls
    induction ls with
    | nil => intro _ c hc; cases hc
    | cons x r ih =>
      intro hs c hc
      cases r with
      | nil => exact hs x (by simp) c hc
      | cons y r =>
        simp only [joinC, List.mem_append, List.mem_cons] at hc
        rcases hc with hc | rfl | hc
        · exact hs x (by simp) c hc
        · decide
        · exact ih (fun z hz => hs z (by simp [hz])) c hc
  have jl := joinC_len 47 70 (p.ps.map (pcT f)) fun x hx => by
    obtain ⟨q, hq, rfl⟩ := List.mem_map.mp hx
    exact hl q hq
  rw [List.length_map] at jl
  unfold patT
  refine ⟨fun c hc => ?_, ?_⟩
  · simp only [List.mem_cons, List.mem_append] at hc
    rcases hc with rfl | hc | hc
    · decide
    · exact key _ sg c hc
    · split at hc
      · simp at hc; subst hc; decide
      · cases hc
  · have : (if p.e = true ∧ p.ps ≠ [] then [47] else ([] : Tx)).length ≤ 1 := by split <;> simp
    simp only [List.length_cons, List.length_append]
    omega
end Wp

set_option Elab.async false
set_option linter.all false
set_option maxRecDepth 100000
set_option maxHeartbeats 4000000
namespace Wp
open PySem PySem.Spec PyProof.Rows L2 Wm
/-! ### drawn patterns are patterns -/
theorem okNm.nm {n : Tx} (h : okNm n) : isNm n = true := by
  unfold isNm
  simp only [Bool.and_eq_true, decide_eq_true_eq]
  refine ⟨?_, h.len, List.all_eq_true.mpr h.l⟩
  have := h.ne
  cases n with
  | nil => exact absurd rfl this
  | cons _ _ => simp
theorem gdR_is {n : Tx} {p : Pc} (hn : okNm n) (h : gdR n p) {last : Bool} (hl : p.isRest = true → last = true) : isPc p last = true := by
  cases p with
  | step t =>
    have ok : okSt t := h
    show (t.all sgnB && (decide (t ≠ []) && !isdot t)) = true
    rw [T_all ok.t, ok.dot, decide_eq_true ok.ne]
    rfl
  | part a m t =>
    obtain ⟨rfl, h1, h2, h3, _, _⟩ := h
    show ((a.all sgnB && t.all sgnB) && (decide (a ++ t ≠ []) && isNm m)) = true
    rw [T_all h1, T_all h2, decide_eq_true h3, hn.nm]
    rfl
  | num m => cases (show m = n from h); exact hn.nm
  | word m => cases (show m = n from h); exact hn.nm
  | gap m => cases (show m = n from h); exact hn.nm
  | rest m =>
    cases (show m = n from h)
    show (last && isNm n) = true
    rw [hl rfl, hn.nm]
    rfl
theorem gdR_PT {n : Tx} {p : Pc} (hn : okNm n) (h : gdR n p) : okPT p := by
  have ln := hn.len
  cases p with
  | step t => have ok : okSt t := h; exact ⟨ok.t, by have := ok.len; omega⟩
  | part a m t =>
    obtain ⟨rfl, h1, h2, h3, h4, h5⟩ := h
    exact ⟨⟨h1, by omega⟩, by omega, h2, by omega⟩
  | num m => cases (show m = n from h); show n.length ≤ 20; omega
  | word m => cases (show m = n from h); show n.length ≤ 20; omega
  | gap m => cases (show m = n from h); show n.length ≤ 20; omega
  | rest m => cases (show m = n from h); show n.length ≤ 20; omega
theorem gdR_len {f : Tx → Tx} (hf : ∀ t, (f t).length ≤ 3 * t.length) {n : Tx} {p : Pc} (hn : okNm n) (h : gdR n p) : (pcT f p).length ≤ 70 := by
  have ln := hn.len
  cases p with
  | step t => have ok : okSt t := h; have := ok.len; have := hf t; simp only [pcT]; omega
  | part a m t =>
    obtain ⟨rfl, h1, h2, h3, h4, h5⟩ := h
    have := hf a; have := hf t
    simp only [pcT, List.length_append, List.length_cons]
    omega
  | num m => cases (show m = n from h); simp [pcT, kNum]; omega
  | word m => cases (show m = n from h); simp [pcT, kWord]; omega
  | gap m => cases (show m = n from h); simp [pcT]; omega
  | rest m => cases (show m = n from h); simp [pcT, kRest]; omega
theorem Nmd_each {Q : Pc → Prop} (h1 : ∀ n p, okNm n → gdR n p → Q p) : ∀ {ps : List Pc} {N : List Tx}, Nmd ps N → (∀ n ∈ N, okNm n) → ∀ p ∈ ps, Q p
  | [], _, _, _, p, hp => by cases hp
  | q :: ps, [], h, _, _, _ => h.elim
  | q :: ps, n :: N, h, hN, p, hp => by
    rcases List.mem_cons.mp hp with rfl | hp
    · exact h1 n _ (hN n (by simp)) h.1
    · exact Nmd_each h1 h.2 (fun n hn => hN n (by simp [hn])) p hp
theorem Nmd_pcs : ∀ {ps : List Pc} {N : List Tx}, Nmd ps N → (∀ n ∈ N, okNm n) → RestLast ps → pcsOk ps = true
  | [], _, _, _, _ => rfl
  | q :: ps, [], h, _, _ => h.elim
  | [p], n :: N, h, hN, _ => gdR_is (hN n (by simp)) h.1 fun _ => rfl
  | p :: q :: r, n :: N, h, hN, hr => by
    show (isPc p false && pcsOk (q :: r)) = true
    rw [gdR_is (hN n (by simp)) h.1 (last := false) (fun z => by rw [hr p (by simp)] at z; cases z), Nmd_pcs h.2 (fun n hn => hN n (by simp [hn])) fun x hx => hr x (by simp only [List.dropLast_cons₂, List.mem_cons]; exact .inr hx)]
    rfl
structure PatG (p : Pat) : Prop where
  is : isPat p = true
  pt : ∀ q ∈ p.ps, okPT q
  pc : ∀ q ∈ p.ps, okPc q
  ln : ∀ (f : Tx → Tx), (∀ t, (f t).length ≤ 3 * t.length) → ∀ q ∈ p.ps, (pcT f q).length ≤ 70
theorem PatG.l {p : Pat} (h : PatG p) : p.ps.length ≤ 12 := by
  have := h.is
  unfold isPat at this
  simp only [Bool.and_eq_true, decide_eq_true_eq] at this
  exact this.1
theorem GoodP.patG {N : List Tx} {p : Pat} (h : GoodP N p) (hN : ∀ n ∈ N, okNm n) (hl : N.length ≤ 12) (nd : N.Nodup) : PatG p where
  is := by
    unfold isPat
    simp only [Bool.and_eq_true, decide_eq_true_eq, Bool.or_eq_true]
    refine ⟨Nat.le_trans (Nmd_len h.nm) hl, ?_, Nmd_pcs h.nm hN h.last, (Nmd_sub h.nm).nodup nd⟩
    by_cases hp : p.ps = []
    · exact .inr (h.e hp)
    · exact .inl hp
  pt := Nmd_each (fun n p hn hp => gdR_PT hn hp) h.nm hN
  pc := Nmd_ok h.nm fun n hn => (hN n hn).t
  ln := fun f hf => Nmd_each (fun n p hn hp => gdR_len hf hn hp) h.nm hN
theorem wrU (t : Tx) (h : ∀ c ∈ t, c ∈ T) : Ulo (wr t) t := Ulo.wr h
theorem uwrU (cs : List Int) (t : Tx) (h : ∀ c ∈ t, c ∈ T) : Ulo (uwr cs 0 t) t := uwr_u cs t 0 h
theorem pcT_ne {f : Tx → Tx} (hf : ∀ t, (∀ c ∈ t, c ∈ T) → Ulo (f t) t) {p : Pat} (h : PatG p) : ∀ q ∈ p.ps, pcT f q ≠ [] := fun q hq => by
  have hi := h.is
  unfold isPat at hi
  simp only [Bool.and_eq_true] at hi
  obtain ⟨b, hb⟩ := pcsOk_all hi.2.2.1 q hq
  exact (pcT_sg hf (h.pt q hq) hb).1
/-- shown and read again -/
theorem PatG.show {p : Pat} (h : PatG p) : g_show_pattern [p.d] = .ok (tx (patT wr p)) := spattern_ok p h.pt (by have := h.l; omega) (pcT_ne wrU h)
theorem PatG.text {p : Pat} (h : PatG p) (cs : List Int) (hc : cs.length ≤ 1000) : g__law_pattern_text [p.d, .list (cs.map .int)] = .ok (tx (patT (uwr cs 0) p)) := lpattern_ok p cs hc h.pt h.pc (by have := h.l; omega)
theorem PatG.okT {f : Tx → Tx} (hf : ∀ t, (∀ c ∈ t, c ∈ T) → Ulo (f t) t) (hl : ∀ t, (f t).length ≤ 3 * t.length) {p : Pat} (h : PatG p) : Wp.okT (patT f p) := patT_okT hf h.pt h.is (h.ln f hl)
theorem PatG.rd {f : Tx → Tx} (hf : ∀ t, (∀ c ∈ t, c ∈ T) → Ulo (f t) t) {p : Pat} (h : PatG p) : rdPat (patT f p) = some p := rdPat_T hf h.pt h.is
theorem PatG.read {f : Tx → Tx} (hf : ∀ t, (∀ c ∈ t, c ∈ T) → Ulo (f t) t) (hl : ∀ t, (f t).length ≤ 3 * t.length) {p : Pat} (h : PatG p) : g_read_pattern [tx (patT f p)] = .ok p.d := rpattern_ok (h.okT hf hl) (h.rd hf)
theorem patT_uwr (p : Pat) : patT (uwr [] 0) p = patT wr p := by
  have e : uwr [] 0 = wr := funext fun t => uwr_nil t 0
  rw [e]
end Wp

set_option Elab.async false
set_option linter.all false
set_option maxRecDepth 100000
/-! WmX: expressions that change what a slot owns; defs that change what they are handed. -/
namespace Wm
open PySem PySem.Spec PyProof.Rows L2

/-- a result with what the slots hold then -/
inductive Rx (α : Type) where
  | ok (a : α) (ρ : En)
  | ex (c : Str) (fs : List (Str × D)) (ρ : En)
  | bad
def Rx.bind {α β : Type} (r : Rx α) (k : α → En → Rx β) : Rx β := match r with
  | .ok a ρ => k a ρ
  | .ex c fs ρ => .ex c fs ρ
  | .bad => .bad
def rxOf {α : Type} (r : Rs α) (ρ : En) : Rx α := match r with
  | .ok a => .ok a ρ
  | .ex c fs => .ex c fs ρ
  | .bad => .bad
section
variable {α β γ : Type} (a : α) (ρ : En) (c : Str) (fs : List (Str × D)) (k : α → En → Rx β)
@[simp] theorem Rx.ok_bind : (Rx.ok a ρ).bind k = k a ρ := nrfl rfl
@[simp] theorem Rx.ex_bind : (Rx.ex c fs ρ : Rx α).bind k = .ex c fs ρ := nrfl rfl
@[simp] theorem Rx.bad_bind : (Rx.bad : Rx α).bind k = .bad := nrfl rfl
@[simp] theorem rxOf_ok : rxOf (.ok a) ρ = .ok a ρ := nrfl rfl
@[simp] theorem rxOf_ex : rxOf (.ex c fs : Rs α) ρ = .ex c fs ρ := nrfl rfl
@[simp] theorem rxOf_bad : rxOf (.bad : Rs α) ρ = .bad := nrfl rfl
theorem Rx.assoc (r : Rx α) (k : α → En → Rx β) (l : β → En → Rx γ) : (r.bind k).bind l = r.bind fun a ρ => (k a ρ).bind l := by cases r <;> rfl
end
section
variable (X : Cx) (W : WX) (B : Bs) (Hd0 : Hp) (fl : Md) (own : List Nat) (σ : L2.St) (Hd : Hp)
def exX (c : Str) (fs : List (Str × D)) (ρ : En) : Prop := ∀ cls a H' Hd', Rel X.K (B.res fl.E) Hd0 fl.E (wipeS fl.wp ρ) σ H' Hd' → ExR X.K X.mg H' Hd' c fs cls a → W cls a σ H'
def PoX (r : Rx D) (Q : VK) : Prop := match r with
  | .ok d ρ => ∀ v H' Hd', Rel X.K B Hd0 own ρ σ H' Hd' → Same Hd Hd' → Dq X.K Hd' v d → Q v H'
  | .ex c fs ρ => exX X W B Hd0 fl σ c fs ρ
  | .bad => False
def PoXB (r : Rx Bool) (Q : Bool → Hp → Prop) : Prop := match r with
  | .ok b ρ => ∀ H' Hd', Rel X.K B Hd0 own ρ σ H' Hd' → Same Hd Hd' → Q b H'
  | .ex c fs ρ => exX X W B Hd0 fl σ c fs ρ
  | .bad => False
def PoXA (r : Rx (List D)) (Q : List V → Hp → Prop) : Prop := match r with
  | .ok ds ρ => ∀ vs H' Hd', Rel X.K B Hd0 own ρ σ H' Hd' → Same Hd Hd' → DqAll X.K Hd' vs ds → Q vs H'
  | .ex c fs ρ => exX X W B Hd0 fl σ c fs ρ
  | .bad => False
end
/-- arguments, the one at q an owned name (slot i) -/
inductive ArgQ (K : PySem.W.Frag) (Hd : Hp) (σ : L2.St) (i : Nat) : Nat → List V → List D → Prop
  | here {v : V} {vs : List V} {ds : List D} : σ[i]? = some (some v) → DqAll K Hd vs ds → ArgQ K Hd σ i 0 (v :: vs) (.none :: ds)
  | next {q : Nat} {v : V} {d : D} {vs : List V} {ds : List D} : Dq K Hd v d → ArgQ K Hd σ i q vs ds → ArgQ K Hd σ i (q + 1) (v :: vs) (d :: ds)
section
variable (X : Cx) (W : WX) (B : Bs) (Hd0 : Hp) (fl : Md) (own : List Nat) (σ : L2.St) (Hd : Hp)
def PoXQ (i q : Nat) (r : Rx (List D)) (Q : List V → Hp → Prop) : Prop := match r with
  | .ok ds ρ => ∀ vs H' Hd', Rel X.K B Hd0 own ρ σ H' Hd' → Same Hd Hd' → ArgQ X.K Hd' σ i q vs ds → Q vs H'
  | .ex c fs ρ => exX X W B Hd0 fl σ c fs ρ
  | .bad => False
end
structure SX (X : Cx) (W : WX) (fl : Md) (own : List Nat) (e : Expr) (f : En → Rx D) : Prop where
  ex : ∃ t, PE X e t ∧ ∀ B Hd0 ρ σ H Hd, Rel X.K B Hd0 own ρ σ H Hd → ∀ Q : VK, PoX X W B Hd0 fl own σ Hd (f ρ) Q → t σ H Q
structure SXC (X : Cx) (W : WX) (fl : Md) (own : List Nat) (e : Expr) (f : En → Rx Bool) : Prop where
  ex : ∃ t, PT X e t ∧ ∀ B Hd0 ρ σ H Hd, Rel X.K B Hd0 own ρ σ H Hd → ∀ Q, PoXB X W B Hd0 fl own σ Hd (f ρ) Q → t σ H Q
structure SXW (X : Cx) (W : WX) (fl : Md) (own : List Nat) (e : Expr) (f : En → Rx Bool) : Prop where
  ex : ∃ t, PW X e t ∧ ∀ B Hd0 ρ σ H Hd, Rel X.K B Hd0 own ρ σ H Hd → ∀ Q, PoXB X W B Hd0 fl own σ Hd (f ρ) Q → t σ H Q
structure SXA (X : Cx) (W : WX) (fl : Md) (own : List Nat) (es : List Expr) (f : En → Rx (List D)) : Prop where
  ex : ∃ t, PA X es t ∧ ∀ B Hd0 ρ σ H Hd, Rel X.K B Hd0 own ρ σ H Hd → ∀ Q, PoXA X W B Hd0 fl own σ Hd (f ρ) Q → t σ H Q
structure SXQ (X : Cx) (W : WX) (fl : Md) (own : List Nat) (i q : Nat) (es : List Expr) (f : En → Rx (List D)) : Prop where
  ex : ∃ t, PA X es t ∧ ∀ B Hd0 ρ σ H Hd, Rel X.K B Hd0 own ρ σ H Hd → ∀ Q, PoXQ X W B Hd0 fl own σ Hd i q (f ρ) Q → t σ H Q
section
variable {X : Cx} {W : WX} {fl : Md} {own : List Nat} {B : Bs} {Hd0 : Hp} {ρ : En} {σ : L2.St} {H Hd H1 Hd1 : Hp}
theorem same_tr {H1 H2 H3 : Hp} (a : Same H1 H2) (b : Same H2 H3) : Same H1 H3 := fun x o e => b x o (a x o e)
theorem PoX.up {r : Rx D} {Q : VK} (h : PoX X W B Hd0 fl own σ Hd r Q) (s : Same Hd Hd1) : PoX X W B Hd0 fl own σ Hd1 r Q := by
  cases r with
  | ok d ρ => exact fun v H' Hd' R s' => h v H' Hd' R (same_tr s s')
  | ex c fs ρ => exact h
  | bad => exact h
theorem PoXB.up {r : Rx Bool} {Q : Bool → Hp → Prop} (h : PoXB X W B Hd0 fl own σ Hd r Q) (s : Same Hd Hd1) : PoXB X W B Hd0 fl own σ Hd1 r Q := by
  cases r with
  | ok d ρ => exact fun H' Hd' R s' => h H' Hd' R (same_tr s s')
  | ex c fs ρ => exact h
  | bad => exact h
theorem PoXA.up {r : Rx (List D)} {Q : List V → Hp → Prop} (h : PoXA X W B Hd0 fl own σ Hd r Q) (s : Same Hd Hd1) : PoXA X W B Hd0 fl own σ Hd1 r Q := by
  cases r with
  | ok d ρ => exact fun vs H' Hd' R s' => h vs H' Hd' R (same_tr s s')
  | ex c fs ρ => exact h
  | bad => exact h
theorem PoXQ.up {i q : Nat} {r : Rx (List D)} {Q : List V → Hp → Prop} (h : PoXQ X W B Hd0 fl own σ Hd i q r Q) (s : Same Hd Hd1) : PoXQ X W B Hd0 fl own σ Hd1 i q r Q := by
  cases r with
  | ok d ρ => exact fun vs H' Hd' R s' => h vs H' Hd' R (same_tr s s')
  | ex c fs ρ => exact h
  | bad => exact h
/-- from what is pure -/
theorem PoX.pe {r : Rs D} {Q : VK} (R : Rel X.K B Hd0 own ρ σ H Hd) (hE : okE fl own = true) (q : PoX X W B Hd0 fl own σ Hd (rxOf r ρ) Q) : PoE X W σ H Hd r Q := by
  cases r with
  | ok d => exact fun v H' Hd' s x => q v H' Hd' (R.step s) s.keep x
  | ex c fs =>
    intro cls a H' Hd' s x
    obtain ⟨Hd'', R', up⟩ := (R.step s).exc hE
    exact q cls a H' Hd'' R' (x.mono (fun _ _ z => z) up)
  | bad => exact q
theorem PoXB.pe {r : Rs Bool} {Q : Bool → Hp → Prop} (R : Rel X.K B Hd0 own ρ σ H Hd) (hE : okE fl own = true) (q : PoXB X W B Hd0 fl own σ Hd (rxOf r ρ) Q) : PoT X W σ H Hd r Q := by
  cases r with
  | ok d => exact fun H' Hd' s => q H' Hd' (R.step s) s.keep
  | ex c fs =>
    intro cls a H' Hd' s x
    obtain ⟨Hd'', R', up⟩ := (R.step s).exc hE
    exact q cls a H' Hd'' R' (x.mono (fun _ _ z => z) up)
  | bad => exact q
end
def xP {α : Type} (f : En → Rs α) : En → Rx α := fun ρ => rxOf (f ρ) ρ
def x2 (g : D → D → Rs D) (fa fb : En → Rx D) : En → Rx D := fun ρ => (fa ρ).bind fun x ρ1 => (fb ρ1).bind fun y ρ2 => rxOf (g x y) ρ2
def xB (f : En → Rx D) : En → Rx Bool := fun ρ => (f ρ).bind fun d ρ1 => rxOf (asB (.ok d)) ρ1
def xNo (f : En → Rx Bool) : En → Rx Bool := fun ρ => (f ρ).bind fun b ρ1 => .ok (!b) ρ1
def xAnB (f g : En → Rx Bool) : En → Rx Bool := fun ρ => (f ρ).bind fun c ρ1 => if c = true then g ρ1 else .ok false ρ1
def xOrB (f g : En → Rx Bool) : En → Rx Bool := fun ρ => (f ρ).bind fun c ρ1 => if c = true then .ok true ρ1 else g ρ1
def xAn (f g : En → Rx D) : En → Rx D := fun ρ => (f ρ).bind fun d ρ1 => match d with
  | .bool true => g ρ1
  | .bool false => .ok (.bool false) ρ1
  | _ => .bad
def xOr (f g : En → Rx D) : En → Rx D := fun ρ => (f ρ).bind fun d ρ1 => match d with
  | .bool true => .ok (.bool true) ρ1
  | .bool false => g ρ1
  | _ => .bad
def xNot (f : En → Rx D) : En → Rx D := fun ρ => (f ρ).bind fun d ρ1 => match d with
  | .bool c => .ok (.bool (!c)) ρ1
  | _ => .bad
def xANil : En → Rx (List D) := fun ρ => .ok [] ρ
def xACons (f : En → Rx D) (g : En → Rx (List D)) : En → Rx (List D) := fun ρ => (f ρ).bind fun d ρ1 => (g ρ1).bind fun ds ρ2 => .ok (d :: ds) ρ2
def xQHere (g : En → Rx (List D)) : En → Rx (List D) := fun ρ => (g ρ).bind fun ds ρ2 => .ok (.none :: ds) ρ2
/-- the slot handed in: it must hold something -/
def xQ0 (i : Nat) (g : En → Rx (List D)) : En → Rx (List D) := fun ρ => match ρ[i]? with
  | some (some _) => xQHere g ρ
  | _ => .bad
def xTup (g : En → Rx (List D)) : En → Rx D := fun ρ => (g ρ).bind fun ds ρ1 => if ds.length ≤ sizeLine then .ok (.tuple ds) ρ1 else .bad
def xLst (g : En → Rx (List D)) : En → Rx D := fun ρ => (g ρ).bind fun ds ρ1 => if ds.length ≤ sizeLine then .ok (.list ds) ρ1 else .bad
section
variable {X : Cx} {W : WX} {fl : Md} {own : List Nat} {e a b : Expr} {es rest : List Expr} {f fa fb : En → Rx D} {ga gb : En → Rx Bool} {g : En → Rx (List D)} {pos : Pos}
theorem sx_se {h : En → Rs D} (p : SE X W own e h) (hE : okE fl own = true := by rfl) : SX X W fl own e (xP h) := by
  obtain ⟨t, p, r⟩ := p.ex
  exact ⟨t, p, fun B Hd0 ρ σ H Hd R Q q => r _ _ _ _ _ _ R _ (PoX.pe R hE q)⟩
theorem sxc_sc {h : En → Rs Bool} (p : SC X W own e h) (hE : okE fl own = true := by rfl) : SXC X W fl own e (xP h) := by
  obtain ⟨t, p, r⟩ := p.ex
  exact ⟨t, p, fun B Hd0 ρ σ H Hd R Q q => r _ _ _ _ _ _ R _ (PoXB.pe R hE q)⟩
theorem run2x {ta tb : TE} {g : D → D → Rs D} {r : R2} (hr : OpS X r g) (hE : okE fl own = true)
    (ra : ∀ B Hd0 ρ σ H Hd, Rel X.K B Hd0 own ρ σ H Hd → ∀ Q : VK, PoX X W B Hd0 fl own σ Hd (fa ρ) Q → ta σ H Q)
    (rb : ∀ B Hd0 ρ σ H Hd, Rel X.K B Hd0 own ρ σ H Hd → ∀ Q : VK, PoX X W B Hd0 fl own σ Hd (fb ρ) Q → tb σ H Q)
    {B : Bs} {Hd0 : Hp} {ρ : En} {σ : L2.St} {H Hd : Hp} (R : Rel X.K B Hd0 own ρ σ H Hd) {Q : VK} (q : PoX X W B Hd0 fl own σ Hd (x2 g fa fb ρ) Q) : tOp r ta tb σ H Q := by
  refine ra _ _ _ _ _ _ R _ ?_
  unfold x2 at q
  cases ha : fa ρ with
  | bad => rw [ha] at q; exact q
  | ex c fs ρ1 => rw [ha] at q; exact q
  | ok d1 ρ1 =>
    rw [ha] at q
    intro x H1 Hd1 R1 s1 x1
    refine rb _ _ _ _ _ _ R1 _ ?_
    rw [Rx.ok_bind] at q
    cases hb : fb ρ1 with
    | bad => rw [hb] at q; exact q
    | ex c fs ρ2 => rw [hb] at q; exact q
    | ok d2 ρ2 =>
      rw [hb] at q
      intro y H2 Hd2 R2 s2 y2
      exact hr W σ H2 Hd2 x y d1 d2 R2.st.sub (.inl (dq_mono s2 x1)) (.inl y2) Q (PoX.pe R2 hE (PoX.up q (same_tr s1 s2)))
theorem sx_op {op : Operator} {r : R2} {g : D → D → Rs D} (ho : OpR X (binaryOp op) r) (hr : OpS X r g) (ha : SX X W fl own a fa) (hb : SX X W fl own b fb) (hE : okE fl own = true := by rfl) : SX X W fl own (.BinOp a op b pos) (x2 g fa fb) := by
  obtain ⟨ta, pa, ra⟩ := ha.ex
  obtain ⟨tb, pb, rb⟩ := hb.ex
  exact ⟨_, pe_op ho pa pb, fun B Hd0 ρ σ H Hd R Q q => run2x hr hE ra rb R q⟩
theorem sx_cmp {op : CmpOp} {r : R2} {g : D → D → Rs D} (ho : OpR X (compareOp op) r) (hr : OpS X r g) (ha : SX X W fl own a fa) (hb : SX X W fl own b fb) (hm : behindInMarks op b = false) (hE : okE fl own = true := by rfl) : SX X W fl own (.Compare a [op] [b] pos) (x2 g fa fb) := by
  obtain ⟨ta, pa, ra⟩ := ha.ex
  obtain ⟨tb, pb, rb⟩ := hb.ex
  exact ⟨_, pe_cmpR ho pa pb hm, fun B Hd0 ρ σ H Hd R Q q => run2x hr hE ra rb R q⟩
theorem sx_ix {r : R2} {g : D → D → Rs D} (ho : IxR X r) (hr : OpS X r g) (ha : SX X W fl own a fa) (hb : SX X W fl own b fb) (hE : okE fl own = true := by rfl) (hs : PlainIx b := by exact fun _ _ => rfl) : SX X W fl own (.Subscript a b pos) (x2 g fa fb) := by
  obtain ⟨ta, pa, ra⟩ := ha.ex
  obtain ⟨tb, pb, rb⟩ := hb.ex
  exact ⟨_, pe_ix ho pa pb hs, fun B Hd0 ρ σ H Hd R Q q => run2x hr hE ra rb R q⟩
theorem PoX.of_xB {B : Bs} {Hd0 : Hp} {r : Rx D} {σ : L2.St} {H Hd : Hp} {Q : Bool → Hp → Prop} (q : PoXB X W B Hd0 fl own σ Hd (r.bind fun d ρ1 => rxOf (asB (.ok d)) ρ1) Q) : PoX X W B Hd0 fl own σ Hd r (fun x H1 => ∃ k, x = .bl k ∧ Q k H1) := by
  cases r with
  | bad => exact q
  | ex c fs ρ => exact q
  | ok d ρ =>
    intro v H' Hd' R s x
    cases x with
    | bl k => exact ⟨k, rfl, q H' Hd' R s⟩
    | _ => exact (show False from q).elim
theorem sxc_cmp {op : CmpOp} {r : R2} {g : D → D → Rs D} (ho : OpR X (compareOp op) r) (hr : OpS X r g) (ha : SX X W fl own a fa) (hb : SX X W fl own b fb) (hm : behindInMarks op b = false) (hE : okE fl own = true := by rfl) : SXC X W fl own (.Compare a [op] [b] pos) (xB (x2 g fa fb)) := by
  obtain ⟨ta, pa, ra⟩ := ha.ex
  obtain ⟨tb, pb, rb⟩ := hb.ex
  exact ⟨_, pt_cmpR ho pa pb hm, fun B Hd0 ρ σ H Hd R Q q => run2x hr hE ra rb R (PoX.of_xB (H := H) q)⟩
theorem sxc_val (h : SX X W fl own e f) (he : ∀ whole, isTrue e X.env whole = (do let v ← whole; standAt e.pos; holding [v] (truthy v)) := by intro _; rfl) : SXC X W fl own e (xB f) := by
  obtain ⟨t, p, r⟩ := h.ex
  exact ⟨_, pt_val p he, fun B Hd0 ρ σ H Hd R Q q => r _ _ _ _ _ _ R _ (PoX.of_xB (H := H) q)⟩
theorem sxc_not (h : SXC X W fl own a ga) : SXC X W fl own (.UnaryOp .Not a pos) (xNo ga) := by
  obtain ⟨t, p, r⟩ := h.ex
  refine ⟨_, pt_not p, fun B Hd0 ρ σ H Hd R Q q => r _ _ _ _ _ _ R _ ?_⟩
  unfold xNo at q
  cases ha : ga ρ with
  | bad => rw [ha] at q; exact q
  | ex c fs ρ1 => rw [ha] at q; exact q
  | ok c ρ1 => rw [ha] at q; exact q
theorem sxw_and1 (h : SXC X W fl own a ga) : SXW X W fl own (.BoolOp .And [a] pos) ga := let ⟨_, p, r⟩ := h.ex; ⟨_, pw_and1 p, r⟩
theorem sxw_or1 (h : SXC X W fl own a ga) : SXW X W fl own (.BoolOp .Or [a] pos) ga := let ⟨_, p, r⟩ := h.ex; ⟨_, pw_or1 p, r⟩
theorem sxw_and (h : SXC X W fl own a ga) (h2 : SXW X W fl own (.BoolOp .And (b :: rest) pos) gb) : SXW X W fl own (.BoolOp .And (a :: b :: rest) pos) (xAnB ga gb) := by
  obtain ⟨ta, pa, ra⟩ := h.ex
  obtain ⟨tb, pb, rb⟩ := h2.ex
  refine ⟨_, pw_and pa pb, fun B Hd0 ρ σ H Hd R Q q => ?_⟩
  refine ra _ _ _ _ _ _ R _ ?_
  unfold xAnB at q
  cases ha : ga ρ with
  | bad => rw [ha] at q; exact q
  | ex c fs ρ1 => rw [ha] at q; exact q
  | ok c ρ1 =>
    rw [ha] at q
    intro H1 Hd1 R1 s1
    rw [Rx.ok_bind] at q
    have q1 := PoXB.up q s1
    cases c with
    | true => exact rb _ _ _ _ _ _ R1 _ q1
    | false => exact q1 H1 Hd1 R1 (fun _ _ z => z)
theorem sxw_or (h : SXC X W fl own a ga) (h2 : SXW X W fl own (.BoolOp .Or (b :: rest) pos) gb) : SXW X W fl own (.BoolOp .Or (a :: b :: rest) pos) (xOrB ga gb) := by
  obtain ⟨ta, pa, ra⟩ := h.ex
  obtain ⟨tb, pb, rb⟩ := h2.ex
  refine ⟨_, pw_or pa pb, fun B Hd0 ρ σ H Hd R Q q => ?_⟩
  refine ra _ _ _ _ _ _ R _ ?_
  unfold xOrB at q
  cases ha : ga ρ with
  | bad => rw [ha] at q; exact q
  | ex c fs ρ1 => rw [ha] at q; exact q
  | ok c ρ1 =>
    rw [ha] at q
    intro H1 Hd1 R1 s1
    rw [Rx.ok_bind] at q
    have q1 := PoXB.up q s1
    cases c with
    | true => exact q1 H1 Hd1 R1 (fun _ _ z => z)
    | false => exact rb _ _ _ _ _ _ R1 _ q1
theorem SXW.t (h : SXW X W fl own e ga) : SXC X W fl own e ga := let ⟨_, p, r⟩ := h.ex; ⟨_, p.pt, r⟩
theorem sx_one {op : BoolOp} (h : SX X W fl own e f) : SX X W fl own (.BoolOp op [e] pos) f := let ⟨_, p, r⟩ := h.ex; ⟨_, pe_one p, r⟩
theorem sx_and (h : SX X W fl own a fa) (h2 : SX X W fl own (.BoolOp .And (b :: rest) pos) fb) : SX X W fl own (.BoolOp .And (a :: b :: rest) pos) (xAn fa fb) := by
  obtain ⟨ta, pa, ra⟩ := h.ex
  obtain ⟨tb, pb, rb⟩ := h2.ex
  refine ⟨_, pe_and pa pb, fun B Hd0 ρ σ H Hd R Q q => ?_⟩
  refine ra _ _ _ _ _ _ R _ ?_
  unfold xAn at q
  cases ha : fa ρ with
  | bad => rw [ha] at q; exact q
  | ex c fs ρ1 => rw [ha] at q; exact q
  | ok d ρ1 =>
    rw [ha] at q
    intro v H1 Hd1 R1 s1 x
    rw [Rx.ok_bind] at q
    have q1 := PoX.up q s1
    cases x with
    | bl c =>
      refine ⟨c, rfl, ?_⟩
      cases c with
      | true => exact rb _ _ _ _ _ _ R1 _ q1
      | false => exact q1 (.bl false) H1 Hd1 R1 (fun _ _ z => z) (.bl false)
    | _ => exact (show False from q1).elim
theorem sx_or (h : SX X W fl own a fa) (h2 : SX X W fl own (.BoolOp .Or (b :: rest) pos) fb) : SX X W fl own (.BoolOp .Or (a :: b :: rest) pos) (xOr fa fb) := by
  obtain ⟨ta, pa, ra⟩ := h.ex
  obtain ⟨tb, pb, rb⟩ := h2.ex
  refine ⟨_, pe_or pa pb, fun B Hd0 ρ σ H Hd R Q q => ?_⟩
  refine ra _ _ _ _ _ _ R _ ?_
  unfold xOr at q
  cases ha : fa ρ with
  | bad => rw [ha] at q; exact q
  | ex c fs ρ1 => rw [ha] at q; exact q
  | ok d ρ1 =>
    rw [ha] at q
    intro v H1 Hd1 R1 s1 x
    rw [Rx.ok_bind] at q
    have q1 := PoX.up q s1
    cases x with
    | bl c =>
      refine ⟨c, rfl, ?_⟩
      cases c with
      | true => exact q1 (.bl true) H1 Hd1 R1 (fun _ _ z => z) (.bl true)
      | false => exact rb _ _ _ _ _ _ R1 _ q1
    | _ => exact (show False from q1).elim
theorem sx_not (h : SX X W fl own a fa) : SX X W fl own (.UnaryOp .Not a pos) (xNot fa) := by
  obtain ⟨ta, pa, ra⟩ := h.ex
  refine ⟨_, pe_not pa, fun B Hd0 ρ σ H Hd R Q q => ?_⟩
  refine ra _ _ _ _ _ _ R _ ?_
  unfold xNot at q
  cases ha : fa ρ with
  | bad => rw [ha] at q; exact q
  | ex c fs ρ1 => rw [ha] at q; exact q
  | ok d ρ1 =>
    rw [ha] at q
    intro v H1 Hd1 R1 s1 x
    rw [Rx.ok_bind] at q
    have q1 := PoX.up q s1
    cases x with
    | bl c => exact ⟨c, rfl, q1 (.bl (!c)) H1 Hd1 R1 (fun _ _ z => z) (.bl _)⟩
    | _ => exact (show False from q1).elim
theorem sxa_nil : SXA X W fl own [] xANil := ⟨_, pa_nil, fun B Hd0 ρ σ H Hd R Q q => q [] H Hd R (fun _ _ z => z) .nil⟩
theorem sxa_cons (h : SX X W fl own e f) (h2 : SXA X W fl own es g) (hs : starEach (e :: es) X.env = (false, eval e X.env) :: starEach es X.env := by rfl) : SXA X W fl own (e :: es) (xACons f g) := by
  obtain ⟨ta, pa, ra⟩ := h.ex
  obtain ⟨tb, pb, rb⟩ := h2.ex
  refine ⟨_, pa_cons pa pb hs, fun B Hd0 ρ σ H Hd R Q q => ?_⟩
  refine ra _ _ _ _ _ _ R _ ?_
  unfold xACons at q
  cases ha : f ρ with
  | bad => rw [ha] at q; exact q
  | ex c fs ρ1 => rw [ha] at q; exact q
  | ok d ρ1 =>
    rw [ha] at q
    intro v H1 Hd1 R1 s1 x
    rw [Rx.ok_bind] at q
    refine rb _ _ _ _ _ _ R1 _ ?_
    cases hb : g ρ1 with
    | bad => rw [hb] at q; exact q
    | ex c fs ρ2 => rw [hb] at q; exact q
    | ok ds ρ2 =>
      rw [hb] at q
      intro vs H2 Hd2 R2 s2 xs
      exact q (v :: vs) H2 Hd2 R2 (same_tr s1 s2) (.cons (dq_mono s2 x) xs)
theorem sx_tup {k : Nat} (h : SXA X W fl own es g) : SX X W fl own (.Tuple es k pos) (xTup g) := by
  obtain ⟨ta, pa, ra⟩ := h.ex
  refine ⟨_, pe_tup pa, fun B Hd0 ρ σ H Hd R Q q => ?_⟩
  refine ra _ _ _ _ _ _ R _ ?_
  unfold xTup at q
  cases ha : g ρ with
  | bad => rw [ha] at q; exact q
  | ex c fs ρ1 => rw [ha] at q; exact q
  | ok ds ρ1 =>
    rw [ha] at q
    rw [Rx.ok_bind] at q
    intro vs H1 Hd1 R1 s1 xs
    by_cases hl : ds.length ≤ sizeLine
    · rw [if_pos hl] at q
      refine ⟨by rw [xs.length]; exact hl, fun p hp => ?_⟩
      have n2 : Same Hd1 (upd Hd1 p (.tup vs)) := same_upd (none_of_same R1.st.sub hp)
      exact q (.ref p) _ _ (R1.step (.new R1.st.sub hp)) (same_tr s1 n2) (.tup (.inl (.inl upd_same)) (dqAll_mono n2 xs))
    · rw [if_neg hl] at q; exact q.elim
theorem sx_lst (h : SXA X W fl own es g) : SX X W fl own (.List es pos) (xLst g) := by
  obtain ⟨ta, pa, ra⟩ := h.ex
  refine ⟨_, pe_lst pa, fun B Hd0 ρ σ H Hd R Q q => ?_⟩
  refine ra _ _ _ _ _ _ R _ ?_
  unfold xLst at q
  cases ha : g ρ with
  | bad => rw [ha] at q; exact q
  | ex c fs ρ1 => rw [ha] at q; exact q
  | ok ds ρ1 =>
    rw [ha] at q
    rw [Rx.ok_bind] at q
    intro vs H1 Hd1 R1 s1 xs
    by_cases hl : ds.length ≤ sizeLine
    · rw [if_pos hl] at q
      refine ⟨by rw [xs.length]; exact hl, fun p hp => ?_⟩
      have n2 : Same Hd1 (upd Hd1 p (.lst vs)) := same_upd (none_of_same R1.st.sub hp)
      exact q (.ref p) _ _ (R1.step (.new R1.st.sub hp)) (same_tr s1 n2) (.lst (.inl (.inl upd_same)) (dqAll_mono n2 xs))
    · rw [if_neg hl] at q; exact q.elim
/-- the arguments of a call that changes one of them -/
theorem sxq_here (i : Nat) {x : Str} {p : Pos} (h2 : SXA X W fl own es g) (hN : X.N[i]? = some x := by rfl) (hv : Vis X.env.scope x := by first | exact Or.inl rfl | exact Or.inr (Or.inl rfl) | exact Or.inr (Or.inr rfl))
    (hd : (x == ("__debug__" : Str)) = false := by rfl) (hcd : (x == ("__classdict__" : Str)) = false := by rfl) (hs : starEach (.Name x p :: es) X.env = (false, eval (.Name x p) X.env) :: starEach es X.env := by rfl)
    (ho : (own.any fun j => decide (j < 1000) && decide (j % 100 = i)) = true := by rfl) : SXQ X W fl own i 0 (.Name x p :: es) (xQ0 i g) := by
  obtain ⟨tb, pb, rb⟩ := h2.ex
  refine ⟨_, pa_cons (pe_var hN hv hd hcd) pb hs, fun B Hd0 ρ σ H Hd R Q q => ?_⟩
  unfold xQ0 at q
  cases hi : ρ[i]? with
  | none => rw [hi] at q; exact q.elim
  | some o =>
    cases o with
    | none => rw [hi] at q; exact q.elim
    | some d =>
      rw [hi] at q
      obtain ⟨j, m, hj⟩ := List.any_eq_true.mp ho
      simp only [Bool.and_eq_true, decide_eq_true_eq] at hj
      obtain ⟨A, h1, _⟩ := R.ex
      obtain ⟨v, e1, _⟩ := h1 j m hj.1 d (by rw [hj.2]; exact hi)
      rw [hj.2] at e1
      refine ⟨v, e1, ?_⟩
      refine rb _ _ _ _ _ _ R _ ?_
      unfold xQHere at q
      cases hb : g ρ with
      | bad => rw [hb] at q; exact q
      | ex c fs ρ2 => rw [hb] at q; exact q
      | ok ds ρ2 =>
        rw [hb] at q
        intro vs H2 Hd2 R2 s2 xs
        exact q (v :: vs) H2 Hd2 R2 s2 (.here e1 xs)
theorem sxq_next {i q : Nat} (h : SX X W fl own e f) (h2 : SXQ X W fl own i q es g) (hs : starEach (e :: es) X.env = (false, eval e X.env) :: starEach es X.env := by rfl) : SXQ X W fl own i (q + 1) (e :: es) (xACons f g) := by
  obtain ⟨ta, pa, ra⟩ := h.ex
  obtain ⟨tb, pb, rb⟩ := h2.ex
  refine ⟨_, pa_cons pa pb hs, fun B Hd0 ρ σ H Hd R Q q => ?_⟩
  refine ra _ _ _ _ _ _ R _ ?_
  unfold xACons at q
  cases ha : f ρ with
  | bad => rw [ha] at q; exact q
  | ex c fs ρ1 => rw [ha] at q; exact q
  | ok d ρ1 =>
    rw [ha] at q
    intro v H1 Hd1 R1 s1 x
    rw [Rx.ok_bind] at q
    refine rb _ _ _ _ _ _ R1 _ ?_
    cases hb : g ρ1 with
    | bad => rw [hb] at q; exact q
    | ex c fs ρ2 => rw [hb] at q; exact q
    | ok ds ρ2 =>
      rw [hb] at q
      intro vs H2 Hd2 R2 s2 xs
      exact q (v :: vs) H2 Hd2 R2 (same_tr s1 s2) (.next (dq_mono s2 x) xs)
end
end Wm

set_option Elab.async false
set_option linter.all false
set_option maxRecDepth 100000
/-! WmX2: calls of the layer WmX; defs that change what they are handed; objects. -/
namespace Wm
open PySem PySem.Spec PyProof.Rows L2

/-! ### calls that change nothing, of arguments that do -/
def xCall (n : Nat) (g : List D → Rs D) (fa : En → Rx (List D)) : En → Rx D := fun ρ => (fa ρ).bind fun ds ρ1 => if ds.length = n then rxOf (g ds) ρ1 else .bad
def xBlt (g : List D → Rs D) (fa : En → Rx (List D)) : En → Rx D := fun ρ => (fa ρ).bind fun ds ρ1 => rxOf (g ds) ρ1
theorem DqAll.dv {K : PySem.W.Frag} {H Hd : Hp} : ∀ {vs : List V} {ds : List D}, DqAll K Hd vs ds → DvAll K H Hd vs ds
  | _, _, .nil => .nil
  | _, _, .cons a r => .cons (.inl a) (DqAll.dv r)
section
variable {X : Cx} {W : WX} {fl : Md} {own : List Nat} {k j n : Nat} {x : Str} {gf : List D → Rs D} {e : Expr} {es : List Expr} {fa : En → Rx (List D)} {p pos : Pos} {id : String} {r : List V → Hp → VK → Prop} {g : List D → Rs D}
theorem sx_call (C : Cxt X W k) (F : Cal X.prog X.w X.K X.mg X.base j x false n gf) (ha : SXA X W fl own (e :: es) fa) (hj : j ≤ k := by decide) (hE : okE fl own = true := by rfl) (hg : Gl X x := by rfl) (hdb : (x == ("__debug__" : Str)) = false := by rfl) (he : starEach (e :: es) X.env = (false, eval e X.env) :: starEach es X.env := by rfl) (hpl : (backTo pos (starEach es X.env)).any (·.1) = false := by rfl) :
    SX X W fl own (.Call (.Name x p) (e :: es) [] pos) (xCall n gf fa) := by
  obtain ⟨f, fd, ps, ok, hm, hk, hb⟩ := F.ex
  obtain ⟨ta, pa, ra⟩ := ha.ex
  refine ⟨_, pe_callS ok (C.room.mono hj) hg hm hk hb (fun σ => passAt C.tk σ) pa hdb he hpl, fun B Hd0 ρ σ H Hd R Q q => ?_⟩
  refine ra _ _ _ _ _ _ R _ ?_
  unfold xCall at q
  cases hf : fa ρ with
  | bad => rw [hf] at q; exact q
  | ex c fs ρ1 => rw [hf] at q; exact q
  | ok ds ρ1 =>
    rw [hf] at q
    rw [Rx.ok_bind] at q
    intro vs H1 Hd1 R1 s1 xs
    by_cases hl : ds.length = n
    · rw [if_pos hl] at q
      have q1 := PoX.pe R1 hE (PoX.up q s1)
      refine ⟨by rw [xs.length]; exact hl, ds, Hd1, R1.st.sub, xs, ?_⟩
      cases hg : gf ds with
      | ok d => rw [hg] at q1; exact q1
      | ex c fs => rw [hg] at q1; exact q1
      | bad => rw [hg] at q1; exact q1
    · rw [if_neg hl] at q; exact q.elim
theorem run1x {t : TA} (hr : CalS X r g) (hE : okE fl own = true) (ra : ∀ B Hd0 ρ σ H Hd, Rel X.K B Hd0 own ρ σ H Hd → ∀ Q : List V → Hp → Prop, PoXA X W B Hd0 fl own σ Hd (fa ρ) Q → t σ H Q)
    {B : Bs} {Hd0 : Hp} {ρ : En} {σ : L2.St} {H Hd : Hp} (R : Rel X.K B Hd0 own ρ σ H Hd) {Q : VK} (q : PoX X W B Hd0 fl own σ Hd (xBlt g fa ρ) Q) : tCB r t σ H Q := by
  refine ra _ _ _ _ _ _ R _ ?_
  unfold xBlt at q
  cases ha : fa ρ with
  | bad => rw [ha] at q; exact q
  | ex c fs ρ1 => rw [ha] at q; exact q
  | ok ds ρ1 =>
    rw [ha] at q
    rw [Rx.ok_bind] at q
    intro vs H1 Hd1 R1 s1 xs
    exact hr W σ H1 Hd1 vs ds R1.st.sub xs.dv Q (PoX.pe R1 hE (PoX.up q s1))
theorem sx_blt (hc : CallR X (.builtin id) r) (hr : CalS X r g) (hm : X.mg x = none) (ha : SXA X W fl own (e :: es) fa) (hE : okE fl own = true := by rfl) (hv : bootBuiltins x = some (.builtin id) := by decide +kernel) (hg : Gl X x := by rfl) (hn : x ≠ "__name__" := by decide) (hdb : (x == ("__debug__" : Str)) = false := by rfl)
    (he : starEach (e :: es) X.env = (false, eval e X.env) :: starEach es X.env := by rfl) (hpl : (backTo pos (starEach es X.env)).any (·.1) = false := by rfl) : SX X W fl own (.Call (.Name x p) (e :: es) [] pos) (xBlt g fa) := by
  obtain ⟨ta, pa, ra⟩ := ha.ex
  exact ⟨_, pe_callB hc hg hm hv pa hn hdb he hpl, fun B Hd0 ρ σ H Hd R Q q => run1x hr hE ra R q⟩
theorem sx_bty (hc : CallR X (.type id) r) (hr : CalS X r g) (hm : X.mg x = none) (ha : SXA X W fl own (e :: es) fa) (hE : okE fl own = true := by rfl) (hv : bootBuiltins x = some (.type id) := by decide +kernel) (hg : Gl X x := by rfl) (hn : x ≠ "__name__" := by decide) (hdb : (x == ("__debug__" : Str)) = false := by rfl)
    (he : starEach (e :: es) X.env = (false, eval e X.env) :: starEach es X.env := by rfl) (hpl : (backTo pos (starEach es X.env)).any (·.1) = false := by rfl) : SX X W fl own (.Call (.Name x p) (e :: es) [] pos) (xBlt g fa) := by
  obtain ⟨ta, pa, ra⟩ := ha.ex
  exact ⟨_, pe_callTy hc hg hm hv pa hn hdb he hpl, fun B Hd0 ρ σ H Hd R Q q => run1x hr hE ra R q⟩
end

/-! ### defs that change what they are handed -/
/-- what such a def leads to: its value (or its exception), and what it was handed as it is then -/
inductive Ry where
  | ok (d o : D)
  | ex (c : Str) (fs : List (Str × D)) (o : D)
  | bad
def lessH (H : Hp) (A : List Addr) : Hp := fun a => if a ∈ A then none else H a
theorem lessH_in {H : Hp} {A : List Addr} {a : Addr} (h : a ∈ A) : lessH H A a = none := if_pos h
theorem lessH_out {H : Hp} {A : List Addr} {a : Addr} (h : a ∉ A) : lessH H A a = H a := if_neg h
/-- behind: what was handed in is o now -/
def OvE (K : PySem.W.Frag) (H H' Hd' : Hp) (c : Nat) (A : List Addr) (v0 : V) (o : D) : Prop := ∃ A', Ov K H' Hd' c A' v0 o ∧ ∀ a ∈ A', Hd' a = none ∧ lessH H A a = none ∧ H' a ≠ none
/-- a def of n arguments that changes the one at q (of the kind c) -/
def spX (K : PySem.W.Frag) (mg : Str → Option Value) (c q n : Nat) (g : List D → Ry) : Sp := fun vs H Q E => vs.length = n ∧ ∃ ds Hd A v0 d0, Same Hd H ∧ ds.length = n ∧ (∀ k v, k ≠ q → vs[k]? = some v → ∃ d, ds[k]? = some d ∧ Dq K Hd v d) ∧ vs[q]? = some v0 ∧ ds[q]? = some d0 ∧ Ov K H Hd c A v0 d0 ∧
  (∀ a ∈ A, Hd a = none ∧ H a ≠ none) ∧ match g ds with
  | .ok d o => ∀ v H' Hd', Step (lessH H A) Hd H' Hd' → OvE K H H' Hd' c A v0 o → Dq K Hd' v d → Q v H'
  | .ex x fs o => ∀ cls a H' Hd', Step (lessH H A) Hd H' Hd' → OvE K H H' Hd' c A v0 o → ExR K mg H' Hd' x fs cls a → E cls a H'
  | .bad => False
def outX (q : Nat) (o : Out) : Ry := match o with
  | .nx ρ => (match ρ[q]? with
    | some (some z) => .ok .none z
    | _ => .bad)
  | .rx d ρ => (match ρ[q]? with
    | some (some z) => .ok d z
    | _ => .bad)
  | .ex c fs ρ => (match ρ[q]? with
    | some (some z) => .ex c fs z
    | _ => .bad)
  | _ => .bad
def runX (n q : Nat) (f : En → Out) : List D → Ry := fun ds => outX q (f (ds.map some ++ List.replicate (n - ds.length) none))
/-- the codes of a def that changes its q-th argument -/
abbrev ioC (c q : Nat) : List Nat := [100 * c + q, 1000 + q]
abbrev mdX (c q : Nat) : Md := ⟨false, ioC c q, [], ioC c q⟩
theorem Rel.startX {K : PySem.W.Frag} {H Hd : Hp} {N : List Str} {vs : List V} {ds : List D} {A : List Addr} {c q : Nat} {v0 : V} {d0 : D} (hq : q < 100) (hc : c < 9) (s : Same Hd H) (hl : ds.length = vs.length) (h : ∀ k v, k ≠ q → vs[k]? = some v → ∃ d, ds[k]? = some d ∧ Dq K Hd v d) (hv : vs[q]? = some v0) (hd : ds[q]? = some d0)
    (ov : Ov K H Hd c A v0 d0) (ha : ∀ a ∈ A, Hd a = none ∧ H a ≠ none) : Rel K ⟨lessH H A, fun k => if k = q then some v0 else none⟩ Hd (ioC c q) (ds.map some ++ List.replicate (N.length - ds.length) none) (L2.start N vs) H Hd where
  st := ⟨fun a o e => by
      have e : lessH H A a = some o := e
      by_cases m : a ∈ A
      · rw [lessH_in m] at e; cases e
      · rw [lessH_out m] at e; exact e, s, fun _ _ e => e, fun _ _ => rfl⟩
  len := by unfold L2.start; simp [hl]
  val := fun i d e n n2 => by
    have hi : i < ds.length := by
      by_cases hi : i < ds.length
      · exact hi
      · rw [List.getElem?_append_right (by simp; omega)] at e
        obtain ⟨_, e2⟩ := List.getElem?_eq_some_iff.mp e
        simp at e2
    have niq : i ≠ q := fun z => by
      subst z
      by_cases c0 : c = 0
      · exact n hq (by rw [c0]; simp)
      · have : isObj (ioC c i) i = true := isObj_iff.mpr ⟨100 * c + i, by simp, by omega, by omega, by omega⟩
        rw [this] at n2; cases n2
    rw [List.getElem?_append_left (by simp; exact hi), List.getElem?_map] at e
    have hv' : i < vs.length := by omega
    obtain ⟨d', e1, e2⟩ := h i vs[i] niq (List.getElem?_eq_getElem hv')
    rw [e1] at e
    simp at e
    subst e
    refine ⟨vs[i], ?_, e2⟩
    unfold L2.start
    rw [List.getElem?_append_left (by simp; exact hv'), List.getElem?_map, List.getElem?_eq_getElem hv']
    rfl
  anc := fun i v e => by
    simp only at e
    split at e
    · rename_i z
      subst z
      cases e
      refine ⟨by simp, ?_⟩
      unfold L2.start
      have hv' : i < vs.length := (List.getElem?_eq_some_iff.mp hv).1
      rw [List.getElem?_append_left (by simp; exact hv'), List.getElem?_map, hv]
      rfl
    · cases e
  ex := by
    refine ⟨fun j => if j = 100 * c + q then A else [], fun j m l d e => ?_, fun j m a ma => ?_, fun j k mj mk a aj ak => ?_⟩
    · have hj : j = 100 * c + q := by
        simp only [List.mem_cons, List.not_mem_nil, or_false] at m
        omega
      subst hj
      have e1 : (100 * c + q) % 100 = q := by omega
      have e2 : (100 * c + q) / 100 = c := by omega
      rw [e1] at e
      rw [e1, e2]
      have hi : q < ds.length := (List.getElem?_eq_some_iff.mp hd).1
      have hv' : q < vs.length := (List.getElem?_eq_some_iff.mp hv).1
      rw [List.getElem?_append_left (by simp; exact hi), List.getElem?_map, hd] at e
      simp at e
      subst e
      refine ⟨v0, ?_, by simpa using ov⟩
      unfold L2.start
      rw [List.getElem?_append_left (by simp; exact hv'), List.getElem?_map, hv]
      rfl
    · simp only at ma
      split at ma
      · exact ⟨(ha a ma).1, lessH_in ma, (ha a ma).2⟩
      · cases ma
    · simp only at aj ak
      split at aj
      · split at ak
        · omega
        · cases ak
      · cases aj
/-- what the slot of an argument holds at the end -/
theorem Rel.atX {K : PySem.W.Frag} {H Hd H' Hd' : Hp} {own : List Nat} {ρ : En} {σ : L2.St} {A : List Addr} {c q : Nat} {v0 : V} {z : D} (hq : q < 100) (hc : c < 9) (R : Rel K ⟨lessH H A, fun k => if k = q then some v0 else none⟩ Hd own ρ σ H' Hd') (hio : (ioC c q).all own.contains = true) (hz : ρ[q]? = some (some z)) : OvE K H H' Hd' c A v0 z := by
  obtain ⟨A', h1, h2, _⟩ := R.ex
  have m : 100 * c + q ∈ own := List.contains_iff_mem.mp (List.all_eq_true.mp hio _ (by simp))
  have e1 : (100 * c + q) % 100 = q := by omega
  have e2 : (100 * c + q) / 100 = c := by omega
  obtain ⟨v, w1, w2⟩ := h1 _ m (by omega) z (by rw [e1]; exact hz)
  rw [e1] at w1
  rw [e2] at w2
  have an := (R.anc q v0 (if_pos rfl)).2
  rw [an] at w1
  cases w1
  exact ⟨A' (100 * c + q), w2, fun a ma => h2 _ m a ma⟩
theorem fnok_ofX {P : Program} {w : World} {K : PySem.W.Frag} {mg : Str → Option Value} {base : Heap} {x qual : Str} {st : Stmt} {f : Addr} {fd : FuncData} {N ps : List Str} {k n c q : Nat} {fb : En → Out}
    (F : Fun K x qual st f fd) (S : FnScope N ps (defScope st)) (hn : ps.length = n)
    (body : ∀ (cdv : Value) (A : Around) (outer : List Env) (s : Shared) (H : Hp) (E : XK), Cxt (cxOf (L2.CX P w) P w K mg base N qual (defScope st) f cdv A outer s H E) (fun cls d _ H => E cls d H) k →
      ∃ own', (ioC c q).all own'.contains = true ∧ SSs (cxOf (L2.CX P w) P w K mg base N qual (defScope st) f cdv A outer s H E) (fun cls d _ H => E cls d H) (mdX c q) [] (ioC c q) (defBody st) fb own') (hq : q < 100 := by decide) (hc : c < 9 := by decide) :
    FnOk P w K mg base (L2.CX P w) (k + 1) f fd ps (spX K mg c q n (runX N.length q fb)) := by
  refine F.okX S (fun vs H Q E h => by rw [hn]; exact h.1) (fun cdv A outer s H vs Q E hr h => ?_)
  obtain ⟨hl, ds, Hd, Ad, v0, d0, sub, hld, dp, hv, hd, ov, ha, q0⟩ := h
  have C : Cxt (cxOf (L2.CX P w) P w K mg base N qual (defScope st) f cdv A outer s H E) (fun cls d _ H => E cls d H) k :=
    ⟨rfl, takes_of rfl rfl rfl rfl, passes_of rfl, S.nd, hr⟩
  obtain ⟨own', hio, B⟩ := body cdv A outer s H E C
  obtain ⟨t, p, r⟩ := B.ex
  refine ⟨t, p, r _ Hd _ _ H Hd (Rel.startX (N := N) hq hc sub (by omega) dp hv hd ov ha) _ ?_⟩
  unfold runX outX at q0
  cases hf : fb (ds.map some ++ List.replicate (N.length - ds.length) none) with
  | nx ρ =>
    rw [hf] at q0
    simp only at q0
    cases hz : ρ[q]? with
    | none => rw [hz] at q0; exact q0.elim
    | some o =>
      cases o with
      | none => rw [hz] at q0; exact q0.elim
      | some z =>
        rw [hz] at q0
        intro σ' H' Hd' R
        exact q0 .non H' Hd' R.st (R.atX hq hc hio hz) .non
  | rx d ρ =>
    rw [hf] at q0
    simp only at q0
    cases hz : ρ[q]? with
    | none => rw [hz] at q0; exact q0.elim
    | some o =>
      cases o with
      | none => rw [hz] at q0; exact q0.elim
      | some z =>
        rw [hz] at q0
        intro ow v σ' H' Hd' hio' R x
        exact q0 v H' Hd' R.st (R.atX hq hc hio' hz) x
  | ex cn fs ρ =>
    rw [hf] at q0
    simp only at q0
    cases hz : ρ[q]? with
    | none => rw [hz] at q0; exact q0.elim
    | some o =>
      cases o with
      | none => rw [hz] at q0; exact q0.elim
      | some z =>
        rw [hz] at q0
        intro cls a σ' H' Hd' R x
        have e : (Bs.res ⟨lessH H Ad, fun k => if k = q then some v0 else none⟩ (mdX c q).E) = ⟨lessH H Ad, fun k => if k = q then some v0 else none⟩ := by
          unfold Bs.res
          congr 1
          funext i
          show (if 1000 + i ∈ ioC c q then (if i = q then some v0 else none) else none) = if i = q then some v0 else none
          by_cases hi : i = q
          · rw [if_pos (show 1000 + i ∈ ioC c q by rw [hi]; simp)]
          · rw [if_neg hi]; split <;> rfl
        rw [e] at R
        exact q0 cls a H' Hd' R.st (R.atX hq hc (by simp) hz) x
  | rt d => rw [hf] at q0; exact q0.elim
  | bk ρ => rw [hf] at q0; exact q0.elim
  | ct ρ => rw [hf] at q0; exact q0.elim
  | bad => rw [hf] at q0; exact q0.elim
/-- a def of the module that changes an argument -/
structure CalX (P : Program) (w : World) (K : PySem.W.Frag) (mg : Str → Option Value) (base : Heap) (k : Nat) (x : Str) (c q n : Nat) (g : List D → Ry) : Prop where
  ex : ∃ (f : Addr) (fd : FuncData) (ps : List Str), FnOk P w K mg base (L2.CX P w) k f fd ps (spX K mg c q n g) ∧ mg x = some (.ref f) ∧ PySem.W.keepIn K (.ref f) = true ∧ Binds K fd ps []
theorem calX_of {P : Program} {w : World} {K : PySem.W.Frag} {mg : Str → Option Value} {base : Heap} {x qual : Str} {st : Stmt} {f : Addr} {fd : FuncData} {N ps : List Str} {k n c q : Nat} {fb : En → Out}
    (F : Fun K x qual st f fd) (S : FnScope N ps (defScope st)) (hm : mg x = some (.ref f)) (hb : Binds K fd ps []) (hn : ps.length = n)
    (body : ∀ (cdv : Value) (A : Around) (outer : List Env) (s : Shared) (H : Hp) (E : XK), Cxt (cxOf (L2.CX P w) P w K mg base N qual (defScope st) f cdv A outer s H E) (fun cls d _ H => E cls d H) k →
      ∃ own', (ioC c q).all own'.contains = true ∧ SSs (cxOf (L2.CX P w) P w K mg base N qual (defScope st) f cdv A outer s H E) (fun cls d _ H => E cls d H) (mdX c q) [] (ioC c q) (defBody st) fb own') (hq : q < 100 := by decide) (hc : c < 9 := by decide) :
    CalX P w K mg base (k + 1) x c q n (runX N.length q fb) := ⟨f, fd, ps, fnok_ofX F S hn body hq hc, hm, F.kp, hb⟩
/-! ### the caller's side -/
def ryK (i : Nat) (ρ : En) : Ry → Rx D
  | .ok d o => .ok d (ρ.set i (some o))
  | .ex c fs o => .ex c fs (ρ.set i (some o))
  | .bad => .bad
def oSlot (ρ : En) (i : Nat) (k : D → Rx D) : Rx D := match ρ[i]? with
  | some (some o) => k o
  | _ => .bad
/-- behind such a call -/
theorem Rel.io {K : PySem.W.Frag} {B : Bs} {Hd0 H Hd H' Hd' : Hp} {own : List Nat} {ρ : En} {σ : L2.St} {i c : Nat} {o : D} {v0 : V} {A : Nat → List Addr} (R : Rel K B Hd0 own ρ σ H Hd) (hi : i < 100) (hc : c < 9) (m : 100 * c + i ∈ own) (one : oneC own (100 * c + i) = true)
    (h1 : ∀ j, j ∈ own → j < 1000 → ∀ d, ρ[j % 100]? = some (some d) → ∃ v, σ[j % 100]? = some (some v) ∧ Ov K H Hd (j / 100) (A j) v d) (h2 : ∀ j, j ∈ own → ∀ a ∈ A j, Hd a = none ∧ B.h a = none ∧ H a ≠ none) (h3 : ∀ j k, j ∈ own → k ∈ own → ∀ a, a ∈ A j → a ∈ A k → j = k)
    (hs : σ[i]? = some (some v0)) (t : Step (lessH H (A (100 * c + i))) Hd H' Hd') (x : OvE K H H' Hd' c (A (100 * c + i)) v0 o) : Rel K B Hd0 own (ρ.set i (some o)) σ H' Hd' := by
  obtain ⟨A', x1, x2⟩ := x
  have em : (100 * c + i) % 100 = i := by omega
  have ed : (100 * c + i) / 100 = c := by omega
  have there : ∀ {a : Addr} {o : HO}, a ∉ A (100 * c + i) → H a = some o → H' a = some o := fun n e => t.up _ _ (by rw [lessH_out n]; exact e)
  have old : ∀ {a : Addr}, a ∉ A (100 * c + i) → H a ≠ none → Hd' a = Hd a := fun n e => t.old _ (by rw [lessH_out n]; exact e)
  refine ⟨⟨fun a o e => ?_, t.sub, fun a o e => t.keep a o (R.st.keep a o e), fun a n => ?_⟩, by simp [R.len], fun j e hj n n2 => ?_, R.anc, fun j => if j = 100 * c + i then A' else A j, fun j mj l e h => ?_, fun j mj a ma => ?_, fun j k mj mk a aj ak => ?_⟩
  · have n : a ∉ A (100 * c + i) := fun z => by rw [(h2 _ m a z).2.1] at e; cases e
    exact there n (R.st.up a o e)
  · have na : a ∉ A (100 * c + i) := fun z => n (h2 _ m a z).2.1
    have hH : H a ≠ none := fun z => by
      cases w : B.h a with
      | none => exact n w
      | some o => rw [R.st.up a o w] at z; cases z
    rw [old na hH, R.st.old a n]
  · have z : j ≠ i := fun z => by
      by_cases lt : c = 0
      · exact n (by omega) (by rw [z]; rw [lt] at m; simpa using m)
      · have : isObj own j = true := isObj_iff.mpr ⟨100 * c + i, m, by omega, by omega, by omega⟩
        rw [this] at n2; cases n2
    rw [List.getElem?_set_ne (Ne.symm z)] at hj
    obtain ⟨v, e1, e2⟩ := R.val j e hj n n2
    exact ⟨v, e1, dq_mono t.keep e2⟩
  · by_cases z : j = 100 * c + i
    · subst z
      simp only [if_true]
      rw [em] at h ⊢
      rw [ed]
      have hl : i < ρ.length := by
        have := (List.getElem?_eq_some_iff.mp h).1
        simpa using this
      rw [List.getElem?_set_self hl] at h
      cases h
      exact ⟨v0, hs, x1⟩
    · simp only [if_neg z]
      have z2 : j % 100 ≠ i := fun w => z (oneC_ok one j mj l (by rw [em]; exact w))
      rw [List.getElem?_set_ne (Ne.symm z2)] at h
      obtain ⟨v, e1, e2⟩ := h1 j mj l e h
      exact ⟨v, e1, e2.mono (fun a ma o q => there (fun w => z (h3 j _ mj m a ma w)) q) t.keep⟩
  · by_cases z : j = 100 * c + i
    · simp only [if_pos z] at ma
      obtain ⟨q1, q2, q3⟩ := x2 a ma
      refine ⟨q1, ?_, q3⟩
      by_cases w : a ∈ A (100 * c + i)
      · exact (h2 _ m a w).2.1
      · rw [lessH_out w] at q2
        exact none_of_same R.st.up q2
    · simp only [if_neg z] at ma
      obtain ⟨q1, q2, q3⟩ := h2 j mj a ma
      have w : a ∉ A (100 * c + i) := fun w => z (h3 j _ mj m a ma w)
      refine ⟨by rw [old w q3]; exact q1, q2, fun y => q3 ?_⟩
      cases hw : H a with
      | none => rfl
      | some o => rw [there w hw] at y; cases y
  · have key : ∀ j, j ∈ own → j ≠ 100 * c + i → a ∈ A j → a ∈ A' → False := fun j mj z aj ak => by
      have w : a ∉ A (100 * c + i) := fun w => z (h3 j _ mj m a aj w)
      have := (x2 a ak).2.1
      rw [lessH_out w] at this
      exact (h2 j mj a aj).2.2 this
    by_cases zj : j = 100 * c + i
    · by_cases zk : k = 100 * c + i
      · rw [zj, zk]
      · simp only [if_pos zj] at aj
        simp only [if_neg zk] at ak
        exact (key k mk zk ak aj).elim
    · by_cases zk : k = 100 * c + i
      · simp only [if_neg zj] at aj
        simp only [if_pos zk] at ak
        exact (key j mj zj aj ak).elim
      · simp only [if_neg zj] at aj
        simp only [if_neg zk] at ak
        exact h3 j k mj mk a aj ak
theorem ArgQ.get {K : PySem.W.Frag} {Hd : Hp} {σ : L2.St} {i : Nat} : ∀ {q : Nat} {vs : List V} {ds : List D}, ArgQ K Hd σ i q vs ds → ds.length = vs.length ∧ (∃ v0, vs[q]? = some v0 ∧ σ[i]? = some (some v0)) ∧ ∀ k v, k ≠ q → vs[k]? = some v → ∃ d, ds[k]? = some d ∧ Dq K Hd v d
  | _, _, _, .here e r => ⟨by simp [r.length], ⟨_, rfl, e⟩, fun k v n h => by
      cases k with
      | zero => exact absurd rfl n
      | succ k =>
        have h' := h
        rw [List.getElem?_cons_succ] at h' ⊢
        have hk := (List.getElem?_eq_some_iff.mp h').1
        rw [r.length] at hk
        obtain ⟨v', e1, e2⟩ := r.get (List.getElem?_eq_getElem hk)
        rw [h'] at e1
        cases e1
        exact ⟨_, List.getElem?_eq_getElem hk, e2⟩⟩
  | _, _, _, .next a r => by
      obtain ⟨h1, h2, h3⟩ := ArgQ.get r
      refine ⟨by simp [h1], by obtain ⟨v0, e1, e2⟩ := h2; exact ⟨v0, by simpa using e1, e2⟩, fun k v n h => ?_⟩
      cases k with
      | zero => simp at h; subst h; exact ⟨_, rfl, a⟩
      | succ k =>
        rw [List.getElem?_cons_succ] at h ⊢
        exact h3 k v (fun z => n (by rw [z])) h
/-- f(.., x, ..), x (slot i) changed by f -/
def xIo (i q n : Nat) (g : List D → Ry) (fa : En → Rx (List D)) : En → Rx D := fun ρ => (fa ρ).bind fun ds ρ1 => oSlot ρ1 i fun o => if ds.length = n then ryK i ρ1 (g (ds.set q o)) else .bad
section
variable {X : Cx} {W : WX} {fl : Md} {own : List Nat} {k j n c q i : Nat} {x : Str} {gf : List D → Ry} {e : Expr} {es : List Expr} {fa : En → Rx (List D)} {p pos : Pos}
/-- the promise kept, the caller goes on -/
theorem io_run {B : Bs} {Hd0 H Hd : Hp} {ρ : En} {σ : L2.St} {vs : List V} {ds : List D} {Q : VK} (R : Rel X.K B Hd0 own ρ σ H Hd) (xs : ArgQ X.K Hd σ i q vs ds) (hi : (decide (i < 100) && (decide (c < 9) && (own.contains (100 * c + i) && oneC own (100 * c + i)))) = true) (hE : okE fl own = true)
    (q0 : PoX X W B Hd0 fl own σ Hd (oSlot ρ i fun o => if ds.length = n then ryK i ρ (gf (ds.set q o)) else .bad) Q) : spX X.K X.mg c q n gf vs H Q (WE W σ) := by
  simp only [Bool.and_eq_true, decide_eq_true_eq] at hi
  obtain ⟨hi, hc, m, one⟩ := hi
  have m := List.contains_iff_mem.mp m
  obtain ⟨g1, ⟨v0, g2, g3⟩, g4⟩ := xs.get
  unfold oSlot at q0
  cases hρ : ρ[i]? with
  | none => rw [hρ] at q0; exact q0.elim
  | some o =>
    cases o with
    | none => rw [hρ] at q0; exact q0.elim
    | some o =>
      rw [hρ] at q0
      simp only at q0
      by_cases hl : ds.length = n
      · rw [if_pos hl] at q0
        have em : (100 * c + i) % 100 = i := by omega
        have ed : (100 * c + i) / 100 = c := by omega
        obtain ⟨A, h1, h2, h3⟩ := R.ex
        obtain ⟨v, w1, w2⟩ := h1 _ m (by omega) o (by rw [em]; exact hρ)
        rw [em, g3] at w1
        cases w1
        rw [ed] at w2
        have hql : q < ds.length := by rw [g1]; exact (List.getElem?_eq_some_iff.mp g2).1
        refine ⟨by omega, ds.set q o, Hd, A (100 * c + i), v0, o, R.st.sub, by simp [hl], fun k v n' h => ?_, g2, by rw [List.getElem?_set_self hql], w2, fun a ma => ⟨(h2 _ m a ma).1, (h2 _ m a ma).2.2⟩, ?_⟩
        · rw [List.getElem?_set_ne (Ne.symm n')]
          exact g4 k v n' h
        · cases hg : gf (ds.set q o) with
          | ok d z =>
            rw [hg] at q0
            exact fun v H' Hd' t y x => q0 v H' Hd' (R.io hi hc m one h1 h2 h3 g3 t y) t.keep x
          | ex cn fs z =>
            rw [hg] at q0
            intro cls a H' Hd' t y x
            obtain ⟨Hd'', R', up⟩ := (R.io hi hc m one h1 h2 h3 g3 t y).exc hE
            exact q0 cls a H' Hd'' R' (x.mono (fun _ _ z => z) up)
          | bad => rw [hg] at q0; exact q0.elim
      · rw [if_neg hl] at q0; exact q0.elim
theorem sx_io (C : Cxt X W k) (F : CalX X.prog X.w X.K X.mg X.base j x c q n gf) (ha : SXQ X W fl own i q (e :: es) fa) (hj : j ≤ k := by decide) (hi : (decide (i < 100) && (decide (c < 9) && (own.contains (100 * c + i) && oneC own (100 * c + i)))) = true := by rfl) (hE : okE fl own = true := by rfl) (hg : Gl X x := by rfl) (hdb : (x == ("__debug__" : Str)) = false := by rfl)
    (he : starEach (e :: es) X.env = (false, eval e X.env) :: starEach es X.env := by rfl) (hpl : (backTo pos (starEach es X.env)).any (·.1) = false := by rfl) :
    SX X W fl own (.Call (.Name x p) (e :: es) [] pos) (xIo i q n gf fa) := by
  obtain ⟨f, fd, ps, ok, hm, hk, hb⟩ := F.ex
  obtain ⟨ta, pa, ra⟩ := ha.ex
  refine ⟨_, pe_callS ok (C.room.mono hj) hg hm hk hb (fun σ => passAt C.tk σ) pa hdb he hpl, fun B Hd0 ρ σ H Hd R Q q0 => ?_⟩
  refine ra _ _ _ _ _ _ R _ ?_
  unfold xIo at q0
  cases hf : fa ρ with
  | bad => rw [hf] at q0; exact q0
  | ex cn fs ρ1 => rw [hf] at q0; exact q0
  | ok ds ρ1 =>
    rw [hf] at q0
    rw [Rx.ok_bind] at q0
    intro vs H1 Hd1 R1 s1 xs
    exact io_run R1 xs hi hE (PoX.up q0 s1)
end
end Wm

set_option Elab.async false
set_option linter.all false
set_option maxRecDepth 100000
/-! WmX3: statements of the layer WmX; fields, methods, new objects. -/
namespace Wm
open PySem PySem.Spec PyProof.Rows L2

def oBindX {α : Type} (r : Rx α) (k : α → En → Out) : Out := match r with
  | .ok d ρ => k d ρ
  | .ex c fs ρ => .ex c fs ρ
  | .bad => .bad
section
variable {α : Type} (a : α) (ρ : En) (c : Str) (fs : List (Str × D)) (k : α → En → Out)
@[simp] theorem oBindX_ok : oBindX (.ok a ρ) k = k a ρ := nrfl rfl
@[simp] theorem oBindX_ex : oBindX (.ex c fs ρ : Rx α) k = .ex c fs ρ := nrfl rfl
@[simp] theorem oBindX_bad : oBindX (.bad : Rx α) k = .bad := nrfl rfl
end
def sSetX (i : Nat) (f : En → Rx D) : En → Out := fun ρ => oBindX (f ρ) fun d ρ1 => .nx (ρ1.set i (some d))
def sExprX (f : En → Rx D) : En → Out := fun ρ => oBindX (f ρ) fun _ ρ1 => .nx ρ1
def sRetX (f : En → Rx D) : En → Out := fun ρ => oBindX (f ρ) fun d _ => .rt d
def sRx (f : En → Rx D) : En → Out := fun ρ => oBindX (f ρ) fun d ρ1 => .rx d ρ1
def sIfX (c : En → Rx Bool) (f g : En → Out) : En → Out := fun ρ => oBindX (c ρ) fun b ρ1 => if b = true then f ρ1 else g ρ1
def whileX (c : En → Rx Bool) (body : En → Out) : Nat → En → Out
  | 0, _ => .bad
  | n + 1, ρ => oBindX (c ρ) fun b ρ1 => if b = true then oLoop (body ρ1) (whileX c body n) else .nx ρ1
def sWhileX (c : En → Rx Bool) (body : En → Out) : En → Out := fun ρ => whileX c body fuelW ρ
def sAppX (i : Nat) (f : En → Rx D) : En → Out := fun ρ => oL (getL ρ i) fun _ => oBindX (f ρ) fun d ρ1 => oL (getL ρ1 i) fun ds => if ds.length < sizeLine then .nx (ρ1.set i (some (.list (ds ++ [d])))) else .bad
def sAugX (i : Nat) (g : D → D → Rs D) (f : En → Rx D) : En → Out := fun ρ => oBind (eVar i ρ) ρ fun x => oBindX (f ρ) fun y ρ1 => oBind (g x y) ρ1 fun d => .nx (ρ1.set i (some d))
def sUnpX (g : D → En → Rs En) (f : En → Rx D) : En → Out := fun ρ => oBindX (f ρ) fun d ρ1 => oStore (g d ρ1) .nx
section
variable {X : Cx} {W : WX} {fl : Md} {L own own' : List Nat} {e : Expr} {f : En → Rx D} {pos pos' apos cpos : Pos}
theorem ss_setX (i : Nat) {x : Str} (h : SX X W fl own e f) (hN : X.N.Nodup) (hi : X.N[i]? = some x := by rfl) (hx : Loc X.env.scope x := by first | exact Or.inl rfl | exact Or.inr rfl) (hs : swapsWith e (some (.Name x pos')) pos.line X.env = pure false := by rfl) (hf : X.fn x = true ∨ X.env.scope.names.lookup x = some .local := by first | exact .inl rfl | exact .inr rfl) (hk : own.contains (1000 + i) = false := by rfl) :
    SS X W fl L own (.Assign [.Name x pos'] e pos) (sSetX i f) (drp own i) := by
  obtain ⟨t, p, r⟩ := h.ex
  refine ⟨_, ps_set hN hi hx p hs hf, fun B Hd0 ρ σ H Hd R Dn q => ?_⟩
  refine r _ _ _ _ _ _ R _ ?_
  unfold sSetX at q
  cases he : f ρ with
  | ok d ρ1 => rw [he] at q; exact fun v H' Hd' R' s x => q _ _ _ (R'.set x (ncon hk))
  | ex c fs ρ1 => rw [he] at q; exact fun cls a H' Hd' R' x => q cls a σ H' Hd' R' x
  | bad => rw [he] at q; exact q
theorem ss_exprX (h : SX X W fl own e f) (hs : swapsWith e none pos.line X.env = pure false := by rfl) : SS X W fl L own (.Expr e pos) (sExprX f) own := by
  obtain ⟨t, p, r⟩ := h.ex
  refine ⟨_, ps_expr p hs, fun B Hd0 ρ σ H Hd R Dn q => ?_⟩
  refine r _ _ _ _ _ _ R _ ?_
  unfold sExprX at q
  cases he : f ρ with
  | ok d ρ1 => rw [he] at q; exact fun v H' Hd' R' s x => q _ _ _ R'
  | ex c fs ρ1 => rw [he] at q; exact fun cls a H' Hd' R' x => q cls a σ H' Hd' R' x
  | bad => rw [he] at q; exact q
/-- return of a def that changes nothing that it was handed -/
theorem ss_retX (h : SX X W fl own e f) (hn : fl.nw = false := by rfl) : SS X W fl L own (.Return (some e) pos) (sRetX f) own' := by
  obtain ⟨t, p, r⟩ := h.ex
  refine ⟨_, ps_ret p, fun B Hd0 ρ σ H Hd R Dn q => ?_⟩
  refine r _ _ _ _ _ _ R _ ?_
  unfold sRetX at q
  cases he : f ρ with
  | ok d ρ1 => rw [he] at q; have q := PoR.at q hn; exact fun v H' Hd' R' s x => q v H' Hd' R'.st x
  | ex c fs ρ1 => rw [he] at q; exact fun cls a H' Hd' R' x => q cls a σ H' Hd' R' x
  | bad => rw [he] at q; exact q
/-- return of a def that changes what it was handed -/
theorem ss_rx (h : SX X W fl own e f) (hio : fl.io.all own.contains = true := by rfl) : SS X W fl L own (.Return (some e) pos) (sRx f) own' := by
  obtain ⟨t, p, r⟩ := h.ex
  refine ⟨_, ps_ret p, fun B Hd0 ρ σ H Hd R Dn q => ?_⟩
  refine r _ _ _ _ _ _ R _ ?_
  unfold sRx at q
  cases he : f ρ with
  | ok d ρ1 => rw [he] at q; exact fun v H' Hd' R' s x => q own v σ H' Hd' hio R' x
  | ex c fs ρ1 => rw [he] at q; exact fun cls a H' Hd' R' x => q cls a σ H' Hd' R' x
  | bad => rw [he] at q; exact q
theorem ss_ifX {c : Expr} {fc : En → Rx Bool} {as bs : List Stmt} {f g : En → Out} (hc : SXC X W fl own c fc) (ha : SSs X W fl L own as f own') (hb : SSs X W fl L own bs g own') : SS X W fl L own (.If c as bs pos) (sIfX fc f g) own' := by
  obtain ⟨tc, pc, rc⟩ := hc.ex
  obtain ⟨ta, pa, ra⟩ := ha.ex
  obtain ⟨tb, pb, rb⟩ := hb.ex
  refine ⟨_, ps_if pc pa pb, fun B Hd0 ρ σ H Hd R Dn q => ?_⟩
  refine rc _ _ _ _ _ _ R _ ?_
  unfold sIfX at q
  cases he : fc ρ with
  | ok d ρ1 =>
    rw [he] at q
    intro H' Hd' R' s
    cases d with
    | true => exact ra _ _ _ _ _ _ R' Dn q
    | false => exact rb _ _ _ _ _ _ R' Dn q
  | ex c fs ρ1 => rw [he] at q; exact fun cls a H' Hd' R' x => q cls a σ H' Hd' R' x
  | bad => rw [he] at q; exact q
theorem ss_whileX {c : Expr} {fc : En → Rx Bool} {body : List Stmt} {fb : En → Out} (hp : PassesOwn (model X.prog X.w) X.A X.env X.xe) (hc : SXC X W fl own c fc) (hb : SSs X W fl own own body fb own) : SS X W fl L own (.While c body [] pos) (sWhileX fc fb) own := by
  obtain ⟨tc, pc, rc⟩ := hc.ex
  obtain ⟨tb, pb, rb⟩ := hb.ex
  refine ⟨_, ps_while hp pc pb, fun B Hd0 ρ σ H Hd R Dn q => ?_⟩
  refine ⟨fun m σ' H' => ∃ ρ' Hd', Rel X.K B Hd0 own ρ' σ' H' Hd' ∧ PoS X W B Hd0 fl L own Dn (whileX fc fb m ρ'), ⟨fuelW, ρ, Hd, R, q⟩, ?_⟩
  rintro m σ' H' ⟨ρ', Hd', R', q'⟩
  refine rc _ _ _ _ _ _ R' _ ?_
  cases m with
  | zero => exact q'.elim
  | succ m =>
    unfold whileX oBindX oLoop at q'
    cases hcd : fc ρ' with
    | bad => simp only [hcd] at q'; exact q'
    | ex c fs ρ1 => simp only [hcd] at q'; exact fun cls a H' Hd' R' x => q' cls a σ' H' Hd' R' x
    | ok b ρ1 =>
      intro H1 Hd1 R1 s1
      cases b with
      | false => simp only [hcd] at q'; exact q' _ _ _ R1
      | true =>
        simp only [hcd] at q'
        rw [if_pos rfl]
        refine ⟨fun σ2 H2 => ∃ ρ2 Hd2, Rel X.K B Hd0 own ρ2 σ2 H2 Hd2 ∧ PoS X W B Hd0 fl L own Dn (whileX fc fb m ρ2), fun σ2 H2 ⟨ρ2, Hd2, r2, q2⟩ => ⟨m, by omega, ρ2, Hd2, r2, q2⟩, ?_⟩
        refine rb _ _ _ _ _ _ R1 _ ?_
        cases hbd : fb ρ1 with
        | nx ρ2 => simp only [hbd] at q'; exact fun σ4 H4 Hd4 R4 => ⟨ρ2, Hd4, R4, q'⟩
        | ct ρ2 => simp only [hbd] at q'; exact fun σ4 H4 Hd4 R4 => ⟨ρ2, Hd4, R4, q'⟩
        | bk ρ2 => simp only [hbd] at q'; exact q'
        | rt d => simp only [hbd] at q'; exact PoR.same (fl := fl) q' rfl
        | ex c fs ρ2 => simp only [hbd] at q'; exact q'
        | bad => simp only [hbd] at q'; exact q'
        | rx d ρ2 => simp only [hbd] at q'; exact q'
/-- x.append(e) -/
theorem ss_appX (i : Nat) {x : Str} (h : SX X W fl own e f) (ho : (own.contains i && decide (i < 100)) = true := by rfl) (one : oneC own i = true := by rfl) (hN : X.N[i]? = some x := by rfl) (hv : Vis X.env.scope x := by first | exact Or.inl rfl | exact Or.inr (Or.inl rfl) | exact Or.inr (Or.inr rfl))
    (hd : (x == ("__debug__" : Str)) = false := by rfl) (hcd : (x == ("__classdict__" : Str)) = false := by rfl)
    (hbase : attributeBase (.Name x pos') "append" X.env (eval (.Name x pos') X.env) = eval (.Name x pos') X.env := by rfl)
    (hfew : ((backTo cpos (starEach [e] X.env)).all (fun x => !x.1) && (backToKw cpos (keywordEach [] X.env)).all (fun x => x.1.isSome)
      && decide ([e].length + ([] : List Keyword).length + (if ([] : List Keyword).isEmpty then 0 else 1) < 30)) = true := by rfl)
    (hline : (apos.endLine == cpos.line) = true := by rfl) (hs : starEach [e] X.env = (false, eval e X.env) :: starEach [] X.env := by rfl) (hplain : (backTo cpos (starEach [] X.env)).any (·.1) = false := by rfl)
    (hsw : swapsWith (.Call (.Attribute (.Name x pos') "append" apos) [e] [] cpos) none pos.line X.env = pure false := by rfl) :
    SS X W fl L own (.Expr (.Call (.Attribute (.Name x pos') "append" apos) [e] [] cpos) pos) (sAppX i f) own := by
  obtain ⟨t, p, r⟩ := h.ex
  refine ⟨_, ps_expr (pe_bm PySem.F.plainAttrs_list PySem.F.slot_list_append PySem.F.type_list_append (r := rAppend) (fun pins s σ H x xs v us Q I rx rxs h => mt_append pins s σ H x xs v us Q I rx rxs h) (pe_var hN hv hd hcd) (pa_cons p pa_nil hs) hbase hfew hline hs hplain) hsw, fun B Hd0 ρ σ H Hd R Dn q => ?_⟩
  unfold sAppX oL at q
  cases hg : getL ρ i with
  | none => rw [hg] at q; exact q.elim
  | some ds0 =>
    rw [hg] at q
    obtain ⟨a, vs, h2, h3, h4, h5⟩ := own_at R ho (getL_some hg)
    refine ⟨.ref a, h2, .inl ⟨rfl, vs, .inl (.inl h3)⟩, ?_⟩
    refine r _ _ _ _ _ _ R _ ?_
    cases he : f ρ with
    | bad => rw [he] at q; exact q
    | ex c fs ρ1 => rw [he] at q; exact fun cls a H' Hd' R' x => q cls a σ H' Hd' R' x
    | ok d ρ1 =>
      rw [he] at q
      simp only [oBindX_ok] at q
      intro v H1 Hd1 R1 s1 x
      cases hg1 : getL ρ1 i with
      | none => rw [hg1] at q; exact q.elim
      | some ds =>
        rw [hg1] at q
        simp only at q
        split at q
        · rename_i hl
          obtain ⟨a', vs', k2, k3, k4, k5⟩ := own_at R1 ho (getL_some hg1)
          rw [h2] at k2
          cases k2
          exact ⟨a, vs', v, rfl, rfl, k3, by rw [k5.length]; exact hl, q _ _ _ (R1.mut (List.contains_iff_mem.mp (Bool.and_eq_true_iff.mp ho).1) (of_decide_eq_true (Bool.and_eq_true_iff.mp ho).2) one (getL_some hg1) h2 (k5.append (.cons x .nil)))⟩
        · exact q.elim
/-- x op= e -/
theorem ss_augX (i : Nat) {x : Str} {op : Operator} {r : R2} {g : D → D → Rs D} (hop : OpR X (inplaceOp op) r) (hr : OpS X r g) (h : SX X W fl own e f) (hN : X.N.Nodup) (ho : (own.contains i || isObj own i) = false := by rfl) (hi : X.N[i]? = some x := by rfl) (hx : Loc X.env.scope x := by first | exact Or.inl rfl | exact Or.inr rfl)
    (hf : X.fn x = true ∨ X.env.scope.names.lookup x = some .local := by first | exact .inl rfl | exact .inr rfl) (hk : own.contains (1000 + i) = false := by rfl) (hE : okE fl own = true := by rfl) :
    SS X W fl L own (.AugAssign (.Name x pos') op e pos) (sAugX i g f) (drp own i) := by
  obtain ⟨t, p, rr⟩ := h.ex
  refine ⟨_, ps_aug hN hi hx p (ti := r) (fun pins s σ H x y v u Q I rx ry q => hop pins s σ H x y v u Q I rx ry q) hf, fun B Hd0 ρ σ H Hd R Dn q => ?_⟩
  unfold sAugX eVar at q
  cases hi : ρ[i]? with
  | none => rw [hi] at q; exact q.elim
  | some o =>
    cases o with
    | none => rw [hi] at q; exact q.elim
    | some d =>
      rw [hi] at q
      simp only [oBind_ok] at q
      obtain ⟨v, h1, h2⟩ := R.val i d hi (by intro _ h; rw [List.contains_iff_mem.mpr h] at ho; cases ho) (Bool.or_eq_false_iff.mp ho).2
      refine ⟨v, h1, rr _ _ _ _ _ _ R _ ?_⟩
      cases he : f ρ with
      | bad => rw [he] at q; exact q.elim
      | ex c fs ρ1 => rw [he] at q; exact fun cls a H' Hd' R' x => q cls a σ H' Hd' R' x
      | ok y ρ1 =>
        rw [he] at q
        simp only [oBindX_ok] at q
        intro w H1 Hd1 R1 s1 z
        refine hr W σ H1 Hd1 v w d y R1.st.sub (.inl (dq_mono s1 h2)) (.inl z) _ ?_
        cases hg : g d y with
        | bad => rw [hg] at q; exact q.elim
        | ex c fs => rw [hg] at q; exact fun cls a H' Hd' s x => exc_of R1 q s x hE
        | ok d2 => rw [hg] at q; exact fun u H2 Hd2 s2 z2 => q _ _ _ ((R1.step s2).set z2 (ncon hk))
theorem ss_unpX {tg : Expr} {g : D → En → Rs En} {vs : List Nat} (h : SX X W fl own e f) (hg : SG X own tg g own' vs) (hs : swapsWithSole [tg] e pos.line X.env = pure false := by rfl) (hw : swappedStores [tg] e X.env = pure none := by rfl)
    (h1 : (assignEach [tg] X.env).map (·.2) = [assign tg X.env] := by rfl) : SS X W fl L own (.Assign [tg] e pos) (sUnpX g f) own' := by
  obtain ⟨t, p, r⟩ := h.ex
  obtain ⟨t2, p2, r2⟩ := hg.ex
  refine ⟨_, ps_asg p p2 hs hw h1, fun B Hd0 ρ σ H Hd R Dn q => ?_⟩
  refine r _ _ _ _ _ _ R _ ?_
  unfold sUnpX oStore at q
  cases he : f ρ with
  | bad => rw [he] at q; exact q
  | ex c fs ρ1 => rw [he] at q; exact fun cls a H' Hd' R' x => q cls a σ H' Hd' R' x
  | ok d ρ1 =>
    rw [he] at q
    simp only [oBindX_ok] at q
    intro v H1 Hd1 R1 s1 x
    cases hgt : g d ρ1 with
    | bad => rw [hgt] at q; exact q.elim
    | ex c fs => rw [hgt] at q; exact q.elim
    | ok ρ' =>
      rw [hgt] at q
      exact r2 _ _ _ _ _ _ R1 v d x ρ' hgt _ fun σ' R' _ _ => q _ _ _ R'
end
/-! ### objects -/
/-- what is known of a class -/
structure ClsT (K : PySem.W.Frag) (mg : Str → Option Value) (c : Nat) (C : Addr) : Prop where
  ns : PySem.W.nsIn K mainGlobals (cN c).1 = some (some (.ref C))
  mg : mg (cN c).1 = some (.ref C)
  cl : Cls K C
  no : ∀ f ∈ (cN c).2, NoAttr K C f
section
variable {K : PySem.W.Frag}
theorem zip_at : ∀ {names : List Str} {vs : List V} {j : Nat} {f : Str} {v : V}, names.Nodup → names[j]? = some f → vs[j]? = some v → (List.zip names vs).lookup f = some v
  | [], _, _, _, _, _, h, _ => by simp at h
  | _ :: _, [], _, _, _, _, _, h => by simp at h
  | n :: ns, w :: ws, 0, f, v, _, h1, h2 => by
    simp at h1 h2
    subst h1 h2
    rw [List.zip_cons_cons]
    simp [List.lookup]
  | n :: ns, w :: ws, j + 1, f, v, nd, h1, h2 => by
    rw [List.getElem?_cons_succ] at h1 h2
    have ne : f ≠ n := fun z => by
      subst z
      exact (List.nodup_cons.mp nd).1 (List.mem_of_getElem? h1)
    rw [List.zip_cons_cons]
    have : (f == n) = false := by simpa using ne
    rw [List.lookup_cons, this]
    exact zip_at (List.nodup_cons.mp nd).2 h1 h2
theorem zip_no : ∀ {names : List Str} {vs : List V} {f : Str}, f ∉ names → (List.zip names vs).lookup f = none
  | [], _, _, _ => by simp [List.lookup]
  | _ :: _, [], _, _ => by simp [List.lookup]
  | n :: ns, w :: ws, f, h => by
    have ne : (f == n) = false := by simpa using (fun z => h (by rw [z]; exact List.mem_cons_self) : f ≠ n)
    rw [List.zip_cons_cons, List.lookup_cons, ne]
    exact zip_no fun z => h (List.mem_cons_of_mem _ z)
theorem putF_set : ∀ {names : List Str} {vs : List V} {j : Nat} {f : Str} {v : V}, names.Nodup → names[j]? = some f → vs.length = names.length → putF f v (List.zip names vs) = List.zip names (vs.set j v)
  | [], _, _, _, _, _, h, _ => by simp at h
  | _ :: _, [], _, _, _, _, _, h => by simp at h
  | n :: ns, w :: ws, 0, f, v, _, h1, h2 => by
    simp at h1
    subst h1
    rw [List.zip_cons_cons]
    show putF n v ((n, w) :: List.zip ns ws) = _
    unfold putF
    simp
  | n :: ns, w :: ws, j + 1, f, v, nd, h1, h2 => by
    rw [List.getElem?_cons_succ] at h1
    have ne : n ≠ f := fun z => by
      subst z
      exact (List.nodup_cons.mp nd).1 (List.mem_of_getElem? h1)
    rw [List.zip_cons_cons]
    show putF f v ((n, w) :: List.zip ns ws) = _
    unfold putF
    rw [if_neg ne, putF_set (List.nodup_cons.mp nd).2 h1 (by simpa using h2)]
    rfl
theorem putF_new : ∀ {names : List Str} {vs : List V} {f : Str} {v : V}, f ∉ names → vs.length = names.length → putF f v (List.zip names vs) = List.zip (names ++ [f]) (vs ++ [v])
  | [], [], _, _, _, _ => rfl
  | [], _ :: _, _, _, _, h => by simp at h
  | _ :: _, [], _, _, _, h => by simp at h
  | n :: ns, w :: ws, f, v, h1, h2 => by
    have ne : n ≠ f := fun z => h1 (by rw [z]; exact List.mem_cons_self)
    rw [List.zip_cons_cons]
    show putF f v ((n, w) :: List.zip ns ws) = _
    unfold putF
    rw [if_neg ne, putF_new (fun z => h1 (List.mem_cons_of_mem _ z)) (by simpa using h2)]
    rfl
end
/-- the fields of the object in slot i -/
def getO (ρ : En) (i : Nat) : Option (List D) := match ρ[i]? with
  | some (some (.tuple ds)) => some ds
  | _ => none
theorem getO_some {ρ : En} {i : Nat} {ds : List D} (h : getO ρ i = some ds) : ρ[i]? = some (some (.tuple ds)) := by
  unfold getO at h
  split at h
  · cases h; assumption
  · cases h
/-- x.f, no list -/
def eFld (i j : Nat) : En → Rs D := fun ρ => match getO ρ i with
  | some ds => (match ds[j]? with
    | some (.list _) => .bad
    | some d => .ok d
    | none => .bad)
  | none => .bad
/-- x.f = d -/
def sFldK (i j : Nat) (d : D) (ρ : En) : Out := match getO ρ i, d with
  | some ds, .list _ => .bad
  | some ds, d => if j < ds.length then (match ds[j]? with
      | some (.list _) => .bad
      | _ => .nx (ρ.set i (some (.tuple (ds.set j d))))) else if j = ds.length then .nx (ρ.set i (some (.tuple (ds ++ [d])))) else .bad
  | none, _ => .bad
def sFldX (i j : Nat) (f : En → Rx D) : En → Out := fun ρ => oBindX (f ρ) fun d ρ1 => sFldK i j d ρ1
/-- x.f op= e -/
def sFldAugX (i j : Nat) (g : D → D → Rs D) (fe : En → Rs D) : En → Out := fun ρ => oBind (eFld i j ρ) ρ fun a => oBind (fe ρ) ρ fun b => oBind (g a b) ρ fun d => sFldK i j d ρ
section
variable {K : PySem.W.Frag} {H Hd : Hp}
theorem FvAll.get {A : List Addr} {vs : List V} {ds : List D} (h : FvAll K H Hd A vs ds) : ∀ {j : Nat} {d : D}, ds[j]? = some d → (∀ l, d ≠ .list l) → ∃ v, vs[j]? = some v ∧ Dq K Hd v d := by
  induction h with
  | nil => intro j d e; simp at e
  | still n q _ ih =>
    intro j d e nl
    cases j with
    | zero => simp at e; subst e; exact ⟨_, rfl, q⟩
    | succ j => rw [List.getElem?_cons_succ] at e ⊢; exact ih e nl
  | own q dq _ ih =>
    intro j d e nl
    cases j with
    | zero => simp at e; subst e; exact absurd rfl (nl _)
    | succ j => rw [List.getElem?_cons_succ] at e ⊢; exact ih e nl
theorem FvAll.set {A : List Addr} {vs : List V} {ds : List D} (h : FvAll K H Hd A vs ds) {w : V} {z : D} (x : Dq K Hd w z) (nz : ∀ l, z ≠ .list l) : ∀ {j : Nat}, (∀ l, ds[j]? ≠ some (.list l)) → FvAll K H Hd A (vs.set j w) (ds.set j z) := by
  induction h with
  | nil => intro j _; exact .nil
  | still n q r ih =>
    intro j nl
    cases j with
    | zero => exact .still nz x r
    | succ j => exact .still n q (ih fun l => by have := nl l; rwa [List.getElem?_cons_succ] at this)
  | own q dq r ih =>
    intro j nl
    cases j with
    | zero => exact absurd rfl (nl _)
    | succ j => exact .own q dq (ih fun l => by have := nl l; rwa [List.getElem?_cons_succ] at this)
theorem FvAll.snoc {A : List Addr} {vs : List V} {ds : List D} (h : FvAll K H Hd A vs ds) {w : V} {z : D} (x : Dq K Hd w z) (nz : ∀ l, z ≠ .list l) : FvAll K H Hd A (vs ++ [w]) (ds ++ [z]) := by
  induction h with
  | nil => exact .still nz x .nil
  | still n q _ ih => exact .still n q ih
  | own q dq _ ih => exact .own q dq ih
end
theorem nd_idx {α : Type} : ∀ {l : List α} {i j : Nat} {a : α}, l.Nodup → l[i]? = some a → l[j]? = some a → i = j
  | [], _, _, _, _, h, _ => by simp at h
  | _ :: _, 0, 0, _, _, _, _ => rfl
  | x :: l, 0, j + 1, a, nd, h1, h2 => by
    simp at h1
    subst h1
    rw [List.getElem?_cons_succ] at h2
    exact absurd (List.mem_of_getElem? h2) (List.nodup_cons.mp nd).1
  | x :: l, i + 1, 0, a, nd, h1, h2 => by
    simp at h2
    subst h2
    rw [List.getElem?_cons_succ] at h1
    exact absurd (List.mem_of_getElem? h1) (List.nodup_cons.mp nd).1
  | x :: l, i + 1, j + 1, a, nd, h1, h2 => by
    rw [List.getElem?_cons_succ] at h1 h2
    rw [nd_idx (List.nodup_cons.mp nd).2 h1 h2]
/-- the object in slot i -/
theorem Rel.obj {K : PySem.W.Frag} {B : Bs} {Hd0 H Hd : Hp} {own : List Nat} {ρ : En} {σ : L2.St} {i c : Nat} {ds : List D} (R : Rel K B Hd0 own ρ σ H Hd) (hi : i < 100) (h0 : c + 1 < 9) (m : 100 * (c + 1) + i ∈ own) (h : ρ[i]? = some (some (.tuple ds))) :
    ∃ p C dx vs A', σ[i]? = some (some (.ref p)) ∧ PySem.W.nsIn K mainGlobals (cN (c + 1)).1 = some (some (.ref C)) ∧ H p = some (.ins C dx (List.zip ((cN (c + 1)).2.take ds.length) vs)) ∧ H dx = some (.own p) ∧ ds.length ≤ (cN (c + 1)).2.length ∧ FvAll K H Hd A' vs ds := by
  obtain ⟨A, h1, _⟩ := R.ex
  have em : (100 * (c + 1) + i) % 100 = i := by omega
  have ed : (100 * (c + 1) + i) / 100 = c + 1 := by omega
  obtain ⟨v, w1, w2⟩ := h1 _ m (by omega) _ (by rw [em]; exact h)
  rw [em] at w1
  rw [ed] at w2
  obtain ⟨p, C, dx, vs, ds', A', e1, e2, e3, e4, e5, e6, e7, e8, e9⟩ := w2
  cases e2
  subst e1
  exact ⟨p, C, dx, vs, A', w1, e4, e5, e6, e7, e8⟩
/-- a field is stored -/
theorem Rel.fld {K : PySem.W.Frag} {B : Bs} {Hd0 H Hd : Hp} {own : List Nat} {ρ : En} {σ : L2.St} {i c j : Nat} {ds : List D} {p C dx : Addr} {fs : List (Str × V)} {f : Str} {d : D} {v : V} (R : Rel K B Hd0 own ρ σ H Hd) (hi : i < 100) (h0 : c + 1 < 9) (m : 100 * (c + 1) + i ∈ own) (one : oneC own (100 * (c + 1) + i) = true) (h : ρ[i]? = some (some (.tuple ds)))
    (hs : σ[i]? = some (some (.ref p))) (hp : H p = some (.ins C dx fs)) (hf : (cN (c + 1)).2[j]? = some f) (nd : (cN (c + 1)).2.Nodup) (x : Dq K Hd v d) (nz : ∀ l, d ≠ .list l) (hj : (j < ds.length ∧ ∀ l, ds[j]? ≠ some (.list l)) ∨ j = ds.length) :
    Rel K B Hd0 own (ρ.set i (some (.tuple (if j < ds.length then ds.set j d else ds ++ [d])))) σ (upd H p (.ins C dx (putF f v fs))) Hd := by
  have em : (100 * (c + 1) + i) % 100 = i := by omega
  have ed : (100 * (c + 1) + i) / 100 = c + 1 := by omega
  have key := R.change (d := .tuple (if j < ds.length then ds.set j d else ds ++ [d])) (v := .ref p) (H' := upd H p (.ins C dx (putF f v fs))) (A0 := []) m (by omega) (oneC_ok one) (fun A h1 h2 => by
    obtain ⟨v', w1, w2⟩ := h1 _ m (by omega) _ (by rw [em]; exact h)
    rw [em, hs] at w1
    cases w1
    rw [ed] at w2
    obtain ⟨p', C', dx', vs, ds', A', e1, e2, e3, e4, e5, e6, e7, e8, e9⟩ := w2
    cases e1
    cases e2
    rw [hp] at e5
    cases e5
    have npd : dx ≠ p := fun z => by rw [z, hp] at e6; cases e6
    have npA : ∀ a ∈ A', a ≠ p := fun a ma z => by
      obtain ⟨ws, q⟩ := e8.there a ma
      rw [z, hp] at q; cases q
    have hl : vs.length = ds.length := e8.len
    have ll : ((cN (c + 1)).2.take ds.length).length = ds.length := by rw [List.length_take]; omega
    have jl : j < (cN (c + 1)).2.length := (List.getElem?_eq_some_iff.mp hf).1
    refine ⟨p :: dx :: A', ⟨.ref p, by rw [em]; exact hs, ?_⟩, fun b nb => ?_, fun b mb => by rw [e3]; exact mb, fun b nb => ?_⟩
    · rw [ed]
      refine ⟨p, C, dx, if j < ds.length then vs.set j v else vs ++ [v], _, A', rfl, rfl, rfl, e4, ?_, by rw [upd_ne npd]; exact e6, ?_, ?_, e9⟩
      · rw [upd_same]
        rcases hj with ⟨hj, _⟩ | hj
        · rw [if_pos hj, if_pos hj, List.length_set]
          rw [putF_set (j := j) (List.Nodup.sublist (List.take_sublist _ _) nd) (by rw [List.getElem?_take_of_lt hj]; exact hf) (by rw [hl, ll])]
        · have nj : ¬ j < ds.length := by omega
          rw [if_neg nj, if_neg nj, List.length_append, List.length_singleton]
          rw [putF_new (fun z => ?_) (by rw [hl, ll])]
          · congr 4
            rw [← hj, List.take_add_one, hf]
            rfl
          · -- the name is none of those ahead
            obtain ⟨k, hk⟩ := List.getElem?_of_mem z
            have kl : k < ds.length := by
              have := (List.getElem?_eq_some_iff.mp hk).1
              omega
            rw [List.getElem?_take_of_lt kl] at hk
            have := nd_idx nd hk hf
            omega
      · rcases hj with ⟨hj, _⟩ | hj
        · rw [if_pos hj, List.length_set]; exact e7
        · rw [if_neg (by omega), List.length_append, List.length_singleton]; omega
      · rcases hj with ⟨hj, nl⟩ | hj
        · rw [if_pos hj, if_pos hj]; exact (e8.mono (fun a ma o q => by rw [upd_ne (npA a ma)]; exact q) fun _ _ q => q).set x nz nl
        · have nj : ¬ j < ds.length := by omega
          rw [if_neg nj, if_neg nj]; exact (e8.mono (fun a ma o q => by rw [upd_ne (npA a ma)]; exact q) fun _ _ q => q).snoc x nz
    · rw [e3] at nb
      rw [upd_ne fun z => nb (by rw [z]; exact List.mem_cons_self)]
    · by_cases z : b = p
      · subst z; rw [upd_same] at nb; cases nb
      · rw [upd_ne z] at nb; exact nb)
  rw [em] at key
  exact key
def okO (own : List Nat) (c i : Nat) : Bool := decide (i < 100) && (decide (c + 1 < 9) && (own.contains (100 * (c + 1) + i) && oneC own (100 * (c + 1) + i)))
theorem okO_of {own : List Nat} {c i : Nat} (h : okO own c i = true) : i < 100 ∧ c + 1 < 9 ∧ 100 * (c + 1) + i ∈ own ∧ oneC own (100 * (c + 1) + i) = true := by
  unfold okO at h
  simp only [Bool.and_eq_true, decide_eq_true_eq] at h
  exact ⟨h.1, h.2.1, List.contains_iff_mem.mp h.2.2.1, h.2.2.2⟩
section
variable {X : Cx} {W : WX} {fl : Md} {L own : List Nat} {e : Expr} {f : En → Rx D} {pos pos' pos2 : Pos} {C : Addr} {c i j : Nat} {x fn : Str}
theorem se_fld (c i j : Nat) (T : ClsT X.K X.mg (c + 1) C) (ho : okO own c i = true := by rfl) (hf : (cN (c + 1)).2[j]? = some fn := by rfl) (nd : (cN (c + 1)).2.Nodup := by decide +kernel) (hN : X.N[i]? = some x := by rfl) (hv : Vis X.env.scope x := by first | exact Or.inl rfl | exact Or.inr (Or.inl rfl) | exact Or.inr (Or.inr rfl))
    (hd : (x == ("__debug__" : Str)) = false := by rfl) (hcd : (x == ("__classdict__" : Str)) = false := by rfl) (hb : attributeBase (.Name x pos') fn X.env (eval (.Name x pos') X.env) = eval (.Name x pos') X.env := by rfl) : SE X W own (.Attribute (.Name x pos') fn pos) (eFld i j) := by
  obtain ⟨hi, h0, m, one⟩ := okO_of ho
  refine ⟨_, pe_fld (pe_var hN hv hd hcd) hb, fun B Hd0 ρ σ H Hd R Q q => ?_⟩
  unfold eFld at q
  cases hg : getO ρ i with
  | none => rw [hg] at q; exact q.elim
  | some ds =>
    rw [hg] at q
    simp only at q
    obtain ⟨p, C', dx, vs, A', s1, s2, s3, s4, s5, s6⟩ := R.obj hi h0 m (getO_some hg)
    rw [T.ns] at s2
    cases s2
    cases hz : ds[j]? with
    | none => rw [hz] at q; exact q.elim
    | some d =>
      rw [hz] at q
      have nl : ∀ l, d ≠ .list l := fun l z => by subst z; exact q.elim
      obtain ⟨v, v1, v2⟩ := s6.get hz nl
      have jl : j < ds.length := (List.getElem?_eq_some_iff.mp hz).1
      have q' : PoE X W σ H Hd (.ok d) Q := by
        cases d with
        | list l => exact absurd rfl (nl l)
        | none => exact q
        | bool _ => exact q
        | int _ => exact q
        | str _ => exact q
        | tuple _ => exact q
        | dict _ => exact q
      exact ⟨.ref p, s1, p, C, dx, _, v, rfl, s3, T.cl, T.no fn (List.mem_of_getElem? hf), zip_at (List.Nodup.sublist (List.take_sublist _ _) nd) (by rw [List.getElem?_take_of_lt jl]; exact hf) v1, q' v H Hd (.refl R.st.sub) v2⟩
theorem sFldK_run {B : Bs} {Hd0 H Hd : Hp} {ρ : En} {σ : L2.St} {d : D} {v : V} {Dn : Ends} (R : Rel X.K B Hd0 own ρ σ H Hd) (T : ClsT X.K X.mg (c + 1) C) (ho : okO own c i = true) (hf : (cN (c + 1)).2[j]? = some fn) (nd : (cN (c + 1)).2.Nodup) (x : Dq X.K Hd v d) (q : PoS X W B Hd0 fl L own Dn (sFldK i j d ρ)) :
    ∃ p, σ[i]? = some (some (.ref p)) ∧ ∃ dx fs, H p = some (.ins C dx fs) ∧ Cls X.K C ∧ NoAttr X.K C fn ∧ fs.length < 1000 ∧ Dn.nx σ (upd H p (.ins C dx (putF fn v fs))) := by
  obtain ⟨hi, h0, m, one⟩ := okO_of ho
  unfold sFldK at q
  cases hg : getO ρ i with
  | none => rw [hg] at q; exact q.elim
  | some ds =>
    rw [hg] at q
    obtain ⟨p, C', dx, vs, A', s1, s2, s3, s4, s5, s6⟩ := R.obj hi h0 m (getO_some hg)
    rw [T.ns] at s2
    cases s2
    have nz : ∀ l, d ≠ .list l := fun l z => by subst z; exact q.elim
    have q' : PoS X W B Hd0 fl L own Dn (if j < ds.length then (match ds[j]? with
      | some (.list _) => .bad
      | _ => .nx (ρ.set i (some (.tuple (ds.set j d))))) else if j = ds.length then .nx (ρ.set i (some (.tuple (ds ++ [d])))) else .bad) := by
      cases d with
      | list l => exact absurd rfl (nz l)
      | none => exact q
      | bool _ => exact q
      | int _ => exact q
      | str _ => exact q
      | tuple _ => exact q
      | dict _ => exact q
    have lf : (List.zip ((cN (c + 1)).2.take ds.length) vs).length < 1000 := by
      rw [List.length_zip, List.length_take]
      have : (cN (c + 1)).2.length ≤ 2 := by
        match c with
        | 0 => decide
        | 1 => decide
        | _ + 2 => exact Nat.zero_le _
      omega
    refine ⟨p, s1, dx, _, s3, T.cl, T.no fn (List.mem_of_getElem? hf), lf, ?_⟩
    by_cases hj : j < ds.length
    · rw [if_pos hj] at q'
      have nl : ∀ l, ds[j]? ≠ some (.list l) := fun l z => by rw [z] at q'; exact q'.elim
      have q'' : PoS X W B Hd0 fl L own Dn (.nx (ρ.set i (some (.tuple (ds.set j d))))) := by
        split at q'
        · exact q'.elim
        · exact q'
      have key := R.fld hi h0 m one (getO_some hg) s1 s3 hf nd x nz (.inl ⟨hj, nl⟩)
      rw [if_pos hj] at key
      exact q'' _ _ _ key
    · rw [if_neg hj] at q'
      by_cases hj2 : j = ds.length
      · rw [if_pos hj2] at q'
        have key := R.fld hi h0 m one (getO_some hg) s1 s3 hf nd x nz (.inr hj2)
        rw [if_neg hj] at key
        exact q' _ _ _ key
      · rw [if_neg hj2] at q'; exact q'.elim
theorem ss_fldX (c i j : Nat) (T : ClsT X.K X.mg (c + 1) C) (h : SX X W fl own e f) (ho : okO own c i = true := by rfl) (hf : (cN (c + 1)).2[j]? = some fn := by rfl) (nd : (cN (c + 1)).2.Nodup := by decide +kernel) (hN : X.N[i]? = some x := by rfl) (hv : Vis X.env.scope x := by first | exact Or.inl rfl | exact Or.inr (Or.inl rfl) | exact Or.inr (Or.inr rfl))
    (hd : (x == ("__debug__" : Str)) = false := by rfl) (hcd : (x == ("__classdict__" : Str)) = false := by rfl) (hs : swapsWith e (some (.Attribute (.Name x pos') fn pos2)) pos.line X.env = pure false := by rfl) :
    SS X W fl L own (.Assign [.Attribute (.Name x pos') fn pos2] e pos) (sFldX i j f) own := by
  obtain ⟨t, p, r⟩ := h.ex
  refine ⟨_, ps_fld (pe_var hN hv hd hcd) p hs, fun B Hd0 ρ σ H Hd R Dn q => ?_⟩
  refine r _ _ _ _ _ _ R _ ?_
  unfold sFldX at q
  cases he : f ρ with
  | bad => rw [he] at q; exact q
  | ex cn fs ρ1 => rw [he] at q; exact fun cls a H' Hd' R' x => q cls a σ H' Hd' R' x
  | ok d ρ1 =>
    rw [he] at q
    simp only [oBindX_ok] at q
    intro v H1 Hd1 R1 s1 x
    obtain ⟨p, k1, dx, fs, k2, k3, k4, k5, k6⟩ := sFldK_run R1 T ho hf nd x q
    exact ⟨.ref p, k1, p, C, dx, fs, rfl, k2, k3, k4, k5, k6⟩
theorem inop_of {op : Operator} {r : R2} (hop : OpR X (inplaceOp op) r) : InOp X op r := fun pins s σ H x y u v Q I rx ry h => hop pins s σ H x y u v Q I rx ry h
theorem ss_fldAugX (c i j : Nat) {op : Operator} {r : R2} {g : D → D → Rs D} {fe : En → Rs D} (T : ClsT X.K X.mg (c + 1) C) (hop : OpR X (inplaceOp op) r) (hr : OpS X r g) (h : SE X W own e fe) (ho : okO own c i = true := by rfl) (hE : okE fl own = true := by rfl) (hf : (cN (c + 1)).2[j]? = some fn := by rfl) (nd : (cN (c + 1)).2.Nodup := by decide +kernel) (hN : X.N[i]? = some x := by rfl) (hv : Vis X.env.scope x := by first | exact Or.inl rfl | exact Or.inr (Or.inl rfl) | exact Or.inr (Or.inr rfl))
    (hd : (x == ("__debug__" : Str)) = false := by rfl) (hcd : (x == ("__classdict__" : Str)) = false := by rfl) :
    SS X W fl L own (.AugAssign (.Attribute (.Name x pos') fn pos2) op e pos) (sFldAugX i j g fe) own := by
  obtain ⟨hi, h0, m, one⟩ := okO_of ho
  obtain ⟨t, p, rr⟩ := h.ex
  refine ⟨_, ps_fldaug (pe_var hN hv hd hcd) p (inop_of hop), fun B Hd0 ρ σ H Hd R Dn q => ?_⟩
  unfold sFldAugX eFld at q
  cases hg : getO ρ i with
  | none => rw [hg] at q; exact q.elim
  | some ds =>
    rw [hg] at q
    simp only at q
    obtain ⟨p, C', dx, vs, A', s1, s2, s3, s4, s5, s6⟩ := R.obj hi h0 m (getO_some hg)
    rw [T.ns] at s2
    cases s2
    cases hz : ds[j]? with
    | none => rw [hz] at q; exact q.elim
    | some d =>
      rw [hz] at q
      have nl : ∀ l, d ≠ .list l := fun l z => by subst z; exact q.elim
      obtain ⟨v, v1, v2⟩ := s6.get hz nl
      have jl : j < ds.length := (List.getElem?_eq_some_iff.mp hz).1
      have q' : PoS X W B Hd0 fl L own Dn (oBind (fe ρ) ρ fun b => oBind (g d b) ρ fun d => sFldK i j d ρ) := by
        cases d with
        | list l => exact absurd rfl (nl l)
        | none => exact q
        | bool _ => exact q
        | int _ => exact q
        | str _ => exact q
        | tuple _ => exact q
        | dict _ => exact q
      refine ⟨.ref p, s1, p, C, dx, _, v, rfl, s3, T.cl, T.no fn (List.mem_of_getElem? hf), zip_at (List.Nodup.sublist (List.take_sublist _ _) nd) (by rw [List.getElem?_take_of_lt jl]; exact hf) v1, ?_⟩
      refine rr _ _ _ _ _ _ R _ ?_
      cases he : fe ρ with
      | bad => rw [he] at q'; exact q'.elim
      | ex cn fs => rw [he] at q'; exact fun cls a H' Hd' s x => exc_of R q' s x hE
      | ok y =>
        rw [he] at q'
        simp only [oBind_ok] at q'
        intro w H1 Hd1 t1 z
        refine hr W σ H1 Hd1 v w d y t1.sub (.inl (dq_mono t1.keep v2)) (.inl z) _ ?_
        cases hgd : g d y with
        | bad => rw [hgd] at q'; exact q'.elim
        | ex cn fs => rw [hgd] at q'; exact fun cls a H' Hd' s x => exc_of (R.step t1) q' s x hE
        | ok d2 =>
          rw [hgd] at q'
          intro u H2 Hd2 t2 z2
          obtain ⟨p', k1, dx', fs', k2, k3, k4, k5, k6⟩ := sFldK_run ((R.step t1).step t2) T ho hf nd z2 q'
          rw [s1] at k1
          cases k1
          exact ⟨dx', fs', k2, k5, k6⟩
end
end Wm

set_option Elab.async false
set_option linter.all false
set_option maxRecDepth 100000
/-! WmX4: methods, new objects. -/
namespace Wm
open PySem PySem.Spec PyProof.Rows L2

/-- a slot takes what is new and its own -/
theorem Rel.setNew {K : PySem.W.Frag} {H0 : Bs} {Hd0 H Hd H' Hd' : Hp} {own : List Nat} {ρ : En} {σ : L2.St} {i c : Nat} {d : D} {v : V} {B : List Addr} (R : Rel K H0 Hd0 own ρ σ H Hd) (s : Step H Hd H' Hd') (b1 : Ov K H' Hd' c B v d) (b2 : ∀ a ∈ B, Hd' a = none ∧ H a = none ∧ H' a ≠ none) (hk : (1000 + i) ∉ own) (hi : i < 100) (hc : c < 9) :
    Rel K H0 Hd0 ((100 * c + i) :: drp own i) (ρ.set i (some d)) (σ.set i (some v)) H' Hd' where
  st := R.st.trans s
  len := by simp [R.len]
  val := fun j e h n n2 => by
    have z : j ≠ i := fun z => by
      by_cases c0 : c = 0
      · exact n (by omega) (by rw [z, c0]; simp)
      · have : isObj ((100 * c + i) :: drp own i) j = true := isObj_iff.mpr ⟨100 * c + i, List.mem_cons_self, by omega, by omega, by omega⟩
        rw [this] at n2; cases n2
    rw [List.getElem?_set_ne (Ne.symm z)] at h
    rw [List.getElem?_set_ne (Ne.symm z)]
    have n3 : isObj (drp own i) j = false := by
      cases w : isObj (drp own i) j with
      | false => rfl
      | true =>
        obtain ⟨k, m, a1, a2, a3⟩ := isObj_iff.mp w
        have : isObj ((100 * c + i) :: drp own i) j = true := isObj_iff.mpr ⟨k, List.mem_cons_of_mem _ m, a1, a2, a3⟩
        rw [this] at n2; cases n2
    exact (R.step s).val j e h (fun c m => n c (List.mem_cons_of_mem _ (mem_drp.mpr ⟨m, .inr (by rw [Nat.mod_eq_of_lt c]; exact z)⟩))) (isObj_drp n3 z)
  anc := fun k w h => by
    obtain ⟨h1, h2⟩ := R.anc k w h
    refine ⟨List.mem_cons_of_mem _ (mem_drp.mpr ⟨h1, .inl (by omega)⟩), ?_⟩
    rw [List.getElem?_set_ne (fun z => hk (by rw [z]; exact h1))]
    exact h2
  ex := by
    have b3 : ∀ a ∈ B, H0.h a = none := fun a m => none_of_same R.st.up (b2 a m).2.1
    obtain ⟨A, g1, g2, h3⟩ := R.ex
    have h1 : ∀ j, j ∈ own → j < 1000 → ∀ d, ρ[j % 100]? = some (some d) → ∃ v, σ[j % 100]? = some (some v) ∧ Ov K H' Hd' (j / 100) (A j) v d := fun j m l d e => by
      obtain ⟨v, e1, e2⟩ := g1 j m l d e
      exact ⟨v, e1, e2.mono (fun a _ o q => s.up a o q) s.keep⟩
    have h2 : ∀ j, j ∈ own → ∀ a ∈ A j, Hd' a = none ∧ H0.h a = none ∧ H' a ≠ none ∧ H a ≠ none := fun j m a ma => by
      obtain ⟨q1, q2, q3⟩ := g2 j m a ma
      refine ⟨by rw [s.old a q3]; exact q1, q2, fun z => q3 ?_, q3⟩
      cases w : H a with
      | none => rfl
      | some o => rw [s.up a o w] at z; cases z
    have em : (100 * c + i) % 100 = i := by omega
    have ed : (100 * c + i) / 100 = c := by omega
    refine ⟨fun j => if j = 100 * c + i then B else A j, fun j m l e h => ?_, fun j m a ma => ?_, fun j k mj mk a aj ak => ?_⟩
    · by_cases z : j = 100 * c + i
      · subst z
        rw [em] at h ⊢
        have hl : i < ρ.length := by
          have := (List.getElem?_eq_some_iff.mp h).1
          simpa using this
        rw [List.getElem?_set_self hl] at h
        cases h
        refine ⟨v, by rw [List.getElem?_set_self (by rw [← R.len]; exact hl)], ?_⟩
        rw [ed]
        simp only [if_true]
        exact b1
      · rcases List.mem_cons.mp m with m | m
        · exact absurd m z
        obtain ⟨m1, z2⟩ := mem_drp.mp m
        have z2 : j % 100 ≠ i := z2.resolve_left (by omega)
        rw [List.getElem?_set_ne (Ne.symm z2)] at h
        rw [List.getElem?_set_ne (Ne.symm z2)]
        simp only [if_neg z]
        exact h1 j m1 l e h
    · by_cases z : j = 100 * c + i
      · simp only [if_pos z] at ma
        obtain ⟨q1, q2, q3⟩ := b2 a ma
        exact ⟨q1, b3 a ma, q3⟩
      · simp only [if_neg z] at ma
        rcases List.mem_cons.mp m with m | m
        · exact absurd m z
        obtain ⟨q1, q2, q3, _⟩ := h2 j (mem_drp.mp m).1 a ma
        exact ⟨q1, q2, q3⟩
    · by_cases zj : j = 100 * c + i
      · by_cases zk : k = 100 * c + i
        · rw [zj, zk]
        · simp only [if_pos zj] at aj
          simp only [if_neg zk] at ak
          rcases List.mem_cons.mp mk with m | m
          · exact absurd m zk
          exact absurd (b2 a aj).2.1 (h2 k (mem_drp.mp m).1 a ak).2.2.2
      · simp only [if_neg zj] at aj
        rcases List.mem_cons.mp mj with m | m
        · exact absurd m zj
        by_cases zk : k = 100 * c + i
        · simp only [if_pos zk] at ak
          exact absurd (b2 a ak).2.1 (h2 j (mem_drp.mp m).1 a aj).2.2.2
        · simp only [if_neg zk] at ak
          rcases List.mem_cons.mp mk with m' | m'
          · exact absurd m' zk
          exact h3 j k (mem_drp.mp m).1 (mem_drp.mp m').1 a aj ak
/-! ### methods -/
section
variable {X : Cx} {CX : CXT} {k : Nat} {f C : Addr} {fd : FuncData} {ps : List Str} {sp : Sp} {E : L2.St → XK} {x m : Str} {p pos apos : Pos} {e o : Expr} {es : List Expr} {ta : TE} {t : TA}
def tMethW (C : Addr) (m : Str) (sp : Sp) (E : L2.St → XK) (ta : TE) (t : TA) : TE := fun σ H Q => ta σ H fun x H1 => ∃ a dx fs, x = .ref a ∧ H1 a = some (.ins C dx fs) ∧ fs.lookup m = none ∧ t σ H1 fun vs H2 => sp (x :: vs) H2 Q (E σ)
theorem pe_methW {pl : Sem Bool} (he : PE X o ta) (c : Cls X.K C) (hm : Meth X.K C m f) (F : FnOk X.prog X.w X.K X.mg X.base CX k f fd ps sp) (hr : Room k X.A) (hb : Binds X.K fd ps []) (hx : ∀ σ, PassesAt CX X σ (E σ)) (ha : PA X (e :: es) t)
    (hst : starEach (e :: es) X.env = (false, eval e X.env) :: starEach es X.env := by rfl) (hpl : (backTo pos (starEach es X.env)).any (·.1) = false := by rfl)
    (ht : eval (.Call (.Attribute o m apos) (e :: es) [] pos) X.env = (do
      let ov ← eval o X.env
      standAt apos.atName
      let (f, first) ← holding [ov] (getMethod ov m pl)
      callWith pos f first (backTo pos (starEach (e :: es) X.env)) (backToKw pos (keywordEach [] X.env))) := by rfl) :
    PE X (.Call (.Attribute o m apos) (e :: es) [] pos) (tMethW C m sp E ta t) := by
  refine ⟨fun pins s σ H Q I h => ?_⟩
  refine PySem.W.methodCall_KW (pl := pl) (thn (he.run pins s σ H _ I h) fun u s1 ⟨x, H1, I1, rx, a, dx, fs, ex, ea, l, q⟩ => ?_) ht
  subst ex
  obtain rfl : u = Value.ref a := rx
  refine getmeth_ok I1 ea c hm l ?_
  refine PySem.W.callWith_K (first := [.ref a]) (h₀ := X.base) I.ok.mod.kin hm.kp (thn (ha.run pos pins s1 σ H1 _ I1 q) fun us s2 ⟨vs, H2, I2, r, q2⟩ => ⟨I2.kIn, ?_⟩) hst hpl
  exact run_fnS (us := .ref a :: us) (vs := .ref a :: vs) F hr hb (hx σ) I2 (.cons rfl r) q2
theorem pe_methW0 {pl : Sem Bool} (he : PE X o ta) (c : Cls X.K C) (hm : Meth X.K C m f) (F : FnOk X.prog X.w X.K X.mg X.base CX k f fd ps sp) (hr : Room k X.A) (hb : Binds X.K fd ps []) (hx : ∀ σ, PassesAt CX X σ (E σ))
    (ht : eval (.Call (.Attribute o m apos) [] [] pos) X.env = (do
      let ov ← eval o X.env
      standAt apos.atName
      let (f, first) ← holding [ov] (getMethod ov m pl)
      callWith pos f first (backTo pos (starEach [] X.env)) (backToKw pos (keywordEach [] X.env))) := by rfl) :
    PE X (.Call (.Attribute o m apos) [] [] pos) (tMethW C m sp E ta tNil) := by
  refine ⟨fun pins s σ H Q I h => ?_⟩
  refine PySem.W.methodCall_KW (pl := pl) (thn (he.run pins s σ H _ I h) fun u s1 ⟨x, H1, I1, rx, a, dx, fs, ex, ea, l, q⟩ => ?_) ht
  subst ex
  obtain rfl : u = Value.ref a := rx
  refine getmeth_ok I1 ea c hm l ?_
  exact PySem.W.callWith_K0 (first := [.ref a]) I1.kIn hm.kp (run_fnS (us := [.ref a]) (vs := [.ref a]) F hr hb (hx σ) I1 (.cons rfl .nil) q)
def tMakeW (C : Addr) (sp : Sp) (E : L2.St → XK) (t : TA) : TE := fun σ H Q => t σ H fun vs H1 => ∀ x dx, H1 x = none → H1 dx = none → dx ≠ x →
  sp (.ref x :: vs) (upd (upd H1 dx (.own x)) x (.ins C dx [])) (fun v H2 => v = .non ∧ Q (.ref x) H2) (E σ)
theorem pe_makeW (M : Mk X.K C f) (F : FnOk X.prog X.w X.K X.mg X.base CX k f fd ps sp) (hr : Room (k + 1) X.A) (hg : Gl X x) (hm : X.mg x = some (.ref C)) (hb : Binds X.K fd ps []) (hx : ∀ σ, PassesAt CX X σ (E σ))
    (ha : PA X (e :: es) t) (hdb : (x == ("__debug__" : Str)) = false := by decide) (he : starEach (e :: es) X.env = (false, eval e X.env) :: starEach es X.env := by rfl) (hpl : (backTo pos (starEach es X.env)).any (·.1) = false := by rfl) :
    PE X (.Call (.Name x p) (e :: es) [] pos) (tMakeW C sp E t) := by
  refine ⟨fun pins s σ H Q I h => ?_⟩
  refine wpAny_Call_Name_kw (ld_glob I hg hm ?_ hdb)
  refine PySem.W.callWith_K (h₀ := X.base) I.ok.mod.kin M.kp (thn (ha.run pos pins s σ H _ I h) fun us s1 ⟨vs, H1, I1, r, q⟩ => ⟨I1.kIn, ?_⟩) he hpl
  have hq := q (s1.heap.objs.size + 1) s1.heap.objs.size (I1.hok.fresh (Nat.le_succ _)) (I1.hok.fresh (Nat.le_refl _)) (Nat.ne_of_lt (Nat.lt_succ_self _))
  have I2 := Inv.made (C := C) I1
  have r2 : Vals (V.ref (s1.heap.objs.size + 1) :: vs) (Value.ref (s1.heap.objs.size + 1) :: us) := .cons rfl r
  have hl : ((Value.ref (s1.heap.objs.size + 1) :: us) ++ ([] : List Value)).length = ps.length := by
    rw [List.append_nil]
    have e := r2.length
    rw [F.len _ _ _ _ hq] at e
    exact e.symm
  have bnd := hb _ (Value.ref (s1.heap.objs.size + 1) :: us) I2.kIn hl
  rw [List.append_nil] at bnd
  refine wpAny_call (make_map (f := f) I1.kIn M.makes M.init (beq_iff_eq.mp M.fn) (codeAny_mono (F.run _ X.stack _ _ ⟨Value.ref (s1.heap.objs.size + 1) :: us, []⟩ (Value.ref (s1.heap.objs.size + 1) :: us) _ _ (E σ) (hr.make C us [])
    (I2.env0.make C us []) bnd r2 hq) fun r s' hq' => ?_))
  cases r with
  | error e => exact hx σ pins _ _ e s' I2 hq'
  | ok fl =>
    cases fl with
    | ret u =>
      obtain ⟨v, H', I3, rv, ev, q3⟩ := I2.after hq'
      subst ev
      exact ⟨rv, ⟨V.ref (s1.heap.objs.size + 1), H', I3, rfl, q3⟩⟩
    | next => exact False.elim hq'
    | brk => exact False.elim hq'
    | cont => exact False.elim hq'
end
/-- a method that may change its object -/
structure CalMt (P : Program) (w : World) (K : PySem.W.Frag) (mg : Str → Option Value) (base : Heap) (k : Nat) (C : Addr) (m : Str) (c n : Nat) (g : List D → Ry) : Prop where
  ex : ∃ (f : Addr) (fd : FuncData) (ps : List Str), FnOk P w K mg base (L2.CX P w) k f fd ps (spX K mg c 0 n g) ∧ Meth K C m f ∧ Binds K fd ps []
theorem calMt_of {P : Program} {w : World} {K : PySem.W.Frag} {mg : Str → Option Value} {base : Heap} {C : Addr} {m x qual : Str} {st : Stmt} {f : Addr} {fd : FuncData} {N ps : List Str} {k n c : Nat} {fb : En → Out}
    (F : Fun K x qual st f fd) (S : FnScope N ps (defScope st)) (hm : Meth K C m f) (hb : Binds K fd ps []) (hn : ps.length = n)
    (body : ∀ (cdv : Value) (A : Around) (outer : List Env) (s : Shared) (H : Hp) (E : XK), Cxt (cxOf (L2.CX P w) P w K mg base N qual (defScope st) f cdv A outer s H E) (fun cls d _ H => E cls d H) k →
      ∃ own', (ioC c 0).all own'.contains = true ∧ SSs (cxOf (L2.CX P w) P w K mg base N qual (defScope st) f cdv A outer s H E) (fun cls d _ H => E cls d H) (mdX c 0) [] (ioC c 0) (defBody st) fb own') (hc : c < 9 := by decide) :
    CalMt P w K mg base (k + 1) C m c n (runX N.length 0 fb) := ⟨f, fd, ps, fnok_ofX F S hn body (by decide) hc, hm, hb⟩
/-- how a class is made: its __init__ -/
structure CalI (P : Program) (w : World) (K : PySem.W.Frag) (mg : Str → Option Value) (base : Heap) (k : Nat) (C : Addr) (c n : Nat) (g : List D → Ry) : Prop where
  ex : ∃ (f : Addr) (fd : FuncData) (ps : List Str), FnOk P w K mg base (L2.CX P w) k f fd ps (spX K mg c 0 n g) ∧ Mk K C f ∧ Binds K fd ps []
theorem calI_of {P : Program} {w : World} {K : PySem.W.Frag} {mg : Str → Option Value} {base : Heap} {C : Addr} {x qual : Str} {st : Stmt} {f : Addr} {fd : FuncData} {N ps : List Str} {k n c : Nat} {fb : En → Out}
    (F : Fun K x qual st f fd) (S : FnScope N ps (defScope st)) (hm : Mk K C f) (hb : Binds K fd ps []) (hn : ps.length = n)
    (body : ∀ (cdv : Value) (A : Around) (outer : List Env) (s : Shared) (H : Hp) (E : XK), Cxt (cxOf (L2.CX P w) P w K mg base N qual (defScope st) f cdv A outer s H E) (fun cls d _ H => E cls d H) k →
      ∃ own', (ioC c 0).all own'.contains = true ∧ SSs (cxOf (L2.CX P w) P w K mg base N qual (defScope st) f cdv A outer s H E) (fun cls d _ H => E cls d H) (mdX c 0) [] (ioC c 0) (defBody st) fb own') (hc : c < 9 := by decide) :
    CalI P w K mg base (k + 1) C c n (runX N.length 0 fb) := ⟨f, fd, ps, fnok_ofX F S hn body (by decide) hc, hm, hb⟩
def xMe (i n : Nat) (g : List D → Ry) (fa : En → Rx (List D)) : En → Rx D := fun ρ => match getO ρ i with
  | some _ => (fa ρ).bind fun ds ρ1 => oSlot ρ1 i fun o => if ds.length + 1 = n then ryK i ρ1 (g (o :: ds)) else .bad
  | none => .bad
section
variable {X : Cx} {W : WX} {fl : Md} {own : List Nat} {k j n c i : Nat} {x m : Str} {C : Addr} {gf : List D → Ry} {e : Expr} {es : List Expr} {fa : En → Rx (List D)} {p pos apos : Pos} {pl : Sem Bool}
theorem me_run {B : Bs} {Hd0 H Hd : Hp} {ρ : En} {σ : L2.St} {vs : List V} {ds : List D} {Q : VK} {v0 : V} (R : Rel X.K B Hd0 own ρ σ H Hd) (hv : σ[i]? = some (some v0)) (xs : DqAll X.K Hd vs ds) (ho : okO own c i = true) (hE : okE fl own = true)
    (q0 : PoX X W B Hd0 fl own σ Hd (oSlot ρ i fun o => if ds.length + 1 = n then ryK i ρ (gf (o :: ds)) else .bad) Q) : spX X.K X.mg (c + 1) 0 n gf (v0 :: vs) H Q (WE W σ) := by
  obtain ⟨hi, h0, m, one⟩ := okO_of ho
  refine io_run (i := i) (ds := .none :: ds) R (.here hv xs) ?_ hE ?_
  · simp only [Bool.and_eq_true, decide_eq_true_eq]
    exact ⟨hi, h0, List.contains_iff_mem.mpr m, one⟩
  · exact q0
theorem sx_meth (c i : Nat) (T : ClsT X.K X.mg (c + 1) C) (Cc : Cxt X W k) (F : CalMt X.prog X.w X.K X.mg X.base j C m (c + 1) n gf) (ha : SXA X W fl own (e :: es) fa) (hj : j ≤ k := by decide) (ho : okO own c i = true := by rfl) (hE : okE fl own = true := by rfl) (hm : m ∉ (cN (c + 1)).2 := by decide +kernel) (hN : X.N[i]? = some x := by rfl) (hv : Vis X.env.scope x := by first | exact Or.inl rfl | exact Or.inr (Or.inl rfl) | exact Or.inr (Or.inr rfl))
    (hd : (x == ("__debug__" : Str)) = false := by rfl) (hcd : (x == ("__classdict__" : Str)) = false := by rfl)
    (hst : starEach (e :: es) X.env = (false, eval e X.env) :: starEach es X.env := by rfl) (hpl : (backTo pos (starEach es X.env)).any (·.1) = false := by rfl)
    (ht : eval (.Call (.Attribute (.Name x p) m apos) (e :: es) [] pos) X.env = (do
      let ov ← eval (.Name x p) X.env
      standAt apos.atName
      let (f, first) ← holding [ov] (getMethod ov m pl)
      callWith pos f first (backTo pos (starEach (e :: es) X.env)) (backToKw pos (keywordEach [] X.env))) := by rfl) :
    SX X W fl own (.Call (.Attribute (.Name x p) m apos) (e :: es) [] pos) (xMe i n gf fa) := by
  obtain ⟨f, fd, ps, ok, hM, hb⟩ := F.ex
  obtain ⟨ta, pa, ra⟩ := ha.ex
  obtain ⟨hi, h0, mm, one⟩ := okO_of ho
  refine ⟨_, pe_methW (pe_var hN hv hd hcd) T.cl hM ok (Cc.room.mono hj) hb (fun σ => passAt Cc.tk σ) pa hst hpl ht, fun B Hd0 ρ σ H Hd R Q q0 => ?_⟩
  unfold xMe at q0
  cases hg : getO ρ i with
  | none => rw [hg] at q0; exact q0.elim
  | some fs0 =>
    rw [hg] at q0
    simp only at q0
    obtain ⟨pp, C', dx, vs, A', s1, s2, s3, s4, s5, s6⟩ := R.obj hi h0 mm (getO_some hg)
    rw [T.ns] at s2
    cases s2
    refine ⟨.ref pp, s1, pp, dx, _, rfl, s3, zip_no (fun z => hm (List.mem_of_mem_take z)), ?_⟩
    refine ra _ _ _ _ _ _ R _ ?_
    cases hf : fa ρ with
    | bad => rw [hf] at q0; exact q0
    | ex cn fs ρ1 => rw [hf] at q0; exact q0
    | ok ds ρ1 =>
      rw [hf] at q0
      rw [Rx.ok_bind] at q0
      intro ws H1 Hd1 R1 t1 xs
      exact me_run R1 s1 xs ho hE (PoX.up q0 t1)
theorem sx_meth0 (c i : Nat) (T : ClsT X.K X.mg (c + 1) C) (Cc : Cxt X W k) (F : CalMt X.prog X.w X.K X.mg X.base j C m (c + 1) n gf) (hj : j ≤ k := by decide) (ho : okO own c i = true := by rfl) (hE : okE fl own = true := by rfl) (hm : m ∉ (cN (c + 1)).2 := by decide +kernel) (hN : X.N[i]? = some x := by rfl) (hv : Vis X.env.scope x := by first | exact Or.inl rfl | exact Or.inr (Or.inl rfl) | exact Or.inr (Or.inr rfl))
    (hd : (x == ("__debug__" : Str)) = false := by rfl) (hcd : (x == ("__classdict__" : Str)) = false := by rfl)
    (ht : eval (.Call (.Attribute (.Name x p) m apos) [] [] pos) X.env = (do
      let ov ← eval (.Name x p) X.env
      standAt apos.atName
      let (f, first) ← holding [ov] (getMethod ov m pl)
      callWith pos f first (backTo pos (starEach [] X.env)) (backToKw pos (keywordEach [] X.env))) := by rfl) :
    SX X W fl own (.Call (.Attribute (.Name x p) m apos) [] [] pos) (xMe i n gf xANil) := by
  obtain ⟨f, fd, ps, ok, hM, hb⟩ := F.ex
  obtain ⟨hi, h0, mm, one⟩ := okO_of ho
  refine ⟨_, pe_methW0 (pe_var hN hv hd hcd) T.cl hM ok (Cc.room.mono hj) hb (fun σ => passAt Cc.tk σ) ht, fun B Hd0 ρ σ H Hd R Q q0 => ?_⟩
  unfold xMe at q0
  cases hg : getO ρ i with
  | none => rw [hg] at q0; exact q0.elim
  | some fs0 =>
    rw [hg] at q0
    simp only at q0
    obtain ⟨pp, C', dx, vs, A', s1, s2, s3, s4, s5, s6⟩ := R.obj hi h0 mm (getO_some hg)
    rw [T.ns] at s2
    cases s2
    refine ⟨.ref pp, s1, pp, dx, _, rfl, s3, zip_no (fun z => hm (List.mem_of_mem_take z)), ?_⟩
    unfold xANil at q0
    rw [Rx.ok_bind] at q0
    exact me_run R s1 .nil ho hE q0
end
/-! ### x = C(e, ..) -/
def sMk (i n : Nat) (g : List D → Ry) (fa : En → Rx (List D)) : En → Out := fun ρ => oBindX (fa ρ) fun ds ρ1 => if ds.length + 1 = n then (match g (.tuple [] :: ds) with
  | .ok .none o => .nx (ρ1.set i (some o))
  | .ok _ _ => .bad
  | .ex cn fs _ => .ex cn fs ρ1
  | .bad => .bad) else .bad
theorem less_new {H : Hp} {x dx : Addr} {o1 o2 : HO} (hx : H x = none) (hd : H dx = none) : lessH (upd (upd H dx o1) x o2) [x, dx] = H := by
  funext a
  unfold lessH
  by_cases z : a = x
  · subst z; rw [if_pos (by simp), hx]
  · by_cases w : a = dx
    · subst w; rw [if_pos (by simp), hd]
    · rw [if_neg (by simp [z, w]), upd_ne z, upd_ne w]
section
variable {X : Cx} {W : WX} {fl : Md} {L own : List Nat} {k j n c i : Nat} {x cn : Str} {C : Addr} {gf : List D → Ry} {e : Expr} {es : List Expr} {fa : En → Rx (List D)} {p pos pos' spos : Pos}
theorem ss_mk (c i : Nat) (T : ClsT X.K X.mg (c + 1) C) (Cc : Cxt X W k) (F : CalI X.prog X.w X.K X.mg X.base j C (c + 1) n gf) (ha : SXA X W fl own (e :: es) fa) (hcn : (cN (c + 1)).1 = cn := by rfl) (hj : j + 1 ≤ k := by decide) (hc : c + 1 < 9 := by decide) (hlt : i < 100 := by decide) (hE : okE fl own = true := by rfl) (hk : own.contains (1000 + i) = false := by rfl)
    (hg : Gl X cn := by rfl) (hdb : (cn == ("__debug__" : Str)) = false := by decide) (he : starEach (e :: es) X.env = (false, eval e X.env) :: starEach es X.env := by rfl) (hpl : (backTo pos (starEach es X.env)).any (·.1) = false := by rfl)
    (hi : X.N[i]? = some x := by rfl) (hx : Loc X.env.scope x := by first | exact Or.inl rfl | exact Or.inr rfl) (hs : swapsWith (.Call (.Name cn p) (e :: es) [] pos) (some (.Name x pos')) spos.line X.env = pure false := by rfl) (hf : X.fn x = true ∨ X.env.scope.names.lookup x = some .local := by first | exact .inl rfl | exact .inr rfl) :
    SS X W fl L own (.Assign [.Name x pos'] (.Call (.Name cn p) (e :: es) [] pos) spos) (sMk i n gf fa) ((100 * (c + 1) + i) :: drp own i) := by
  obtain ⟨f, fd, ps, ok, hM, hb⟩ := F.ex
  obtain ⟨ta, pa, ra⟩ := ha.ex
  refine ⟨_, ps_set Cc.nd hi hx (pe_makeW hM ok (Cc.room.mono hj) hg (by rw [← hcn]; exact T.mg) hb (fun σ => passAt Cc.tk σ) pa hdb he hpl) hs hf, fun B Hd0 ρ σ H Hd R Dn q => ?_⟩
  refine ra _ _ _ _ _ _ R _ ?_
  unfold sMk at q
  cases hfa : fa ρ with
  | bad => rw [hfa] at q; exact q
  | ex c fs ρ1 => rw [hfa] at q; exact fun cls a H' Hd' R' x => q cls a σ H' Hd' R' x
  | ok ds ρ1 =>
    rw [hfa] at q
    simp only [oBindX_ok] at q
    intro vs H1 Hd1 R1 s1 xs nx ndx hnx hndx hne
    by_cases hl : ds.length + 1 = n
    · rw [if_pos hl] at q
      have hd1x : Hd1 nx = none := none_of_same R1.st.sub hnx
      have hd1d : Hd1 ndx = none := none_of_same R1.st.sub hndx
      have sub : Same Hd1 (upd (upd H1 ndx (.own nx)) nx (.ins C ndx [])) := fun a o e => by
        rw [upd_ne (fun z => by rw [z, hd1x] at e; cases e), upd_ne (fun z => by rw [z, hd1d] at e; cases e)]
        exact R1.st.sub a o e
      have el := less_new (o1 := .own nx) (o2 := .ins C ndx []) hnx hndx
      have r1 : (upd (upd H1 ndx (.own nx)) nx (.ins C ndx [])) nx = some (.ins C ndx []) := upd_same
      have r2 : (upd (upd H1 ndx (.own nx)) nx (.ins C ndx [])) ndx = some (.own nx) := by rw [upd_ne hne, upd_same]
      refine ⟨by simp [xs.length, hl], .tuple [] :: ds, Hd1, [nx, ndx], .ref nx, .tuple [], sub, by simp [hl], fun k v nk h => ?_, rfl, rfl, ⟨nx, C, ndx, [], [], [], rfl, rfl, rfl, T.ns, by simpa using r1, r2, Nat.zero_le _, .nil, List.nodup_nil⟩, fun a m => ?_, ?_⟩
      · cases k with
        | zero => exact absurd rfl nk
        | succ k =>
          rw [List.getElem?_cons_succ] at h ⊢
          have hk' := (List.getElem?_eq_some_iff.mp h).1
          rw [xs.length] at hk'
          obtain ⟨v', e1, e2⟩ := xs.get (List.getElem?_eq_getElem hk')
          rw [h] at e1
          cases e1
          exact ⟨_, List.getElem?_eq_getElem hk', e2⟩
      · simp only [List.mem_cons, List.not_mem_nil, or_false] at m
        rcases m with rfl | rfl
        · exact ⟨hd1x, by rw [r1]; simp⟩
        · exact ⟨hd1d, by rw [r2]; simp⟩
      · cases hgf : gf (.tuple [] :: ds) with
        | ok d o =>
          rw [hgf] at q
          intro v H' Hd' t y x
          rw [el] at t
          obtain ⟨A', y1, y2⟩ := y
          have hd0 : d = .none := by
            cases d with
            | none => rfl
            | _ => exact q.elim
          subst hd0
          cases x
          refine ⟨rfl, q _ _ _ (R1.setNew t y1 (fun a m => ?_) (ncon hk) hlt hc)⟩
          obtain ⟨z1, z2, z3⟩ := y2 a m
          rw [el] at z2
          exact ⟨z1, z2, z3⟩
        | ex c' fs o =>
          rw [hgf] at q
          intro cls a H' Hd' t y x
          rw [el] at t
          obtain ⟨Hd'', R', up⟩ := (R1.step t).exc hE
          exact q cls a σ H' Hd'' R' (x.mono (fun _ _ z => z) up)
        | bad => rw [hgf] at q; exact q.elim
    · rw [if_neg hl] at q; exact q.elim
end
end Wm

set_option Elab.async false
set_option linter.all false
set_option maxRecDepth 100000
/-! WmX5: exceptions raised: with a text, with a value. -/
namespace Wm
open PySem PySem.Spec PyProof.Rows L2

/-- raise C("..") -/
def sRaise (c : Str) : En → Out := fun ρ => .ex c [] ρ
structure XcT (K : PySem.W.Frag) (mg : Str → Option Value) (nm : Str) : Prop where
  ex : ∃ C : Addr, mg nm = some (.ref C) ∧ PySem.W.excIn K C [.type "ValueError", .type "Exception", .type "BaseException", .type "object"] "ValueError.__new__" = true ∧ PySem.W.keepIn K (.ref C) = true ∧ PySem.W.subIn K (.ref C) (.type "BaseException") = some true ∧ PySem.W.typeIn K (.ref C) = some (.type "type")
theorem ss_raise {X : Cx} {W : WX} {fl : Md} {L own own' : List Nat} {k : Nat} {nm m : Str} {j : Nat} {p p2 p3 pos : Pos} (T : XcT X.K X.mg nm) (C : Cxt X W k) (hE : okE fl own = true := by rfl) (hg : Gl X nm := by rfl) (hdb : (nm == ("__debug__" : Str)) = false := by decide) :
    SS X W fl L own (.Raise (some (.Call (.Name nm p) [.Constant (.str m) j p2] [] p3)) none pos) (sRaise nm) own' := by
  obtain ⟨D, gD, e, kD, b, t⟩ := T.ex
  refine ⟨_, ps_raise C.calm C.tk (pmk_own PySem.F.excBase_ValueError e gD kD (raises_own b t) hg hdb), fun B Hd0 ρ σ H Hd R Dn q => ?_⟩
  exact exc_of R q (.refl R.st.sub) ⟨gD, rfl⟩ hE
/-! ### raise C(e), C's __init__ keeping e in a field -/
/-- WayError.__init__(self, "..") -/
structure WeT (K : PySem.W.Frag) (mg : Str → Option Value) : Prop where
  ex : ∃ B : Addr, mg "WayError" = some (.ref B) ∧ PySem.W.specialIn K (.ref B) "__getattribute__" = some (some (.builtin "type.__getattribute__")) ∧ PySem.W.typeIn K (.ref B) = some (.type "type") ∧ PySem.W.readsIn K B (.type "type") = true ∧ PySem.W.findCls K (.ref B) (.type "type") "__init__" = some (.val (.builtin "ValueError.__init__"))
section
variable {X : Cx} {e : Expr} {es : List Expr} {ta : TA} {p1 p2 pos : Pos}
theorem pe_weinit {pl : Sem Bool} (T : WeT X.K X.mg) (hg : Gl X "WayError") (ha : PA X (e :: es) ta)
    (hc : eval (.Call (.Attribute (.Name "WayError" p1) "__init__" p2) (e :: es) [] pos) X.env = (do
      let ov ← eval (.Name "WayError" p1) X.env
      standAt p2.atName
      let (f, first) ← holding [ov] (getMethod ov "__init__" pl)
      callWith pos f first (backTo pos (starEach (e :: es) X.env)) (backToKw pos (keywordEach [] X.env))) := by rfl)
    (he : starEach (e :: es) X.env = (false, eval e X.env) :: starEach es X.env := by rfl) (hpl : (backTo pos (starEach es X.env)).any (·.1) = false := by rfl) :
    PE X (.Call (.Attribute (.Name "WayError" p1) "__init__" p2) (e :: es) [] pos) (tVeI X.K ta) := by
  obtain ⟨B, gB, hga, tyB, rdB, fB⟩ := T.ex
  refine ⟨fun pins s σ H Q I h => ?_⟩
  refine PySem.W.methodCall_KW (ld_glob I hg gB ?_ (by decide)) hc
  obtain ⟨m, fr⟩ := I.fr
  refine PySem.W.method_of_cls fr I.ok.mod.kin hga ?_
  refine PySem.W.cls_val fr I.ok.mod.kin tyB rdB fB (by decide +kernel) ?_
  show wpAny _ _ (callWith pos (Value.builtin "ValueError.__init__") [] (backTo pos (starEach (e :: es) X.env)) []) _ _ _
  refine PyProof.Rows.callWith_method1 (thn (ha.run pos pins _ σ H _ (I.tok _) h) fun us s1 ⟨vs, H1, I1, r1, a, C, ws, ev, hl, T, ea, q⟩ => ?_) he hpl
  subst ev
  cases r1 with
  | @cons _ u0 _ ur ra rw' =>
    obtain rfl : u0 = Value.ref a := ra
    have hlen : ur.length ≤ sizeLine := by
      rw [← Paired.length rw', sizeLine_eq]
      omega
    exact oinit_ok T I1 ea hlen fun s' J => ⟨.non, H1, J, rfl, q⟩
end
def spXi (K : PySem.W.Frag) (fld : Str) : Sp := fun vs H Q _ => ∃ (a C : Addr) (v : V), vs = [.ref a, v] ∧ H a = some (exo a C none) ∧ OexC K C ∧ PySem.W.findIn K (.ref C) fld = some none ∧ ∀ d, H d = none → d ≠ a → Q .non (upd (upd H d (exd d [(fld, v)])) a (exo a C (some d)))
/-- the shape of such an __init__'s body -/
theorem xi_body {X : Cx} {fld m : Str} {j : Nat} {q1 q2 q3 q4 q5 q6 q7 q8 q9 q10 : Pos} (T : WeT X.K X.mg) (hg : Gl X "WayError") (h0 : X.N[0]? = some ("self" : Str)) (h1 : X.N[1]? = some fld) (v0 : Vis X.env.scope "self") (v1 : Vis X.env.scope fld) (d1 : (fld == ("__debug__" : Str)) = false) (c1 : (fld == ("__classdict__" : Str)) = false)
    (hc : ∃ pl : Sem Bool, eval (.Call (.Attribute (.Name "WayError" q1) "__init__" q2) [.Name "self" q3, .Constant (.str m) j q4] [] q5) X.env = (do
      let ov ← eval (.Name "WayError" q1) X.env
      standAt q2.atName
      let (f, first) ← holding [ov] (getMethod ov "__init__" pl)
      callWith q5 f first (backTo q5 (starEach [.Name "self" q3, .Constant (.str m) j q4] X.env)) (backToKw q5 (keywordEach [] X.env))))
    (hs1 : swapsWith (.Call (.Attribute (.Name "WayError" q1) "__init__" q2) [.Name "self" q3, .Constant (.str m) j q4] [] q5) none q6.line X.env = pure false)
    (hs2 : swapsWith (.Name fld q9) (some (.Attribute (.Name "self" q7) fld q8)) q10.line X.env = pure false) :
    ∃ t, PSs X [.Expr (.Call (.Attribute (.Name "WayError" q1) "__init__" q2) [.Name "self" q3, .Constant (.str m) j q4] [] q5) q6, .Assign [.Attribute (.Name "self" q7) fld q8] (.Name fld q9) q10] t ∧
      ∀ (H : Hp) (a C : Addr) (v : V) (Dn : Ends) (σ : L2.St), σ[0]? = some (some (.ref a)) → σ[1]? = some (some v) → H a = some (exo a C none) → OexC X.K C → PySem.W.findIn X.K (.ref C) fld = some none → (∀ d, H d = none → d ≠ a → Dn.nx σ (upd (upd H d (exd d [(fld, v)])) a (exo a C (some d)))) → t Dn σ H := by
  obtain ⟨pl, hc⟩ := hc
  refine ⟨_, pss_cons (ps_expr (pe_weinit T hg (pa_cons (pe_var h0 v0 (by decide) (by decide)) (pa_cons pe_str pa_nil)) hc) hs1) (pss_one (ps_ost (pe_var h0 v0 (by decide) (by decide)) (pe_var h1 v1 d1 c1) hs2)), ?_⟩
  intro H a C v Dn σ s0 s1 ha hO hno k
  refine ⟨.ref a, s0, a, C, [.str m], rfl, by simp, hO, ha, ?_⟩
  refine ⟨v, s1, .ref a, s0, a, C, rfl, hO, hno, .inl ⟨ha, fun dx hd hne => k dx hd hne⟩⟩
/-- raise C(e) -/
structure XiT (P : Program) (w : World) (K : PySem.W.Frag) (mg : Str → Option Value) (base : Heap) (nm fld : Str) : Prop where
  ex : ∃ (C fI : Addr) (fd : FuncData) (ps : List Str), OexC K C ∧ mg nm = some (.ref C) ∧ PySem.W.findIn K (.ref C) "__init__" = some (some (.ref fI)) ∧ PySem.W.typeIn K (.ref fI) = some (.type "function") ∧ PySem.W.findIn K (.ref C) fld = some none ∧
    FnOk P w K mg base (L2.CX P w) 1 fI fd ps (spXi K fld) ∧ Binds K fd ps []
def sRaiseV (nm fld : Str) (f : En → Rs D) : En → Out := fun ρ => oBind (f ρ) ρ fun d => .ex nm [(fld, d)] ρ
theorem passN {X : Cx} {P : Program} {w : World} : Passes (L2.CX P w) X (fun _ _ _ => False) := fun pins σ H s e s' I h => by
  obtain ⟨_, _, _, _, _, _, _, _, _, _, _, _, z⟩ := h
  exact z.elim
theorem del_new {H : Hp} {a : Addr} {o : HO} (h : H a = none) : del (upd H a o) a = H := by
  funext b
  unfold del
  by_cases z : b = a
  · rw [if_pos z, z, h]
  · rw [if_neg z, upd_ne z]
theorem ss_raiseV {X : Cx} {W : WX} {fl : Md} {L own own' : List Nat} {k : Nat} {nm fld : Str} {e : Expr} {f : En → Rs D} {p p3 pos : Pos} (T : XiT X.prog X.w X.K X.mg X.base nm fld) (C : Cxt X W k) (h : SE X W own e f) (hk2 : 2 ≤ k := by decide) (hE : okE fl own = true := by rfl) (hg : Gl X nm := by rfl) (hdb : (nm == ("__debug__" : Str)) = false := by decide)
    (he : starEach (e :: []) X.env = (false, eval e X.env) :: starEach [] X.env := by rfl) (hpl : (backTo p3 (starEach [] X.env)).any (·.1) = false := by rfl) :
    SS X W fl L own (.Raise (some (.Call (.Name nm p) [e] [] p3)) none pos) (sRaiseV nm fld f) own' := by
  obtain ⟨D, fI, fd, ps, hO, gD, iI, tI, hno, ok, hb⟩ := T.ex
  obtain ⟨t, pe, r⟩ := h.ex
  refine ⟨_, ps_raise C.calm C.tk (pmk_oex (dvs := []) (ds := []) hO iI tI ok (C.room.mono hk2) hb .nil passN hg gD (pa_cons pe pa_nil he) hdb he hpl), fun B Hd0 ρ σ H Hd R Dn q => ?_⟩
  refine r _ _ _ _ _ _ R _ ?_
  unfold sRaiseV at q
  cases hf : f ρ with
  | bad => rw [hf] at q; exact q
  | ex c fs => rw [hf] at q; exact fun cls a H' Hd' s x => exc_of R q s x hE
  | ok d =>
    rw [hf] at q
    simp only [oBind_ok] at q
    intro v H1 Hd1 s1 x
    refine ⟨by simp, fun a ha => ⟨a, D, v, by simp, upd_same, hO, hno, fun dd hdd hne => ⟨rfl, dd, [(fld, v)], upd_same, by rw [upd_ne hne, upd_same], ?_, ?_⟩⟩⟩
    · rw [upd_ne hne] at hdd; exact hdd
    · have hd1 : H1 dd = none := by rw [upd_ne hne] at hdd; exact hdd
      have e1 : upd (del (upd (upd (upd H1 a (exo a D none)) dd (exd dd [(fld, v)])) a (exo a D (some dd))) a) dd (.xd [(fld, v)]) = upd H1 dd (.xd [(fld, v)]) := by
        funext b
        by_cases z : b = dd
        · rw [z, upd_same, upd_same]
        · rw [upd_ne z, upd_ne z]
          unfold del
          by_cases w : b = a
          · rw [if_pos w, w, ha]
          · rw [if_neg w, upd_ne w, upd_ne z, upd_ne w]
      rw [e1]
      have st : Step H1 Hd1 (upd H1 dd (.xd [(fld, v)])) (upd Hd1 dd (.xd [(fld, v)])) := .new s1.sub hd1
      have n2 : Same Hd1 (upd Hd1 dd (.xd [(fld, v)])) := same_upd (none_of_same s1.sub hd1)
      refine exc_of R q (s1.trans st) ⟨gD, dd, [v], rfl, upd_same, .cons (dq_mono n2 x) .nil⟩ hE
/-! ### defs that hold objects of their own (slots wp) -/
theorem fnok_ofW {P : Program} {w : World} {K : PySem.W.Frag} {mg : Str → Option Value} {base : Heap} {x qual : Str} {st : Stmt} {f : Addr} {fd : FuncData} {N ps : List Str} {k n : Nat} {fl : Bool} {fb : En → Out} {wp : List Nat}
    (F : Fun K x qual st f fd) (S : FnScope N ps (defScope st)) (hn : ps.length = n)
    (body : ∀ (cdv : Value) (A : Around) (outer : List Env) (s : Shared) (H : Hp) (E : XK), Cxt (cxOf (L2.CX P w) P w K mg base N qual (defScope st) f cdv A outer s H E) (fun cls d _ H => E cls d H) k →
      ∃ own', SSs (cxOf (L2.CX P w) P w K mg base N qual (defScope st) f cdv A outer s H E) (fun cls d _ H => E cls d H) ⟨fl, [], wp, []⟩ [] [] (defBody st) fb own') :
    FnOk P w K mg base (L2.CX P w) (k + 1) f fd ps (spF K mg fl n (runF N.length fb)) := by
  refine F.okX S (fun vs H Q E h => by rw [hn]; exact h.1) (fun cdv A outer s H vs Q E hr h => ?_)
  obtain ⟨hl, ds, Hd, sub, dp, q⟩ := h
  have C : Cxt (cxOf (L2.CX P w) P w K mg base N qual (defScope st) f cdv A outer s H E) (fun cls d _ H => E cls d H) k :=
    ⟨rfl, takes_of rfl rfl rfl rfl, passes_of rfl, S.nd, hr⟩
  obtain ⟨own', B⟩ := body cdv A outer s H E C
  obtain ⟨t, p, r⟩ := B.ex
  refine ⟨t, p, r ⟨H, fun _ => none⟩ Hd _ _ H Hd (Rel.start (N := N) sub dp) _ ?_⟩
  unfold runF at q
  cases hf : fb (ds.map some ++ List.replicate (N.length - ds.length) none) with
  | nx ρ =>
    rw [hf] at q
    intro σ' H' Hd' R
    cases fl with
    | false => exact q .non H' Hd' R.st .non
    | true => exact q .non H' Hd' R.st .non
  | rt d =>
    rw [hf] at q
    cases fl with
    | false => exact fun v H' Hd' s x => q v H' Hd' s x
    | true => exact fun v H' Hd' s x => q v H' Hd' s x
  | ex c fs ρ =>
    rw [hf] at q
    exact fun cls a σ' H' Hd' R x => q cls a H' Hd' R.st x
  | bk ρ => rw [hf] at q; exact q.elim
  | ct ρ => rw [hf] at q; exact q.elim
  | bad => rw [hf] at q; exact q.elim
  | rx d ρ => rw [hf] at q; exact q.elim
theorem cal_ofW {P : Program} {w : World} {K : PySem.W.Frag} {mg : Str → Option Value} {base : Heap} {x qual : Str} {st : Stmt} {f : Addr} {fd : FuncData} {N ps : List Str} {k n : Nat} {fl : Bool} {fb : En → Out} {wp : List Nat}
    (F : Fun K x qual st f fd) (S : FnScope N ps (defScope st)) (hm : mg x = some (.ref f)) (hb : Binds K fd ps []) (hn : ps.length = n)
    (body : ∀ (cdv : Value) (A : Around) (outer : List Env) (s : Shared) (H : Hp) (E : XK), Cxt (cxOf (L2.CX P w) P w K mg base N qual (defScope st) f cdv A outer s H E) (fun cls d _ H => E cls d H) k →
      ∃ own', SSs (cxOf (L2.CX P w) P w K mg base N qual (defScope st) f cdv A outer s H E) (fun cls d _ H => E cls d H) ⟨fl, [], wp, []⟩ [] [] (defBody st) fb own') :
    Cal P w K mg base (k + 1) x fl n (runF N.length fb) := ⟨f, fd, ps, fnok_ofW F S hn body, hm, F.kp, hb⟩
/-! ### a def that is never called -/
theorem pss_any {X : Cx} : ∀ sts : List Stmt, ∃ t, PSs X sts t
  | [] => ⟨_, pss_nil⟩
  | st :: sts => by
    obtain ⟨t, h⟩ := pss_any (X := X) sts
    exact ⟨_, pss_cons ps_never h⟩
theorem sss_bad {X : Cx} {W : WX} {fl : Md} {L own own' : List Nat} (sts : List Stmt) : SSs X W fl L own sts sBad own' := by
  obtain ⟨t, h⟩ := pss_any (X := X) sts
  exact ⟨⟨t, h, fun _ _ _ _ _ _ _ _ q => q.elim⟩⟩
theorem cal_none {P : Program} {w : World} {K : PySem.W.Frag} {mg : Str → Option Value} {base : Heap} {x qual : Str} {st : Stmt} {f : Addr} {fd : FuncData} {N ps : List Str} {k n : Nat} {fl : Bool}
    (F : Fun K x qual st f fd) (S : FnScope N ps (defScope st)) (hm : mg x = some (.ref f)) (hb : Binds K fd ps []) (hn : ps.length = n) :
    Cal P w K mg base (k + 1) x fl n (fun _ => .bad) :=
  cal_of (k := k) (fb := sBad) F S hm hb hn fun _ _ _ _ _ _ _ => ⟨[], sss_bad _⟩
end Wm

set_option Elab.async false
set_option linter.all false
set_option maxRecDepth 100000
set_option maxHeartbeats 4000000
namespace K51
open PySem PySem.Spec PyProof.Rows L2 Wm Wp
def f__law_same (rr : List D → Rs D) : En → Out :=
  (sSeq (sIf (tB (eIsi "tuple" (eVar 1)))
      (sSeq (sIf (tOr' (tNo (tB (eIsi "tuple" (eVar 0)))) (tB (e2 neD (eBlt lenD (aCons (eVar 0) aNil)) (eBlt lenD (aCons (eVar 1) aNil)))))
      (sRet (eC (.bool false)))
      sNx)
    (sRet (eBlt allD (aCons (eLc (eIt2 iZip (eVar 0) (eVar 1)) [2, 3] (gTp 2 (gsCons (gNm 2) (gsCons (gNm 3) gsNil))) cYes (eCall 2 rr (aCons (eVar 2) (aCons (eVar 3) aNil)))) aNil))))
      sNx)
    (sSeq (sIf (tB (eIsi "bool" (eVar 1)))
      (sRet (eAn (eIsi "bool" (eVar 0)) (e2 eqD (eVar 0) (eVar 1))))
      sNx)
    (sRet (eAn (eIsi "str" (eVar 0)) (e2 eqD (eVar 0) (eVar 1))))))
def gN__law_same : Nat → List D → Rs D
  | 0 => fun _ => .bad
  | n+1 => runF 4 (f__law_same (gN__law_same n))
def g__law_same : List D → Rs D := gN__law_same 6
def t_law_1 : En → Out :=
  (sSeq (sSet 5 (eCall 1 g_read_pattern (aCons (eVar 4) aNil)))
    (sRet (eAn (eCall 2 g__law_same (aCons (eVar 5) (aCons (eVar 2) aNil))) (e2 eqD (eCall 1 g_show_pattern (aCons (eVar 5) aNil)) (eVar 3)))))
def t_law_2 : En → Out :=
  (sSeq (sSet 4 (eCall 2 g__law_pattern_text (aCons (eVar 2) (aCons (eSl (eVar 0) (oSo (eC (.int 2))) oNo) aNil))))
    t_law_1)
def t_law_3 : En → Out :=
  (sSeq (sIf (tNo (tB (eCall 2 g__law_same (aCons (eCall 1 g_read_pattern (aCons (eVar 3) aNil)) (aCons (eVar 2) aNil)))))
      (sRet (eC (.bool false)))
      sNx)
    t_law_2)
def t_law_4 : En → Out :=
  (sSeq (sIf (tOr' (tNo (tB (eIsi "str" (eVar 3)))) (tB (e2 neD (eVar 3) (eCall 2 g__law_pattern_text (aCons (eVar 2) (aCons (eLst aNil) aNil))))))
      (sRet (eC (.bool false)))
      sNx)
    t_law_3)
def t_law_5 : En → Out :=
  (sSeq (sSet 3 (eCall 1 g_show_pattern (aCons (eVar 2) aNil)))
    t_law_4)
def t_law_6 : En → Out :=
  (sSeq (sSet 2 (eCall 3 g__law_pattern (aCons (eCall 2 g__law_cell_at (aCons (eVar 0) (aCons (eC (.int 1)) aNil))) (aCons (eVar 1) (aCons (eSl (eVar 0) (oSo (eC (.int 3))) (oSo (eC (.int 15)))) aNil)))))
    t_law_5)
def f_law : En → Out :=
  (sSeq (sSet 1 (eCall 2 g__law_names (aCons (eCall 2 g__law_cell_at (aCons (eVar 0) (aCons (eC (.int 0)) aNil))) (aCons (eC (.int 12)) aNil))))
    t_law_6)
def g_law : List D → Rs D := runF 6 f_law
end K51

set_option Elab.async false
set_option linter.all false
set_option maxRecDepth 100000
set_option maxHeartbeats 4000000
namespace K51
open PySem PySem.Spec PyProof.Rows L2 Wm Wp
def topS (i : Nat) : Stmt := PySem.Challenge.pw_waymark_k51_patterns_shown_and_read.main.body.getD i (.Pass ⟨0, 0, 0, 0⟩)
section
variable {P : Program} {w : World} {K : PySem.W.Frag} {mg : Str → Option Value} {base : Heap} {f : Addr} {fd : FuncData}
theorem sc_pair_of : FnScope ["sign", "high", "low"] ["sign"] (defScope (topS 12)) := ⟨rfl, rfl, rfl, by decide +kernel, rfl, by decide +kernel, by decide +kernel⟩
theorem ok_pair_of (g_SIXTEEN : Glb K mg "SIXTEEN" k_SIXTEEN) (m_divmod : mg "divmod" = none) (m_ord : mg "ord" = none) (F : Fun K "pair_of" "pair_of" (topS 12) f fd) (hm : mg "pair_of" = some (.ref f)) : Cal P w K mg base 1 "pair_of" false 1 g_pair_of :=
  cal_of (k := 0) F sc_pair_of hm (F.binds fun _ _ _ _ _ _ us hl => match us, hl with | [_], _ => rfl) rfl fun cdv A outer s H E C => ⟨[], (ss_cons (ss_unp (se_blt call_divmod divmodS m_divmod (sab_cons (((se_blt call_ord ordS m_ord (sab_cons (((se_var 0)).bb) sab_nil))).bb) (sab_cons ((se_int).bb) sab_nil))) (sg_tup C.calm (sgs_cons (sg_name 1 C.nd) (sgs_cons (sg_name 2 C.nd) sgs_nil))))
    (ss_one (ss_ret (se_op op_addA addS ((se_op op_addA addS ((se_str (y := ⟨[126].toArray⟩) (by decide +kernel))).bb ((se_ix ix_seq ixS ((se_g g_SIXTEEN)).bb ((se_var 1)).bb)).bb)).bb ((se_ix ix_seq ixS ((se_g g_SIXTEEN)).bb ((se_var 2)).bb)).bb))))⟩
theorem sc_sign_of : FnScope ["figures", "high", "low", "number"] ["figures"] (defScope (topS 13)) := ⟨rfl, rfl, rfl, by decide +kernel, rfl, by decide +kernel, by decide +kernel⟩
theorem ok_sign_of (g_SIXTEEN : Glb K mg "SIXTEEN" k_SIXTEEN) (g_LEFT_OUT : Glb K mg "LEFT_OUT" k_LEFT_OUT) (g_SIGNS : Glb K mg "SIGNS" k_SIGNS) (m_len : mg "len" = none) (m_min : mg "min" = none) (m_int : mg "int" = none) (F : Fun K "sign_of" "sign_of" (topS 13) f fd) (hm : mg "sign_of" = some (.ref f)) : Cal P w K mg base 1 "sign_of" false 1 g_sign_of :=
  cal_of (k := 0) F sc_sign_of hm (F.binds fun _ _ _ _ _ _ us hl => match us, hl with | [_], _ => rfl) rfl fun cdv A outer s H E C => ⟨[], (ss_cons (ss_if (st_cmp (op_neA C.u64) neS ((se_blt call_len lenS m_len (sab_cons (((se_var 0)).bb) sab_nil))).bb (se_int).bb (nomark _))
      (ss_one (ss_ret se_non))
      ss_nil)
    (ss_cons (ss_set 1 (se_find ((se_g g_SIXTEEN)).bb ((se_lower ((se_ix ix_seq ixS ((se_var 0)).bb (se_int).bb)).bb)).bb) C.nd)
    (ss_cons (ss_set 2 (se_find ((se_g g_SIXTEEN)).bb ((se_lower ((se_ix ix_seq ixS ((se_var 0)).bb (se_int).bb)).bb)).bb) C.nd)
    (ss_cons (ss_set 3 (se_op op_addA addS ((se_op op_mulA mulS (se_int).bb ((se_var 1)).bb)).bb ((se_var 2)).bb) C.nd)
    (ss_cons (ss_if (SW.t (sw_or (st_cmp op_lt cmpS ((se_blt (call_min2 C.calm) minS m_min (sab_cons (((se_var 1)).bb) (sab_cons (((se_var 2)).bb) sab_nil)))).bb (se_int).bb (nomark _)) (sw_or (st_cmp (op_eqA C.u64) eqS ((se_var 3)).bb ((se_g g_LEFT_OUT)).bb (nomark _)) (sw_or1 (st_not (st_chain op_le cmpS op_le cmpS (se_int).bb ((se_var 3)).bb (se_int).bb))))))
      (ss_one (ss_ret se_non))
      ss_nil)
    (ss_one (ss_ret (se_ix ix_seq ixS ((se_g g_SIGNS)).bb ((se_op op_sub subS ((se_op op_sub subS ((se_var 3)).bb (se_int).bb)).bb ((se_bty call_intA intS m_int (sab_cons (((se_cmp op_gt cmpS ((se_var 3)).bb ((se_g g_LEFT_OUT)).bb (nomark _))).bb) sab_nil))).bb)).bb))))))))⟩
theorem sc_written : FnScope ["text", "found", "sign"] ["text"] (defScope (topS 14)) := ⟨rfl, rfl, rfl, by decide +kernel, rfl, by decide +kernel, by decide +kernel⟩
theorem ok_written (c_pair_of : Cal P w K mg base 1 "pair_of" false 1 g_pair_of) (g_PLAIN : Glb K mg "PLAIN" k_PLAIN) (F : Fun K "written" "written" (topS 14) f fd) (hm : mg "written" = some (.ref f)) : Cal P w K mg base 2 "written" false 1 g_written :=
  cal_of (k := 1) F sc_written hm (F.binds fun _ _ _ _ _ _ us hl => match us, hl with | [_], _ => rfl) rfl fun cdv A outer s H E C => ⟨[], (ss_cons (ss_set 1 (se_str (y := ⟨[].toArray⟩) (by decide +kernel)) C.nd)
    (ss_cons (ss_for C.hp C.calm (si_seq (se_var 0)) (sg_name 2 C.nd)
      (ss_one (ss_if (st_cmp (op_inA C.u65) inS ((se_var 2)).bb ((se_g g_PLAIN)).bb (by rfl))
      (ss_one (ss_aug 1 iop_catA addIS (se_var 2) C.nd))
      (ss_one (ss_aug 1 iop_catA addIS (se_call C c_pair_of (sa_cons (se_var 2) sa_nil)) C.nd)))))
    (ss_one (ss_ret (se_var 1)))))⟩
theorem sc_undone : FnScope ["text", "free", "found", "here", "sign"] ["text", "free"] (defScope (topS 15)) := ⟨rfl, rfl, rfl, by decide +kernel, rfl, by decide +kernel, by decide +kernel⟩
theorem fn_undone (c_sign_of : Cal P w K mg base 1 "sign_of" false 1 g_sign_of) (g_PLAIN : Glb K mg "PLAIN" k_PLAIN) (m_len : mg "len" = none) (F : FunD K "undone" "undone" (defArgs (topS 15)) (defBody (topS 15)) (defScope (topS 15)) [.str ⟨[].toArray⟩] [] f fd) : FnOk P w K mg base (L2.CX P w) 2 f fd ["text", "free"] (spF K mg false 2 g_undone) :=
  fnok_ofD (k := 1) F sc_undone rfl fun cdv A outer s H E C => ⟨[], (ss_cons (ss_set 2 (se_str (y := ⟨[].toArray⟩) (by decide +kernel)) C.nd)
    (ss_cons (ss_set 3 se_int C.nd)
    (ss_cons (ss_while C.hp (st_cmp op_lt cmpS ((se_var 3)).bb ((se_blt call_len lenS m_len (sab_cons (((se_var 0)).bb) sab_nil))).bb (nomark _))
      (ss_cons (ss_set 4 (se_ix ix_seq ixS ((se_var 0)).bb ((se_var 3)).bb) C.nd)
    (ss_cons (ss_aug 3 iop_catA addIS se_int C.nd)
    (ss_cons (ss_if (st_cmp (op_eqA C.u64) eqS ((se_var 4)).bb ((se_str (y := ⟨[126].toArray⟩) (by decide +kernel))).bb (nomark _))
      (ss_cons (ss_set 4 (se_call C c_sign_of (sa_cons (se_slice ((se_var 0)).bb (so_some (se_var 3)) (so_some (se_op op_addA addS ((se_var 3)).bb (se_int).bb))) sa_nil)) C.nd)
    (ss_cons (ss_aug 3 iop_catA addIS se_int C.nd)
    (ss_one (ss_if (st_cmp op_isA isS ((se_var 4)).bb (se_non).bb (nomark _))
      (ss_one (ss_ret se_non))
      ss_nil))))
      (ss_one (ss_if (SW.t (sw_and (st_cmp (op_notInA C.u65) notInS ((se_var 4)).bb ((se_g g_PLAIN)).bb (by rfl)) (sw_and1 (st_cmp (op_notInA C.u65) notInS ((se_var 4)).bb ((se_var 1)).bb (by rfl)))))
      (ss_one (ss_ret se_non))
      ss_nil)))
    (ss_one (ss_aug 2 iop_catA addIS (se_var 4) C.nd))))))
    (ss_one (ss_ret (se_var 2))))))⟩
theorem ok_undone (c_sign_of : Cal P w K mg base 1 "sign_of" false 1 g_sign_of) (g_PLAIN : Glb K mg "PLAIN" k_PLAIN) (m_len : mg "len" = none) (F : FunD K "undone" "undone" (defArgs (topS 15)) (defBody (topS 15)) (defScope (topS 15)) [.str ⟨[].toArray⟩] [] f fd) (hm : mg "undone" = some (.ref f)) : Cal P w K mg base 2 "undone" false 2 g_undone :=
  cal_all F (fn_undone c_sign_of g_PLAIN m_len F) hm (by simp) (fun T kV doc pm an cdv ct us its hl hi => match us, its, hl, hi with | [_, _], [_], _, _ => ⟨_, rfl, rfl⟩)
theorem okD_undone_1 (c_sign_of : Cal P w K mg base 1 "sign_of" false 1 g_sign_of) (g_PLAIN : Glb K mg "PLAIN" k_PLAIN) (m_len : mg "len" = none) (F : FunD K "undone" "undone" (defArgs (topS 15)) (defBody (topS 15)) (defScope (topS 15)) [.str ⟨[].toArray⟩] [] f fd) (hm : mg "undone" = some (.ref f)) : CalD P w K mg base 2 "undone" false 2 [(tx [])] g_undone :=
  cal_some 0 1 F (fn_undone c_sign_of g_PLAIN m_len F) hm (by simp) rfl (fun H => (.cons (.str _) .nil)) (fun T kV doc pm an cdv ct us its hl hi => match us, its, hl, hi with | [_], [_], _, _ => ⟨_, rfl, rfl⟩)
theorem sc_is_text : FnScope ["thing", "sign"] ["thing"] (defScope (topS 21)) := ⟨rfl, rfl, rfl, by decide +kernel, rfl, by decide +kernel, by decide +kernel⟩
theorem ok_is_text (g_PLAIN : Glb K mg "PLAIN" k_PLAIN) (g_OTHERS : Glb K mg "OTHERS" k_OTHERS) (m_isinstance : mg "isinstance" = none) (m_str : mg "str" = none) (m_all : mg "all" = none) (F : Fun K "is_text" "is_text" (topS 21) f fd) (hm : mg "is_text" = some (.ref f)) : Cal P w K mg base 1 "is_text" false 1 g_is_text :=
  cal_of (k := 0) F sc_is_text hm (F.binds fun _ _ _ _ _ _ us hl => match us, hl with | [_], _ => rfl) rfl fun cdv A outer s H E C => ⟨[], (ss_one (ss_ret (se_and (se_isi (n := "str") ((se_var 0)).bb m_isinstance m_str) (se_one (se_blt (cr_all C.calm) allS m_all (sab_cons (((sm_lc [("sign", 1)] C (si_seq (se_var 0)) (fun _ _ _ _ _ C => (sg_name 1 C.nd)) (fun _ _ _ _ _ C => sifs_nil) (fun _ _ _ _ _ C => (se_cmp (op_inA C.u65) inS ((se_var 1)).bb ((se_op op_addA addS ((se_g g_PLAIN)).bb ((se_g g_OTHERS)).bb)).bb (by rfl)))).se).bb) sab_nil))))))⟩
theorem sc_is_step : FnScope ["thing"] ["thing"] (defScope (topS 22)) := ⟨rfl, rfl, rfl, by decide +kernel, rfl, by decide +kernel, by decide +kernel⟩
theorem ok_is_step (c_is_text : Cal P w K mg base 1 "is_text" false 1 g_is_text) (g_DOTS : Glb K mg "DOTS" k_DOTS) (F : Fun K "is_step" "is_step" (topS 22) f fd) (hm : mg "is_step" = some (.ref f)) : Cal P w K mg base 2 "is_step" false 1 g_is_step :=
  cal_of (k := 1) F sc_is_step hm (F.binds fun _ _ _ _ _ _ us hl => match us, hl with | [_], _ => rfl) rfl fun cdv A outer s H E C => ⟨[], (ss_one (ss_ret (se_and (se_call C c_is_text (sa_cons (se_var 0) sa_nil)) (se_and (se_cmp (op_neA C.u64) neS ((se_var 0)).bb ((se_str (y := ⟨[].toArray⟩) (by decide +kernel))).bb (nomark _)) (se_one (se_cmp (op_notInA C.u65) notInS ((se_var 0)).bb ((se_g g_DOTS)).bb (by rfl)))))))⟩
theorem sc_is_name : FnScope ["thing", "sign"] ["thing"] (defScope (topS 23)) := ⟨rfl, rfl, rfl, by decide +kernel, rfl, by decide +kernel, by decide +kernel⟩
theorem ok_is_name (g_LETTERS : Glb K mg "LETTERS" k_LETTERS) (m_isinstance : mg "isinstance" = none) (m_str : mg "str" = none) (m_len : mg "len" = none) (m_all : mg "all" = none) (F : Fun K "is_name" "is_name" (topS 23) f fd) (hm : mg "is_name" = some (.ref f)) : Cal P w K mg base 1 "is_name" false 1 g_is_name :=
  cal_of (k := 0) F sc_is_name hm (F.binds fun _ _ _ _ _ _ us hl => match us, hl with | [_], _ => rfl) rfl fun cdv A outer s H E C => ⟨[], (ss_one (ss_ret (se_and (se_isi (n := "str") ((se_var 0)).bb m_isinstance m_str) (se_and (se_chain op_le cmpS op_le cmpS (se_int).bb ((se_blt call_len lenS m_len (sab_cons (((se_var 0)).bb) sab_nil))).bb (se_int).bb) (se_one (se_blt (cr_all C.calm) allS m_all (sab_cons (((sm_lc [("sign", 1)] C (si_seq (se_var 0)) (fun _ _ _ _ _ C => (sg_name 1 C.nd)) (fun _ _ _ _ _ C => sifs_nil) (fun _ _ _ _ _ C => (se_cmp (op_inA C.u65) inS ((se_var 1)).bb ((se_g g_LETTERS)).bb (by rfl)))).se).bb) sab_nil)))))))⟩
theorem sc_is_piece : FnScope ["thing", "last", "texts"] ["thing", "last"] (defScope (topS 24)) := ⟨rfl, rfl, rfl, by decide +kernel, rfl, by decide +kernel, by decide +kernel⟩
theorem ok_is_piece (c_is_text : Cal P w K mg base 1 "is_text" false 1 g_is_text) (c_is_name : Cal P w K mg base 1 "is_name" false 1 g_is_name) (c_is_step : Cal P w K mg base 2 "is_step" false 1 g_is_step) (m_isinstance : mg "isinstance" = none) (m_tuple : mg "tuple" = none) (m_len : mg "len" = none) (m_str : mg "str" = none) (F : Fun K "is_piece" "is_piece" (topS 24) f fd) (hm : mg "is_piece" = some (.ref f)) : Cal P w K mg base 3 "is_piece" false 2 g_is_piece :=
  cal_of (k := 2) F sc_is_piece hm (F.binds fun _ _ _ _ _ _ us hl => match us, hl with | [_, _], _ => rfl) rfl fun cdv A outer s H E C => ⟨[], (ss_cons (ss_if (SW.t (sw_or (st_not (st_val (se_isi (n := "tuple") ((se_var 0)).bb m_isinstance m_tuple))) (sw_or (st_cmp (op_notInA C.u65) notInS ((se_blt call_len lenS m_len (sab_cons (((se_var 0)).bb) sab_nil))).bb ((se_tup (sa_cons (se_int) (sa_cons (se_int) sa_nil)))).bb (by rfl)) (sw_or1 (st_not (st_val (se_isi (n := "str") ((se_ix ix_seq ixS ((se_var 0)).bb (se_int).bb)).bb m_isinstance m_str)))))))
      (ss_one (ss_ret se_bl))
      ss_nil)
    (ss_cons (ss_if (st_cmp (op_eqA C.u64) eqS ((se_blt call_len lenS m_len (sab_cons (((se_var 0)).bb) sab_nil))).bb (se_int).bb (nomark _))
      (ss_cons (ss_set 2 (se_and (se_call C c_is_text (sa_cons (se_ix ix_seq ixS ((se_var 0)).bb (se_int).bb) sa_nil)) (se_one (se_call C c_is_text (sa_cons (se_ix ix_seq ixS ((se_var 0)).bb (se_int).bb) sa_nil)))) C.nd)
    (ss_one (ss_ret (se_and (se_cmp (op_eqA C.u64) eqS ((se_ix ix_seq ixS ((se_var 0)).bb (se_int).bb)).bb ((se_str (y := ⟨[112, 97, 114, 116].toArray⟩) (by decide +kernel))).bb (nomark _)) (se_and (se_var 2) (se_and (se_cmp (op_neA C.u64) neS ((se_op op_addA addS ((se_ix ix_seq ixS ((se_var 0)).bb (se_int).bb)).bb ((se_ix ix_seq ixS ((se_var 0)).bb (se_int).bb)).bb)).bb ((se_str (y := ⟨[].toArray⟩) (by decide +kernel))).bb (nomark _)) (se_one (se_call C c_is_name (sa_cons (se_ix ix_seq ixS ((se_var 0)).bb (se_int).bb) sa_nil)))))))))
      ss_nil)
    (ss_cons (ss_if (st_cmp (op_eqA C.u64) eqS ((se_ix ix_seq ixS ((se_var 0)).bb (se_int).bb)).bb ((se_str (y := ⟨[115, 116, 101, 112].toArray⟩) (by decide +kernel))).bb (nomark _))
      (ss_one (ss_ret (se_call C c_is_step (sa_cons (se_ix ix_seq ixS ((se_var 0)).bb (se_int).bb) sa_nil))))
      ss_nil)
    (ss_cons (ss_if (SW.t (sw_and (st_cmp (op_eqA C.u64) eqS ((se_ix ix_seq ixS ((se_var 0)).bb (se_int).bb)).bb ((se_str (y := ⟨[114, 101, 115, 116].toArray⟩) (by decide +kernel))).bb (nomark _)) (sw_and1 (st_not (st_val (se_var 1))))))
      (ss_one (ss_ret se_bl))
      ss_nil)
    (ss_one (ss_ret (se_and (se_cmp (op_inA C.u65) inS ((se_ix ix_seq ixS ((se_var 0)).bb (se_int).bb)).bb ((se_tup (sa_cons (se_str (y := ⟨[110, 117, 109, 98, 101, 114].toArray⟩) (by decide +kernel)) (sa_cons (se_str (y := ⟨[119, 111, 114, 100].toArray⟩) (by decide +kernel)) (sa_cons (se_str (y := ⟨[103, 97, 112].toArray⟩) (by decide +kernel)) (sa_cons (se_str (y := ⟨[114, 101, 115, 116].toArray⟩) (by decide +kernel)) sa_nil)))))).bb (by rfl)) (se_one (se_call C c_is_name (sa_cons (se_ix ix_seq ixS ((se_var 0)).bb (se_int).bb) sa_nil))))))))))⟩
theorem sc_name_of : FnScope ["piece"] ["piece"] (defScope (topS 25)) := ⟨rfl, rfl, rfl, by decide +kernel, rfl, by decide +kernel, by decide +kernel⟩
theorem ok_name_of  (F : Fun K "name_of" "name_of" (topS 25) f fd) (hm : mg "name_of" = some (.ref f)) : Cal P w K mg base 1 "name_of" false 1 g_name_of :=
  cal_of (k := 0) F sc_name_of hm (F.binds fun _ _ _ _ _ _ us hl => match us, hl with | [_], _ => rfl) rfl fun cdv A outer s H E C => ⟨[], (ss_cons (ss_if (st_cmp (op_eqA C.u64) eqS ((se_ix ix_seq ixS ((se_var 0)).bb (se_int).bb)).bb ((se_str (y := ⟨[115, 116, 101, 112].toArray⟩) (by decide +kernel))).bb (nomark _))
      (ss_one (ss_ret (se_str (y := ⟨[].toArray⟩) (by decide +kernel))))
      ss_nil)
    (ss_cons (ss_if (st_cmp (op_eqA C.u64) eqS ((se_ix ix_seq ixS ((se_var 0)).bb (se_int).bb)).bb ((se_str (y := ⟨[112, 97, 114, 116].toArray⟩) (by decide +kernel))).bb (nomark _))
      (ss_one (ss_ret (se_ix ix_seq ixS ((se_var 0)).bb (se_int).bb)))
      ss_nil)
    (ss_one (ss_ret (se_ix ix_seq ixS ((se_var 0)).bb (se_int).bb)))))⟩
theorem sc_names_of : FnScope ["pattern", "piece"] ["pattern"] (defScope (topS 26)) := ⟨rfl, rfl, rfl, by decide +kernel, rfl, by decide +kernel, by decide +kernel⟩
theorem ok_names_of (c_name_of : Cal P w K mg base 1 "name_of" false 1 g_name_of) (F : Fun K "names_of" "names_of" (topS 26) f fd) (hm : mg "names_of" = some (.ref f)) : Cal P w K mg base 2 "names_of" false 1 g_names_of :=
  cal_of (k := 1) F sc_names_of hm (F.binds fun _ _ _ _ _ _ us hl => match us, hl with | [_], _ => rfl) rfl fun cdv A outer s H E C => ⟨[], (ss_one (ss_ret ((sm_lc [("piece", 1)] C (si_seq (se_ix ix_seq ixS ((se_var 0)).bb (se_int).bb)) (fun _ _ _ _ _ C => (sg_name 1 C.nd)) (fun _ _ _ _ _ C => (sifs_one (st_cmp (op_neA C.u64) neS ((se_ix ix_seq ixS ((se_var 1)).bb (se_int).bb)).bb ((se_str (y := ⟨[115, 116, 101, 112].toArray⟩) (by decide +kernel))).bb (nomark _)))) (fun _ _ _ _ _ C => (se_call C c_name_of (sa_cons (se_var 1) sa_nil))))).se))⟩
theorem sc_is_pattern : FnScope ["thing", "many", "k", "piece", "names"] ["thing"] (defScope (topS 27)) := ⟨rfl, rfl, rfl, by decide +kernel, rfl, by decide +kernel, by decide +kernel⟩
theorem ok_is_pattern (c_is_piece : Cal P w K mg base 3 "is_piece" false 2 g_is_piece) (c_names_of : Cal P w K mg base 2 "names_of" false 1 g_names_of) (g_MOST_PIECES : Glb K mg "MOST_PIECES" k_MOST_PIECES) (m_isinstance : mg "isinstance" = none) (m_tuple : mg "tuple" = none) (m_len : mg "len" = none) (m_bool : mg "bool" = none) (m_enumerate : mg "enumerate" = none) (m_set : mg "set" = none) (F : Fun K "is_pattern" "is_pattern" (topS 27) f fd) (hm : mg "is_pattern" = some (.ref f)) : Cal P w K mg base 4 "is_pattern" false 1 g_is_pattern :=
  cal_of (k := 3) F sc_is_pattern hm (F.binds fun _ _ _ _ _ _ us hl => match us, hl with | [_], _ => rfl) rfl fun cdv A outer s H E C => ⟨[], (ss_cons (ss_if (SW.t (sw_or (st_not (st_val (se_isi (n := "tuple") ((se_var 0)).bb m_isinstance m_tuple))) (sw_or (st_cmp (op_neA C.u64) neS ((se_blt call_len lenS m_len (sab_cons (((se_var 0)).bb) sab_nil))).bb (se_int).bb (nomark _)) (sw_or1 (st_not (st_val (se_isi (n := "tuple") ((se_ix ix_seq ixS ((se_var 0)).bb (se_int).bb)).bb m_isinstance m_tuple)))))))
      (ss_one (ss_ret se_bl))
      ss_nil)
    (ss_cons (ss_set 1 (se_blt call_len lenS m_len (sab_cons (((se_ix ix_seq ixS ((se_var 0)).bb (se_int).bb)).bb) sab_nil)) C.nd)
    (ss_cons (ss_if (SW.t (sw_or (st_not (st_val (se_isi (n := "bool") ((se_ix ix_seq ixS ((se_var 0)).bb (se_int).bb)).bb m_isinstance m_bool))) (sw_or (st_cmp op_gt cmpS ((se_var 1)).bb ((se_g g_MOST_PIECES)).bb (nomark _)) (sw_or1 (SW.t (sw_and (st_cmp (op_eqA C.u64) eqS ((se_var 1)).bb (se_int).bb (nomark _)) (sw_and1 (st_not (st_val (se_ix ix_seq ixS ((se_var 0)).bb (se_int).bb))))))))))
      (ss_one (ss_ret se_bl))
      ss_nil)
    (ss_cons (ss_for C.hp C.calm (si_en (se_ix ix_seq ixS ((se_var 0)).bb (se_int).bb) m_enumerate) (sg_tup C.calm (sgs_cons (sg_name 2 C.nd) (sgs_cons (sg_name 3 C.nd) sgs_nil)))
      (ss_one (ss_if (st_not (st_val (se_call C c_is_piece (sa_cons (se_var 3) (sa_cons (se_cmp (op_eqA C.u64) eqS ((se_var 2)).bb ((se_op op_sub subS ((se_var 1)).bb (se_int).bb)).bb (nomark _)) sa_nil)))))
      (ss_one (ss_ret se_bl))
      ss_nil)))
    (ss_cons (ss_set 4 (se_call C c_names_of (sa_cons (se_var 0) sa_nil)) C.nd)
    (ss_one (ss_ret (se_cmp (op_eqA C.u64) eqS ((se_lenset C.calm m_len m_set ((se_var 4)).bb)).bb ((se_blt call_len lenS m_len (sab_cons (((se_var 4)).bb) sab_nil))).bb (nomark _)))))))))⟩
theorem sc_named_gap : FnScope ["text", "name", "colon", "word"] ["text"] (defScope (topS 28)) := ⟨rfl, rfl, rfl, by decide +kernel, rfl, by decide +kernel, by decide +kernel⟩
theorem ok_named_gap (g_GAPS : Glb K mg "GAPS" k_GAPS) (F : Fun K "named_gap" "named_gap" (topS 28) f fd) (hm : mg "named_gap" = some (.ref f)) : Cal P w K mg base 1 "named_gap" false 1 g_named_gap :=
  cal_of (k := 0) F sc_named_gap hm (F.binds fun _ _ _ _ _ _ us hl => match us, hl with | [_], _ => rfl) rfl fun cdv A outer s H E C => ⟨[], (ss_cons (ss_unp (se_partition ((se_var 0)).bb ((se_str (y := ⟨[58].toArray⟩) (by decide +kernel))).bb) (sg_tup C.calm (sgs_cons (sg_name 1 C.nd) (sgs_cons (sg_name 2 C.nd) (sgs_cons (sg_name 3 C.nd) sgs_nil)))))
    (ss_cons (ss_if (st_cmp (op_eqA C.u64) eqS ((se_var 2)).bb ((se_str (y := ⟨[].toArray⟩) (by decide +kernel))).bb (nomark _))
      (ss_one (ss_ret (se_tup (sa_cons (se_str (y := ⟨[103, 97, 112].toArray⟩) (by decide +kernel)) (sa_cons (se_var 1) sa_nil)))))
      ss_nil)
    (ss_cons (ss_if (st_cmp (op_notInA C.u65) notInS ((se_var 3)).bb ((se_g g_GAPS)).bb (by rfl))
      (ss_one ss_never)
      ss_nil)
    (ss_one (ss_ret (se_tup (sa_cons (se_var 3) (sa_cons (se_var 1) sa_nil))))))))⟩
theorem sc_undone_text : FnScope ["text", "found"] ["text"] (defScope (topS 29)) := ⟨rfl, rfl, rfl, by decide +kernel, rfl, by decide +kernel, by decide +kernel⟩
theorem ok_undone_text (c_undone : Cal P w K mg base 2 "undone" false 2 g_undone) (g_FREE : Glb K mg "FREE" k_FREE) (F : Fun K "undone_text" "undone_text" (topS 29) f fd) (hm : mg "undone_text" = some (.ref f)) : Cal P w K mg base 3 "undone_text" false 1 g_undone_text :=
  cal_of (k := 2) F sc_undone_text hm (F.binds fun _ _ _ _ _ _ us hl => match us, hl with | [_], _ => rfl) rfl fun cdv A outer s H E C => ⟨[], (ss_cons (ss_set 1 (se_call C c_undone (sa_cons (se_var 0) (sa_cons (se_g g_FREE) sa_nil))) C.nd)
    (ss_cons (ss_if (st_cmp op_isA isS ((se_var 1)).bb (se_non).bb (nomark _))
      (ss_one ss_never)
      ss_nil)
    (ss_one (ss_ret (se_var 1)))))⟩
theorem sc_read_piece : FnScope ["text", "head", "opened", "rest", "inner", "closed", "tail"] ["text"] (defScope (topS 30)) := ⟨rfl, rfl, rfl, by decide +kernel, rfl, by decide +kernel, by decide +kernel⟩
theorem ok_read_piece (c_undone_text : Cal P w K mg base 3 "undone_text" false 1 g_undone_text) (c_named_gap : Cal P w K mg base 1 "named_gap" false 1 g_named_gap) (F : Fun K "read_piece" "read_piece" (topS 30) f fd) (hm : mg "read_piece" = some (.ref f)) : Cal P w K mg base 4 "read_piece" false 1 g_read_piece :=
  cal_of (k := 3) F sc_read_piece hm (F.binds fun _ _ _ _ _ _ us hl => match us, hl with | [_], _ => rfl) rfl fun cdv A outer s H E C => ⟨[], (ss_cons (ss_unp (se_partition ((se_var 0)).bb ((se_str (y := ⟨[123].toArray⟩) (by decide +kernel))).bb) (sg_tup C.calm (sgs_cons (sg_name 1 C.nd) (sgs_cons (sg_name 2 C.nd) (sgs_cons (sg_name 3 C.nd) sgs_nil)))))
    (ss_cons (ss_if (st_cmp (op_eqA C.u64) eqS ((se_var 2)).bb ((se_str (y := ⟨[].toArray⟩) (by decide +kernel))).bb (nomark _))
      (ss_one (ss_ret (se_tup (sa_cons (se_str (y := ⟨[115, 116, 101, 112].toArray⟩) (by decide +kernel)) (sa_cons (se_call C c_undone_text (sa_cons (se_var 0) sa_nil)) sa_nil)))))
      ss_nil)
    (ss_cons (ss_unp (se_partition ((se_var 3)).bb ((se_str (y := ⟨[125].toArray⟩) (by decide +kernel))).bb) (sg_tup C.calm (sgs_cons (sg_name 4 C.nd) (sgs_cons (sg_name 5 C.nd) (sgs_cons (sg_name 6 C.nd) sgs_nil)))))
    (ss_cons (ss_if (st_cmp (op_eqA C.u64) eqS ((se_var 5)).bb ((se_str (y := ⟨[].toArray⟩) (by decide +kernel))).bb (nomark _))
      (ss_one ss_never)
      ss_nil)
    (ss_cons (ss_if (SW.t (sw_and (st_cmp (op_eqA C.u64) eqS ((se_var 1)).bb ((se_str (y := ⟨[].toArray⟩) (by decide +kernel))).bb (nomark _)) (sw_and1 (st_cmp (op_eqA C.u64) eqS ((se_var 6)).bb ((se_str (y := ⟨[].toArray⟩) (by decide +kernel))).bb (nomark _)))))
      (ss_one (ss_ret (se_call C c_named_gap (sa_cons (se_var 4) sa_nil))))
      ss_nil)
    (ss_one (ss_ret (se_tup (sa_cons (se_str (y := ⟨[112, 97, 114, 116].toArray⟩) (by decide +kernel)) (sa_cons (se_call C c_undone_text (sa_cons (se_var 1) sa_nil)) (sa_cons (se_var 4) (sa_cons (se_call C c_undone_text (sa_cons (se_var 6) sa_nil)) sa_nil))))))))))))⟩
theorem sc_read_pattern : FnScope ["text", "body", "ends", "pieces", "part"] ["text"] (defScope (topS 31)) := ⟨rfl, rfl, rfl, by decide +kernel, rfl, by decide +kernel, by decide +kernel⟩
theorem ok_read_pattern (c_read_piece : Cal P w K mg base 4 "read_piece" false 1 g_read_piece) (c_is_pattern : Cal P w K mg base 4 "is_pattern" false 1 g_is_pattern) (m_isinstance : mg "isinstance" = none) (m_str : mg "str" = none) (m_tuple : mg "tuple" = none) (F : Fun K "read_pattern" "read_pattern" (topS 31) f fd) (hm : mg "read_pattern" = some (.ref f)) : Cal P w K mg base 5 "read_pattern" false 1 g_read_pattern :=
  cal_of (k := 4) F sc_read_pattern hm (F.binds fun _ _ _ _ _ _ us hl => match us, hl with | [_], _ => rfl) rfl fun cdv A outer s H E C => ⟨[], (ss_cons (ss_if (SW.t (sw_or (st_not (st_val (se_isi (n := "str") ((se_var 0)).bb m_isinstance m_str))) (sw_or1 (st_cmp (op_neA C.u64) neS ((se_slice ((se_var 0)).bb so_none (so_some se_int))).bb ((se_str (y := ⟨[47].toArray⟩) (by decide +kernel))).bb (nomark _)))))
      (ss_one ss_never)
      ss_nil)
    (ss_cons (ss_set 1 (se_slice ((se_var 0)).bb (so_some se_int) so_none) C.nd)
    (ss_cons (ss_set 2 (se_or (se_cmp (op_eqA C.u64) eqS ((se_var 1)).bb ((se_str (y := ⟨[].toArray⟩) (by decide +kernel))).bb (nomark _)) (se_one (se_endswith ((se_var 1)).bb ((se_str (y := ⟨[47].toArray⟩) (by decide +kernel))).bb))) C.nd)
    (ss_cons (ss_set 3 (se_tup sa_nil) C.nd)
    (ss_cons (ss_if (st_val (se_endswith ((se_var 1)).bb ((se_str (y := ⟨[47].toArray⟩) (by decide +kernel))).bb))
      (ss_one (ss_set 1 (se_slice ((se_var 1)).bb so_none (so_some (se_neg se_int))) C.nd))
      ss_nil)
    (ss_cons (ss_if (st_cmp (op_neA C.u64) neS ((se_var 0)).bb ((se_str (y := ⟨[47].toArray⟩) (by decide +kernel))).bb (nomark _))
      (ss_one (ss_set 3 (se_bty call_tuple_of tupS m_tuple (sab_cons (((sm_lc [("part", 4)] C (si_seq (se_split ((se_var 1)).bb ((se_str (y := ⟨[47].toArray⟩) (by decide +kernel))).bb)) (fun _ _ _ _ _ C => (sg_name 4 C.nd)) (fun _ _ _ _ _ C => sifs_nil) (fun _ _ _ _ _ C => (se_call C c_read_piece (sa_cons (se_var 4) sa_nil)))).se).bb) sab_nil)) C.nd))
      ss_nil)
    (ss_cons (ss_if (st_not (st_val (se_call C c_is_pattern (sa_cons (se_tup (sa_cons (se_var 3) (sa_cons (se_var 2) sa_nil))) sa_nil))))
      (ss_one ss_never)
      ss_nil)
    (ss_one (ss_ret (se_tup (sa_cons (se_var 3) (sa_cons (se_var 2) sa_nil))))))))))))⟩
theorem sc_show_piece : FnScope ["piece"] ["piece"] (defScope (topS 32)) := ⟨rfl, rfl, rfl, by decide +kernel, rfl, by decide +kernel, by decide +kernel⟩
theorem ok_show_piece (c_written : Cal P w K mg base 2 "written" false 1 g_written) (F : Fun K "show_piece" "show_piece" (topS 32) f fd) (hm : mg "show_piece" = some (.ref f)) : Cal P w K mg base 3 "show_piece" false 1 g_show_piece :=
  cal_of (k := 2) F sc_show_piece hm (F.binds fun _ _ _ _ _ _ us hl => match us, hl with | [_], _ => rfl) rfl fun cdv A outer s H E C => ⟨[], (ss_cons (ss_if (st_cmp (op_eqA C.u64) eqS ((se_ix ix_seq ixS ((se_var 0)).bb (se_int).bb)).bb ((se_str (y := ⟨[115, 116, 101, 112].toArray⟩) (by decide +kernel))).bb (nomark _))
      (ss_one (ss_ret (se_call C c_written (sa_cons (se_ix ix_seq ixS ((se_var 0)).bb (se_int).bb) sa_nil))))
      ss_nil)
    (ss_cons (ss_if (st_cmp (op_eqA C.u64) eqS ((se_ix ix_seq ixS ((se_var 0)).bb (se_int).bb)).bb ((se_str (y := ⟨[112, 97, 114, 116].toArray⟩) (by decide +kernel))).bb (nomark _))
      (ss_one (ss_ret (se_op op_addA addS ((se_op op_addA addS ((se_op op_addA addS ((se_op op_addA addS ((se_call C c_written (sa_cons (se_ix ix_seq ixS ((se_var 0)).bb (se_int).bb) sa_nil))).bb ((se_str (y := ⟨[123].toArray⟩) (by decide +kernel))).bb)).bb ((se_ix ix_seq ixS ((se_var 0)).bb (se_int).bb)).bb)).bb ((se_str (y := ⟨[125].toArray⟩) (by decide +kernel))).bb)).bb ((se_call C c_written (sa_cons (se_ix ix_seq ixS ((se_var 0)).bb (se_int).bb) sa_nil))).bb)))
      ss_nil)
    (ss_cons (ss_if (st_cmp (op_eqA C.u64) eqS ((se_ix ix_seq ixS ((se_var 0)).bb (se_int).bb)).bb ((se_str (y := ⟨[103, 97, 112].toArray⟩) (by decide +kernel))).bb (nomark _))
      (ss_one (ss_ret (se_op op_addA addS ((se_op op_addA addS ((se_str (y := ⟨[123].toArray⟩) (by decide +kernel))).bb ((se_ix ix_seq ixS ((se_var 0)).bb (se_int).bb)).bb)).bb ((se_str (y := ⟨[125].toArray⟩) (by decide +kernel))).bb)))
      ss_nil)
    (ss_one (ss_ret (se_op op_addA addS ((se_op op_addA addS ((se_op op_addA addS ((se_op op_addA addS ((se_str (y := ⟨[123].toArray⟩) (by decide +kernel))).bb ((se_ix ix_seq ixS ((se_var 0)).bb (se_int).bb)).bb)).bb ((se_str (y := ⟨[58].toArray⟩) (by decide +kernel))).bb)).bb ((se_ix ix_seq ixS ((se_var 0)).bb (se_int).bb)).bb)).bb ((se_str (y := ⟨[125].toArray⟩) (by decide +kernel))).bb))))))⟩
theorem sc_show_pattern : FnScope ["pattern", "text", "piece"] ["pattern"] (defScope (topS 33)) := ⟨rfl, rfl, rfl, by decide +kernel, rfl, by decide +kernel, by decide +kernel⟩
theorem ok_show_pattern (c_show_piece : Cal P w K mg base 3 "show_piece" false 1 g_show_piece) (F : Fun K "show_pattern" "show_pattern" (topS 33) f fd) (hm : mg "show_pattern" = some (.ref f)) : Cal P w K mg base 4 "show_pattern" false 1 g_show_pattern :=
  cal_of (k := 3) F sc_show_pattern hm (F.binds fun _ _ _ _ _ _ us hl => match us, hl with | [_], _ => rfl) rfl fun cdv A outer s H E C => ⟨[], (ss_cons (ss_set 1 (se_op op_addA addS ((se_str (y := ⟨[47].toArray⟩) (by decide +kernel))).bb ((se_join ((se_str (y := ⟨[47].toArray⟩) (by decide +kernel))).bb ((sm_lc [("piece", 2)] C (si_seq (se_ix ix_seq ixS ((se_var 0)).bb (se_int).bb)) (fun _ _ _ _ _ C => (sg_name 2 C.nd)) (fun _ _ _ _ _ C => sifs_nil) (fun _ _ _ _ _ C => (se_call C c_show_piece (sa_cons (se_var 2) sa_nil)))).se).bb)).bb) C.nd)
    (ss_cons (ss_if (SW.t (sw_and (st_val (se_ix ix_seq ixS ((se_var 0)).bb (se_int).bb)) (sw_and1 (st_cmp (op_neA C.u64) neS ((se_var 1)).bb ((se_str (y := ⟨[47].toArray⟩) (by decide +kernel))).bb (nomark _)))))
      (ss_one (ss_aug 1 iop_catA addIS (se_str (y := ⟨[47].toArray⟩) (by decide +kernel)) C.nd))
      ss_nil)
    (ss_one (ss_ret (se_var 1)))))⟩
theorem sc__law_cell_at : FnScope ["_law_script", "_law_k"] ["_law_script", "_law_k"] (defScope (topS 35)) := ⟨rfl, rfl, rfl, by decide +kernel, rfl, by decide +kernel, by decide +kernel⟩
theorem ok__law_cell_at (m_len : mg "len" = none) (F : Fun K "_law_cell_at" "_law_cell_at" (topS 35) f fd) (hm : mg "_law_cell_at" = some (.ref f)) : Cal P w K mg base 1 "_law_cell_at" false 2 g__law_cell_at :=
  cal_of (k := 0) F sc__law_cell_at hm (F.binds fun _ _ _ _ _ _ us hl => match us, hl with | [_, _], _ => rfl) rfl fun cdv A outer s H E C => ⟨[], (ss_cons (ss_if (st_cmp op_lt cmpS ((se_var 1)).bb ((se_blt call_len lenS m_len (sab_cons (((se_var 0)).bb) sab_nil))).bb (nomark _))
      (ss_one (ss_ret (se_ix ix_seq ixS ((se_var 0)).bb ((se_var 1)).bb)))
      ss_nil)
    (ss_one (ss_ret se_int)))⟩
theorem sc__law_names : FnScope ["_law_cell", "_law_many", "_law_letters", "_law_size", "_law_at", "_law_names_here", "_law_k", "_law_name", "_law_j", "_law_step_here"] ["_law_cell", "_law_many"] (defScope (topS 36)) := ⟨rfl, rfl, rfl, by decide +kernel, rfl, by decide +kernel, by decide +kernel⟩
theorem ok__law_names (m_range : mg "range" = none) (F : Fun K "_law_names" "_law_names" (topS 36) f fd) (hm : mg "_law_names" = some (.ref f)) : Cal P w K mg base 1 "_law_names" false 2 g__law_names :=
  cal_of (k := 0) F sc__law_names hm (F.binds fun _ _ _ _ _ _ us hl => match us, hl with | [_, _], _ => rfl) rfl fun cdv A outer s H E C => ⟨[], (ss_cons (ss_set 2 (se_str (y := ⟨[97, 98, 99, 100, 101, 102, 103, 104, 105, 106, 107, 108, 109, 110, 111, 112, 113, 114, 115, 116, 117, 118, 119, 120, 121, 122].toArray⟩) (by decide +kernel)) C.nd)
    (ss_cons (ss_set 3 (se_op op_addA addS (se_int).bb ((se_op op_modN modS ((se_var 0)).bb (se_int).bb)).bb) C.nd)
    (ss_cons (ss_set 4 (se_op op_modN modS ((se_op op_fdivN fdivS ((se_var 0)).bb (se_int).bb)).bb ((se_var 3)).bb) C.nd)
    (ss_cons (ss_setM 5 (sm_lst sa_nil) C.nd)
    (ss_cons (ss_for C.hp C.calm (si_range1 (se_var 1) m_range) (sg_name 6 C.nd)
      (ss_cons (ss_set 7 (se_str (y := ⟨[].toArray⟩) (by decide +kernel)) C.nd)
    (ss_cons (ss_for C.hp C.calm (si_range1 (se_var 3) m_range) (sg_name 8 C.nd)
      (ss_cons (ss_set 9 (se_op op_addA addS ((se_op op_fdivN fdivS ((se_var 0)).bb ((se_op op_addA addS (se_int).bb ((se_op op_mulA mulS (se_int).bb ((se_var 8)).bb)).bb)).bb)).bb ((se_op op_mulA mulS ((se_op op_mulA mulS (se_int).bb ((se_var 8)).bb)).bb ((se_var 8)).bb)).bb) C.nd)
    (ss_cons (ss_if (st_cmp (op_eqA C.u64) eqS ((se_var 8)).bb ((se_var 4)).bb (nomark _))
      (ss_one (ss_set 9 (se_op op_addA addS ((se_var 9)).bb ((se_var 6)).bb) C.nd))
      ss_nil)
    (ss_one (ss_set 7 (se_op op_addA addS ((se_var 7)).bb ((se_ix ix_seq ixS ((se_var 2)).bb ((se_op op_modN modS ((se_var 9)).bb (se_int).bb)).bb)).bb) C.nd)))))
    (ss_cons (ss_if (SW.t (sw_and (st_cmp (op_eqA C.u64) eqS ((se_op op_modN modS ((se_op op_fdivN fdivS ((se_var 0)).bb (se_int).bb)).bb (se_int).bb)).bb (se_int).bb (nomark _)) (sw_and1 (st_cmp (op_eqA C.u64) eqS ((se_op op_modN modS ((se_var 6)).bb (se_int).bb)).bb (se_int).bb (nomark _)))))
      (ss_one (ss_set 7 (se_op op_addA addS ((se_var 7)).bb ((se_ix ix_seq ixS ((se_var 2)).bb ((se_op op_modN modS ((se_op op_fdivN fdivS ((se_var 0)).bb (se_int).bb)).bb (se_int).bb)).bb)).bb) C.nd))
      ss_nil)
    (ss_one (ss_app 5 (se_var 7)))))))
    (ss_one (SS.ahead (own' := []) (ss_ret (se_var 5)) rfl)))))))⟩
theorem sc__law_signs : FnScope ["_law_some"] [] (defScope (topS 37)) := ⟨rfl, rfl, rfl, by decide +kernel, rfl, by decide +kernel, by decide +kernel⟩
theorem ok__law_signs  (F : Fun K "_law_signs" "_law_signs" (topS 37) f fd) (hm : mg "_law_signs" = some (.ref f)) : Cal P w K mg base 1 "_law_signs" false 0 g__law_signs :=
  cal_of (k := 0) F sc__law_signs hm (F.binds fun _ _ _ _ _ _ us hl => match us, hl with | [], _ => rfl) rfl fun cdv A outer s H E C => ⟨[], (ss_cons (ss_set 0 (se_str (y := ⟨[32, 33, 34, 35, 36, 38, 39, 40, 41, 42, 43, 44, 45, 46, 47, 48, 49, 50, 51, 52, 53, 54, 55, 56, 57, 58, 59, 60, 61, 62, 63, 64, 65, 66, 67, 68, 69, 70, 71, 72, 73, 74, 75, 76, 77, 78, 79, 80, 81, 82, 83, 84, 85, 86, 87, 88, 89, 90].toArray⟩) (by decide +kernel)) C.nd)
    (ss_one (ss_ret (se_op op_addA addS ((se_var 0)).bb ((se_str (y := ⟨[91, 92, 93, 94, 95, 96, 97, 98, 99, 100, 101, 102, 103, 104, 105, 106, 107, 108, 109, 110, 111, 112, 113, 114, 115, 116, 117, 118, 119, 120, 121, 122, 123, 124, 125, 126].toArray⟩) (by decide +kernel))).bb))))⟩
theorem sc__law_text : FnScope ["_law_cell", "_law_pool", "_law_text_here", "_law_k"] ["_law_cell"] (defScope (topS 38)) := ⟨rfl, rfl, rfl, by decide +kernel, rfl, by decide +kernel, by decide +kernel⟩
theorem ok__law_text (c__law_signs : Cal P w K mg base 1 "_law_signs" false 0 g__law_signs) (m_len : mg "len" = none) (m_range : mg "range" = none) (F : Fun K "_law_text" "_law_text" (topS 38) f fd) (hm : mg "_law_text" = some (.ref f)) : Cal P w K mg base 2 "_law_text" false 1 g_p_law_text :=
  cal_of (k := 1) F sc__law_text hm (F.binds fun _ _ _ _ _ _ us hl => match us, hl with | [_], _ => rfl) rfl fun cdv A outer s H E C => ⟨[], (ss_cons (ss_set 1 (se_ix ix_seq ixS ((sm_lst (sa_cons (se_str (y := ⟨[97, 98].toArray⟩) (by decide +kernel)) (sa_cons (se_str (y := ⟨[97, 49].toArray⟩) (by decide +kernel)) (sa_cons (se_str (y := ⟨[48, 49, 50, 51, 52, 53, 54, 55, 56, 57].toArray⟩) (by decide +kernel)) (sa_cons (se_str (y := ⟨[97, 46].toArray⟩) (by decide +kernel)) (sa_cons (se_call0 C c__law_signs) (sa_cons (se_str (y := ⟨[46, 47, 123, 125, 126, 97, 98].toArray⟩) (by decide +kernel)) sa_nil))))))).se).bb ((se_op op_modN modS ((se_var 0)).bb (se_int).bb)).bb) C.nd)
    (ss_cons (ss_set 2 (se_str (y := ⟨[].toArray⟩) (by decide +kernel)) C.nd)
    (ss_cons (ss_for C.hp C.calm (si_range1 (se_op op_modN modS ((se_op op_fdivN fdivS ((se_var 0)).bb (se_int).bb)).bb (se_int).bb) m_range) (sg_name 3 C.nd)
      (ss_one (ss_set 2 (se_op op_addA addS ((se_var 2)).bb ((se_ix ix_seq ixS ((se_var 1)).bb ((se_op op_modN modS ((se_op op_fdivN fdivS ((se_var 0)).bb ((se_op op_addA addS (se_int).bb ((se_op op_mulA mulS ((se_op op_mulA mulS (se_int).bb ((se_var 3)).bb)).bb ((se_var 3)).bb)).bb)).bb)).bb ((se_blt call_len lenS m_len (sab_cons (((se_var 1)).bb) sab_nil))).bb)).bb)).bb) C.nd)))
    (ss_one (ss_ret (se_var 2))))))⟩
theorem sc__law_step : FnScope ["_law_cell", "_law_text_here"] ["_law_cell"] (defScope (topS 39)) := ⟨rfl, rfl, rfl, by decide +kernel, rfl, by decide +kernel, by decide +kernel⟩
theorem ok__law_step (c__law_text : Cal P w K mg base 2 "_law_text" false 1 g_p_law_text) (F : Fun K "_law_step" "_law_step" (topS 39) f fd) (hm : mg "_law_step" = some (.ref f)) : Cal P w K mg base 3 "_law_step" false 1 g_p_law_step :=
  cal_of (k := 2) F sc__law_step hm (F.binds fun _ _ _ _ _ _ us hl => match us, hl with | [_], _ => rfl) rfl fun cdv A outer s H E C => ⟨[], (ss_cons (ss_set 1 (se_call C c__law_text (sa_cons (se_var 0) sa_nil)) C.nd)
    (ss_cons (ss_if (st_cmp (op_inA C.u65) inS ((se_var 1)).bb ((se_tup (sa_cons (se_str (y := ⟨[].toArray⟩) (by decide +kernel)) (sa_cons (se_str (y := ⟨[46].toArray⟩) (by decide +kernel)) (sa_cons (se_str (y := ⟨[46, 46].toArray⟩) (by decide +kernel)) sa_nil))))).bb (by rfl))
      (ss_one (ss_set 1 (se_op op_addA addS ((se_var 1)).bb ((se_ix ix_seq ixS ((se_str (y := ⟨[97, 98, 49, 122].toArray⟩) (by decide +kernel))).bb ((se_op op_modN modS ((se_op op_fdivN fdivS ((se_var 0)).bb (se_int).bb)).bb (se_int).bb)).bb)).bb) C.nd))
      ss_nil)
    (ss_one (ss_ret (se_var 1)))))⟩
theorem sc__law_piece : FnScope ["_law_cell", "_law_name", "_law_head", "_law_tail"] ["_law_cell", "_law_name"] (defScope (topS 40)) := ⟨rfl, rfl, rfl, by decide +kernel, rfl, by decide +kernel, by decide +kernel⟩
theorem ok__law_piece (c__law_step : Cal P w K mg base 3 "_law_step" false 1 g_p_law_step) (c__law_text : Cal P w K mg base 2 "_law_text" false 1 g_p_law_text) (F : Fun K "_law_piece" "_law_piece" (topS 40) f fd) (hm : mg "_law_piece" = some (.ref f)) : Cal P w K mg base 4 "_law_piece" false 2 g__law_piece :=
  cal_of (k := 3) F sc__law_piece hm (F.binds fun _ _ _ _ _ _ us hl => match us, hl with | [_, _], _ => rfl) rfl fun cdv A outer s H E C => ⟨[], (ss_cons (ss_if (st_cmp op_lt cmpS ((se_op op_modN modS ((se_var 0)).bb (se_int).bb)).bb (se_int).bb (nomark _))
      (ss_one (ss_ret (se_tup (sa_cons (se_str (y := ⟨[115, 116, 101, 112].toArray⟩) (by decide +kernel)) (sa_cons (se_call C c__law_step (sa_cons (se_op op_fdivN fdivS ((se_var 0)).bb (se_int).bb) sa_nil)) sa_nil)))))
      ss_nil)
    (ss_cons (ss_if (st_cmp op_lt cmpS ((se_op op_modN modS ((se_var 0)).bb (se_int).bb)).bb (se_int).bb (nomark _))
      (ss_cons (ss_set 2 (se_call C c__law_text (sa_cons (se_op op_fdivN fdivS ((se_var 0)).bb (se_int).bb) sa_nil)) C.nd)
    (ss_cons (ss_set 3 (se_call C c__law_text (sa_cons (se_op op_fdivN fdivS ((se_var 0)).bb (se_int).bb) sa_nil)) C.nd)
    (ss_cons (ss_if (st_cmp (op_eqA C.u64) eqS ((se_op op_addA addS ((se_var 2)).bb ((se_var 3)).bb)).bb ((se_str (y := ⟨[].toArray⟩) (by decide +kernel))).bb (nomark _))
      (ss_one (ss_set 2 (se_ix ix_seq ixS ((se_str (y := ⟨[97, 98, 49, 46].toArray⟩) (by decide +kernel))).bb ((se_op op_modN modS ((se_op op_fdivN fdivS ((se_var 0)).bb (se_int).bb)).bb (se_int).bb)).bb) C.nd))
      ss_nil)
    (ss_one (ss_ret (se_tup (sa_cons (se_str (y := ⟨[112, 97, 114, 116].toArray⟩) (by decide +kernel)) (sa_cons (se_var 2) (sa_cons (se_var 1) (sa_cons (se_var 3) sa_nil))))))))))
      ss_nil)
    (ss_one (ss_ret (se_tup (sa_cons (se_ix ix_seq ixS ((sm_lst (sa_cons (se_str (y := ⟨[110, 117, 109, 98, 101, 114].toArray⟩) (by decide +kernel)) (sa_cons (se_str (y := ⟨[119, 111, 114, 100].toArray⟩) (by decide +kernel)) (sa_cons (se_str (y := ⟨[103, 97, 112].toArray⟩) (by decide +kernel)) (sa_cons (se_str (y := ⟨[103, 97, 112].toArray⟩) (by decide +kernel)) sa_nil))))).se).bb ((se_op op_sub subS ((se_op op_modN modS ((se_var 0)).bb (se_int).bb)).bb (se_int).bb)).bb) (sa_cons (se_var 1) sa_nil)))))))⟩
theorem sc__law_pattern : FnScope ["_law_cell", "_law_names_here", "_law_cells", "_law_pieces", "_law_one", "_law_name"] ["_law_cell", "_law_names_here", "_law_cells"] (defScope (topS 41)) := ⟨rfl, rfl, rfl, by decide +kernel, rfl, by decide +kernel, by decide +kernel⟩
theorem ok__law_pattern (c__law_piece : Cal P w K mg base 4 "_law_piece" false 2 g__law_piece) (m_zip : mg "zip" = none) (m_len : mg "len" = none) (m_tuple : mg "tuple" = none) (F : Fun K "_law_pattern" "_law_pattern" (topS 41) f fd) (hm : mg "_law_pattern" = some (.ref f)) : Cal P w K mg base 5 "_law_pattern" false 3 g__law_pattern :=
  cal_of (k := 4) F sc__law_pattern hm (F.binds fun _ _ _ _ _ _ us hl => match us, hl with | [_, _, _], _ => rfl) rfl fun cdv A outer s H E C => ⟨[], (ss_cons (ss_setLc 3 [("_law_one", 4), ("_law_name", 5)] C (si_zip (se_var 2) (se_var 1) m_zip) (fun _ _ _ _ _ C => (sg_tup C.calm (sgs_cons (sg_name 4 C.nd) (sgs_cons (sg_name 5 C.nd) sgs_nil)))) (fun _ _ _ _ _ C => sifs_nil) (fun _ _ _ _ _ C => (se_call C c__law_piece (sa_cons (se_var 4) (sa_cons (se_var 5) sa_nil)))))
    (ss_cons (ss_if (SW.t (sw_and (st_cmp (op_eqA C.u64) eqS ((se_op op_modN modS ((se_var 0)).bb (se_int).bb)).bb (se_int).bb (nomark _)) (sw_and1 (st_cmp (op_neA C.u64) neS (sb_own 3) ((sm_lst sa_nil).se).bb (nomark _)))))
      (ss_one (ss_itm 3 (se_tup (sa_cons (se_str (y := ⟨[114, 101, 115, 116].toArray⟩) (by decide +kernel)) (sa_cons (se_ix ix_seq ixS ((se_var 1)).bb ((se_op op_sub subS ((se_blt call_len lenS m_len (sab_cons (sb_own 3) sab_nil))).bb (se_int).bb)).bb) sa_nil))) (se_neg se_int)))
      ss_nil)
    (ss_one (ss_ret (se_tup (sa_cons (se_bty call_tuple_of tupS m_tuple (sab_cons (sb_own 3) sab_nil)) (sa_cons (se_or (se_cmp (op_eqA C.u64) eqS (sb_own 3) ((sm_lst sa_nil).se).bb (nomark _)) (se_one (se_cmp (op_eqA C.u64) eqS ((se_op op_modN modS ((se_op op_fdivN fdivS ((se_var 0)).bb (se_int).bb)).bb (se_int).bb)).bb (se_int).bb (nomark _)))) sa_nil)))))))⟩
theorem sc__law_pair : FnScope ["_law_sign", "_law_great", "_law_figures"] ["_law_sign", "_law_great"] (defScope (topS 42)) := ⟨rfl, rfl, rfl, by decide +kernel, rfl, by decide +kernel, by decide +kernel⟩
theorem ok__law_pair (m_ord : mg "ord" = none) (F : Fun K "_law_pair" "_law_pair" (topS 42) f fd) (hm : mg "_law_pair" = some (.ref f)) : Cal P w K mg base 1 "_law_pair" false 2 g_u_law_pair :=
  cal_of (k := 0) F sc__law_pair hm (F.binds fun _ _ _ _ _ _ us hl => match us, hl with | [_, _], _ => rfl) rfl fun cdv A outer s H E C => ⟨[], (ss_cons (ss_set 2 (se_str (y := ⟨[48, 49, 50, 51, 52, 53, 54, 55, 56, 57, 97, 98, 99, 100, 101, 102].toArray⟩) (by decide +kernel)) C.nd)
    (ss_cons (ss_if (st_val (se_var 1))
      (ss_one (ss_set 2 (se_str (y := ⟨[48, 49, 50, 51, 52, 53, 54, 55, 56, 57, 65, 66, 67, 68, 69, 70].toArray⟩) (by decide +kernel)) C.nd))
      ss_nil)
    (ss_one (ss_ret (se_op op_addA addS ((se_op op_addA addS ((se_str (y := ⟨[126].toArray⟩) (by decide +kernel))).bb ((se_ix ix_seq ixS ((se_var 2)).bb ((se_op op_fdivN fdivS ((se_blt call_ord ordS m_ord (sab_cons (((se_var 0)).bb) sab_nil))).bb (se_int).bb)).bb)).bb)).bb ((se_ix ix_seq ixS ((se_var 2)).bb ((se_op op_modN modS ((se_blt call_ord ordS m_ord (sab_cons (((se_var 0)).bb) sab_nil))).bb (se_int).bb)).bb)).bb)))))⟩
theorem sc__law_written : FnScope ["_law_text_here", "_law_cells", "_law_bare", "_law_found", "_law_k", "_law_sign", "_law_cell"] ["_law_text_here", "_law_cells"] (defScope (topS 43)) := ⟨rfl, rfl, rfl, by decide +kernel, rfl, by decide +kernel, by decide +kernel⟩
theorem ok__law_written (c__law_pair : Cal P w K mg base 1 "_law_pair" false 2 g_u_law_pair) (m_len : mg "len" = none) (m_enumerate : mg "enumerate" = none) (F : Fun K "_law_written" "_law_written" (topS 43) f fd) (hm : mg "_law_written" = some (.ref f)) : Cal P w K mg base 2 "_law_written" false 2 g_u_law_written :=
  cal_of (k := 1) F sc__law_written hm (F.binds fun _ _ _ _ _ _ us hl => match us, hl with | [_, _], _ => rfl) rfl fun cdv A outer s H E C => ⟨[], (ss_cons (ss_set 2 (se_str (y := ⟨[97, 98, 99, 100, 101, 102, 103, 104, 105, 106, 107, 108, 109, 110, 111, 112, 113, 114, 115, 116, 117, 118, 119, 120, 121, 122, 65, 66, 67, 68, 69, 70, 71, 72, 73, 74, 75, 76, 77, 78, 79, 80, 81, 82, 83, 84, 85, 86, 87, 88, 89, 90, 48, 49, 50, 51, 52, 53, 54, 55, 56, 57, 45, 95, 46].toArray⟩) (by decide +kernel)) C.nd)
    (ss_cons (ss_set 3 (se_str (y := ⟨[].toArray⟩) (by decide +kernel)) C.nd)
    (ss_cons (ss_for C.hp C.calm (si_enT (se_var 0) m_enumerate) (sg_tup C.calm (sgs_cons (sg_name 4 C.nd) (sgs_cons (sg_name 5 C.nd) sgs_nil)))
      (ss_cons (ss_set 6 se_int C.nd)
    (ss_cons (ss_if (st_cmp (op_neA C.u64) neS ((se_var 1)).bb ((sm_lst sa_nil).se).bb (nomark _))
      (ss_one (ss_set 6 (se_op op_fdivN fdivS ((se_ix ix_seq ixS ((se_var 1)).bb ((se_op op_modN modS ((se_var 4)).bb ((se_blt call_len lenS m_len (sab_cons (((se_var 1)).bb) sab_nil))).bb)).bb)).bb ((se_op op_addA addS ((se_var 4)).bb (se_int).bb)).bb) C.nd))
      ss_nil)
    (ss_one (ss_if (SW.t (sw_or (SW.t (sw_and (st_cmp (op_inA C.u65) inS ((se_var 5)).bb ((se_var 2)).bb (by rfl)) (sw_and1 (st_cmp op_lt cmpS ((se_op op_modN modS ((se_var 6)).bb (se_int).bb)).bb (se_int).bb (nomark _))))) (sw_or1 (SW.t (sw_and (st_cmp (op_inA C.u65) inS ((se_var 5)).bb ((se_str (y := ⟨[33, 36, 39, 40, 41, 42, 44, 59, 64, 38, 61, 43].toArray⟩) (by decide +kernel))).bb (by rfl)) (sw_and1 (st_cmp (op_eqA C.u64) eqS ((se_op op_modN modS ((se_var 6)).bb (se_int).bb)).bb (se_int).bb (nomark _))))))))
      (ss_one (ss_set 3 (se_op op_addA addS ((se_var 3)).bb ((se_var 5)).bb) C.nd))
      (ss_one (ss_set 3 (se_op op_addA addS ((se_var 3)).bb ((se_call C c__law_pair (sa_cons (se_var 5) (sa_cons (se_cmp (op_eqA C.u64) eqS ((se_op op_modN modS ((se_op op_fdivN fdivS ((se_var 6)).bb (se_int).bb)).bb (se_int).bb)).bb (se_int).bb (nomark _)) sa_nil)))).bb) C.nd)))))))
    (ss_one (ss_ret (se_var 3))))))⟩
theorem sc__law_piece_text : FnScope ["_law_piece_here", "_law_cells"] ["_law_piece_here", "_law_cells"] (defScope (topS 44)) := ⟨rfl, rfl, rfl, by decide +kernel, rfl, by decide +kernel, by decide +kernel⟩
theorem ok__law_piece_text (c__law_written : Cal P w K mg base 2 "_law_written" false 2 g_u_law_written) (F : Fun K "_law_piece_text" "_law_piece_text" (topS 44) f fd) (hm : mg "_law_piece_text" = some (.ref f)) : Cal P w K mg base 3 "_law_piece_text" false 2 g__law_piece_text :=
  cal_of (k := 2) F sc__law_piece_text hm (F.binds fun _ _ _ _ _ _ us hl => match us, hl with | [_, _], _ => rfl) rfl fun cdv A outer s H E C => ⟨[], (ss_cons (ss_if (st_cmp (op_eqA C.u64) eqS ((se_ix ix_seq ixS ((se_var 0)).bb (se_int).bb)).bb ((se_str (y := ⟨[115, 116, 101, 112].toArray⟩) (by decide +kernel))).bb (nomark _))
      (ss_one (ss_ret (se_call C c__law_written (sa_cons (se_ix ix_seq ixS ((se_var 0)).bb (se_int).bb) (sa_cons (se_var 1) sa_nil)))))
      ss_nil)
    (ss_cons (ss_if (st_cmp (op_eqA C.u64) eqS ((se_ix ix_seq ixS ((se_var 0)).bb (se_int).bb)).bb ((se_str (y := ⟨[112, 97, 114, 116].toArray⟩) (by decide +kernel))).bb (nomark _))
      (ss_one (ss_ret (se_op op_addA addS ((se_op op_addA addS ((se_op op_addA addS ((se_op op_addA addS ((se_call C c__law_written (sa_cons (se_ix ix_seq ixS ((se_var 0)).bb (se_int).bb) (sa_cons (se_var 1) sa_nil)))).bb ((se_str (y := ⟨[123].toArray⟩) (by decide +kernel))).bb)).bb ((se_ix ix_seq ixS ((se_var 0)).bb (se_int).bb)).bb)).bb ((se_str (y := ⟨[125].toArray⟩) (by decide +kernel))).bb)).bb ((se_call C c__law_written (sa_cons (se_ix ix_seq ixS ((se_var 0)).bb (se_int).bb) (sa_cons (se_var 1) sa_nil)))).bb)))
      ss_nil)
    (ss_cons (ss_if (st_cmp (op_eqA C.u64) eqS ((se_ix ix_seq ixS ((se_var 0)).bb (se_int).bb)).bb ((se_str (y := ⟨[103, 97, 112].toArray⟩) (by decide +kernel))).bb (nomark _))
      (ss_one (ss_ret (se_op op_addA addS ((se_op op_addA addS ((se_str (y := ⟨[123].toArray⟩) (by decide +kernel))).bb ((se_ix ix_seq ixS ((se_var 0)).bb (se_int).bb)).bb)).bb ((se_str (y := ⟨[125].toArray⟩) (by decide +kernel))).bb)))
      ss_nil)
    (ss_one (ss_ret (se_op op_addA addS ((se_op op_addA addS ((se_op op_addA addS ((se_op op_addA addS ((se_str (y := ⟨[123].toArray⟩) (by decide +kernel))).bb ((se_ix ix_seq ixS ((se_var 0)).bb (se_int).bb)).bb)).bb ((se_str (y := ⟨[58].toArray⟩) (by decide +kernel))).bb)).bb ((se_ix ix_seq ixS ((se_var 0)).bb (se_int).bb)).bb)).bb ((se_str (y := ⟨[125].toArray⟩) (by decide +kernel))).bb))))))⟩
theorem sc__law_pattern_text : FnScope ["_law_pattern_here", "_law_cells", "_law_text_here", "_law_piece_here"] ["_law_pattern_here", "_law_cells"] (defScope (topS 45)) := ⟨rfl, rfl, rfl, by decide +kernel, rfl, by decide +kernel, by decide +kernel⟩
theorem ok__law_pattern_text (c__law_piece_text : Cal P w K mg base 3 "_law_piece_text" false 2 g__law_piece_text) (F : Fun K "_law_pattern_text" "_law_pattern_text" (topS 45) f fd) (hm : mg "_law_pattern_text" = some (.ref f)) : Cal P w K mg base 4 "_law_pattern_text" false 2 g__law_pattern_text :=
  cal_of (k := 3) F sc__law_pattern_text hm (F.binds fun _ _ _ _ _ _ us hl => match us, hl with | [_, _], _ => rfl) rfl fun cdv A outer s H E C => ⟨[], (ss_cons (ss_set 2 (se_op op_addA addS ((se_str (y := ⟨[47].toArray⟩) (by decide +kernel))).bb ((se_join ((se_str (y := ⟨[47].toArray⟩) (by decide +kernel))).bb ((sm_lc [("_law_piece_here", 3)] C (si_seq (se_ix ix_seq ixS ((se_var 0)).bb (se_int).bb)) (fun _ _ _ _ _ C => (sg_name 3 C.nd)) (fun _ _ _ _ _ C => sifs_nil) (fun _ _ _ _ _ C => (se_call C c__law_piece_text (sa_cons (se_var 3) (sa_cons (se_var 1) sa_nil))))).se).bb)).bb) C.nd)
    (ss_cons (ss_if (SW.t (sw_and (st_val (se_ix ix_seq ixS ((se_var 0)).bb (se_int).bb)) (sw_and1 (st_cmp (op_neA C.u64) neS ((se_ix ix_seq ixS ((se_var 0)).bb (se_int).bb)).bb ((se_tup sa_nil)).bb (nomark _)))))
      (ss_one (ss_set 2 (se_op op_addA addS ((se_var 2)).bb ((se_str (y := ⟨[47].toArray⟩) (by decide +kernel))).bb) C.nd))
      ss_nil)
    (ss_one (ss_ret (se_var 2)))))⟩
theorem sc__law_same : FnScope ["_law_found", "_law_due", "_law_one", "_law_other"] ["_law_found", "_law_due"] (defScope (topS 46)) := ⟨rfl, rfl, rfl, by decide +kernel, rfl, by decide +kernel, by decide +kernel⟩
theorem ok0__law_same {k : Nat} (F : Fun K "_law_same" "_law_same" (topS 46) f fd) (hm : mg "_law_same" = some (.ref f)) : Cal P w K mg base (k + 1) "_law_same" false 2 (fun _ => .bad) :=
  cal_none F sc__law_same hm (F.binds fun _ _ _ _ _ _ us hl => match us, hl with | [_, _], _ => rfl) rfl
theorem ok__law_same {k : Nat} {rr : List D → Rs D} (m_isinstance : mg "isinstance" = none) (m_tuple : mg "tuple" = none) (m_len : mg "len" = none) (m_all : mg "all" = none) (m_zip : mg "zip" = none) (m_bool : mg "bool" = none) (m_str : mg "str" = none) (c_self : Cal P w K mg base k "_law_same" false 2 rr) (hk : 1 ≤ k) (F : Fun K "_law_same" "_law_same" (topS 46) f fd) (hm : mg "_law_same" = some (.ref f)) : Cal P w K mg base (k + 1) "_law_same" false 2 (runF 4 (f__law_same rr)) :=
  cal_of (k := k) F sc__law_same hm (F.binds fun _ _ _ _ _ _ us hl => match us, hl with | [_, _], _ => rfl) rfl fun cdv A outer s H E C => ⟨[], (ss_cons (ss_if (st_val (se_isi (n := "tuple") ((se_var 1)).bb m_isinstance m_tuple))
      (ss_cons (ss_if (SW.t (sw_or (st_not (st_val (se_isi (n := "tuple") ((se_var 0)).bb m_isinstance m_tuple))) (sw_or1 (st_cmp (op_neA C.u64) neS ((se_blt call_len lenS m_len (sab_cons (((se_var 0)).bb) sab_nil))).bb ((se_blt call_len lenS m_len (sab_cons (((se_var 1)).bb) sab_nil))).bb (nomark _)))))
      (ss_one (ss_ret se_bl))
      ss_nil)
    (ss_one (ss_ret (se_blt (cr_all C.calm) allS m_all (sab_cons (((sm_lc [("_law_one", 2), ("_law_other", 3)] C (si_zip (se_var 0) (se_var 1) m_zip) (fun _ _ _ _ _ C => (sg_tup C.calm (sgs_cons (sg_name 2 C.nd) (sgs_cons (sg_name 3 C.nd) sgs_nil)))) (fun _ _ _ _ _ C => sifs_nil) (fun _ _ _ _ _ C => (se_call C c_self (sa_cons (se_var 2) (sa_cons (se_var 3) sa_nil)) (hj := Nat.le_refl _)))).se).bb) sab_nil)))))
      ss_nil)
    (ss_cons (ss_if (st_val (se_isi (n := "bool") ((se_var 1)).bb m_isinstance m_bool))
      (ss_one (ss_ret (se_and (se_isi (n := "bool") ((se_var 0)).bb m_isinstance m_bool) (se_one (se_cmp (op_eqA C.u64) eqS ((se_var 0)).bb ((se_var 1)).bb (nomark _))))))
      ss_nil)
    (ss_one (ss_ret (se_and (se_isi (n := "str") ((se_var 0)).bb m_isinstance m_str) (se_one (se_cmp (op_eqA C.u64) eqS ((se_var 0)).bb ((se_var 1)).bb (nomark _))))))))⟩
theorem sc_law : FnScope ["_law_script", "_law_names_here", "_law_pattern_here", "_law_text_here", "_law_other", "_law_found"] ["_law_script"] (defScope (topS 47)) := ⟨rfl, rfl, rfl, by decide +kernel, rfl, by decide +kernel, by decide +kernel⟩
theorem ok_law (c__law_names : Cal P w K mg base 1 "_law_names" false 2 g__law_names) (c__law_cell_at : Cal P w K mg base 1 "_law_cell_at" false 2 g__law_cell_at) (c__law_pattern : Cal P w K mg base 5 "_law_pattern" false 3 g__law_pattern) (c_show_pattern : Cal P w K mg base 4 "show_pattern" false 1 g_show_pattern) (c__law_pattern_text : Cal P w K mg base 4 "_law_pattern_text" false 2 g__law_pattern_text) (c__law_same : Cal P w K mg base 7 "_law_same" false 2 g__law_same) (c_read_pattern : Cal P w K mg base 5 "read_pattern" false 1 g_read_pattern) (m_isinstance : mg "isinstance" = none) (m_str : mg "str" = none) (F : Fun K "law" "law" (topS 47) f fd) : FnOk P w K mg base (L2.CX P w) 8 f fd ["_law_script"] (spF K mg false 1 g_law) :=
  fnok_of (k := 7) F sc_law rfl fun cdv A outer s H E C => ⟨[], (ss_cons (ss_set 1 (se_call C c__law_names (sa_cons (se_call C c__law_cell_at (sa_cons (se_var 0) (sa_cons (se_int) sa_nil))) (sa_cons (se_int) sa_nil))) C.nd)
    (ss_cons (ss_set 2 (se_call C c__law_pattern (sa_cons (se_call C c__law_cell_at (sa_cons (se_var 0) (sa_cons (se_int) sa_nil))) (sa_cons (se_var 1) (sa_cons (se_slice ((se_var 0)).bb (so_some se_int) (so_some se_int)) sa_nil)))) C.nd)
    (ss_cons (ss_set 3 (se_call C c_show_pattern (sa_cons (se_var 2) sa_nil)) C.nd)
    (ss_cons (ss_if (SW.t (sw_or (st_not (st_val (se_isi (n := "str") ((se_var 3)).bb m_isinstance m_str))) (sw_or1 (st_cmp (op_neA C.u64) neS ((se_var 3)).bb ((se_call C c__law_pattern_text (sa_cons (se_var 2) (sa_cons (((sm_lst sa_nil)).se) sa_nil)))).bb (nomark _)))))
      (ss_one (ss_ret se_bl))
      ss_nil)
    (ss_cons (ss_if (st_not (st_val (se_call C c__law_same (sa_cons (se_call C c_read_pattern (sa_cons (se_var 3) sa_nil)) (sa_cons (se_var 2) sa_nil)))))
      (ss_one (ss_ret se_bl))
      ss_nil)
    (ss_cons (ss_set 4 (se_call C c__law_pattern_text (sa_cons (se_var 2) (sa_cons (se_slice ((se_var 0)).bb (so_some se_int) so_none) sa_nil))) C.nd)
    (ss_cons (ss_set 5 (se_call C c_read_pattern (sa_cons (se_var 4) sa_nil)) C.nd)
    (ss_one (ss_ret (se_and (se_call C c__law_same (sa_cons (se_var 5) (sa_cons (se_var 2) sa_nil))) (se_one (se_cmp (op_eqA C.u64) eqS ((se_call C c_show_pattern (sa_cons (se_var 5) sa_nil))).bb ((se_var 3)).bb (nomark _)))))))))))))⟩
end
end K51

set_option Elab.async false
set_option linter.all false
set_option maxRecDepth 100000
set_option maxHeartbeats 4000000
namespace K51
open PySem PySem.Spec PyProof.Rows L2 Wm Wp
theorem sm_str (n : Nat) (l : Tx) : gN__law_same (n + 1) [tx l, tx l] = .ok (.bool true) := by
  have i1 : isiD "tuple" (tx l) = .ok (.bool false) := rfl
  have i2 : isiD "bool" (tx l) = .ok (.bool false) := rfl
  have i3 : isiD "str" (tx l) = .ok (.bool true) := rfl
  show runF 4 (f__law_same (gN__law_same n)) _ = _
  unfold f__law_same
  rw [runF_eq]
  simp [i1, i2, i3]
theorem sm_bool (n : Nat) (b : Bool) : gN__law_same (n + 1) [.bool b, .bool b] = .ok (.bool true) := by
  have i1 : isiD "tuple" (.bool b) = .ok (.bool false) := rfl
  have i2 : isiD "bool" (.bool b) = .ok (.bool true) := rfl
  show runF 4 (f__law_same (gN__law_same n)) _ = _
  unfold f__law_same
  rw [runF_eq]
  simp [i1, i2]
theorem zip_self : ∀ ds : List D, zipD ds ds = ds.map fun d => .tuple [d, d]
  | [] => rfl
  | d :: ds => by rw [zipD_cons, zip_self ds]; rfl
theorem sm_tup (n : Nat) (ds : List D) (hl : ds.length ≤ 16777216) (h : ∀ d ∈ ds, gN__law_same (n + 1) [d, d] = .ok (.bool true)) : gN__law_same (n + 2) [.tuple ds, .tuple ds] = .ok (.bool true) := by
  have elc : lcL (gTp 2 (gsCons (gNm 2) (gsCons (gNm 3) gsNil))) cYes (eCall 2 (gN__law_same (n + 1)) (aCons (eVar 2) (aCons (eVar 3) aNil))) [some (.tuple ds), some (.tuple ds), none, none] (zipD ds ds) = .ok (ds.map fun _ => .bool true) := by
    rw [zip_self]
    apply lcL_map
    intro d hd
    refine ⟨[some (.tuple ds), some (.tuple ds), some d, some d], by simp, rfl, ?_⟩
    simp [h d hd]
  have ea := allD_map (fun _ : D => true) ds
  have zl : (zipD ds ds).length ≤ 16777216 := by rw [zip_self]; simpa using hl
  have ea' : ds.all (fun _ => true) = true := by simp
  rw [ea'] at ea
  have i1 : isiD "tuple" (.tuple ds) = .ok (.bool true) := rfl
  show runF 4 (f__law_same (gN__law_same (n + 1))) _ = _
  unfold f__law_same
  rw [runF_eq]
  generalize ds.map (fun _ => PyData.bool true) = y at *
  simp [elc, ea, zl, i1]
theorem same_ok (p : Pat) (hl : p.ps.length ≤ 100) : g__law_same [p.d, p.d] = .ok (.bool true) := by
  show gN__law_same 6 _ = _
  unfold Pat.d
  refine sm_tup 4 _ (by simp) fun d hd => ?_
  simp only [List.mem_cons, List.not_mem_nil, or_false] at hd
  rcases hd with rfl | rfl
  · unfold pcs
    refine sm_tup 3 _ (by simp; omega) fun d hd => ?_
    obtain ⟨q, _, rfl⟩ := List.mem_map.mp hd
    have key : ∀ ls : List Tx, ls.length ≤ 10 → gN__law_same 4 [.tuple (ls.map tx), .tuple (ls.map tx)] = .ok (.bool true) := fun ls hls => sm_tup 2 _ (by simp; omega) fun d hd => by
      obtain ⟨x, _, rfl⟩ := List.mem_map.mp hd
      exact sm_str 2 x
    cases q with
    | step t => exact key [kStep, t] (by simp)
    | part a n t => exact key [kPart, a, n, t] (by simp)
    | num n => exact key [kNum, n] (by simp)
    | word n => exact key [kWord, n] (by simp)
    | gap n => exact key [kGap, n] (by simp)
    | rest n => exact key [kRest, n] (by simp)
  · exact sm_bool 4 p.e
theorem hlaw (ns : List Int) (hn : ns.length ≤ 63) : g_law [.list (ns.map PyData.int)] = .ok (.bool true) := by
  have h0 : g__law_cell_at [.list (ns.map PyData.int), .int 0] = .ok (.int (cell ns 0)) := cell_ok ns 0
  have h1 : g__law_cell_at [.list (ns.map PyData.int), .int 1] = .ok (.int (cell ns 1)) := cell_ok ns 1
  have h3 : g__law_names [.int (cell ns 0), .int 12] = .ok (.list ((nms (cell ns 0) 12).map tx)) := nms_ok (cell ns 0) 12 (by omega)
  have ok : ∀ n ∈ nms (cell ns 0) 12, okNm n := nms_g (cell ns 0) 12
  have nd := nms_nodup (cell ns 0) 12 (by omega)
  have ln := nms_len (cell ns 0) 12
  generalize nms (cell ns 0) 12 = N at h3 ok nd ln
  obtain ⟨p, h4, gp⟩ := pattern_ok (cell ns 1) N ((ns.take 15).drop 3) (by omega) (by simp; omega) (fun n hn => (ok n hn).t)
  have G := gp.patG ok (by omega) nd
  have s1 := G.show
  have lc : (ns.drop 2).length ≤ 1000 := by simp; omega
  have t1 : g__law_pattern_text [p.d, .list []] = .ok (tx (patT wr p)) := by
    have := G.text [] (by simp)
    rw [patT_uwr] at this
    exact this
  have t2 := G.text (ns.drop 2) lc
  have r1 := G.read wrU len_wr
  have r2 := G.read (uwrU (ns.drop 2)) (fun t => uwr_len _ t 0)
  have sm := same_ok p (by have := G.l; omega)
  have e3 : cutL (List.map PyData.int ns) (some 3) (some 15) = ((ns.take 15).drop 3).map PyData.int := by simp
  have e4 : cutL (List.map PyData.int ns) (some 2) none = (ns.drop 2).map PyData.int := by simp
  have is : isiD "str" (tx (patT wr p)) = .ok (.bool true) := rfl
  generalize ((ns.take 15).drop 3).map PyData.int = cs at h4 e3
  generalize (ns.drop 2).map PyData.int = cs' at t2 e4
  generalize patT wr p = u at *
  generalize patT (uwr (ns.drop 2) 0) p = v at *
  generalize p.d = pd at *
  unfold g_law f_law t_law_6 t_law_5 t_law_4 t_law_3 t_law_2 t_law_1
  rw [runF_eq]
  simp (disch := omega) [-cutL_lits, e3, e4, if_pos, h0, h1, h3, h4, s1, is, t1, t2, r1, r2, sm]
end K51

set_option Elab.async false
set_option linter.all false
set_option maxRecDepth 100000
set_option maxHeartbeats 4000000
namespace K51
open PySem PySem.Spec PyProof.Rows L2 Wm Wp
theorem all_mk {l : PySem.W.OpenLaw} {w : World} {K : PySem.W.Frag} {h : Heap} {mg : Str → Option Value} {fa : Addr} (X : K.In h) (G : h.Ns mainGlobals mg) (hfa : mg "law" = some (.ref fa))
    {f0 : Addr} {od0 an0 : Option Addr} {sl0 : Array (Option Value)} {oc0 kV0 dc0 pm0 cd0 ct0 : Value}
    {f1 : Addr} {od1 an1 : Option Addr} {sl1 : Array (Option Value)} {oc1 kV1 dc1 pm1 cd1 ct1 : Value}
    {f2 : Addr} {od2 an2 : Option Addr} {sl2 : Array (Option Value)} {oc2 kV2 dc2 pm2 cd2 ct2 : Value}
    {f3 : Addr} {od3 an3 : Option Addr} {sl3 : Array (Option Value)} {oc3 kV3 dc3 pm3 cd3 ct3 : Value}
    {T3 : Addr} {dT3 : Option Addr} {nT3 : Nat} {sT3 : Array (Option Value)} {tT3_0 : Tok}
    {f4 : Addr} {od4 an4 : Option Addr} {sl4 : Array (Option Value)} {oc4 kV4 dc4 pm4 cd4 ct4 : Value}
    {f5 : Addr} {od5 an5 : Option Addr} {sl5 : Array (Option Value)} {oc5 kV5 dc5 pm5 cd5 ct5 : Value}
    {f6 : Addr} {od6 an6 : Option Addr} {sl6 : Array (Option Value)} {oc6 kV6 dc6 pm6 cd6 ct6 : Value}
    {f7 : Addr} {od7 an7 : Option Addr} {sl7 : Array (Option Value)} {oc7 kV7 dc7 pm7 cd7 ct7 : Value}
    {f8 : Addr} {od8 an8 : Option Addr} {sl8 : Array (Option Value)} {oc8 kV8 dc8 pm8 cd8 ct8 : Value}
    {f9 : Addr} {od9 an9 : Option Addr} {sl9 : Array (Option Value)} {oc9 kV9 dc9 pm9 cd9 ct9 : Value}
    {f10 : Addr} {od10 an10 : Option Addr} {sl10 : Array (Option Value)} {oc10 kV10 dc10 pm10 cd10 ct10 : Value}
    {f11 : Addr} {od11 an11 : Option Addr} {sl11 : Array (Option Value)} {oc11 kV11 dc11 pm11 cd11 ct11 : Value}
    {f12 : Addr} {od12 an12 : Option Addr} {sl12 : Array (Option Value)} {oc12 kV12 dc12 pm12 cd12 ct12 : Value}
    {f13 : Addr} {od13 an13 : Option Addr} {sl13 : Array (Option Value)} {oc13 kV13 dc13 pm13 cd13 ct13 : Value}
    {f14 : Addr} {od14 an14 : Option Addr} {sl14 : Array (Option Value)} {oc14 kV14 dc14 pm14 cd14 ct14 : Value}
    {f15 : Addr} {od15 an15 : Option Addr} {sl15 : Array (Option Value)} {oc15 kV15 dc15 pm15 cd15 ct15 : Value}
    {f16 : Addr} {od16 an16 : Option Addr} {sl16 : Array (Option Value)} {oc16 kV16 dc16 pm16 cd16 ct16 : Value}
    {f17 : Addr} {od17 an17 : Option Addr} {sl17 : Array (Option Value)} {oc17 kV17 dc17 pm17 cd17 ct17 : Value}
    {f18 : Addr} {od18 an18 : Option Addr} {sl18 : Array (Option Value)} {oc18 kV18 dc18 pm18 cd18 ct18 : Value}
    {f19 : Addr} {od19 an19 : Option Addr} {sl19 : Array (Option Value)} {oc19 kV19 dc19 pm19 cd19 ct19 : Value}
    {f20 : Addr} {od20 an20 : Option Addr} {sl20 : Array (Option Value)} {oc20 kV20 dc20 pm20 cd20 ct20 : Value}
    {f21 : Addr} {od21 an21 : Option Addr} {sl21 : Array (Option Value)} {oc21 kV21 dc21 pm21 cd21 ct21 : Value}
    {f22 : Addr} {od22 an22 : Option Addr} {sl22 : Array (Option Value)} {oc22 kV22 dc22 pm22 cd22 ct22 : Value}
    {f23 : Addr} {od23 an23 : Option Addr} {sl23 : Array (Option Value)} {oc23 kV23 dc23 pm23 cd23 ct23 : Value}
    {f24 : Addr} {od24 an24 : Option Addr} {sl24 : Array (Option Value)} {oc24 kV24 dc24 pm24 cd24 ct24 : Value}
    {f25 : Addr} {od25 an25 : Option Addr} {sl25 : Array (Option Value)} {oc25 kV25 dc25 pm25 cd25 ct25 : Value}
    {f26 : Addr} {od26 an26 : Option Addr} {sl26 : Array (Option Value)} {oc26 kV26 dc26 pm26 cd26 ct26 : Value}
    {f27 : Addr} {od27 an27 : Option Addr} {sl27 : Array (Option Value)} {oc27 kV27 dc27 pm27 cd27 ct27 : Value}
    {f28 : Addr} {od28 an28 : Option Addr} {sl28 : Array (Option Value)} {oc28 kV28 dc28 pm28 cd28 ct28 : Value}
    {f29 : Addr} {od29 an29 : Option Addr} {sl29 : Array (Option Value)} {oc29 kV29 dc29 pm29 cd29 ct29 : Value}
    {t_SIXTEEN : Tok}
    {t_LEFT_OUT : Tok}
    {t_SIGNS : Tok}
    {t_PLAIN : Tok}
    {t_OTHERS : Tok}
    {e_DOTS : Addr} {t0_DOTS t1_DOTS : Tok} {dd_DOTS : Option Addr} {n_DOTS : Nat} {sl_DOTS : Array (Option Value)}
    {t_LETTERS : Tok}
    {t_MOST_PIECES : Tok}
    {e_GAPS : Addr} {t0_GAPS t1_GAPS t2_GAPS : Tok} {dd_GAPS : Option Addr} {n_GAPS : Nat} {sl_GAPS : Array (Option Value)}
    {t_FREE : Tok}
    (a0 : PySem.W.nsIn K mainGlobals "pair_of" = some (some (.ref f0)))
    (l0 : K.lookup f0 = some ⟨oc0, od0, .func (PySem.W.fnOf "pair_of" "pair_of" (defArgs (topS 12)) (defBody (topS 12)) (defScope (topS 12)) .none kV0 dc0 pm0 an0 cd0 ct0), sl0⟩)
    (c0 : PySem.W.codeIn K cd0 "pair_of" = true) (k0 : PySem.W.keepIn K (.ref f0) = true)
    (a1 : PySem.W.nsIn K mainGlobals "sign_of" = some (some (.ref f1)))
    (l1 : K.lookup f1 = some ⟨oc1, od1, .func (PySem.W.fnOf "sign_of" "sign_of" (defArgs (topS 13)) (defBody (topS 13)) (defScope (topS 13)) .none kV1 dc1 pm1 an1 cd1 ct1), sl1⟩)
    (c1 : PySem.W.codeIn K cd1 "sign_of" = true) (k1 : PySem.W.keepIn K (.ref f1) = true)
    (a2 : PySem.W.nsIn K mainGlobals "written" = some (some (.ref f2)))
    (l2 : K.lookup f2 = some ⟨oc2, od2, .func (PySem.W.fnOf "written" "written" (defArgs (topS 14)) (defBody (topS 14)) (defScope (topS 14)) .none kV2 dc2 pm2 an2 cd2 ct2), sl2⟩)
    (c2 : PySem.W.codeIn K cd2 "written" = true) (k2 : PySem.W.keepIn K (.ref f2) = true)
    (a3 : PySem.W.nsIn K mainGlobals "undone" = some (some (.ref f3)))
    (l3 : K.lookup f3 = some ⟨oc3, od3, .func (PySem.W.fnOf "undone" "undone" (defArgs (topS 15)) (defBody (topS 15)) (defScope (topS 15)) (.ref T3) kV3 dc3 pm3 an3 cd3 ct3), sl3⟩)
    (c3 : PySem.W.codeIn K cd3 "undone" = true) (k3 : PySem.W.keepIn K (.ref f3) = true)
    (q3 : K.lookup T3 = some ⟨.type "tuple", dT3, .seq #[.str ⟨[].toArray⟩ tT3_0] nT3, sT3⟩)
    (a4 : PySem.W.nsIn K mainGlobals "is_text" = some (some (.ref f4)))
    (l4 : K.lookup f4 = some ⟨oc4, od4, .func (PySem.W.fnOf "is_text" "is_text" (defArgs (topS 21)) (defBody (topS 21)) (defScope (topS 21)) .none kV4 dc4 pm4 an4 cd4 ct4), sl4⟩)
    (c4 : PySem.W.codeIn K cd4 "is_text" = true) (k4 : PySem.W.keepIn K (.ref f4) = true)
    (a5 : PySem.W.nsIn K mainGlobals "is_step" = some (some (.ref f5)))
    (l5 : K.lookup f5 = some ⟨oc5, od5, .func (PySem.W.fnOf "is_step" "is_step" (defArgs (topS 22)) (defBody (topS 22)) (defScope (topS 22)) .none kV5 dc5 pm5 an5 cd5 ct5), sl5⟩)
    (c5 : PySem.W.codeIn K cd5 "is_step" = true) (k5 : PySem.W.keepIn K (.ref f5) = true)
    (a6 : PySem.W.nsIn K mainGlobals "is_name" = some (some (.ref f6)))
    (l6 : K.lookup f6 = some ⟨oc6, od6, .func (PySem.W.fnOf "is_name" "is_name" (defArgs (topS 23)) (defBody (topS 23)) (defScope (topS 23)) .none kV6 dc6 pm6 an6 cd6 ct6), sl6⟩)
    (c6 : PySem.W.codeIn K cd6 "is_name" = true) (k6 : PySem.W.keepIn K (.ref f6) = true)
    (a7 : PySem.W.nsIn K mainGlobals "is_piece" = some (some (.ref f7)))
    (l7 : K.lookup f7 = some ⟨oc7, od7, .func (PySem.W.fnOf "is_piece" "is_piece" (defArgs (topS 24)) (defBody (topS 24)) (defScope (topS 24)) .none kV7 dc7 pm7 an7 cd7 ct7), sl7⟩)
    (c7 : PySem.W.codeIn K cd7 "is_piece" = true) (k7 : PySem.W.keepIn K (.ref f7) = true)
    (a8 : PySem.W.nsIn K mainGlobals "name_of" = some (some (.ref f8)))
    (l8 : K.lookup f8 = some ⟨oc8, od8, .func (PySem.W.fnOf "name_of" "name_of" (defArgs (topS 25)) (defBody (topS 25)) (defScope (topS 25)) .none kV8 dc8 pm8 an8 cd8 ct8), sl8⟩)
    (c8 : PySem.W.codeIn K cd8 "name_of" = true) (k8 : PySem.W.keepIn K (.ref f8) = true)
    (a9 : PySem.W.nsIn K mainGlobals "names_of" = some (some (.ref f9)))
    (l9 : K.lookup f9 = some ⟨oc9, od9, .func (PySem.W.fnOf "names_of" "names_of" (defArgs (topS 26)) (defBody (topS 26)) (defScope (topS 26)) .none kV9 dc9 pm9 an9 cd9 ct9), sl9⟩)
    (c9 : PySem.W.codeIn K cd9 "names_of" = true) (k9 : PySem.W.keepIn K (.ref f9) = true)
    (a10 : PySem.W.nsIn K mainGlobals "is_pattern" = some (some (.ref f10)))
    (l10 : K.lookup f10 = some ⟨oc10, od10, .func (PySem.W.fnOf "is_pattern" "is_pattern" (defArgs (topS 27)) (defBody (topS 27)) (defScope (topS 27)) .none kV10 dc10 pm10 an10 cd10 ct10), sl10⟩)
    (c10 : PySem.W.codeIn K cd10 "is_pattern" = true) (k10 : PySem.W.keepIn K (.ref f10) = true)
    (a11 : PySem.W.nsIn K mainGlobals "named_gap" = some (some (.ref f11)))
    (l11 : K.lookup f11 = some ⟨oc11, od11, .func (PySem.W.fnOf "named_gap" "named_gap" (defArgs (topS 28)) (defBody (topS 28)) (defScope (topS 28)) .none kV11 dc11 pm11 an11 cd11 ct11), sl11⟩)
    (c11 : PySem.W.codeIn K cd11 "named_gap" = true) (k11 : PySem.W.keepIn K (.ref f11) = true)
    (a12 : PySem.W.nsIn K mainGlobals "undone_text" = some (some (.ref f12)))
    (l12 : K.lookup f12 = some ⟨oc12, od12, .func (PySem.W.fnOf "undone_text" "undone_text" (defArgs (topS 29)) (defBody (topS 29)) (defScope (topS 29)) .none kV12 dc12 pm12 an12 cd12 ct12), sl12⟩)
    (c12 : PySem.W.codeIn K cd12 "undone_text" = true) (k12 : PySem.W.keepIn K (.ref f12) = true)
    (a13 : PySem.W.nsIn K mainGlobals "read_piece" = some (some (.ref f13)))
    (l13 : K.lookup f13 = some ⟨oc13, od13, .func (PySem.W.fnOf "read_piece" "read_piece" (defArgs (topS 30)) (defBody (topS 30)) (defScope (topS 30)) .none kV13 dc13 pm13 an13 cd13 ct13), sl13⟩)
    (c13 : PySem.W.codeIn K cd13 "read_piece" = true) (k13 : PySem.W.keepIn K (.ref f13) = true)
    (a14 : PySem.W.nsIn K mainGlobals "read_pattern" = some (some (.ref f14)))
    (l14 : K.lookup f14 = some ⟨oc14, od14, .func (PySem.W.fnOf "read_pattern" "read_pattern" (defArgs (topS 31)) (defBody (topS 31)) (defScope (topS 31)) .none kV14 dc14 pm14 an14 cd14 ct14), sl14⟩)
    (c14 : PySem.W.codeIn K cd14 "read_pattern" = true) (k14 : PySem.W.keepIn K (.ref f14) = true)
    (a15 : PySem.W.nsIn K mainGlobals "show_piece" = some (some (.ref f15)))
    (l15 : K.lookup f15 = some ⟨oc15, od15, .func (PySem.W.fnOf "show_piece" "show_piece" (defArgs (topS 32)) (defBody (topS 32)) (defScope (topS 32)) .none kV15 dc15 pm15 an15 cd15 ct15), sl15⟩)
    (c15 : PySem.W.codeIn K cd15 "show_piece" = true) (k15 : PySem.W.keepIn K (.ref f15) = true)
    (a16 : PySem.W.nsIn K mainGlobals "show_pattern" = some (some (.ref f16)))
    (l16 : K.lookup f16 = some ⟨oc16, od16, .func (PySem.W.fnOf "show_pattern" "show_pattern" (defArgs (topS 33)) (defBody (topS 33)) (defScope (topS 33)) .none kV16 dc16 pm16 an16 cd16 ct16), sl16⟩)
    (c16 : PySem.W.codeIn K cd16 "show_pattern" = true) (k16 : PySem.W.keepIn K (.ref f16) = true)
    (a17 : PySem.W.nsIn K mainGlobals "_law_cell_at" = some (some (.ref f17)))
    (l17 : K.lookup f17 = some ⟨oc17, od17, .func (PySem.W.fnOf "_law_cell_at" "_law_cell_at" (defArgs (topS 35)) (defBody (topS 35)) (defScope (topS 35)) .none kV17 dc17 pm17 an17 cd17 ct17), sl17⟩)
    (c17 : PySem.W.codeIn K cd17 "_law_cell_at" = true) (k17 : PySem.W.keepIn K (.ref f17) = true)
    (a18 : PySem.W.nsIn K mainGlobals "_law_names" = some (some (.ref f18)))
    (l18 : K.lookup f18 = some ⟨oc18, od18, .func (PySem.W.fnOf "_law_names" "_law_names" (defArgs (topS 36)) (defBody (topS 36)) (defScope (topS 36)) .none kV18 dc18 pm18 an18 cd18 ct18), sl18⟩)
    (c18 : PySem.W.codeIn K cd18 "_law_names" = true) (k18 : PySem.W.keepIn K (.ref f18) = true)
    (a19 : PySem.W.nsIn K mainGlobals "_law_signs" = some (some (.ref f19)))
    (l19 : K.lookup f19 = some ⟨oc19, od19, .func (PySem.W.fnOf "_law_signs" "_law_signs" (defArgs (topS 37)) (defBody (topS 37)) (defScope (topS 37)) .none kV19 dc19 pm19 an19 cd19 ct19), sl19⟩)
    (c19 : PySem.W.codeIn K cd19 "_law_signs" = true) (k19 : PySem.W.keepIn K (.ref f19) = true)
    (a20 : PySem.W.nsIn K mainGlobals "_law_text" = some (some (.ref f20)))
    (l20 : K.lookup f20 = some ⟨oc20, od20, .func (PySem.W.fnOf "_law_text" "_law_text" (defArgs (topS 38)) (defBody (topS 38)) (defScope (topS 38)) .none kV20 dc20 pm20 an20 cd20 ct20), sl20⟩)
    (c20 : PySem.W.codeIn K cd20 "_law_text" = true) (k20 : PySem.W.keepIn K (.ref f20) = true)
    (a21 : PySem.W.nsIn K mainGlobals "_law_step" = some (some (.ref f21)))
    (l21 : K.lookup f21 = some ⟨oc21, od21, .func (PySem.W.fnOf "_law_step" "_law_step" (defArgs (topS 39)) (defBody (topS 39)) (defScope (topS 39)) .none kV21 dc21 pm21 an21 cd21 ct21), sl21⟩)
    (c21 : PySem.W.codeIn K cd21 "_law_step" = true) (k21 : PySem.W.keepIn K (.ref f21) = true)
    (a22 : PySem.W.nsIn K mainGlobals "_law_piece" = some (some (.ref f22)))
    (l22 : K.lookup f22 = some ⟨oc22, od22, .func (PySem.W.fnOf "_law_piece" "_law_piece" (defArgs (topS 40)) (defBody (topS 40)) (defScope (topS 40)) .none kV22 dc22 pm22 an22 cd22 ct22), sl22⟩)
    (c22 : PySem.W.codeIn K cd22 "_law_piece" = true) (k22 : PySem.W.keepIn K (.ref f22) = true)
    (a23 : PySem.W.nsIn K mainGlobals "_law_pattern" = some (some (.ref f23)))
    (l23 : K.lookup f23 = some ⟨oc23, od23, .func (PySem.W.fnOf "_law_pattern" "_law_pattern" (defArgs (topS 41)) (defBody (topS 41)) (defScope (topS 41)) .none kV23 dc23 pm23 an23 cd23 ct23), sl23⟩)
    (c23 : PySem.W.codeIn K cd23 "_law_pattern" = true) (k23 : PySem.W.keepIn K (.ref f23) = true)
    (a24 : PySem.W.nsIn K mainGlobals "_law_pair" = some (some (.ref f24)))
    (l24 : K.lookup f24 = some ⟨oc24, od24, .func (PySem.W.fnOf "_law_pair" "_law_pair" (defArgs (topS 42)) (defBody (topS 42)) (defScope (topS 42)) .none kV24 dc24 pm24 an24 cd24 ct24), sl24⟩)
    (c24 : PySem.W.codeIn K cd24 "_law_pair" = true) (k24 : PySem.W.keepIn K (.ref f24) = true)
    (a25 : PySem.W.nsIn K mainGlobals "_law_written" = some (some (.ref f25)))
    (l25 : K.lookup f25 = some ⟨oc25, od25, .func (PySem.W.fnOf "_law_written" "_law_written" (defArgs (topS 43)) (defBody (topS 43)) (defScope (topS 43)) .none kV25 dc25 pm25 an25 cd25 ct25), sl25⟩)
    (c25 : PySem.W.codeIn K cd25 "_law_written" = true) (k25 : PySem.W.keepIn K (.ref f25) = true)
    (a26 : PySem.W.nsIn K mainGlobals "_law_piece_text" = some (some (.ref f26)))
    (l26 : K.lookup f26 = some ⟨oc26, od26, .func (PySem.W.fnOf "_law_piece_text" "_law_piece_text" (defArgs (topS 44)) (defBody (topS 44)) (defScope (topS 44)) .none kV26 dc26 pm26 an26 cd26 ct26), sl26⟩)
    (c26 : PySem.W.codeIn K cd26 "_law_piece_text" = true) (k26 : PySem.W.keepIn K (.ref f26) = true)
    (a27 : PySem.W.nsIn K mainGlobals "_law_pattern_text" = some (some (.ref f27)))
    (l27 : K.lookup f27 = some ⟨oc27, od27, .func (PySem.W.fnOf "_law_pattern_text" "_law_pattern_text" (defArgs (topS 45)) (defBody (topS 45)) (defScope (topS 45)) .none kV27 dc27 pm27 an27 cd27 ct27), sl27⟩)
    (c27 : PySem.W.codeIn K cd27 "_law_pattern_text" = true) (k27 : PySem.W.keepIn K (.ref f27) = true)
    (a28 : PySem.W.nsIn K mainGlobals "_law_same" = some (some (.ref f28)))
    (l28 : K.lookup f28 = some ⟨oc28, od28, .func (PySem.W.fnOf "_law_same" "_law_same" (defArgs (topS 46)) (defBody (topS 46)) (defScope (topS 46)) .none kV28 dc28 pm28 an28 cd28 ct28), sl28⟩)
    (c28 : PySem.W.codeIn K cd28 "_law_same" = true) (k28 : PySem.W.keepIn K (.ref f28) = true)
    (a29 : PySem.W.nsIn K mainGlobals "law" = some (some (.ref f29)))
    (l29 : K.lookup f29 = some ⟨oc29, od29, .func (PySem.W.fnOf "law" "law" (defArgs (topS 47)) (defBody (topS 47)) (defScope (topS 47)) .none kV29 dc29 pm29 an29 cd29 ct29), sl29⟩)
    (c29 : PySem.W.codeIn K cd29 "law" = true) (k29 : PySem.W.keepIn K (.ref f29) = true)
    (b_SIXTEEN : PySem.W.nsIn K mainGlobals "SIXTEEN" = some (some (.str ⟨[48, 49, 50, 51, 52, 53, 54, 55, 56, 57, 97, 98, 99, 100, 101, 102].toArray⟩ t_SIXTEEN)))
    (b_LEFT_OUT : PySem.W.nsIn K mainGlobals "LEFT_OUT" = some (some (.int 37 t_LEFT_OUT)))
    (b_SIGNS : PySem.W.nsIn K mainGlobals "SIGNS" = some (some (.str ⟨[32, 33, 34, 35, 36, 38, 39, 40, 41, 42, 43, 44, 45, 46, 47, 48, 49, 50, 51, 52, 53, 54, 55, 56, 57, 58, 59, 60, 61, 62, 63, 64, 65, 66, 67, 68, 69, 70, 71, 72, 73, 74, 75, 76, 77, 78, 79, 80, 81, 82, 83, 84, 85, 86, 87, 88, 89, 90, 91, 92, 93, 94, 95, 96, 97, 98, 99, 100, 101, 102, 103, 104, 105, 106, 107, 108, 109, 110, 111, 112, 113, 114, 115, 116, 117, 118, 119, 120, 121, 122, 123, 124, 125, 126].toArray⟩ t_SIGNS)))
    (b_PLAIN : PySem.W.nsIn K mainGlobals "PLAIN" = some (some (.str ⟨[97, 98, 99, 100, 101, 102, 103, 104, 105, 106, 107, 108, 109, 110, 111, 112, 113, 114, 115, 116, 117, 118, 119, 120, 121, 122, 65, 66, 67, 68, 69, 70, 71, 72, 73, 74, 75, 76, 77, 78, 79, 80, 81, 82, 83, 84, 85, 86, 87, 88, 89, 90, 48, 49, 50, 51, 52, 53, 54, 55, 56, 57, 45, 95, 46].toArray⟩ t_PLAIN)))
    (b_OTHERS : PySem.W.nsIn K mainGlobals "OTHERS" = some (some (.str ⟨[32, 33, 34, 35, 36, 38, 39, 40, 41, 42, 43, 44, 47, 58, 59, 60, 61, 62, 63, 64, 91, 92, 93, 94, 96, 123, 124, 125, 126].toArray⟩ t_OTHERS)))
    (b_DOTS : PySem.W.nsIn K mainGlobals "DOTS" = some (some (.ref e_DOTS))) (q_DOTS : K.lookup e_DOTS = some ⟨.type "tuple", dd_DOTS, .seq #[.str ⟨[46].toArray⟩ t0_DOTS, .str ⟨[46, 46].toArray⟩ t1_DOTS] n_DOTS, sl_DOTS⟩)
    (b_LETTERS : PySem.W.nsIn K mainGlobals "LETTERS" = some (some (.str ⟨[97, 98, 99, 100, 101, 102, 103, 104, 105, 106, 107, 108, 109, 110, 111, 112, 113, 114, 115, 116, 117, 118, 119, 120, 121, 122].toArray⟩ t_LETTERS)))
    (b_MOST_PIECES : PySem.W.nsIn K mainGlobals "MOST_PIECES" = some (some (.int 12 t_MOST_PIECES)))
    (b_GAPS : PySem.W.nsIn K mainGlobals "GAPS" = some (some (.ref e_GAPS))) (q_GAPS : K.lookup e_GAPS = some ⟨.type "tuple", dd_GAPS, .seq #[.str ⟨[110, 117, 109, 98, 101, 114].toArray⟩ t0_GAPS, .str ⟨[119, 111, 114, 100].toArray⟩ t1_GAPS, .str ⟨[114, 101, 115, 116].toArray⟩ t2_GAPS] n_GAPS, sl_GAPS⟩)
    (b_FREE : PySem.W.nsIn K mainGlobals "FREE" = some (some (.str ⟨[33, 36, 39, 40, 41, 42, 44, 59, 64, 38, 61, 43].toArray⟩ t_FREE)))
    (z_divmod : PySem.W.nsIn K mainGlobals "divmod" = some none)
    (z_ord : PySem.W.nsIn K mainGlobals "ord" = some none)
    (z_len : PySem.W.nsIn K mainGlobals "len" = some none)
    (z_min : PySem.W.nsIn K mainGlobals "min" = some none)
    (z_int : PySem.W.nsIn K mainGlobals "int" = some none)
    (z_isinstance : PySem.W.nsIn K mainGlobals "isinstance" = some none)
    (z_str : PySem.W.nsIn K mainGlobals "str" = some none)
    (z_all : PySem.W.nsIn K mainGlobals "all" = some none)
    (z_tuple : PySem.W.nsIn K mainGlobals "tuple" = some none)
    (z_bool : PySem.W.nsIn K mainGlobals "bool" = some none)
    (z_enumerate : PySem.W.nsIn K mainGlobals "enumerate" = some none)
    (z_set : PySem.W.nsIn K mainGlobals "set" = some none)
    (z_range : PySem.W.nsIn K mainGlobals "range" = some none)
    (z_zip : PySem.W.nsIn K mainGlobals "zip" = some none) :
    ∃ fd : FuncData, (∀ (s : Shared) (v : Value), BindsTo s fd ⟨[v], []⟩ [("_law_script", v)]) ∧ ∀ base : Heap, K.In base → base.Ns mainGlobals mg → FnOk l.prog w K mg base (L2.CX l.prog w) 8 fa fd ["_law_script"] (spL K) := by
  have e := hfa.symm.trans (PySem.W.mg_of X G a29)
  cases e
  refine ⟨PySem.W.fnOf "law" "law" (defArgs (topS 47)) (defBody (topS 47)) (defScope (topS 47)) .none kV29 dc29 pm29 an29 cd29 ct29, fun s v => .of_eq rfl, fun base _ _ => ?_⟩
  have g_SIXTEEN : Glb K mg "SIXTEEN" k_SIXTEEN := .str (PySem.W.mg_of X G b_SIXTEEN)
  have g_LEFT_OUT : Glb K mg "LEFT_OUT" k_LEFT_OUT := .int (PySem.W.mg_of X G b_LEFT_OUT)
  have g_SIGNS : Glb K mg "SIGNS" k_SIGNS := .str (PySem.W.mg_of X G b_SIGNS)
  have g_PLAIN : Glb K mg "PLAIN" k_PLAIN := .str (PySem.W.mg_of X G b_PLAIN)
  have g_OTHERS : Glb K mg "OTHERS" k_OTHERS := .str (PySem.W.mg_of X G b_OTHERS)
  have g_DOTS : Glb K mg "DOTS" k_DOTS := .strs (zs := [⟨[46].toArray⟩, ⟨[46, 46].toArray⟩]) (ts := [t0_DOTS, t1_DOTS]) (PySem.W.mg_of X G b_DOTS) q_DOTS rfl rfl rfl (by decide)
  have g_LETTERS : Glb K mg "LETTERS" k_LETTERS := .str (PySem.W.mg_of X G b_LETTERS)
  have g_MOST_PIECES : Glb K mg "MOST_PIECES" k_MOST_PIECES := .int (PySem.W.mg_of X G b_MOST_PIECES)
  have g_GAPS : Glb K mg "GAPS" k_GAPS := .strs (zs := [⟨[110, 117, 109, 98, 101, 114].toArray⟩, ⟨[119, 111, 114, 100].toArray⟩, ⟨[114, 101, 115, 116].toArray⟩]) (ts := [t0_GAPS, t1_GAPS, t2_GAPS]) (PySem.W.mg_of X G b_GAPS) q_GAPS rfl rfl rfl (by decide)
  have g_FREE : Glb K mg "FREE" k_FREE := .str (PySem.W.mg_of X G b_FREE)
  have m_divmod : mg "divmod" = none := PySem.W.mg_none_of X G z_divmod
  have m_ord : mg "ord" = none := PySem.W.mg_none_of X G z_ord
  have m_len : mg "len" = none := PySem.W.mg_none_of X G z_len
  have m_min : mg "min" = none := PySem.W.mg_none_of X G z_min
  have m_int : mg "int" = none := PySem.W.mg_none_of X G z_int
  have m_isinstance : mg "isinstance" = none := PySem.W.mg_none_of X G z_isinstance
  have m_str : mg "str" = none := PySem.W.mg_none_of X G z_str
  have m_all : mg "all" = none := PySem.W.mg_none_of X G z_all
  have m_tuple : mg "tuple" = none := PySem.W.mg_none_of X G z_tuple
  have m_bool : mg "bool" = none := PySem.W.mg_none_of X G z_bool
  have m_enumerate : mg "enumerate" = none := PySem.W.mg_none_of X G z_enumerate
  have m_set : mg "set" = none := PySem.W.mg_none_of X G z_set
  have m_range : mg "range" = none := PySem.W.mg_none_of X G z_range
  have m_zip : mg "zip" = none := PySem.W.mg_none_of X G z_zip
  have c_pair_of : Cal l.prog w K mg base 1 "pair_of" false 1 g_pair_of := ok_pair_of g_SIXTEEN m_divmod m_ord (fun_mk (st := topS 12) l0 c0 k0) (PySem.W.mg_of X G a0)
  have c_sign_of : Cal l.prog w K mg base 1 "sign_of" false 1 g_sign_of := ok_sign_of g_SIXTEEN g_LEFT_OUT g_SIGNS m_len m_min m_int (fun_mk (st := topS 13) l1 c1 k1) (PySem.W.mg_of X G a1)
  have c_written : Cal l.prog w K mg base 2 "written" false 1 g_written := ok_written c_pair_of g_PLAIN (fun_mk (st := topS 14) l2 c2 k2) (PySem.W.mg_of X G a2)
  have c_undone : Cal l.prog w K mg base 2 "undone" false 2 g_undone := ok_undone c_sign_of g_PLAIN m_len (funD_mk [.str ⟨[].toArray⟩] l3 c3 k3 q3 (its := [.str ⟨[].toArray⟩ tT3_0]) rfl (.cons ⟨_, rfl⟩ .nil) (by simp)) (PySem.W.mg_of X G a3)
  have cD_undone_1 := okD_undone_1 (P := l.prog) (w := w) (base := base) c_sign_of g_PLAIN m_len (funD_mk [.str ⟨[].toArray⟩] l3 c3 k3 q3 (its := [.str ⟨[].toArray⟩ tT3_0]) rfl (.cons ⟨_, rfl⟩ .nil) (by simp)) (PySem.W.mg_of X G a3)
  have c_is_text : Cal l.prog w K mg base 1 "is_text" false 1 g_is_text := ok_is_text g_PLAIN g_OTHERS m_isinstance m_str m_all (fun_mk (st := topS 21) l4 c4 k4) (PySem.W.mg_of X G a4)
  have c_is_step : Cal l.prog w K mg base 2 "is_step" false 1 g_is_step := ok_is_step c_is_text g_DOTS (fun_mk (st := topS 22) l5 c5 k5) (PySem.W.mg_of X G a5)
  have c_is_name : Cal l.prog w K mg base 1 "is_name" false 1 g_is_name := ok_is_name g_LETTERS m_isinstance m_str m_len m_all (fun_mk (st := topS 23) l6 c6 k6) (PySem.W.mg_of X G a6)
  have c_is_piece : Cal l.prog w K mg base 3 "is_piece" false 2 g_is_piece := ok_is_piece c_is_text c_is_name c_is_step m_isinstance m_tuple m_len m_str (fun_mk (st := topS 24) l7 c7 k7) (PySem.W.mg_of X G a7)
  have c_name_of : Cal l.prog w K mg base 1 "name_of" false 1 g_name_of := ok_name_of  (fun_mk (st := topS 25) l8 c8 k8) (PySem.W.mg_of X G a8)
  have c_names_of : Cal l.prog w K mg base 2 "names_of" false 1 g_names_of := ok_names_of c_name_of (fun_mk (st := topS 26) l9 c9 k9) (PySem.W.mg_of X G a9)
  have c_is_pattern : Cal l.prog w K mg base 4 "is_pattern" false 1 g_is_pattern := ok_is_pattern c_is_piece c_names_of g_MOST_PIECES m_isinstance m_tuple m_len m_bool m_enumerate m_set (fun_mk (st := topS 27) l10 c10 k10) (PySem.W.mg_of X G a10)
  have c_named_gap : Cal l.prog w K mg base 1 "named_gap" false 1 g_named_gap := ok_named_gap g_GAPS (fun_mk (st := topS 28) l11 c11 k11) (PySem.W.mg_of X G a11)
  have c_undone_text : Cal l.prog w K mg base 3 "undone_text" false 1 g_undone_text := ok_undone_text c_undone g_FREE (fun_mk (st := topS 29) l12 c12 k12) (PySem.W.mg_of X G a12)
  have c_read_piece : Cal l.prog w K mg base 4 "read_piece" false 1 g_read_piece := ok_read_piece c_undone_text c_named_gap (fun_mk (st := topS 30) l13 c13 k13) (PySem.W.mg_of X G a13)
  have c_read_pattern : Cal l.prog w K mg base 5 "read_pattern" false 1 g_read_pattern := ok_read_pattern c_read_piece c_is_pattern m_isinstance m_str m_tuple (fun_mk (st := topS 31) l14 c14 k14) (PySem.W.mg_of X G a14)
  have c_show_piece : Cal l.prog w K mg base 3 "show_piece" false 1 g_show_piece := ok_show_piece c_written (fun_mk (st := topS 32) l15 c15 k15) (PySem.W.mg_of X G a15)
  have c_show_pattern : Cal l.prog w K mg base 4 "show_pattern" false 1 g_show_pattern := ok_show_pattern c_show_piece (fun_mk (st := topS 33) l16 c16 k16) (PySem.W.mg_of X G a16)
  have c__law_cell_at : Cal l.prog w K mg base 1 "_law_cell_at" false 2 g__law_cell_at := ok__law_cell_at m_len (fun_mk (st := topS 35) l17 c17 k17) (PySem.W.mg_of X G a17)
  have c__law_names : Cal l.prog w K mg base 1 "_law_names" false 2 g__law_names := ok__law_names m_range (fun_mk (st := topS 36) l18 c18 k18) (PySem.W.mg_of X G a18)
  have c__law_signs : Cal l.prog w K mg base 1 "_law_signs" false 0 g__law_signs := ok__law_signs  (fun_mk (st := topS 37) l19 c19 k19) (PySem.W.mg_of X G a19)
  have c__law_text : Cal l.prog w K mg base 2 "_law_text" false 1 g_p_law_text := ok__law_text c__law_signs m_len m_range (fun_mk (st := topS 38) l20 c20 k20) (PySem.W.mg_of X G a20)
  have c__law_step : Cal l.prog w K mg base 3 "_law_step" false 1 g_p_law_step := ok__law_step c__law_text (fun_mk (st := topS 39) l21 c21 k21) (PySem.W.mg_of X G a21)
  have c__law_piece : Cal l.prog w K mg base 4 "_law_piece" false 2 g__law_piece := ok__law_piece c__law_step c__law_text (fun_mk (st := topS 40) l22 c22 k22) (PySem.W.mg_of X G a22)
  have c__law_pattern : Cal l.prog w K mg base 5 "_law_pattern" false 3 g__law_pattern := ok__law_pattern c__law_piece m_zip m_len m_tuple (fun_mk (st := topS 41) l23 c23 k23) (PySem.W.mg_of X G a23)
  have c__law_pair : Cal l.prog w K mg base 1 "_law_pair" false 2 g_u_law_pair := ok__law_pair m_ord (fun_mk (st := topS 42) l24 c24 k24) (PySem.W.mg_of X G a24)
  have c__law_written : Cal l.prog w K mg base 2 "_law_written" false 2 g_u_law_written := ok__law_written c__law_pair m_len m_enumerate (fun_mk (st := topS 43) l25 c25 k25) (PySem.W.mg_of X G a25)
  have c__law_piece_text : Cal l.prog w K mg base 3 "_law_piece_text" false 2 g__law_piece_text := ok__law_piece_text c__law_written (fun_mk (st := topS 44) l26 c26 k26) (PySem.W.mg_of X G a26)
  have c__law_pattern_text : Cal l.prog w K mg base 4 "_law_pattern_text" false 2 g__law_pattern_text := ok__law_pattern_text c__law_piece_text (fun_mk (st := topS 45) l27 c27 k27) (PySem.W.mg_of X G a27)
  have r28_0 : Cal l.prog w K mg base 1 "_law_same" false 2 (fun _ => .bad) := ok0__law_same (k := 0) (fun_mk (st := topS 46) l28 c28 k28) (PySem.W.mg_of X G a28)
  have r28_1 := ok__law_same m_isinstance m_tuple m_len m_all m_zip m_bool m_str r28_0 (by decide) (fun_mk (st := topS 46) l28 c28 k28) (PySem.W.mg_of X G a28)
  have r28_2 := ok__law_same m_isinstance m_tuple m_len m_all m_zip m_bool m_str r28_1 (by decide) (fun_mk (st := topS 46) l28 c28 k28) (PySem.W.mg_of X G a28)
  have r28_3 := ok__law_same m_isinstance m_tuple m_len m_all m_zip m_bool m_str r28_2 (by decide) (fun_mk (st := topS 46) l28 c28 k28) (PySem.W.mg_of X G a28)
  have r28_4 := ok__law_same m_isinstance m_tuple m_len m_all m_zip m_bool m_str r28_3 (by decide) (fun_mk (st := topS 46) l28 c28 k28) (PySem.W.mg_of X G a28)
  have r28_5 := ok__law_same m_isinstance m_tuple m_len m_all m_zip m_bool m_str r28_4 (by decide) (fun_mk (st := topS 46) l28 c28 k28) (PySem.W.mg_of X G a28)
  have r28_6 := ok__law_same m_isinstance m_tuple m_len m_all m_zip m_bool m_str r28_5 (by decide) (fun_mk (st := topS 46) l28 c28 k28) (PySem.W.mg_of X G a28)
  have c__law_same : Cal l.prog w K mg base 7 "_law_same" false 2 g__law_same := r28_6
  exact law_of (ok_law c__law_names c__law_cell_at c__law_pattern c_show_pattern c__law_pattern_text c__law_same c_read_pattern m_isinstance m_str (fun_mk (st := topS 47) l29 c29 k29)) hlaw
end K51
open PySem PySem.W PyProof.Rows
set_option maxHeartbeats 0 in
theorem PySem.Challenge.cw_waymark_k51_patterns_shown_and_read_holds : PySem.Challenge.rw_waymark_k51_patterns_shown_and_read.Holds := by
  w_on; o_law; k_head; (case hw => w_witness2)
  k_fill
  refine L2.walk_of (l := PySem.Challenge.rw_waymark_k51_patterns_shown_and_read) (n := 63) (k := 8) (x := "_law_script") (CX := fun w => L2.CX PySem.Challenge.rw_waymark_k51_patterns_shown_and_read.prog w) (sp := fun w => Wm.spL _) rfl (by decide) rfl ⟨rfl, by decide, by decide⟩ (fun w h Y => PySem.W.kIn_of Y) ?F (fun _ _ a ns hl _ hS => ⟨a, ns, rfl, hS, hl, fun _ => rfl⟩) (fun _ _ _ _ _ h => Wm.no_cx h)
  case F =>
    intro w mg fa h KX G hmg
    refine' K51.all_mk KX G hmg ?a0 ?l0 ?c0 ?k0 ?a1 ?l1 ?c1 ?k1 ?a2 ?l2 ?c2 ?k2 ?a3 ?l3 ?c3 ?k3 ?q3 ?a4 ?l4 ?c4 ?k4 ?a5 ?l5 ?c5 ?k5 ?a6 ?l6 ?c6 ?k6 ?a7 ?l7 ?c7 ?k7 ?a8 ?l8 ?c8 ?k8 ?a9 ?l9 ?c9 ?k9 ?a10 ?l10 ?c10 ?k10 ?a11 ?l11 ?c11 ?k11 ?a12 ?l12 ?c12 ?k12 ?a13 ?l13 ?c13 ?k13 ?a14 ?l14 ?c14 ?k14 ?a15 ?l15 ?c15 ?k15 ?a16 ?l16 ?c16 ?k16 ?a17 ?l17 ?c17 ?k17 ?a18 ?l18 ?c18 ?k18 ?a19 ?l19 ?c19 ?k19 ?a20 ?l20 ?c20 ?k20 ?a21 ?l21 ?c21 ?k21 ?a22 ?l22 ?c22 ?k22 ?a23 ?l23 ?c23 ?k23 ?a24 ?l24 ?c24 ?k24 ?a25 ?l25 ?c25 ?k25 ?a26 ?l26 ?c26 ?k26 ?a27 ?l27 ?c27 ?k27 ?a28 ?l28 ?c28 ?k28 ?a29 ?l29 ?c29 ?k29 ?b_SIXTEEN ?b_LEFT_OUT ?b_SIGNS ?b_PLAIN ?b_OTHERS ?b_DOTS ?q_DOTS ?b_LETTERS ?b_MOST_PIECES ?b_GAPS ?q_GAPS ?b_FREE ?z_divmod ?z_ord ?z_len ?z_min ?z_int ?z_isinstance ?z_str ?z_all ?z_tuple ?z_bool ?z_enumerate ?z_set ?z_range ?z_zip
    (case a0 => k_is)
    (case l0 => k_is)
    (case c0 => k_is)
    (case k0 => k_is)
    (case a1 => k_is)
    (case l1 => k_is)
    (case c1 => k_is)
    (case k1 => k_is)
    (case a2 => k_is)
    (case l2 => k_is)
    (case c2 => k_is)
    (case k2 => k_is)
    (case a3 => k_is)
    (case l3 => k_is)
    (case c3 => k_is)
    (case k3 => k_is)
    (case q3 => k_is)
    (case a4 => k_is)
    (case l4 => k_is)
    (case c4 => k_is)
    (case k4 => k_is)
    (case a5 => k_is)
    (case l5 => k_is)
    (case c5 => k_is)
    (case k5 => k_is)
    (case a6 => k_is)
    (case l6 => k_is)
    (case c6 => k_is)
    (case k6 => k_is)
    (case a7 => k_is)
    (case l7 => k_is)
    (case c7 => k_is)
    (case k7 => k_is)
    (case a8 => k_is)
    (case l8 => k_is)
    (case c8 => k_is)
    (case k8 => k_is)
    (case a9 => k_is)
    (case l9 => k_is)
    (case c9 => k_is)
    (case k9 => k_is)
    (case a10 => k_is)
    (case l10 => k_is)
    (case c10 => k_is)
    (case k10 => k_is)
    (case a11 => k_is)
    (case l11 => k_is)
    (case c11 => k_is)
    (case k11 => k_is)
    (case a12 => k_is)
    (case l12 => k_is)
    (case c12 => k_is)
    (case k12 => k_is)
    (case a13 => k_is)
    (case l13 => k_is)
    (case c13 => k_is)
    (case k13 => k_is)
    (case a14 => k_is)
    (case l14 => k_is)
    (case c14 => k_is)
    (case k14 => k_is)
    (case a15 => k_is)
    (case l15 => k_is)
    (case c15 => k_is)
    (case k15 => k_is)
    (case a16 => k_is)
    (case l16 => k_is)
    (case c16 => k_is)
    (case k16 => k_is)
    (case a17 => k_is)
    (case l17 => k_is)
    (case c17 => k_is)
    (case k17 => k_is)
    (case a18 => k_is)
    (case l18 => k_is)
    (case c18 => k_is)
    (case k18 => k_is)
    (case a19 => k_is)
    (case l19 => k_is)
    (case c19 => k_is)
    (case k19 => k_is)
    (case a20 => k_is)
    (case l20 => k_is)
    (case c20 => k_is)
    (case k20 => k_is)
    (case a21 => k_is)
    (case l21 => k_is)
    (case c21 => k_is)
    (case k21 => k_is)
    (case a22 => k_is)
    (case l22 => k_is)
    (case c22 => k_is)
    (case k22 => k_is)
    (case a23 => k_is)
    (case l23 => k_is)
    (case c23 => k_is)
    (case k23 => k_is)
    (case a24 => k_is)
    (case l24 => k_is)
    (case c24 => k_is)
    (case k24 => k_is)
    (case a25 => k_is)
    (case l25 => k_is)
    (case c25 => k_is)
    (case k25 => k_is)
    (case a26 => k_is)
    (case l26 => k_is)
    (case c26 => k_is)
    (case k26 => k_is)
    (case a27 => k_is)
    (case l27 => k_is)
    (case c27 => k_is)
    (case k27 => k_is)
    (case a28 => k_is)
    (case l28 => k_is)
    (case c28 => k_is)
    (case k28 => k_is)
    (case a29 => k_is)
    (case l29 => k_is)
    (case c29 => k_is)
    (case k29 => k_is)
    (case b_SIXTEEN => k_is)
    (case b_LEFT_OUT => k_is)
    (case b_SIGNS => k_is)
    (case b_PLAIN => k_is)
    (case b_OTHERS => k_is)
    (case b_DOTS => k_is)
    (case q_DOTS => k_is)
    (case b_LETTERS => k_is)
    (case b_MOST_PIECES => k_is)
    (case b_GAPS => k_is)
    (case q_GAPS => k_is)
    (case b_FREE => k_is)
    (case z_divmod => k_is)
    (case z_ord => k_is)
    (case z_len => k_is)
    (case z_min => k_is)
    (case z_int => k_is)
    (case z_isinstance => k_is)
    (case z_str => k_is)
    (case z_all => k_is)
    (case z_tuple => k_is)
    (case z_bool => k_is)
    (case z_enumerate => k_is)
    (case z_set => k_is)
    (case z_range => k_is)
    (case z_zip => k_is)
