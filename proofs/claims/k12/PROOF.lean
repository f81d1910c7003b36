import PyProof.Rows.All
import Wide.All
import OpenK.AllK
import Wide.FinOn
import HandS.ForMost
import HandS.ForExc
import HandS.IsInst
import HandS.Flow
import HandS.Deep
import HandS.DictComp
import HandS.Conv
import HandS.Strs
import HandS.TupAny
import HandS.TryMany
import HandS.Zip
import HandS.Wide
import HandS.Style
import HandS.SortInts
import KE.GoesEnum
import HandS.Small
import HandS.Property
import HandS.ListItems
import HandS.Finally
import HandS.Iter
import PyProof.DictUpdate
import HandS.TupMul
import PySem.Challenge.RW_evenback_k12_steps_and_their_contraries
set_option Elab.async false
set_option linter.all false
set_option maxRecDepth 100000
set_option maxHeartbeats 4000000
namespace DL
open PySem L2 PySem.Spec PyProof.Rows

/-! ### data -/
inductive D where
  | non | bl (b : Bool) | int (i : Int) | str (x : Str) | lst (xs : List D) | tup (xs : List D)
  | dic (kvs : List (Key × D)) | dit (kvs : List (List Key × D)) | obj (c : Str) (fs : List (Str × D)) | slf (c : Str) (fs : List (Str × D)) | drw | ty (n : String) | scr (ns : List Int)

structure Exc where
  cls : Str
  fs : List (Str × D)

/-! ### the monad: none is stuck -/
abbrev M (S A : Type) := S → Option (Except Exc A × S)
section
variable {S A B C : Type}
def ret (a : A) : M S A := fun s => some (.ok a, s)
def stk : M S A := fun _ => none
def thr (x : Exc) : M S A := fun s => some (.error x, s)
def bnd (m : M S A) (f : A → M S B) : M S B := fun s => match m s with
  | none => none
  | some (.error e, s') => some (.error e, s')
  | some (.ok a, s') => f a s'
def lft : Option A → M S A
  | some a => ret a
  | none => stk
/-- a pure run within another state -/
def pur (m : M Unit A) : M S A := fun s => match m () with
  | none => none
  | some (r, _) => some (r, s)
@[simp] theorem bnd_ret (a : A) (f : A → M S B) : bnd (ret a) f = f a := rfl
@[simp] theorem bnd_stk (f : A → M S B) : bnd (stk : M S A) f = stk := rfl
@[simp] theorem bnd_thr (x : Exc) (f : A → M S B) : bnd (thr x : M S A) f = thr x := rfl
@[simp] theorem lft_some (a : A) : (lft (some a) : M S A) = ret a := rfl
@[simp] theorem lft_none : (lft (none : Option A) : M S A) = stk := rfl
@[simp] theorem pur_ret (a : A) : (pur (ret a) : M S A) = ret a := rfl
@[simp] theorem pur_thr (x : Exc) : (pur (thr x) : M S A) = thr x := rfl
@[simp] theorem pur_stk : (pur stk : M S A) = stk := rfl
theorem bnd_assoc (m : M S A) (f : A → M S B) (g : B → M S C) : bnd (bnd m f) g = bnd m fun a => bnd (f a) g := by
  funext s
  unfold bnd
  cases m s with
  | none => rfl
  | some p => obtain ⟨r, s'⟩ := p; cases r <;> rfl
end

/-! ### what stands for a datum -/
def TupAt (K : PySem.W.Frag) (Z : Addr → Prop) (H : Hp) (a : Addr) (vs : List V) : Prop := (Z a ∧ H a = some (.tup vs)) ∨ ∀ H', SqT K H' a vs
def ScrAt (K : PySem.W.Frag) (Z : Addr → Prop) (H : Hp) (a : Addr) (vs : List V) : Prop := (Z a ∧ Rd H a (.lst vs)) ∨ ∀ H', SqL K H' a vs
theorem TupAt.sq {K : PySem.W.Frag} {Z : Addr → Prop} {H : Hp} {a : Addr} {vs : List V} (h : TupAt K Z H a vs) : SqT K H a vs := by
  rcases h with ⟨_, h⟩ | h
  · exact .inl (.inl h)
  · exact h H
theorem ScrAt.sq {K : PySem.W.Frag} {Z : Addr → Prop} {H : Hp} {a : Addr} {vs : List V} (h : ScrAt K Z H a vs) : SqL K H a vs := by
  rcases h with ⟨_, h⟩ | h
  · exact .inl h
  · exact h H
theorem rdAt {H H' : Hp} {a : Addr} {u : HO} (h : Rd H a u) (e : H' a = H a) : Rd H' a u := by
  rcases h with h | ⟨o, h⟩
  · exact .inl (e.trans h)
  · exact .inr ⟨o, e.trans h⟩

/-- the fixed surroundings: the written part, the module's names, where the draws lie -/
structure Cn where
  K : PySem.W.Frag
  mg : Str → Option Value
  da : Addr → Prop
  sf : Addr → Prop

inductive Fz (c : Cn) (Z : Addr → Prop) (H : Hp) : V → D → Prop
  | non : Fz c Z H .non .non
  | bl (b : Bool) : Fz c Z H (.bl b) (.bl b)
  | int (i : Int) : Fz c Z H (.int i) (.int i)
  | str (x : Str) : Fz c Z H (.str x) (.str x)
  | ty (n : String) : Fz c Z H (.ty n) (.ty n)
  | scr {a : Addr} {ns : List Int} : ScrAt c.K Z H a (ns.map V.int) → ns.length ≤ 63 → Fz c Z H (.ref a) (.scr ns)
  | drw {a : Addr} : c.da a → Fz c Z H (.ref a) .drw
  | lst {a : Addr} {vs : List V} {ds : List D} : Z a → H a = some (.lst vs) → vs.length = ds.length → vs.length ≤ sizeLine →
      (∀ (i : Nat) (v : V) (d : D), vs[i]? = some v → ds[i]? = some d → Fz c Z H v d) → Fz c Z H (.ref a) (.lst ds)
  | tup {a : Addr} {vs : List V} {ds : List D} : TupAt c.K Z H a vs → vs.length = ds.length → vs.length ≤ sizeLine →
      (∀ (i : Nat) (v : V) (d : D), vs[i]? = some v → ds[i]? = some d → Fz c Z H v d) → Fz c Z H (.ref a) (.tup ds)
  | dic {a : Addr} {kvs : List (Key × V)} {des : List (Key × D)} : Z a → H a = some (.dK kvs) → kvs.length = des.length → kvs.length ≤ sizeLine →
      (∀ (i : Nat) (p : Key × V) (q : Key × D), kvs[i]? = some p → des[i]? = some q → p.1 = q.1) →
      (∀ (i : Nat) (p : Key × V) (q : Key × D), kvs[i]? = some p → des[i]? = some q → Fz c Z H p.2 q.2) → Fz c Z H (.ref a) (.dic des)
  | dit {a : Addr} {kvs : List (List Key × V)} {des : List (List Key × D)} : Z a → H a = some (.dT kvs) → kvs.length = des.length → kvs.length ≤ sizeLine →
      (∀ (i : Nat) (p : List Key × V) (q : List Key × D), kvs[i]? = some p → des[i]? = some q → p.1 = q.1) →
      (∀ (i : Nat) (p : List Key × V) (q : List Key × D), kvs[i]? = some p → des[i]? = some q → Fz c Z H p.2 q.2) → Fz c Z H (.ref a) (.dit des)
  | obj {a dx C : Addr} {x : Str} {fs : List (Str × V)} {des : List (Str × D)} : Z a → H a = some (.ins C dx fs) → c.mg x = some (.ref C) → fs.length = des.length →
      (∀ (i : Nat) (p : Str × V) (q : Str × D), fs[i]? = some p → des[i]? = some q → p.1 = q.1) →
      (∀ (i : Nat) (p : Str × V) (q : Str × D), fs[i]? = some p → des[i]? = some q → Fz c Z H p.2 q.2) → Fz c Z H (.ref a) (.obj x des)
  | slf {a dx C : Addr} {x : Str} {fs : List (Str × V)} {des : List (Str × D)} : Z a → H a = some (.ins C dx fs) → c.mg x = some (.ref C) → fs.length = des.length →
      (∀ (i : Nat) (p : Str × V) (q : Str × D), fs[i]? = some p → des[i]? = some q → p.1 = q.1) →
      (∀ (i : Nat) (p : Str × V) (q : Str × D), fs[i]? = some p → des[i]? = some q → Fz c Z H p.2 q.2) → Fz c Z H (.ref a) (.slf x des)

theorem Fz.sf {K : PySem.W.Frag} {mg : Str → Option Value} {da sf sf' : Addr → Prop} {Z : Addr → Prop} {H : Hp} {v : V} {d : D} (h : Fz ⟨K, mg, da, sf⟩ Z H v d) : Fz ⟨K, mg, da, sf'⟩ Z H v d := by
  induction h with
  | non => exact .non
  | bl b => exact .bl b
  | int i => exact .int i
  | str x => exact .str x
  | ty n => exact .ty n
  | drw h => exact .drw h
  | scr h h2 => exact .scr h h2
  | lst h1 h2 h3 h4 _ ih => exact .lst h1 h2 h3 h4 ih
  | tup h1 h2 h3 _ ih => exact .tup h1 h2 h3 ih
  | dic h1 h2 h3 h4 h5 _ ih => exact .dic h1 h2 h3 h4 h5 ih
  | dit h1 h2 h3 h4 h5 _ ih => exact .dit h1 h2 h3 h4 h5 ih
  | obj h1 h2 h3 h4 h5 _ ih => exact .obj h1 h2 h3 h4 h5 ih
  | slf h1 h2 h3 h4 h5 _ ih => exact .slf h1 h2 h3 h4 h5 ih
def FzAll (c : Cn) (Z : Addr → Prop) (H : Hp) (vs : List V) (ds : List D) : Prop :=
  vs.length = ds.length ∧ ∀ (i : Nat) (v : V) (d : D), vs[i]? = some v → ds[i]? = some d → Fz c Z H v d

theorem FzAll.sf {K : PySem.W.Frag} {mg : Str → Option Value} {da sf sf' : Addr → Prop} {Z : Addr → Prop} {H : Hp} {vs : List V} {ds : List D} (h : FzAll ⟨K, mg, da, sf⟩ Z H vs ds) : FzAll ⟨K, mg, da, sf'⟩ Z H vs ds := ⟨h.1, fun i v d a b => (h.2 i v d a b).sf⟩
/-- more is frozen, what was frozen stands -/
structure Grow (Z : Addr → Prop) (H : Hp) (Z' : Addr → Prop) (H' : Hp) : Prop where
  z : ∀ a, Z a → Z' a
  h : ∀ a, Z a → H' a = H a

theorem ScrAt.grow {K : PySem.W.Frag} {Z Z' : Addr → Prop} {H H' : Hp} {a : Addr} {vs : List V} (g : Grow Z H Z' H') (h : ScrAt K Z H a vs) : ScrAt K Z' H' a vs := by
  rcases h with ⟨z, h⟩ | h
  · exact .inl ⟨g.z a z, rdAt h (g.h a z)⟩
  · exact .inr h
theorem TupAt.grow {K : PySem.W.Frag} {Z Z' : Addr → Prop} {H H' : Hp} {a : Addr} {vs : List V} (g : Grow Z H Z' H') (h : TupAt K Z H a vs) : TupAt K Z' H' a vs := by
  rcases h with ⟨z, h⟩ | h
  · exact .inl ⟨g.z a z, (g.h a z).trans h⟩
  · exact .inr h
theorem Fz.grow {c : Cn} {Z Z' : Addr → Prop} {H H' : Hp} {v : V} {d : D} (g : Grow Z H Z' H') (h : Fz c Z H v d) : Fz c Z' H' v d := by
  induction h with
  | non => exact .non
  | bl b => exact .bl b
  | int i => exact .int i
  | str x => exact .str x
  | ty n => exact .ty n
  | drw h => exact .drw h
  | scr h h2 => exact .scr (h.grow g) h2
  | lst h1 h2 h3 h4 _ ih => exact .lst (g.z _ h1) ((g.h _ h1).trans h2) h3 h4 ih
  | tup h1 h2 h3 _ ih => exact .tup (h1.grow g) h2 h3 ih
  | dic h1 h2 h3 h4 h5 _ ih => exact .dic (g.z _ h1) ((g.h _ h1).trans h2) h3 h4 h5 ih
  | dit h1 h2 h3 h4 h5 _ ih => exact .dit (g.z _ h1) ((g.h _ h1).trans h2) h3 h4 h5 ih
  | obj h1 h2 h3 h4 h5 _ ih => exact .obj (g.z _ h1) ((g.h _ h1).trans h2) h3 h4 h5 ih
  | slf h1 h2 h3 h4 h5 _ ih => exact .slf (g.z _ h1) ((g.h _ h1).trans h2) h3 h4 h5 ih
theorem FzAll.grow {c : Cn} {Z Z' : Addr → Prop} {H H' : Hp} {vs : List V} {ds : List D} (g : Grow Z H Z' H') (h : FzAll c Z H vs ds) : FzAll c Z' H' vs ds :=
  ⟨h.1, fun i v d a b => (h.2 i v d a b).grow g⟩
theorem Grow.refl (Z : Addr → Prop) (H : Hp) : Grow Z H Z H := ⟨fun _ h => h, fun _ _ => rfl⟩
theorem Grow.trans {Z Z1 Z2 : Addr → Prop} {H H1 H2 : Hp} (a : Grow Z H Z1 H1) (b : Grow Z1 H1 Z2 H2) : Grow Z H Z2 H2 :=
  ⟨fun x h => b.z x (a.z x h), fun x h => (b.h x (a.z x h)).trans (a.h x h)⟩
theorem FzAll.nil {c : Cn} {Z : Addr → Prop} {H : Hp} : FzAll c Z H [] [] := ⟨rfl, fun i v d a _ => by simp at a⟩
theorem FzAll.cons {c : Cn} {Z : Addr → Prop} {H : Hp} {v : V} {d : D} {vs : List V} {ds : List D} (h : Fz c Z H v d) (t : FzAll c Z H vs ds) : FzAll c Z H (v :: vs) (d :: ds) := by
  refine ⟨by simp [t.1], fun i w e a b => ?_⟩
  cases i with
  | zero => simp at a b; subst a; subst b; exact h
  | succ i => exact t.2 i w e (by simpa using a) (by simpa using b)
theorem FzAll.inv {c : Cn} {Z : Addr → Prop} {H : Hp} {v : V} {d : D} {vs : List V} {ds : List D} (h : FzAll c Z H (v :: vs) (d :: ds)) : Fz c Z H v d ∧ FzAll c Z H vs ds :=
  ⟨h.2 0 v d rfl rfl, by simpa using h.1, fun i w e a b => h.2 (i + 1) w e (by simpa using a) (by simpa using b)⟩
theorem FzAll.snoc {c : Cn} {Z : Addr → Prop} {H : Hp} {v : V} {d : D} {vs : List V} {ds : List D} (t : FzAll c Z H vs ds) (h : Fz c Z H v d) : FzAll c Z H (vs ++ [v]) (ds ++ [d]) := by
  have hl := t.1
  refine ⟨by simp [hl], fun i w e a b => ?_⟩
  by_cases hi : i < vs.length
  · rw [List.getElem?_append_left hi] at a
    rw [List.getElem?_append_left (by omega)] at b
    exact t.2 i w e a b
  · rw [List.getElem?_append_right (by omega)] at a
    rw [List.getElem?_append_right (by omega), ← hl] at b
    cases e0 : i - vs.length with
    | zero => rw [e0] at a b; simp at a b; subst a; subst b; exact h
    | succ n => rw [e0] at a; simp at a
theorem FzAll.app {c : Cn} {Z : Addr → Prop} {H : Hp} {vs us : List V} {ds es : List D} (t : FzAll c Z H vs ds) (h : FzAll c Z H us es) : FzAll c Z H (vs ++ us) (ds ++ es) := by
  have hl := t.1
  have hl2 := h.1
  refine ⟨by simp [hl, hl2], fun i w e a b => ?_⟩
  by_cases hi : i < vs.length
  · rw [List.getElem?_append_left hi] at a
    rw [List.getElem?_append_left (by omega)] at b
    exact t.2 i w e a b
  · rw [List.getElem?_append_right (by omega)] at a
    rw [List.getElem?_append_right (by omega), ← hl] at b
    exact h.2 _ w e a b

/-! ### the state that runs along, as a kind of memory of its own -/
structure Md (S : Type) where
  da : Addr → Prop
  sf : Addr → Prop
  adr : Addr → Prop
  ok : S → Hp → Prop
  frame : ∀ s H H', ok s H → (∀ b, adr b → H' b = H b) → ok s H'
  dom : ∀ s H b, ok s H → adr b → H b ≠ none
def Md.unit : Md Unit := ⟨fun _ => False, fun _ => False, fun _ => False, fun _ _ => True, fun _ _ _ _ _ => trivial, fun _ _ _ _ h => h.elim⟩

/-- a def's run: its kind of memory, what was frozen and what stood at its entry -/
structure Fc (S : Type) where
  K : PySem.W.Frag
  mg : Str → Option Value
  md : Md S
  Z0 : Addr → Prop
  H0 : Hp
abbrev Fc.cn {S : Type} (F : Fc S) : Cn := ⟨F.K, F.mg, F.md.da, F.md.sf⟩

/-- owned: a list, a dict, an instance that nothing else holds -/
def Ow (c : Cn) (Z : Addr → Prop) (H : Hp) (a : Addr) : D → Prop
  | .lst ds => ∃ vs, H a = some (.lst vs) ∧ vs.length ≤ sizeLine ∧ FzAll c Z H vs ds
  | .dic des => ∃ kvs, H a = some (.dK kvs) ∧ kvs.length ≤ sizeLine ∧ kvs.map (·.1) = des.map (·.1) ∧ FzAll c Z H (kvs.map (·.2)) (des.map (·.2))
  | .dit des => ∃ kvs, H a = some (.dT kvs) ∧ kvs.length ≤ sizeLine ∧ kvs.map (·.1) = des.map (·.1) ∧ FzAll c Z H (kvs.map (·.2)) (des.map (·.2))
  | .obj x des => ∃ C dx fs, H a = some (.ins C dx fs) ∧ c.mg x = some (.ref C) ∧ fs.map (·.1) = des.map (·.1) ∧ FzAll c Z H (fs.map (·.2)) (des.map (·.2))
  | .slf x des => c.sf a ∧ ∃ C dx fs, H a = some (.ins C dx fs) ∧ c.mg x = some (.ref C) ∧ fs.map (·.1) = des.map (·.1) ∧ FzAll c Z H (fs.map (·.2)) (des.map (·.2))
  | _ => False
theorem Ow.grow {c : Cn} {Z Z' : Addr → Prop} {H H' : Hp} {a : Addr} {d : D} (g : Grow Z H Z' H') (e : H' a = H a) (h : Ow c Z H a d) : Ow c Z' H' a d := by
  cases d with
  | lst ds => obtain ⟨vs, h1, h2, h3⟩ := h; exact ⟨vs, e.trans h1, h2, h3.grow g⟩
  | dic des => obtain ⟨vs, h1, h2, h3, h4⟩ := h; exact ⟨vs, e.trans h1, h2, h3, h4.grow g⟩
  | dit des => obtain ⟨vs, h1, h2, h3, h4⟩ := h; exact ⟨vs, e.trans h1, h2, h3, h4.grow g⟩
  | obj x des => obtain ⟨C, dx, fs, h1, h2, h3, h4⟩ := h; exact ⟨C, dx, fs, e.trans h1, h2, h3, h4.grow g⟩
  | slf x des => obtain ⟨h0, C, dx, fs, h1, h2, h3, h4⟩ := h; exact ⟨h0, C, dx, fs, e.trans h1, h2, h3, h4.grow g⟩
  | _ => exact h.elim
theorem Ow.sf {K : PySem.W.Frag} {mg : Str → Option Value} {da sf sf' : Addr → Prop} {Z : Addr → Prop} {H : Hp} {a : Addr} {d : D} (hs : sf a → sf' a) (h : Ow ⟨K, mg, da, sf⟩ Z H a d) : Ow ⟨K, mg, da, sf'⟩ Z H a d := by
  cases d with
  | lst ds => obtain ⟨vs, h1, h2, h3⟩ := h; exact ⟨vs, h1, h2, h3.sf⟩
  | dic des => obtain ⟨vs, h1, h2, h3, h4⟩ := h; exact ⟨vs, h1, h2, h3, h4.sf⟩
  | dit des => obtain ⟨vs, h1, h2, h3, h4⟩ := h; exact ⟨vs, h1, h2, h3, h4.sf⟩
  | obj x des => obtain ⟨C, dx, fs, h1, h2, h3, h4⟩ := h; exact ⟨C, dx, fs, h1, h2, h3, h4.sf⟩
  | slf x des => obtain ⟨h0, C, dx, fs, h1, h2, h3, h4⟩ := h; exact ⟨hs h0, C, dx, fs, h1, h2, h3, h4.sf⟩
  | _ => exact h.elim
theorem Ow.there {c : Cn} {Z : Addr → Prop} {H : Hp} {a : Addr} {d : D} (h : Ow c Z H a d) : H a ≠ none := by
  cases d with
  | lst ds => obtain ⟨vs, h1, _⟩ := h; rw [h1]; simp
  | dic des => obtain ⟨vs, h1, _⟩ := h; rw [h1]; simp
  | dit des => obtain ⟨vs, h1, _⟩ := h; rw [h1]; simp
  | obj x des => obtain ⟨C, dx, fs, h1, _⟩ := h; rw [h1]; simp
  | slf x des => obtain ⟨h0, C, dx, fs, h1, _⟩ := h; rw [h1]; simp
  | _ => exact h.elim
theorem pair_keys {κ α β : Type} {xs : List (κ × α)} {ys : List (κ × β)} (h : xs.map (·.1) = ys.map (·.1)) (i : Nat) (p : κ × α) (q : κ × β) (a : xs[i]? = some p) (b : ys[i]? = some q) : p.1 = q.1 := by
  have h1 : (xs.map (·.1))[i]? = some p.1 := by rw [List.getElem?_map, a]; rfl
  have h2 : (ys.map (·.1))[i]? = some q.1 := by rw [List.getElem?_map, b]; rfl
  rw [h, h2] at h1
  exact (Option.some.inj h1).symm
theorem FzAll.snd {κ : Type} {c : Cn} {Z : Addr → Prop} {H : Hp} {xs : List (κ × V)} {ys : List (κ × D)} (h : FzAll c Z H (xs.map (·.2)) (ys.map (·.2))) (i : Nat) (p : κ × V) (q : κ × D) (a : xs[i]? = some p) (b : ys[i]? = some q) : Fz c Z H p.2 q.2 :=
  h.2 i p.2 q.2 (by rw [List.getElem?_map, a]; rfl) (by rw [List.getElem?_map, b]; rfl)
/-- what is owned, once frozen -/
theorem Ow.fz {c : Cn} {Z : Addr → Prop} {H : Hp} {a : Addr} {d : D} (z : Z a) (h : Ow c Z H a d) : Fz c Z H (.ref a) d := by
  cases d with
  | lst ds => obtain ⟨vs, h1, h2, h3⟩ := h; exact .lst z h1 h3.1 h2 h3.2
  | dic des => obtain ⟨vs, h1, h2, h3, h4⟩ := h; exact .dic z h1 (by simpa using h4.1) h2 (pair_keys h3) h4.snd
  | dit des => obtain ⟨vs, h1, h2, h3, h4⟩ := h; exact .dit z h1 (by simpa using h4.1) h2 (pair_keys h3) h4.snd
  | obj x des => obtain ⟨C, dx, fs, h1, h2, h3, h4⟩ := h; exact .obj z h1 h2 (by simpa using h4.1) (pair_keys h3) h4.snd
  | slf x des => obtain ⟨h0, C, dx, fs, h1, h2, h3, h4⟩ := h; exact .slf z h1 h2 (by simpa using h4.1) (pair_keys h3) h4.snd
  | _ => exact h.elim

abbrev Env := List (Option D)

/-- what holds of a run's memory, whatever the names hold -/
structure Bs {S : Type} (F : Fc S) (Z : Addr → Prop) (H : Hp) (s : S) : Prop where
  st : F.md.ok s H
  zd : ∀ a, Z a → H a ≠ none ∧ ¬ F.md.adr a
  z0 : ∀ a, F.Z0 a → Z a
  zn : ∀ a, Z a → F.Z0 a ∨ F.H0 a = none
  sm : ∀ a o, F.H0 a = some o → ¬ F.md.adr a → H a = some o

structure Ok {S : Type} (F : Fc S) (own : List Nat) (Z : Addr → Prop) (H : Hp) (σ : L2.St) (ρ : Env) (s : S) : Prop extends Bs F Z H s where
  fz : ∀ i d, i ∉ own → ρ[i]? = some (some d) → ∃ v, σ[i]? = some (some v) ∧ Fz F.cn Z H v d
  ow : ∀ i d, i ∈ own → ρ[i]? = some (some d) → ∃ a, σ[i]? = some (some (.ref a)) ∧ ¬ Z a ∧ ¬ F.md.adr a ∧ F.H0 a = none ∧ Ow F.cn Z H a d
  sp : ∀ i j d d' a, i ∈ own → j ∈ own → ρ[i]? = some (some d) → ρ[j]? = some (some d') → σ[i]? = some (some (V.ref a)) → σ[j]? = some (some (V.ref a)) → i = j
  ln : ρ.length = σ.length

/-- a step that leaves all that is tracked but the run's own memory -/
structure Ext {S : Type} (F : Fc S) (Z : Addr → Prop) (H : Hp) (Z' : Addr → Prop) (H' : Hp) : Prop where
  z : ∀ a, Z a → Z' a
  zn : ∀ a, Z' a → Z a ∨ H a = none ∨ F.md.adr a
  h : ∀ a o, H a = some o → ¬ F.md.adr a → H' a = some o
section
variable {S : Type} {F : Fc S} {Z Z' Z1 Z2 : Addr → Prop} {H H' H1 H2 : Hp} {σ : L2.St} {ρ : Env} {own : List Nat} {s s' : S} {p : Addr} {o : HO} {v : V} {d : D}
theorem Ext.refl : Ext F Z H Z H := ⟨fun _ h => h, fun _ h => .inl h, fun _ _ h _ => h⟩
theorem Ext.trans (a : Ext F Z H Z1 H1) (b : Ext F Z1 H1 Z2 H2) : Ext F Z H Z2 H2 := ⟨fun x h => b.z x (a.z x h), fun x h => by
    rcases b.zn x h with q | q | q
    · exact a.zn x q
    · cases e : H x with
      | none => exact .inr (.inl rfl)
      | some o =>
        by_cases ha : F.md.adr x
        · exact .inr (.inr ha)
        · rw [a.h x o e ha] at q; cases q
    · exact .inr (.inr q), fun x o h n => b.h x o (a.h x o h n) n⟩
theorem Bs.grow (f : Bs F Z H s) (e : Ext F Z H Z' H') : Grow Z H Z' H' := ⟨e.z, fun a z => by
  obtain ⟨h1, h2⟩ := f.zd a z
  cases q : H a with
  | none => exact absurd q h1
  | some o => exact e.h a o q h2⟩
theorem Bs.nadr (f : Bs F Z H s) (n : H p = none) : ¬ F.md.adr p := fun h => F.md.dom s H p f.st h n
theorem Bs.entry (f : Bs F Z H s) (n : H p = none) : F.H0 p = none := by
  cases q : F.H0 p with
  | none => rfl
  | some o => rw [f.sm p o q (f.nadr n)] at n; cases n
theorem upd_old {q : Addr} (n : H p = none) (h : H q ≠ none) : upd H p o q = H q := upd_ne fun e => by subst e; exact h n
/-- a new object, frozen at once -/
theorem Bs.newZ (f : Bs F Z H s) (n : H p = none) : Bs F (fun a => Z a ∨ a = p) (upd H p o) s where
  st := F.md.frame s H _ f.st fun b hb => upd_old n (F.md.dom s H b f.st hb)
  zd := fun a h => by
    rcases h with h | rfl
    · rw [upd_old n (f.zd a h).1]; exact f.zd a h
    · exact ⟨by rw [upd_same]; simp, f.nadr n⟩
  z0 := fun a h => .inl (f.z0 a h)
  zn := fun a h => by
    rcases h with h | rfl
    · exact f.zn a h
    · exact .inr (f.entry n)
  sm := fun a u h k => by
    have := f.sm a u h k
    rw [upd_old n (by rw [this]; simp)]; exact this
theorem Bs.newO (f : Bs F Z H s) (n : H p = none) : Bs F Z (upd H p o) s where
  st := F.md.frame s H _ f.st fun b hb => upd_old n (F.md.dom s H b f.st hb)
  zd := fun a h => by rw [upd_old n (f.zd a h).1]; exact f.zd a h
  z0 := f.z0
  zn := f.zn
  sm := fun a u h k => by
    have := f.sm a u h k
    rw [upd_old n (by rw [this]; simp)]; exact this
theorem Ext.newZ (n : H p = none) : Ext F Z H (fun a => Z a ∨ a = p) (upd H p o) := ⟨fun _ h => .inl h, fun a h => h.elim .inl fun e => .inr (.inl (by rw [e]; exact n)), fun a u h _ => by rw [upd_old n (by rw [h]; simp)]; exact h⟩
theorem Ext.newO (n : H p = none) : Ext F Z H Z (upd H p o) := ⟨fun _ h => h, fun _ h => .inl h, fun a u h _ => by rw [upd_old n (by rw [h]; simp)]; exact h⟩
/-- the names are as they were behind a step that leaves them -/
theorem Ok.carry (k : Ok F own Z H σ ρ s) (e : Ext F Z H Z' H') (f : Bs F Z' H' s') : Ok F own Z' H' σ ρ s' where
  toBs := f
  fz := fun i d h1 h2 => by
    obtain ⟨v, h3, h4⟩ := k.fz i d h1 h2
    exact ⟨v, h3, h4.grow (k.toBs.grow e)⟩
  ow := fun i d h1 h2 => by
    obtain ⟨a, h3, h4, h5, h6, h7⟩ := k.ow i d h1 h2
    have hs := h7.there
    refine ⟨a, h3, fun z => ?_, h5, h6, h7.grow (k.toBs.grow e) ?_⟩
    · rcases e.zn a z with q | q | q
      · exact h4 q
      · exact hs q
      · exact h5 q
    · cases q : H a with
      | none => exact absurd q hs
      | some o => exact e.h a o q h5
  sp := k.sp
  ln := k.ln
theorem Ok.newZ (k : Ok F own Z H σ ρ s) (n : H p = none) : Ok F own (fun a => Z a ∨ a = p) (upd H p o) σ ρ s :=
  k.carry (Ext.newZ n) (k.toBs.newZ n)
theorem Ok.newO (k : Ok F own Z H σ ρ s) (n : H p = none) : Ok F own Z (upd H p o) σ ρ s :=
  k.carry (Ext.newO n) (k.toBs.newO n)

/-- frozen, or at the top an owned thing that is only looked at -/
def Bz (c : Cn) (adr : Addr → Prop) (Z : Addr → Prop) (H : Hp) (v : V) (d : D) : Prop := Fz c Z H v d ∨ ∃ a, v = .ref a ∧ ¬ adr a ∧ Ow c Z H a d
theorem Bz.ext (f : Bs F Z H s) (e : Ext F Z H Z' H') (h : Bz F.cn F.md.adr Z H v d) : Bz F.cn F.md.adr Z' H' v d := by
  rcases h with h | ⟨a, rfl, n, h⟩
  · exact .inl (h.grow (f.grow e))
  · refine .inr ⟨a, rfl, n, h.grow (f.grow e) ?_⟩
    cases q : H a with
    | none => exact absurd q h.there
    | some o => exact e.h a o q n
/-- new, and held by nothing else -/
def Frs (F : Fc S) (own : List Nat) (σ : L2.St) (ρ : Env) (Hs : Hp) (Z : Addr → Prop) (H : Hp) (v : V) (d : D) : Prop :=
  ∃ a, v = .ref a ∧ ¬ Z a ∧ ¬ F.md.adr a ∧ F.H0 a = none ∧ Ow F.cn Z H a d ∧ Hs a = none ∧ ∀ i d', i ∈ own → ρ[i]? = some (some d') → σ[i]? ≠ some (some (.ref a))
end
inductive Mo where
  | fz | bz | fr
/-- what is known of a value: frozen; looked at; new -/
def Vz {S : Type} (m : Mo) (F : Fc S) (own : List Nat) (σ : L2.St) (ρ : Env) (Hs : Hp) (Z : Addr → Prop) (H : Hp) (v : V) (d : D) : Prop := match m with
  | .fz => Fz F.cn Z H v d
  | .bz => Bz F.cn F.md.adr Z H v d
  | .fr => Frs F own σ ρ Hs Z H v d
section
variable {S : Type} {F : Fc S} {Z Z' Z1 Z2 : Addr → Prop} {H H' H1 H2 : Hp} {σ : L2.St} {ρ : Env} {own : List Nat} {s s' : S} {p : Addr} {o : HO} {v : V} {d : D} {m : Mo}
theorem Vz.bz {Hs : Hp} (h : Vz m F own σ ρ Hs Z H v d) : Bz F.cn F.md.adr Z H v d := by
  cases m with
  | fz => exact .inl h
  | bz => exact h
  | fr => obtain ⟨a, h1, h2, h3, h4, h5, _⟩ := h; exact .inr ⟨a, h1, h3, h5⟩
end

/-! ### exceptions as data -/
def ExcAt (c : Cn) (Z : Addr → Prop) (H : Hp) (x : Exc) (cls : Value) (dd : Option Addr) : Prop :=
  ∃ C, cls = .ref C ∧ c.mg x.cls = some (.ref C) ∧ ((x.fs = [] ∧ dd = none) ∨
    ∃ a fs, dd = some a ∧ H a = some (.xd fs) ∧ fs.map (·.1) = x.fs.map (·.1) ∧ FzAll c Z H (fs.map (·.2)) (x.fs.map (·.2)))

theorem ExcAt.sf {K : PySem.W.Frag} {mg : Str → Option Value} {da sf sf' : Addr → Prop} {Z : Addr → Prop} {H : Hp} {x : Exc} {cls : Value} {dd : Option Addr} (h : ExcAt ⟨K, mg, da, sf⟩ Z H x cls dd) : ExcAt ⟨K, mg, da, sf'⟩ Z H x cls dd := by
  obtain ⟨C, h1, h2, h3⟩ := h
  refine ⟨C, h1, h2, h3.imp id ?_⟩
  rintro ⟨a, fs, q1, q2, q3, q4⟩
  exact ⟨a, fs, q1, q2, q3, q4.sf⟩
/-! ### judgements -/
inductive Fl where
  | nx | rt (d : D) | bk | ct

section
variable {S : Type}
def PostE (F : Fc S) (own : List Nat) (W : WX) (m : Mo) (Z : Addr → Prop) (H : Hp) (σ : L2.St) (ρ : Env) (Q : VK) : Option (Except Exc D × S) → Prop
  | some (.ok d, s') => ∀ v H' Z', Ext F Z H Z' H' → Ok F own Z' H' σ ρ s' → Vz m F own σ ρ H Z' H' v d → Q v H'
  | some (.error x, s') => ∀ cls dd H' Z', Bs F Z' H' s' → ExcAt F.cn Z' H' x cls dd → W cls dd σ H'
  | none => False
/-- the reading t of an expression is the function f of the names' data -/
def Ev (F : Fc S) (own : List Nat) (W : WX) (m : Mo) (t : TE) (f : Env → M S D) : Prop :=
  ∀ σ H Z ρ s Q, Ok F own Z H σ ρ s → PostE F own W m Z H σ ρ Q (f ρ s) → t σ H Q
structure DE (X : Cx) (F : Fc S) (own : List Nat) (W : WX) (m : Mo) (e : Expr) (t : TE) (f : Env → M S D) : Prop where
  pe : PE X e t
  ev : Ev F own W m t f
def PostT (F : Fc S) (own : List Nat) (W : WX) (Z : Addr → Prop) (H : Hp) (σ : L2.St) (ρ : Env) (Q : Bool → Hp → Prop) : Option (Except Exc Bool × S) → Prop
  | some (.ok b, s') => ∀ H' Z', Ext F Z H Z' H' → Ok F own Z' H' σ ρ s' → Q b H'
  | some (.error x, s') => ∀ cls dd H' Z', Bs F Z' H' s' → ExcAt F.cn Z' H' x cls dd → W cls dd σ H'
  | none => False
def EvT (F : Fc S) (own : List Nat) (W : WX) (t : TT) (f : Env → M S Bool) : Prop :=
  ∀ σ H Z ρ s Q, Ok F own Z H σ ρ s → PostT F own W Z H σ ρ Q (f ρ s) → t σ H Q
structure DT (X : Cx) (F : Fc S) (own : List Nat) (W : WX) (e : Expr) (t : TT) (f : Env → M S Bool) : Prop where
  pt : PT X e t
  ev : EvT F own W t f
def PostA (F : Fc S) (own : List Nat) (W : WX) (Z : Addr → Prop) (H : Hp) (σ : L2.St) (ρ : Env) (Q : List V → Hp → Prop) : Option (Except Exc (List D) × S) → Prop
  | some (.ok ds, s') => ∀ vs H' Z', Ext F Z H Z' H' → Ok F own Z' H' σ ρ s' → FzAll F.cn Z' H' vs ds → Q vs H'
  | some (.error x, s') => ∀ cls dd H' Z', Bs F Z' H' s' → ExcAt F.cn Z' H' x cls dd → W cls dd σ H'
  | none => False
def EvA (F : Fc S) (own : List Nat) (W : WX) (t : TA) (f : Env → M S (List D)) : Prop :=
  ∀ σ H Z ρ s Q, Ok F own Z H σ ρ s → PostA F own W Z H σ ρ Q (f ρ s) → t σ H Q
structure DA (X : Cx) (F : Fc S) (own : List Nat) (W : WX) (es : List Expr) (t : TA) (f : Env → M S (List D)) : Prop where
  pa : PA X es t
  ev : EvA F own W t f
/-- what comes back of a def: frozen, or new and owned -/
def Res (fr : Bool) (F : Fc S) (Z : Addr → Prop) (H : Hp) (v : V) (d : D) : Prop :=
  if fr then ∃ a, v = .ref a ∧ ¬ Z a ∧ ¬ F.md.adr a ∧ F.H0 a = none ∧ Ow F.cn Z H a d else Fz F.cn Z H v d
def PostS (F : Fc S) (own' oL : List Nat) (W : WX) (fr : Bool) (Z : Addr → Prop) (H : Hp) (D : Ends) : Option (Except Exc (Fl × Env) × S) → Prop
  | some (.ok (.nx, ρ'), s') => ∀ σ' H' Z', Grow Z H Z' H' → Ok F own' Z' H' σ' ρ' s' → D.nx σ' H'
  | some (.ok (.bk, ρ'), s') => ∀ σ' H' Z', Grow Z H Z' H' → Ok F oL Z' H' σ' ρ' s' → D.bk σ' H'
  | some (.ok (.ct, ρ'), s') => ∀ σ' H' Z', Grow Z H Z' H' → Ok F oL Z' H' σ' ρ' s' → D.ct σ' H'
  | some (.ok (.rt d, _), s') => ∀ v H' Z', Bs F Z' H' s' → Res fr F Z' H' v d → D.rt v H'
  | some (.error x, s') => ∀ cls dd σ' H' Z', Bs F Z' H' s' → ExcAt F.cn Z' H' x cls dd → W cls dd σ' H'
  | none => False
def EvS (F : Fc S) (own own' oL : List Nat) (W : WX) (fr : Bool) (t : TS) (f : Env → M S (Fl × Env)) : Prop :=
  ∀ σ H Z ρ s D, Ok F own Z H σ ρ s → PostS F own' oL W fr Z H D (f ρ s) → t D σ H
structure DS (X : Cx) (F : Fc S) (own own' oL : List Nat) (W : WX) (fr : Bool) (st : Stmt) (t : TS) (f : Env → M S (Fl × Env)) : Prop where
  ps : PS X st t
  ev : EvS F own own' oL W fr t f
structure DSs (X : Cx) (F : Fc S) (own own' oL : List Nat) (W : WX) (fr : Bool) (sts : List Stmt) (t : TS) (f : Env → M S (Fl × Env)) : Prop where
  ps : PSs X sts t
  ev : EvS F own own' oL W fr t f
end
end DL

namespace DL
open PySem L2 PySem.Spec PyProof.Rows

section
variable {S : Type} {X : Cx} {F : Fc S} {Z Z' Z1 Z2 : Addr → Prop} {H H' H1 H2 : Hp} {σ : L2.St} {ρ : Env} {own : List Nat} {s s' : S} {p : Addr} {o : HO} {v : V} {d : D} {m m' m1 m2 : Mo} {W : WX} {Q : VK}
variable {a b c e : Expr} {ta tb tc te : TE} {fa fb fc fe : Env → M S D} {pos : Pos}

theorem PostE.from (x : Ext F Z H Z1 H1) {r : Option (Except Exc D × S)} (h : PostE F own W m Z H σ ρ Q r) : PostE F own W m Z1 H1 σ ρ Q r := by
  match r, h with
  | none, h => exact h
  | some (.ok d, s'), h =>
    intro v H' Z' e k z
    refine h v H' Z' (x.trans e) k ?_
    cases m with
    | fz => exact z
    | bz => exact z
    | fr =>
      obtain ⟨a, h1, h2, h3, h4, h5, h6, h7⟩ := z
      refine ⟨a, h1, h2, h3, h4, h5, ?_, h7⟩
      cases q : H a with
      | none => rfl
      | some o => rw [x.h a o q h3] at h6; cases h6
  | some (.error y, s'), h => exact h
theorem PostT.from (x : Ext F Z H Z1 H1) {Q : Bool → Hp → Prop} {r : Option (Except Exc Bool × S)} (h : PostT F own W Z H σ ρ Q r) : PostT F own W Z1 H1 σ ρ Q r := by
  match r, h with
  | none, h => exact h
  | some (.ok d, s'), h => exact fun H' Z' e => h H' Z' (x.trans e)
  | some (.error y, s'), h => exact h
theorem PostA.from (x : Ext F Z H Z1 H1) {Q : List V → Hp → Prop} {r : Option (Except Exc (List D) × S)} (h : PostA F own W Z H σ ρ Q r) : PostA F own W Z1 H1 σ ρ Q r := by
  match r, h with
  | none, h => exact h
  | some (.ok d, s'), h => exact fun v H' Z' e => h v H' Z' (x.trans e)
  | some (.error y, s'), h => exact h
/-- a value at hand -/
theorem PostE.val (h : PostE F own W m Z H σ ρ Q (ret d s)) (k : Ok F own Z H σ ρ s) (z : Vz m F own σ ρ H Z H v d) : Q v H := h v H Z Ext.refl k z
/-- two in a row -/
theorem Ev.bind {m' : Mo} {g : Env → D → M S D} {K : V → L2.St → Hp → VK → Prop} (ha : Ev F own W m ta fa)
    (hk : ∀ v d Hs Z H σ ρ s Q, Ok F own Z H σ ρ s → Vz m F own σ ρ Hs Z H v d → PostE F own W m' Z H σ ρ Q (g ρ d s) → K v σ H Q) :
    Ev F own W m' (fun σ H Q => ta σ H fun x H1 => K x σ H1 Q) (fun ρ => bnd (fa ρ) (g ρ)) := by
  intro σ H Z ρ s Q k h
  refine ha σ H Z ρ s _ k ?_
  dsimp only [bnd] at h
  match e : fa ρ s, h with
  | none, h => exact h
  | some (.error y, s'), h => exact h
  | some (.ok d, s'), h => exact fun v H' Z' x k' z => hk v d _ Z' H' σ ρ s' Q k' z (h.from x)
theorem Ev.bindT {fT : Env → M S Bool} {t : TT} {m' : Mo} {g : Env → Bool → M S D} {K : Bool → L2.St → Hp → VK → Prop} (ha : EvT F own W t fT)
    (hk : ∀ d Z H σ ρ s Q, Ok F own Z H σ ρ s → PostE F own W m' Z H σ ρ Q (g ρ d s) → K d σ H Q) :
    Ev F own W m' (fun σ H Q => t σ H fun x H1 => K x σ H1 Q) (fun ρ => bnd (fT ρ) (g ρ)) := by
  intro σ H Z ρ s Q k h
  refine ha σ H Z ρ s _ k ?_
  dsimp only [bnd] at h
  match e : fT ρ s, h with
  | none, h => exact h
  | some (.error y, s'), h => exact h
  | some (.ok d, s'), h => exact fun H' Z' x k' => hk d Z' H' σ ρ s' Q k' (h.from x)
theorem Ev.bindA {fA : Env → M S (List D)} {t : TA} {m' : Mo} {g : Env → List D → M S D} {K : List V → L2.St → Hp → VK → Prop} (ha : EvA F own W t fA)
    (hk : ∀ vs ds Z H σ ρ s Q, Ok F own Z H σ ρ s → FzAll F.cn Z H vs ds → PostE F own W m' Z H σ ρ Q (g ρ ds s) → K vs σ H Q) :
    Ev F own W m' (fun σ H Q => t σ H fun x H1 => K x σ H1 Q) (fun ρ => bnd (fA ρ) (g ρ)) := by
  intro σ H Z ρ s Q k h
  refine ha σ H Z ρ s _ k ?_
  dsimp only [bnd] at h
  match e : fA ρ s, h with
  | none, h => exact h
  | some (.error y, s'), h => exact h
  | some (.ok d, s'), h => exact fun vs H' Z' x k' z => hk vs d Z' H' σ ρ s' Q k' z (h.from x)
theorem EvT.bind {g : Env → D → M S Bool} {K : V → L2.St → Hp → (Bool → Hp → Prop) → Prop} (ha : Ev F own W m ta fa)
    (hk : ∀ v d Hs Z H σ ρ s Q, Ok F own Z H σ ρ s → Vz m F own σ ρ Hs Z H v d → PostT F own W Z H σ ρ Q (g ρ d s) → K v σ H Q) :
    EvT F own W (fun σ H Q => ta σ H fun x H1 => K x σ H1 Q) (fun ρ => bnd (fa ρ) (g ρ)) := by
  intro σ H Z ρ s Q k h
  refine ha σ H Z ρ s _ k ?_
  dsimp only [bnd] at h
  match e : fa ρ s, h with
  | none, h => exact h
  | some (.error y, s'), h => exact h
  | some (.ok d, s'), h => exact fun v H' Z' x k' z => hk v d _ Z' H' σ ρ s' Q k' z (h.from x)
theorem EvT.bindT {fT : Env → M S Bool} {t : TT} {g : Env → Bool → M S Bool} {K : Bool → L2.St → Hp → (Bool → Hp → Prop) → Prop} (ha : EvT F own W t fT)
    (hk : ∀ d Z H σ ρ s Q, Ok F own Z H σ ρ s → PostT F own W Z H σ ρ Q (g ρ d s) → K d σ H Q) :
    EvT F own W (fun σ H Q => t σ H fun x H1 => K x σ H1 Q) (fun ρ => bnd (fT ρ) (g ρ)) := by
  intro σ H Z ρ s Q k h
  refine ha σ H Z ρ s _ k ?_
  dsimp only [bnd] at h
  match e : fT ρ s, h with
  | none, h => exact h
  | some (.error y, s'), h => exact h
  | some (.ok d, s'), h => exact fun H' Z' x k' => hk d Z' H' σ ρ s' Q k' (h.from x)
theorem EvA.bind {g : Env → D → M S (List D)} {K : V → L2.St → Hp → (List V → Hp → Prop) → Prop} (ha : Ev F own W m ta fa)
    (hk : ∀ v d Hs Z H σ ρ s Q, Ok F own Z H σ ρ s → Vz m F own σ ρ Hs Z H v d → PostA F own W Z H σ ρ Q (g ρ d s) → K v σ H Q) :
    EvA F own W (fun σ H Q => ta σ H fun x H1 => K x σ H1 Q) (fun ρ => bnd (fa ρ) (g ρ)) := by
  intro σ H Z ρ s Q k h
  refine ha σ H Z ρ s _ k ?_
  dsimp only [bnd] at h
  match e : fa ρ s, h with
  | none, h => exact h
  | some (.error y, s'), h => exact h
  | some (.ok d, s'), h => exact fun v H' Z' x k' z => hk v d _ Z' H' σ ρ s' Q k' z (h.from x)

/-! ### changes of mode -/
theorem Bs.freeze (f : Bs F Z H s) (h : H p ≠ none) (n : ¬ F.md.adr p) (h0 : F.H0 p = none) : Bs F (fun a => Z a ∨ a = p) H s where
  st := f.st
  zd := fun a z => by
    rcases z with z | rfl
    · exact f.zd a z
    · exact ⟨h, n⟩
  z0 := fun a z => .inl (f.z0 a z)
  zn := fun a z => by
    rcases z with z | rfl
    · exact f.zn a z
    · exact .inr h0
  sm := f.sm
theorem Grow.freeze : Grow Z H (fun a => Z a ∨ a = p) H := ⟨fun _ h => .inl h, fun _ _ => rfl⟩
/-- a new thing is frozen -/
theorem Ok.freezeNew (k : Ok F own Z H σ ρ s) (h : H p ≠ none) (n : ¬ F.md.adr p) (h0 : F.H0 p = none) (hs : ∀ i d', i ∈ own → ρ[i]? = some (some d') → σ[i]? ≠ some (some (.ref p))) : Ok F own (fun a => Z a ∨ a = p) H σ ρ s where
  toBs := k.toBs.freeze h n h0
  fz := fun i d h1 h2 => by
    obtain ⟨v, h3, h4⟩ := k.fz i d h1 h2
    exact ⟨v, h3, h4.grow Grow.freeze⟩
  ow := fun i d h1 h2 => by
    obtain ⟨a, h3, h4, h5, h6, h7⟩ := k.ow i d h1 h2
    refine ⟨a, h3, fun z => ?_, h5, h6, h7.grow Grow.freeze rfl⟩
    rcases z with z | rfl
    · exact h4 z
    · exact hs i d h1 h2 h3
  sp := k.sp
  ln := k.ln
theorem Ev.frz {t : TE} {f : Env → M S D} (h : Ev F own W .fr t f) : Ev F own W .fz t f := by
  intro σ H Z ρ s Q k q
  refine h σ H Z ρ s Q k ?_
  match e : f ρ s, q with
  | none, q => exact q
  | some (.error y, s'), q => exact q
  | some (.ok d, s'), q =>
    intro v H' Z' x k' z
    obtain ⟨a, rfl, h2, h3, h4, h5, h6, h7⟩ := z
    refine q _ H' (fun b => Z' b ∨ b = a) ⟨fun b hb => .inl (x.z b hb), fun b hb => ?_, x.h⟩ (k'.freezeNew h5.there h3 h4 h7) (Ow.fz (.inr rfl) (h5.grow Grow.freeze rfl))
    rcases hb with hb | rfl
    · exact x.zn b hb
    · exact .inr (.inl h6)
theorem Ev.look {t : TE} {f : Env → M S D} (h : Ev F own W m t f) : Ev F own W .bz t f := by
  intro σ H Z ρ s Q k q
  refine h σ H Z ρ s Q k ?_
  match e : f ρ s, q with
  | none, q => exact q
  | some (.error y, s'), q => exact q
  | some (.ok d, s'), q => exact fun v H' Z' x k' z => q v H' Z' x k' z.bz
theorem DE.frz {t : TE} {f : Env → M S D} (h : DE X F own W .fr e t f) : DE X F own W .fz e t f := ⟨h.pe, h.ev.frz⟩
theorem DE.look {t : TE} {f : Env → M S D} (h : DE X F own W m e t f) : DE X F own W .bz e t f := ⟨h.pe, h.ev.look⟩
/-- one of two readings -/
def tEither (t u : TE) : TE := fun σ H Q => t σ H Q ∨ u σ H Q
theorem pe_either {t u : TE} (h1 : PE X e t) (h2 : PE X e u) : PE X e (tEither t u) := ⟨fun pins s σ H Q I h => h.elim (h1.run pins s σ H Q I) (h2.run pins s σ H Q I)⟩

/-! ### names, constants -/
def vr (i : Nat) : Env → M S D := fun ρ => match ρ[i]? with
  | some (some d) => ret d
  | _ => stk
def cst (d : D) : Env → M S D := fun _ => ret d
theorem ev_var {i : Nat} (hi : i ∉ own) : Ev F own W .fz (tVar i) (vr i) := by
  intro σ H Z ρ s Q k h
  dsimp only [vr] at h
  match e : ρ[i]?, h with
  | none, h => exact h.elim
  | some none, h => exact h.elim
  | some (some d), h =>
    obtain ⟨v, h1, h2⟩ := k.fz i d hi e
    exact ⟨v, h1, h v H Z Ext.refl k h2⟩
theorem ev_varO {i : Nat} (hi : i ∈ own) : Ev F own W .bz (tVar i) (vr i) := by
  intro σ H Z ρ s Q k h
  dsimp only [vr] at h
  match e : ρ[i]?, h with
  | none, h => exact h.elim
  | some none, h => exact h.elim
  | some (some d), h =>
    obtain ⟨a, h1, h2, h3, h4, h5⟩ := k.ow i d hi e
    exact ⟨_, h1, h _ H Z Ext.refl k (.inr ⟨a, rfl, h3, h5⟩)⟩
theorem de_var {i : Nat} {x : Str} (hi : i ∉ own := by decide) (hN : X.N[i]? = some x := by rfl) (hv : Vis X.env.scope x := by first | exact Or.inl rfl | exact Or.inr (Or.inl rfl) | exact Or.inr (Or.inr rfl)) (hd : (x == ("__debug__" : Str)) = false := by decide)
    (hcd : (x == ("__classdict__" : Str)) = false := by decide) : DE X F own W .fz (.Name x pos) (tVar i) (vr i) := ⟨pe_var hN hv hd hcd, ev_var hi⟩
theorem de_varO {i : Nat} {x : Str} (hi : i ∈ own := by decide) (hN : X.N[i]? = some x := by rfl) (hv : Vis X.env.scope x := by first | exact Or.inl rfl | exact Or.inr (Or.inl rfl) | exact Or.inr (Or.inr rfl)) (hd : (x == ("__debug__" : Str)) = false := by decide)
    (hcd : (x == ("__classdict__" : Str)) = false := by decide) : DE X F own W .bz (.Name x pos) (tVar i) (vr i) := ⟨pe_var hN hv hd hcd, ev_varO hi⟩
theorem ev_cst (h : ∀ Z H, Fz F.cn Z H v d) : Ev F own W .fz (tC v) (cst d) := fun σ H Z ρ s Q k q => q v H Z Ext.refl k (h Z H)
theorem de_int {i : Int} {j : Nat} : DE X F own W .fz (.Constant (.int i) j pos) (tC (.int i)) (cst (.int i)) := ⟨pe_int, ev_cst fun _ _ => .int i⟩
theorem de_bl {i : Bool} {j : Nat} : DE X F own W .fz (.Constant (.bool i) j pos) (tC (.bl i)) (cst (.bl i)) := ⟨pe_bl, ev_cst fun _ _ => .bl i⟩
theorem de_non {j : Nat} : DE X F own W .fz (.Constant .none j pos) (tC .non) (cst .non) := ⟨pe_non, ev_cst fun _ _ => .non⟩
theorem de_str {x : Str} {j : Nat} : DE X F own W .fz (.Constant (.str x) j pos) (tC (.str x)) (cst (.str x)) := ⟨pe_str, ev_cst fun _ _ => .str x⟩
/-- a constant of the module -/
theorem de_glob {x : Str} {u : Value} (hg : Gl X x) (hm : X.mg x = some u) (r : RelV v u) (h : ∀ Z H, Fz F.cn Z H v d) (hd : (x == ("__debug__" : Str)) = false := by decide) : DE X F own W .fz (.Name x pos) (tC v) (cst d) := ⟨pe_glob hg hm r hd, ev_cst h⟩
/-- a built-in class as a value -/
theorem de_bty {x : Str} {n : String} (hg : Gl X x) (hm : X.mg x = none) (hv : bootBuiltins x = some (.type n)) (hn : x ≠ "__name__" := by decide) (hd : (x == ("__debug__" : Str)) = false := by decide) :
    DE X F own W .fz (.Name x pos) (tC (.ty n)) (cst (.ty n)) := ⟨pe_bltn hg hm hv rfl hn hd, ev_cst fun _ _ => .ty n⟩

/-! ### operators -/
def o2 (g : D → D → Option D) (fa fb : Env → M S D) : Env → M S D := fun ρ => bnd (fa ρ) fun x => bnd (fb ρ) fun y => lft (g x y)
def o1 (g : D → Option D) (fa : Env → M S D) : Env → M S D := fun ρ => bnd (fa ρ) fun x => lft (g x)
/-- the rule r does what g says -/
def Op2 (F : Fc S) (own : List Nat) (W : WX) (m : Mo) (r : R2) (g : D → D → Option D) : Prop :=
  ∀ v u x y d Z H σ ρ s Q, g x y = some d → Ok F own Z H σ ρ s → Bz F.cn F.md.adr Z H v x → Bz F.cn F.md.adr Z H u y → PostE F own W m Z H σ ρ Q (ret d s) → r v u H Q
def Op1 (F : Fc S) (own : List Nat) (W : WX) (m : Mo) (r : V → Hp → VK → Prop) (g : D → Option D) : Prop :=
  ∀ v x d Z H σ ρ s Q, g x = some d → Ok F own Z H σ ρ s → Bz F.cn F.md.adr Z H v x → PostE F own W m Z H σ ρ Q (ret d s) → r v H Q
theorem Ev.carry2 (ha : Ev F own W m1 ta fa) (hb : Ev F own W m2 tb fb) {g : D → D → M S D} {K : V → V → Hp → VK → Prop}
    (hk : ∀ v u x y Z H σ ρ s Q, Ok F own Z H σ ρ s → Bz F.cn F.md.adr Z H v x → Bz F.cn F.md.adr Z H u y → PostE F own W m Z H σ ρ Q (g x y s) → K v u H Q) :
    Ev F own W m (fun σ H Q => ta σ H fun x H1 => tb σ H1 fun y H2 => K x y H2 Q) (fun ρ => bnd (fa ρ) fun x => bnd (fb ρ) fun y => g x y) := by
  refine ha.bind (g := fun ρ x => bnd (fb ρ) fun y => g x y) (K := fun x σ H1 Q => tb σ H1 fun y H2 => K x y H2 Q) fun v x Hs Z H σ ρ s Q k z h => ?_
  have zb := z.bz
  refine hb σ H Z ρ s _ k ?_
  dsimp only [bnd] at h
  match e : fb ρ s, h with
  | none, h => exact h
  | some (.error y, s'), h => exact h
  | some (.ok d, s'), h => exact fun u H' Z' x' k' z' => hk v u x d Z' H' σ ρ s' Q k' (zb.ext k.toBs x') z'.bz (h.from x')
theorem ev_op2 {r : R2} {g : D → D → Option D} (hr : Op2 F own W m r g) (ha : Ev F own W m1 ta fa) (hb : Ev F own W m2 tb fb) : Ev F own W m (tOp r ta tb) (o2 g fa fb) := by
  refine ha.carry2 hb (g := fun x y => lft (g x y)) (K := r) fun v u x y Z H σ ρ s Q k z1 z2 h => ?_
  match e : g x y, h with
  | none, h => exact h.elim
  | some d, h => exact hr v u x y d Z H σ ρ s Q e k z1 z2 h
theorem de_op {op : Operator} {r : R2} {g : D → D → Option D} (ho : OpR X (binaryOp op) r) (hr : Op2 F own W m r g) (ha : DE X F own W m1 a ta fa) (hb : DE X F own W m2 b tb fb) : DE X F own W m (.BinOp a op b pos) (tOp r ta tb) (o2 g fa fb) :=
  ⟨pe_op ho ha.pe hb.pe, ev_op2 hr ha.ev hb.ev⟩
theorem ev_op1 {r : V → Hp → VK → Prop} {g : D → Option D} (hr : Op1 F own W m r g) (ha : Ev F own W m1 ta fa) : Ev F own W m (tUn r ta) (o1 g fa) := by
  refine ha.bind (g := fun _ x => lft (g x)) (K := fun x _ H Q => r x H Q) fun v x Hs Z H σ ρ s Q k z h => ?_
  match e : g x, h with
  | none, h => exact h.elim
  | some d, h => exact hr v x d Z H σ ρ s Q e k z.bz h
theorem Op2.or {r r' : R2} {g g' : D → D → Option D} (h : Op2 F own W m r g) (h' : Op2 F own W m r' g') : Op2 F own W m (fun x y H Q => r x y H Q ∨ r' x y H Q) (fun x y => (g x y).or (g' x y)) := by
  intro v u x y d Z H σ ρ s Q e k z1 z2 q
  dsimp only at e
  cases e1 : g x y with
  | some w => rw [e1] at e; cases e; exact .inl (h v u x y _ Z H σ ρ s Q e1 k z1 z2 q)
  | none => rw [e1] at e; exact .inr (h' v u x y d Z H σ ρ s Q e k z1 z2 q)

/-! what is looked at, by kind -/
theorem Bz.int_ {adr : Addr → Prop} {c : Cn} {i : Int} (h : Bz c adr Z H v (.int i)) : v = .int i := by
  rcases h with h | ⟨a, _, _, h⟩
  · cases h; rfl
  · exact h.elim
theorem Bz.bl_ {adr : Addr → Prop} {c : Cn} {i : Bool} (h : Bz c adr Z H v (.bl i)) : v = .bl i := by
  rcases h with h | ⟨a, _, _, h⟩
  · cases h; rfl
  · exact h.elim
theorem Bz.str_ {adr : Addr → Prop} {c : Cn} {i : Str} (h : Bz c adr Z H v (.str i)) : v = .str i := by
  rcases h with h | ⟨a, _, _, h⟩
  · cases h; rfl
  · exact h.elim
theorem Bz.non_ {adr : Addr → Prop} {c : Cn} (h : Bz c adr Z H v .non) : v = .non := by
  rcases h with h | ⟨a, _, _, h⟩
  · cases h; rfl
  · exact h.elim
theorem Bz.ty_ {adr : Addr → Prop} {c : Cn} {n : String} (h : Bz c adr Z H v (.ty n)) : v = .ty n := by
  rcases h with h | ⟨a, _, _, h⟩
  · cases h; rfl
  · exact h.elim
theorem Bz.lst_ {adr : Addr → Prop} {c : Cn} {ds : List D} (h : Bz c adr Z H v (.lst ds)) : ∃ a vs, v = .ref a ∧ H a = some (.lst vs) ∧ vs.length ≤ sizeLine ∧ FzAll c Z H vs ds := by
  rcases h with h | ⟨a, e, _, vs, h1, h2, h3⟩
  · cases h with
    | lst h1 h2 h3 h4 h5 => exact ⟨_, _, rfl, h2, h4, h3, h5⟩
  · exact ⟨a, vs, e, h1, h2, h3⟩
theorem Bz.tup_ {adr : Addr → Prop} {c : Cn} {ds : List D} (h : Bz c adr Z H v (.tup ds)) : ∃ a vs, v = .ref a ∧ TupAt c.K Z H a vs ∧ vs.length ≤ sizeLine ∧ FzAll c Z H vs ds := by
  rcases h with h | ⟨a, e, _, h1⟩
  · cases h with
    | tup h1 h2 h3 h4 => exact ⟨_, _, rfl, h1, h3, h2, h4⟩
  · exact h1.elim
theorem Bz.scr_ {adr : Addr → Prop} {c : Cn} {ns : List Int} (h : Bz c adr Z H v (.scr ns)) : ∃ a, v = .ref a ∧ ScrAt c.K Z H a (ns.map V.int) ∧ ns.length ≤ 63 := by
  rcases h with h | ⟨a, e, _, h1⟩
  · cases h with
    | scr h1 h2 => exact ⟨_, rfl, h1, h2⟩
  · exact h1.elim
/-- a new tuple -/
theorem PostE.newT {vs : List V} {ds : List D} (h : PostE F own W .fz Z H σ ρ Q (ret (.tup ds) s)) (k : Ok F own Z H σ ρ s) (z : FzAll F.cn Z H vs ds) (hl : vs.length ≤ sizeLine) : ∀ p, H p = none → Q (.ref p) (upd H p (.tup vs)) := fun p n =>
  h (.ref p) _ _ (Ext.newZ n) (k.newZ n) (by
    have z' := z.grow (k.toBs.grow (Ext.newZ (o := .tup vs) n))
    exact .tup (.inl ⟨.inr rfl, upd_same⟩) z'.1 hl z'.2)
/-- a new list -/
theorem PostE.newL {vs : List V} {ds : List D} (h : PostE F own W .fr Z H σ ρ Q (ret (.lst ds) s)) (k : Ok F own Z H σ ρ s) (z : FzAll F.cn Z H vs ds) (hl : vs.length ≤ sizeLine) : ∀ p, H p = none → Q (.ref p) (upd H p (.lst vs)) := fun p n =>
  h (.ref p) _ Z (Ext.newO n) (k.newO n) ⟨p, rfl, fun z => (k.zd p z).1 n, k.toBs.nadr n, k.toBs.entry n, ⟨vs, upd_same, hl, z.grow (k.toBs.grow (Ext.newO n))⟩, n, fun i d' h1 h2 h3 => by
    obtain ⟨a, q1, _, _, _, q5⟩ := k.ow i d' h1 h2
    rw [h3] at q1
    cases q1
    exact q5.there n⟩
end
end DL

namespace DL
open PySem L2 PySem.Spec PyProof.Rows

/-! ### the operators on data -/
def okLen (n : Nat) : Bool := decide (n ≤ sizeLine)
def okMul (i j : Int) : Bool := decide ((-(2 ^ 64) < i ∧ i < 2 ^ 64) ∨ (-(2 ^ 64) < j ∧ j < 2 ^ 64))
def dAdd : D → D → Option D
  | .int i, .int j => some (.int (i + j))
  | .str a, .str b => if a.length + b.length ≤ sizeLine then some (.str (a ++ b)) else none
  | .tup a, .tup b => if a.length + b.length ≤ sizeLine then some (.tup (a ++ b)) else none
  | .lst a, .lst b => if a.length + b.length ≤ sizeLine then some (.lst (a ++ b)) else none
  | _, _ => none
def dCat : D → D → Option D
  | .lst a, .lst b => if a.length + b.length ≤ sizeLine then some (.lst (a ++ b)) else none
  | _, _ => none
def dSub : D → D → Option D
  | .int i, .int j => some (.int (i - j))
  | _, _ => none
def dMul : D → D → Option D
  | .int i, .int j => if okMul i j = true then some (.int (i * j)) else none
  | _, _ => none
def dDiv : D → D → Option D
  | .int i, .int j => if 0 < j ∧ j < 1073741824 then some (.int (i / j)) else none
  | _, _ => none
def dMod : D → D → Option D
  | .int i, .int j => if 0 < j then some (.int (i % j)) else none
  | _, _ => none
def dPow : D → D → Option D
  | .int i, .int j => if 0 ≤ j ∧ j ≤ 1000000 ∧ i.natAbs < 2 ^ 64 then some (.int (i ^ j.toNat)) else none
  | _, _ => none
def dNeg : D → Option D
  | .int i => some (.int (-i))
  | _ => none
def sLt (a b : Str) : Bool := decide (a.cps.toList < b.cps.toList)
def dLt : D → D → Option D
  | .int i, .int j => some (.bl (decide (i < j)))
  | .str a, .str b => some (.bl (sLt a b))
  | _, _ => none
def dLe : D → D → Option D
  | .int i, .int j => some (.bl (decide (i ≤ j)))
  | .str a, .str b => some (.bl (!sLt b a))
  | _, _ => none
def dGt : D → D → Option D
  | .int i, .int j => some (.bl (decide (j < i)))
  | .str a, .str b => some (.bl (sLt b a))
  | _, _ => none
def dGe : D → D → Option D
  | .int i, .int j => some (.bl (decide (j ≤ i)))
  | .str a, .str b => some (.bl (!sLt a b))
  | _, _ => none
def dIsN : D → D → Option D
  | .non, .non => some (.bl true)
  | _, .non => some (.bl false)
  | _, _ => none
def dNotN : D → D → Option D
  | .non, .non => some (.bl false)
  | _, .non => some (.bl true)
  | _, _ => none
mutual
def toPy : D → Option PyData
  | .non => some .none
  | .bl b => some (.bool b)
  | .int i => some (.int i)
  | .str x => some (.str x)
  | .lst ds => match toPys ds with
    | some xs => some (.list xs)
    | none => none
  | .tup ds => match toPys ds with
    | some xs => some (.tuple xs)
    | none => none
  | _ => none
def toPys : List D → Option (List PyData)
  | [] => some []
  | d :: ds => match toPy d, toPys ds with
    | some x, some xs => some (x :: xs)
    | _, _ => none
end
/-- == of plain data; an instance is no plain datum -/
def strs2 : D → D → Option Bool
  | .str a, .str b => some (a == b)
  | _, _ => none
def dEqG (x y : D) : Option Bool := match toPy x, toPy y with
  | some a, some b => if SeqAt.shaped a = true ∧ SeqAt.shaped b = true then some (PyData.eqv a b) else none
  | _, _ => none
def dEqB (x y : D) : Option Bool := match strs2 x y with
  | some r => some r
  | none => dEqG x y
def dEq (x y : D) : Option D := (dEqB x y).map .bl
def dNe (x y : D) : Option D := (dEqB x y).map fun b => .bl (!b)

section
variable {S : Type} {X : Cx} {F : Fc S} {Z Z' Z1 Z2 : Addr → Prop} {H H' H1 H2 : Hp} {σ : L2.St} {ρ : Env} {own : List Nat} {s s' : S} {p : Addr} {o : HO} {v : V} {d : D} {m m' m1 m2 : Mo} {W : WX} {Q : VK}
variable {a b c e : Expr} {ta tb tc te : TE} {fa fb fc fe : Env → M S D} {pos : Pos}
theorem PostE.newLz {vs : List V} {ds : List D} (h : PostE F own W .fz Z H σ ρ Q (ret (.lst ds) s)) (k : Ok F own Z H σ ρ s) (z : FzAll F.cn Z H vs ds) (hl : vs.length ≤ sizeLine) : ∀ p, H p = none → Q (.ref p) (upd H p (.lst vs)) := fun p n =>
  h (.ref p) _ _ (Ext.newZ n) (k.newZ n) (by
    have z' := z.grow (k.toBs.grow (Ext.newZ (o := .lst vs) n))
    exact .lst (.inr rfl) upd_same z'.1 hl z'.2)
theorem len_of {c : Cn} {vs : List V} {ds : List D} (h : FzAll c Z H vs ds) {n : Nat} (hl : ds.length ≤ n) : vs.length ≤ n := by rw [h.1]; exact hl
theorem nil_of {c : Cn} {vs : List V} {ds : List D} (h : FzAll c Z H vs ds) (e : vs = []) : ds = [] := by subst e; exact List.length_eq_zero_iff.mp h.1.symm

abbrev rAll : PySem.W.Frag → R2 := fun K x y H Q => rI0 (fun i j => .int (i + j)) x y H Q ∨ (∃ i j, x = .str i ∧ y = .str j ∧ i.length + j.length ≤ sizeLine ∧ Q (.str (i ++ j)) H) ∨ rCatA K x y H Q ∨ rCat x y H Q
theorem op_addAll : OpR X (binaryOp .Add) (rAll X.K) := op_add.or (op_add_str.or (op_catA.or op_cat))
theorem d_add : Op2 F own W .fz (rAll F.K) dAdd := by
  intro v u x y d Z H σ ρ s Q e k z1 z2 q
  cases x <;> cases y <;> simp only [dAdd] at e <;> try cases e
  · rename_i i j
    exact .inl ⟨i, j, z1.int_, z2.int_, q.val k (.int _)⟩
  · rename_i i j
    split at e
    · rename_i hl
      cases e
      exact .inr (.inl ⟨i, j, z1.str_, z2.str_, hl, q.val k (.str _)⟩)
    · cases e
  · rename_i i j
    split at e
    · rename_i hl
      cases e
      obtain ⟨a, vs, rfl, h1, h2, h3⟩ := z1.lst_
      obtain ⟨b, us, rfl, h4, h5, h6⟩ := z2.lst_
      have hz : vs.length + us.length ≤ sizeLine := by rw [h3.1, h6.1]; exact hl
      exact .inr (.inr (.inr ⟨a, b, vs, us, rfl, rfl, h1, h4, hz, q.newLz k (h3.app h6) (by rw [List.length_append]; exact hz)⟩))
    · cases e
  · rename_i i j
    split at e
    · rename_i hl
      cases e
      obtain ⟨a, vs, rfl, h1, h2, h3⟩ := z1.tup_
      obtain ⟨b, us, rfl, h4, h5, h6⟩ := z2.tup_
      have hz : vs.length + us.length ≤ sizeLine := by rw [h3.1, h6.1]; exact hl
      refine .inr (.inr (.inl ⟨a, b, vs, us, rfl, rfl, h1.sq, h4.sq, hz, fun e0 => ?_, fun _ e0 => ?_, fun _ _ => q.newT k (h3.app h6) (by rw [List.length_append]; exact hz)⟩))
      · rw [nil_of h3 e0, List.nil_append] at q
        exact q.val k (.tup h4 h6.1 h5 h6.2)
      · rw [nil_of h6 e0, List.append_nil] at q
        exact q.val k (.tup h1 h3.1 h2 h3.2)
    · cases e
theorem d_cat : Op2 F own W .fr rCat dCat := by
  intro v u x y d Z H σ ρ s Q e k z1 z2 q
  cases x <;> cases y <;> simp only [dCat] at e <;> try cases e
  rename_i i j
  split at e
  · rename_i hl
    cases e
    obtain ⟨a, vs, rfl, h1, h2, h3⟩ := z1.lst_
    obtain ⟨b, us, rfl, h4, h5, h6⟩ := z2.lst_
    have hz : vs.length + us.length ≤ sizeLine := by rw [h3.1, h6.1]; exact hl
    exact ⟨a, b, vs, us, rfl, rfl, h1, h4, hz, q.newL k (h3.app h6) (by rw [List.length_append]; exact hz)⟩
  · cases e
theorem de_add (hK : X.K = F.K) (ha : DE X F own W m1 a ta fa) (hb : DE X F own W m2 b tb fb) : DE X F own W .fz (.BinOp a .Add b pos) (tOp (rAll F.K) ta tb) (o2 dAdd fa fb) := de_op (hK ▸ op_addAll) d_add ha hb
theorem de_cat (ha : DE X F own W m1 a ta fa) (hb : DE X F own W m2 b tb fb) : DE X F own W .fr (.BinOp a .Add b pos) (tOp rCat ta tb) (o2 dCat fa fb) := de_op op_cat d_cat ha hb
theorem de_sub (ha : DE X F own W m1 a ta fa) (hb : DE X F own W m2 b tb fb) : DE X F own W .fz (.BinOp a .Sub b pos) (tOp (rI0 fun i j => .int (i - j)) ta tb) (o2 dSub fa fb) := by
  refine de_op op_sub (fun v u x y d Z H σ ρ s Q e k z1 z2 q => ?_) ha hb
  cases x <;> cases y <;> simp only [dSub] at e <;> try cases e
  exact ⟨_, _, z1.int_, z2.int_, q.val k (.int _)⟩
theorem de_mul (ha : DE X F own W m1 a ta fa) (hb : DE X F own W m2 b tb fb) : DE X F own W .fz (.BinOp a .Mult b pos) (tOp (rI CMul fun i j => .int (i * j)) ta tb) (o2 dMul fa fb) := by
  refine de_op op_mul (fun v u x y d Z H σ ρ s Q e k z1 z2 q => ?_) ha hb
  cases x <;> cases y <;> simp only [dMul] at e <;> try cases e
  split at e
  · rename_i h
    cases e
    exact ⟨_, _, z1.int_, z2.int_, (by unfold okMul at h; have h2 := of_decide_eq_true h; exact h2), q.val k (.int _)⟩
  · cases e
theorem de_div (ha : DE X F own W m1 a ta fa) (hb : DE X F own W m2 b tb fb) : DE X F own W .fz (.BinOp a .FloorDiv b pos) (tOp (rI CDiv fun i j => .int (i / j)) ta tb) (o2 dDiv fa fb) := by
  refine de_op op_fdiv (fun v u x y d Z H σ ρ s Q e k z1 z2 q => ?_) ha hb
  cases x <;> cases y <;> simp only [dDiv] at e <;> try cases e
  split at e
  · rename_i h
    cases e
    exact ⟨_, _, z1.int_, z2.int_, h, q.val k (.int _)⟩
  · cases e
theorem de_mod (ha : DE X F own W m1 a ta fa) (hb : DE X F own W m2 b tb fb) : DE X F own W .fz (.BinOp a .Mod b pos) (tOp (rI (fun _ j => 0 < j) fun i j => .int (i % j)) ta tb) (o2 dMod fa fb) := by
  refine de_op op_mod (fun v u x y d Z H σ ρ s Q e k z1 z2 q => ?_) ha hb
  cases x <;> cases y <;> simp only [dMod] at e <;> try cases e
  split at e
  · rename_i h
    cases e
    exact ⟨_, _, z1.int_, z2.int_, h, q.val k (.int _)⟩
  · cases e
theorem de_pow (ha : DE X F own W m1 a ta fa) (hb : DE X F own W m2 b tb fb) : DE X F own W .fz (.BinOp a .Pow b pos) (tOp (rI CPow fun i j => .int (i ^ j.toNat)) ta tb) (o2 dPow fa fb) := by
  refine de_op op_pow (fun v u x y d Z H σ ρ s Q e k z1 z2 q => ?_) ha hb
  cases x <;> cases y <;> simp only [dPow] at e <;> try cases e
  split at e
  · rename_i h
    cases e
    exact ⟨_, _, z1.int_, z2.int_, h, q.val k (.int _)⟩
  · cases e
theorem de_neg (ha : DE X F own W m1 a ta fa) : DE X F own W .fz (.UnaryOp .USub a pos) (tUn (rU fun i => .int (-i)) ta) (o1 dNeg fa) := by
  refine ⟨pe_un un_neg ha.pe, ev_op1 (fun v x d Z H σ ρ s Q e k z1 q => ?_) ha.ev⟩
  cases x <;> simp only [dNeg] at e <;> try cases e
  exact ⟨_, z1.int_, q.val k (.int _)⟩

/-! ### comparisons -/
abbrev rCp (g : Int → Int → Bool) (h : Str → Str → Bool) : R2 := fun x y H Q => rI0 (fun i j => .bl (g i j)) x y H Q ∨ (∃ i j, x = .str i ∧ y = .str j ∧ Q (.bl (h i j)) H)
theorem d_cp {g : Int → Int → Bool} {h : Str → Str → Bool} {f : D → D → Option D} (h1 : ∀ i j, f (.int i) (.int j) = some (.bl (g i j))) (h2 : ∀ i j, f (.str i) (.str j) = some (.bl (h i j)))
    (h3 : ∀ x y d, f x y = some d → (∃ i j, x = .int i ∧ y = .int j) ∨ ∃ i j, x = .str i ∧ y = .str j) : Op2 F own W .fz (rCp g h) f := by
  intro v u x y d Z H σ ρ s Q e k z1 z2 q
  rcases h3 x y d e with ⟨i, j, rfl, rfl⟩ | ⟨i, j, rfl, rfl⟩
  · rw [h1] at e; cases e
    exact .inl ⟨i, j, z1.int_, z2.int_, q.val k (.bl _)⟩
  · rw [h2] at e; cases e
    exact .inr ⟨i, j, z1.str_, z2.str_, q.val k (.bl _)⟩
theorem d_lt : Op2 F own W .fz (rCp (fun i j => decide (i < j)) fun i j => decide (i.cps.toList < j.cps.toList)) dLt := d_cp (fun _ _ => rfl) (fun _ _ => rfl) fun x y d e => by
  cases x <;> cases y <;> simp only [dLt] at e <;> first | exact .inl ⟨_, _, rfl, rfl⟩ | exact .inr ⟨_, _, rfl, rfl⟩ | cases e
theorem d_le : Op2 F own W .fz (rCp (fun i j => decide (i ≤ j)) fun i j => !decide (j.cps.toList < i.cps.toList)) dLe := d_cp (fun _ _ => rfl) (fun _ _ => rfl) fun x y d e => by
  cases x <;> cases y <;> simp only [dLe] at e <;> first | exact .inl ⟨_, _, rfl, rfl⟩ | exact .inr ⟨_, _, rfl, rfl⟩ | cases e
theorem d_gt : Op2 F own W .fz (rCp (fun i j => decide (j < i)) fun i j => decide (j.cps.toList < i.cps.toList)) dGt := d_cp (fun _ _ => rfl) (fun _ _ => rfl) fun x y d e => by
  cases x <;> cases y <;> simp only [dGt] at e <;> first | exact .inl ⟨_, _, rfl, rfl⟩ | exact .inr ⟨_, _, rfl, rfl⟩ | cases e
theorem d_ge : Op2 F own W .fz (rCp (fun i j => decide (j ≤ i)) fun i j => !decide (i.cps.toList < j.cps.toList)) dGe := d_cp (fun _ _ => rfl) (fun _ _ => rfl) fun x y d e => by
  cases x <;> cases y <;> simp only [dGe] at e <;> first | exact .inl ⟨_, _, rfl, rfl⟩ | exact .inr ⟨_, _, rfl, rfl⟩ | cases e
theorem c_lt : OpR X (compareOp .Lt) (rCp (fun i j => decide (i < j)) fun i j => decide (i.cps.toList < j.cps.toList)) := op_lt.or op_lt_str
theorem c_le : OpR X (compareOp .LtE) (rCp (fun i j => decide (i ≤ j)) fun i j => !decide (j.cps.toList < i.cps.toList)) := op_le.or op_le_str
theorem c_gt : OpR X (compareOp .Gt) (rCp (fun i j => decide (j < i)) fun i j => decide (j.cps.toList < i.cps.toList)) := op_gt.or op_gt_str
theorem c_ge : OpR X (compareOp .GtE) (rCp (fun i j => decide (j ≤ i)) fun i j => !decide (i.cps.toList < j.cps.toList)) := op_ge.or op_ge_str

theorem toPys_all {K : PySem.W.Frag} : ∀ (ds : List D) (vs : List V) (xs : List PyData), vs.length = ds.length → (∀ (i : Nat) (v : V) (d : D), vs[i]? = some v → ds[i]? = some d → ∀ x, toPy d = some x → Dp K H v x) → toPys ds = some xs → DpAll K H vs xs
  | [], [], xs, _, _, e => by
    simp only [toPys] at e
    cases e
    exact .nil
  | [], _ :: _, _, hl, _, _ => by simp at hl
  | _ :: _, [], _, hl, _, _ => by simp at hl
  | d :: ds, v :: vs, xs, hl, h, e => by
    simp only [toPys] at e
    split at e
    · rename_i x xs' e1 e2
      cases e
      exact .cons (h 0 v d rfl rfl x e1) (toPys_all ds vs _ (by simpa using hl) (fun i w q a b => h (i + 1) w q (by simpa using a) (by simpa using b)) e2)
    · cases e
theorem Fz.dp {c : Cn} (h : Fz c Z H v d) : ∀ x, toPy d = some x → Dp c.K H v x := by
  induction h with
  | non => intro x e; simp only [toPy] at e; cases e; exact .non
  | bl b => intro x e; simp only [toPy] at e; cases e; exact .bl b
  | int b => intro x e; simp only [toPy] at e; cases e; exact .int b
  | str b => intro x e; simp only [toPy] at e; cases e; exact .str b
  | lst h1 h2 h3 h4 h5 ih =>
    intro x e
    simp only [toPy] at e
    split at e
    · rename_i xs e1
      cases e
      exact .lst (SqL.of h2) (toPys_all _ _ _ h3 ih e1)
    · cases e
  | tup h1 h2 h3 h5 ih =>
    intro x e
    simp only [toPy] at e
    split at e
    · rename_i xs e1
      cases e
      exact .tup h1.sq (toPys_all _ _ _ h2 ih e1)
    · cases e
  | _ => intro x e; simp only [toPy] at e; cases e
end
end DL

namespace DL
open PySem L2 PySem.Spec PyProof.Rows

/-- what a place in a def brings along -/
structure Amb {S : Type} (X : Cx) (F : Fc S) (k : Nat) : Prop where
  K : X.K = F.K
  mg : X.mg = F.mg
  rm : Room k X.A
  gd : X.A.guards = some []
  calm : X.calm = true
  po : PassesOwn (model X.prog X.w) X.A X.env X.xe

def asB : D → Option Bool
  | .bl b => some b
  | _ => none
def dTru : D → Option Bool
  | .non => some false
  | .bl b => some b
  | .int i => some (i != 0)
  | .str x => if x.length ≤ sizeLine then some ((x.length : Int) != 0) else none
  | .lst ds => some (!ds.isEmpty)
  | .tup ds => some (!ds.isEmpty)
  | .dic ds => some (!ds.isEmpty)
  | _ => none

section
variable {S : Type} {X : Cx} {F : Fc S} {Z Z' Z1 Z2 : Addr → Prop} {H H' H1 H2 : Hp} {σ : L2.St} {ρ : Env} {own : List Nat} {s s' : S} {p : Addr} {o : HO} {v : V} {d : D} {m m' m1 m2 m3 : Mo} {W : WX} {Q : VK} {k : Nat}
variable {a b c e : Expr} {ta tb tc te : TE} {fa fb fc fe : Env → M S D} {pos : Pos}

/-! ### == and != of plain data -/
theorem Ow.dp {c : Cn} (h : Ow c Z H p d) : ∀ x, toPy d = some x → Dp c.K H (.ref p) x := by
  intro x e
  cases d with
  | lst ds =>
    obtain ⟨vs, h1, h2, h3⟩ := h
    simp only [toPy] at e
    split at e
    · rename_i xs e1
      cases e
      exact .lst (SqL.of h1) (toPys_all _ _ _ h3.1 (fun i v d a b => (h3.2 i v d a b).dp) e1)
    · cases e
  | dic _ => simp only [toPy] at e; cases e
  | dit _ => simp only [toPy] at e; cases e
  | obj _ _ => simp only [toPy] at e; cases e
  | slf _ _ => simp only [toPy] at e; cases e
  | _ => exact h.elim
theorem Bz.dp {c : Cn} {adr : Addr → Prop} (h : Bz c adr Z H v d) : ∀ x, toPy d = some x → Dp c.K H v x := by
  rcases h with h | ⟨a, rfl, _, h⟩
  · exact h.dp
  · exact h.dp
theorem dEqG_some {x y : D} {r : Bool} (h : dEqG x y = some r) : ∃ a b, toPy x = some a ∧ toPy y = some b ∧ SeqAt.shaped a = true ∧ SeqAt.shaped b = true ∧ r = PyData.eqv a b := by
  unfold dEqG at h
  split at h
  · rename_i a b e1 e2
    split at h
    · rename_i hs
      cases h
      exact ⟨a, b, e1, e2, hs.1, hs.2, rfl⟩
    · cases h
  · cases h
theorem dEqB_some {x y : D} {r : Bool} (h : dEqB x y = some r) : (∃ a b, x = .str a ∧ y = .str b ∧ r = (a == b)) ∨ ∃ a b, toPy x = some a ∧ toPy y = some b ∧ SeqAt.shaped a = true ∧ SeqAt.shaped b = true ∧ r = PyData.eqv a b := by
  unfold dEqB at h
  split at h
  · rename_i b e
    cases h
    cases x <;> cases y <;> simp only [strs2] at e <;> cases e
    exact .inl ⟨_, _, rfl, rfl, rfl⟩
  · exact .inr (dEqG_some h)
abbrev rEqX (K : PySem.W.Frag) : R2 := fun x y H Q => rEqD K x y H Q ∨ rEq x y H Q
abbrev rNeX (K : PySem.W.Frag) : R2 := fun x y H Q => rNeD K x y H Q ∨ rNe x y H Q
theorem op_eqX (A : Amb X F k) : OpR X (compareOp .Eq) (rEqX X.K) := (op_eqD A.rm.units).or op_eq
theorem op_neX (A : Amb X F k) : OpR X (compareOp .NotEq) (rNeX X.K) := (op_neD A.rm.units).or op_ne
theorem d_eq (hK : X.K = F.K) : Op2 F own W .fz (rEqX X.K) dEq := by
  intro v u x y d Z H σ ρ s Q e k z1 z2 q
  unfold dEq at e
  obtain ⟨r, e1, rfl⟩ := Option.map_eq_some_iff.mp e
  rw [hK]
  rcases dEqB_some e1 with ⟨a, b, rfl, rfl, rfl⟩ | ⟨a, b, h1, h2, h3, h4, rfl⟩
  · rw [z1.str_, z2.str_]
    refine .inr ⟨rfl, ?_⟩
    rw [L2.dec_str]
    exact q.val k (.bl _)
  · exact .inl ⟨a, b, z1.dp a h1, z2.dp b h2, h3, h4, q.val k (.bl _)⟩
theorem d_ne (hK : X.K = F.K) : Op2 F own W .fz (rNeX X.K) dNe := by
  intro v u x y d Z H σ ρ s Q e k z1 z2 q
  unfold dNe at e
  obtain ⟨r, e1, rfl⟩ := Option.map_eq_some_iff.mp e
  rw [hK]
  rcases dEqB_some e1 with ⟨a, b, rfl, rfl, rfl⟩ | ⟨a, b, h1, h2, h3, h4, rfl⟩
  · rw [z1.str_, z2.str_]
    refine .inr ⟨rfl, ?_⟩
    rw [L2.dec_str]
    exact q.val k (.bl _)
  · exact .inl ⟨a, b, z1.dp a h1, z2.dp b h2, h3, h4, q.val k (.bl _)⟩
theorem d_isN : Op2 F own W .fz (fun x y H Q => y = .non ∧ Q (.bl (decide (x = .non))) H) dIsN := by
  intro v u x y d Z H σ ρ s Q e k z1 z2 q
  have hy : y = .non := by cases x <;> cases y <;> simp only [dIsN] at e <;> first | rfl | cases e
  subst hy
  refine ⟨z2.non_, ?_⟩
  by_cases hx : x = .non
  · subst hx
    simp only [dIsN] at e
    cases e
    rw [z1.non_]
    exact q.val k (.bl _)
  · have e2 : d = .bl false := by cases x <;> simp only [dIsN] at e <;> first | exact absurd rfl hx | (cases e; rfl)
    subst e2
    have hv : ¬ v = .non := by
      intro hv
      subst hv
      rcases z1 with h | ⟨a, h, _⟩
      · cases h; exact hx rfl
      · cases h
    rw [decide_eq_false hv]
    exact q.val k (.bl _)
theorem d_notN : Op2 F own W .fz (fun x y H Q => y = .non ∧ Q (.bl (!decide (x = .non))) H) dNotN := by
  intro v u x y d Z H σ ρ s Q e k z1 z2 q
  have hy : y = .non := by cases x <;> cases y <;> simp only [dNotN] at e <;> first | rfl | cases e
  subst hy
  refine ⟨z2.non_, ?_⟩
  by_cases hx : x = .non
  · subst hx
    simp only [dNotN] at e
    cases e
    rw [z1.non_]
    exact q.val k (.bl _)
  · have e2 : d = .bl true := by cases x <;> simp only [dNotN] at e <;> first | exact absurd rfl hx | (cases e; rfl)
    subst e2
    have hv : ¬ v = .non := by
      intro hv
      subst hv
      rcases z1 with h | ⟨a, h, _⟩
      · cases h; exact hx rfl
      · cases h
    rw [decide_eq_false hv]
    exact q.val k (.bl _)
theorem de_cmp {op : CmpOp} {r : R2} {g : D → D → Option D} (ho : OpR X (compareOp op) r) (hr : Op2 F own W .fz r g) (ha : DE X F own W m1 a ta fa) (hb : DE X F own W m2 b tb fb) (hm : behindInMarks op b = false) :
    DE X F own W .fz (.Compare a [op] [b] pos) (tOp r ta tb) (o2 g fa fb) := ⟨pe_cmpR ho ha.pe hb.pe hm, ev_op2 hr ha.ev hb.ev⟩
def tsb (f : Env → M S D) : Env → M S Bool := fun ρ => bnd (f ρ) fun x => lft (asB x)
theorem ev_tsb {t : TE} {f : Env → M S D} (h : Ev F own W m t f) : EvT F own W (tTest t) (tsb f) := by
  refine EvT.bind (g := fun _ x => lft (asB x)) (K := fun x _ H' Q => ∃ k, x = .bl k ∧ Q k H') h fun v d Hs Z H σ ρ s Q k z q => ?_
  match d, q, z with
  | .bl b, q, z => exact ⟨b, z.bz.bl_, q H Z Ext.refl k⟩
  | .non, q, _ => exact q.elim
  | .int _, q, _ => exact q.elim
  | .str _, q, _ => exact q.elim
  | .lst _, q, _ => exact q.elim
  | .tup _, q, _ => exact q.elim
  | .dic _, q, _ => exact q.elim
  | .dit _, q, _ => exact q.elim
  | .obj _ _, q, _ => exact q.elim
  | .drw, q, _ => exact q.elim
  | .ty _, q, _ => exact q.elim
  | .scr _, q, _ => exact q.elim
theorem dt_cmp {op : CmpOp} {r : R2} {g : D → D → Option D} (ho : OpR X (compareOp op) r) (hr : Op2 F own W .fz r g) (ha : DE X F own W m1 a ta fa) (hb : DE X F own W m2 b tb fb) (hm : behindInMarks op b = false) :
    DT X F own W (.Compare a [op] [b] pos) (tTest (tOp r ta tb)) (tsb (o2 g fa fb)) := ⟨pt_cmpR ho ha.pe hb.pe hm, ev_tsb (ev_op2 hr ha.ev hb.ev)⟩

/-! ### truth -/
theorem tru_of (hK : X.K = F.K) {b : Bool} (h : dTru d = some b) (z : Bz F.cn F.md.adr Z H v d) : TruV X.K v H b := by
  cases d <;> simp only [dTru] at h <;> try cases h
  · rw [z.non_]; rfl
  · rw [z.bl_]; rfl
  · rw [z.int_]; rfl
  · split at h
    · rename_i hl
      cases h
      rw [z.str_]
      exact ⟨hl, rfl⟩
    · cases h
  · obtain ⟨a, vs, rfl, h1, h2, h3⟩ := z.lst_
    exact .inl ⟨vs, SqL.of h1, by
      have := h3.1
      rename_i ds
      cases ds <;> cases vs <;> first | rfl | (simp at this)⟩
  · obtain ⟨a, vs, rfl, h1, h2, h3⟩ := z.tup_
    exact .inr (.inl ⟨vs, by rw [hK]; exact h1.sq, by
      have := h3.1
      rename_i ds
      cases ds <;> cases vs <;> first | rfl | (simp at this)⟩)
  · rename_i des
    have : ∃ a kvs, v = .ref a ∧ H a = some (.dK kvs) ∧ kvs.length = des.length := by
      rcases z with z | ⟨a, e, _, kvs, h1, h2, h3, h4⟩
      · cases z with
        | dic h1 h2 h3 h4 h5 h6 => exact ⟨_, _, rfl, h2, h3⟩
      · exact ⟨a, kvs, e, h1, by simpa using congrArg List.length h3⟩
    obtain ⟨a, kvs, rfl, h1, h2⟩ := this
    exact .inr (.inr ⟨kvs, h1, by cases kvs <;> cases des <;> first | rfl | (simp at h2)⟩)
def tru (f : Env → M S D) : Env → M S Bool := fun ρ => bnd (f ρ) fun x => lft (dTru x)
theorem dt_tru (A : Amb X F k) (ha : DE X F own W m1 a ta fa) (he : ∀ whole, isTrue a X.env whole = (do let v ← whole; standAt a.pos; holding [v] (truthy v)) := by intro _; rfl) :
    DT X F own W a (fun σ H Q => ta σ H fun x H1 => ∃ k, TruV X.K x H1 k ∧ Q k H1) (tru fa) := by
  refine ⟨pt_truth ha.pe he, EvT.bind (g := fun _ x => lft (dTru x)) (K := fun x _ H1 Q => ∃ k, TruV X.K x H1 k ∧ Q k H1) ha.ev fun v d Hs Z H σ ρ s Q k z q => ?_⟩
  match e : dTru d, q with
  | none, q => exact q.elim
  | some b, q => exact ⟨b, tru_of A.K e z.bz, q H Z Ext.refl k⟩

/-! ### not, and, or -/
structure DW (X : Cx) (F : Fc S) (own : List Nat) (W : WX) (e : Expr) (t : TT) (f : Env → M S Bool) : Prop where
  pw : PW X e t
  ev : EvT F own W t f
def nt (f : Env → M S Bool) : Env → M S Bool := fun ρ => bnd (f ρ) fun b => ret (!b)
def an (f g : Env → M S Bool) : Env → M S Bool := fun ρ => bnd (f ρ) fun b => if b = true then g ρ else ret false
def orr (f g : Env → M S Bool) : Env → M S Bool := fun ρ => bnd (f ρ) fun b => if b = true then ret true else g ρ
variable {t u : TT} {f g h : Env → M S Bool} {rest : List Expr}
theorem DW.dt (x : DW X F own W e t f) : DT X F own W e t f := ⟨x.pw.pt, x.ev⟩
theorem dt_not (x : DT X F own W a t f) : DT X F own W (.UnaryOp .Not a pos) (tNot t) (nt f) :=
  ⟨pt_not x.pt, EvT.bindT (g := fun _ b => ret (!b)) (K := fun b _ H Q => Q (!b) H) x.ev fun b Z H σ ρ s Q k q => q H Z Ext.refl k⟩
theorem dw_and1 (x : DT X F own W a t f) : DW X F own W (.BoolOp .And [a] pos) t f := ⟨pw_and1 x.pt, x.ev⟩
theorem dw_or1 (x : DT X F own W a t f) : DW X F own W (.BoolOp .Or [a] pos) t f := ⟨pw_or1 x.pt, x.ev⟩
theorem dw_and (x : DT X F own W a t f) (y : DW X F own W (.BoolOp .And (b :: rest) pos) u g) : DW X F own W (.BoolOp .And (a :: b :: rest) pos) (tAnd t u) (an f g) :=
  ⟨pw_and x.pt y.pw, EvT.bindT (g := fun ρ b => if b = true then g ρ else ret false) (K := fun c σ H1 Q => if c = true then u σ H1 Q else Q false H1) x.ev fun b Z H σ ρ s Q k q => by
    cases b with
    | true => exact y.ev σ H Z ρ s Q k q
    | false => exact q H Z Ext.refl k⟩
theorem dw_or (x : DT X F own W a t f) (y : DW X F own W (.BoolOp .Or (b :: rest) pos) u g) : DW X F own W (.BoolOp .Or (a :: b :: rest) pos) (tOr t u) (orr f g) :=
  ⟨pw_or x.pt y.pw, EvT.bindT (g := fun ρ b => if b = true then ret true else g ρ) (K := fun c σ H1 Q => if c = true then Q true H1 else u σ H1 Q) x.ev fun b Z H σ ρ s Q k q => by
    cases b with
    | false => exact y.ev σ H Z ρ s Q k q
    | true => exact q H Z Ext.refl k⟩
/-- as values, by truth -/
def anV (fa fb : Env → M S D) : Env → M S D := fun ρ => bnd (fa ρ) fun x => match dTru x with
  | some true => fb ρ
  | some false => ret x
  | none => stk
def orV (fa fb : Env → M S D) : Env → M S D := fun ρ => bnd (fa ρ) fun x => match dTru x with
  | some true => ret x
  | some false => fb ρ
  | none => stk
def ntV (fa : Env → M S D) : Env → M S D := fun ρ => bnd (fa ρ) fun x => match dTru x with
  | some b => ret (.bl (!b))
  | none => stk
theorem de_one {op : BoolOp} (x : DE X F own W m a ta fa) : DE X F own W m (.BoolOp op [a] pos) ta fa := ⟨pe_one x.pe, x.ev⟩
theorem de_and (A : Amb X F k) (x : DE X F own W .fz a ta fa) (y : DE X F own W .fz (.BoolOp .And (b :: rest) pos) tb fb) : DE X F own W .fz (.BoolOp .And (a :: b :: rest) pos) (tAndT X.K ta tb) (anV fa fb) := by
  refine ⟨pe_andT x.pe y.pe, Ev.bind (g := fun ρ x => match dTru x with | some true => fb ρ | some false => ret x | none => stk) (K := fun x σ H1 Q => ∃ k, TruV X.K x H1 k ∧ if k = true then tb σ H1 Q else Q x H1) x.ev fun v d Hs Z H σ ρ s Q k z q => ?_⟩
  match e : dTru d, q with
  | none, q => exact q.elim
  | some true, q => exact ⟨true, tru_of A.K e z.bz, y.ev σ H Z ρ s Q k q⟩
  | some false, q => exact ⟨false, tru_of A.K e z.bz, q.val k z⟩
theorem de_or (A : Amb X F k) (x : DE X F own W .fz a ta fa) (y : DE X F own W .fz (.BoolOp .Or (b :: rest) pos) tb fb) : DE X F own W .fz (.BoolOp .Or (a :: b :: rest) pos) (tOrT X.K ta tb) (orV fa fb) := by
  refine ⟨pe_orT x.pe y.pe, Ev.bind (g := fun ρ x => match dTru x with | some true => ret x | some false => fb ρ | none => stk) (K := fun x σ H1 Q => ∃ k, TruV X.K x H1 k ∧ if k = true then Q x H1 else tb σ H1 Q) x.ev fun v d Hs Z H σ ρ s Q k z q => ?_⟩
  match e : dTru d, q with
  | none, q => exact q.elim
  | some false, q => exact ⟨false, tru_of A.K e z.bz, y.ev σ H Z ρ s Q k q⟩
  | some true, q => exact ⟨true, tru_of A.K e z.bz, q.val k z⟩
theorem de_not (A : Amb X F k) (x : DE X F own W m a ta fa) : DE X F own W .fz (.UnaryOp .Not a pos) (tNotT X.K ta) (ntV fa) := by
  refine ⟨pe_notT x.pe, Ev.bind (g := fun ρ x => match dTru x with | some b => ret (.bl (!b)) | none => stk) (K := fun x σ H1 Q => ∃ k, TruV X.K x H1 k ∧ Q (.bl (!k)) H1) x.ev fun v d Hs Z H σ ρ s Q k z q => ?_⟩
  match e : dTru d, q with
  | none, q => exact q.elim
  | some b, q => exact ⟨b, tru_of A.K e z.bz, q.val k (.bl _)⟩
/-- a if t else b -/
def ife (f : Env → M S Bool) (fa fb : Env → M S D) : Env → M S D := fun ρ => bnd (f ρ) fun b => if b = true then fa ρ else fb ρ
theorem de_if (x : DT X F own W c t f) (y : DE X F own W m a ta fa) (z : DE X F own W m b tb fb) : DE X F own W m (.IfExp c a b pos) (tIf t ta tb) (ife f fa fb) :=
  ⟨pe_ifExp x.pt y.pe z.pe, Ev.bindT (g := fun ρ b => if b = true then fa ρ else fb ρ) (K := fun c σ H1 Q => if c = true then ta σ H1 Q else tb σ H1 Q) x.ev fun b Z H σ ρ s Q k q => by
    cases b with
    | true => exact y.ev σ H Z ρ s Q k q
    | false => exact z.ev σ H Z ρ s Q k q⟩

/-! ### a < b < c -/
def chn (g g' : D → D → Option D) (fa fb fc : Env → M S D) : Env → M S D := fun ρ => bnd (fa ρ) fun x => bnd (fb ρ) fun y => match (g x y).bind asB with
  | some true => bnd (fc ρ) fun z => lft (g' y z)
  | some false => ret (.bl false)
  | none => stk
theorem asB_some {d : D} {b : Bool} (h : asB d = some b) : d = .bl b := by cases d <;> simp only [asB] at h <;> first | cases h; rfl | cases h
theorem ev_chain {r r' : R2} {g g' : D → D → Option D} (hr : Op2 F own W .fz r g) (hr' : Op2 F own W .fz r' g') (x : Ev F own W m1 ta fa) (y : Ev F own W m2 tb fb) (z : Ev F own W m3 tc fc) : Ev F own W .fz (tChain r r' ta tb tc) (chn g g' fa fb fc) := by
  refine Ev.bind (g := fun ρ x => bnd (fb ρ) fun y => match (g x y).bind asB with | some true => bnd (fc ρ) fun z => lft (g' y z) | some false => ret (.bl false) | none => stk)
    (K := fun x σ H1 Q => tb σ H1 fun y H2 => r x y H2 fun z H3 => ∃ k, z = .bl k ∧ (if k = true then tc σ H3 fun w' H4 => r' y w' H4 Q else Q (.bl false) H3)) x fun v d1 Hs Z H σ ρ s Q k z1 q => ?_
  refine y σ H Z ρ s _ k ?_
  dsimp only [bnd] at q
  match e : fb ρ s, q with
  | none, q => exact q
  | some (.error _, s'), q => exact q
  | some (.ok d2, s'), q =>
    intro u H' Z' x' k' z2
    have z1' := z1.bz.ext k.toBs x'
    have q := PostE.from x' q
    dsimp only at q
    cases e1 : g d1 d2 with
    | none => rw [e1] at q; exact (show False from q).elim
    | some r1 =>
      rw [e1] at q
      dsimp only [Option.bind] at q
      cases e2 : asB r1 with
      | none => rw [e2] at q; exact (show False from q).elim
      | some bb =>
        rw [e2] at q
        rw [asB_some e2] at e1
        cases bb with
        | true =>
          refine hr v u d1 d2 _ Z' H' σ ρ s' _ e1 k' z1' z2.bz ?_
          intro v' H3 Z3 x3 k3 z3
          have q3 := PostE.from x3 q
          refine ⟨true, (Bz.bl_ (adr := F.md.adr) (.inl z3)), ?_⟩
          rw [if_pos rfl]
          refine z σ H3 Z3 ρ s' _ k3 ?_
          dsimp only [bnd] at q3
          cases e3 : fc ρ s' with
          | none => rw [e3] at q3; exact q3
          | some p3 =>
            rw [e3] at q3
            obtain ⟨r3, s4⟩ := p3
            cases r3 with
            | error _ => exact q3
            | ok d3 =>
              intro w' H4 Z4 x4 k4 z4
              have q4 := PostE.from x4 q3
              dsimp only at q4
              cases e5 : g' d2 d3 with
              | none => rw [e5] at q4; exact (show False from q4).elim
              | some r2 =>
                rw [e5] at q4
                exact hr' u w' d2 d3 r2 Z4 H4 σ ρ s4 Q e5 k4 ((z2.bz.ext k'.toBs x3).ext k3.toBs x4) z4.bz q4
        | false =>
          refine hr v u d1 d2 _ Z' H' σ ρ s' _ e1 k' z1' z2.bz ?_
          intro v' H3 Z3 x3 k3 z3
          refine ⟨false, (Bz.bl_ (adr := F.md.adr) (.inl z3)), ?_⟩
          rw [if_neg Bool.false_ne_true]
          exact PostE.val (PostE.from x3 q) k3 (.bl _)
theorem de_chain {op op' : CmpOp} {r r' : R2} {g g' : D → D → Option D} (ho : OpR X (compareOp op) r) (ho' : OpR X (compareOp op') r') (hr : Op2 F own W .fz r g) (hr' : Op2 F own W .fz r' g') (x : DE X F own W m1 a ta fa) (y : DE X F own W m2 b tb fb) (z : DE X F own W m3 c tc fc)
    (hm : lastMarks [op, op'] [b, c] = false := by with_unfolding_all rfl) : DE X F own W .fz (.Compare a [op, op'] [b, c] pos) (tChain r r' ta tb tc) (chn g g' fa fb fc) := ⟨pe_chain ho ho' x.pe y.pe z.pe hm, ev_chain hr hr' x.ev y.ev z.ev⟩
theorem dt_chain {op op' : CmpOp} {r r' : R2} {g g' : D → D → Option D} (ho : OpR X (compareOp op) r) (ho' : OpR X (compareOp op') r') (hr : Op2 F own W .fz r g) (hr' : Op2 F own W .fz r' g') (x : DE X F own W m1 a ta fa) (y : DE X F own W m2 b tb fb) (z : DE X F own W m3 c tc fc)
    (hm : lastMarks [op, op'] [b, c] = false := by with_unfolding_all rfl) : DT X F own W (.Compare a [op, op'] [b, c] pos) (tTest (tChain r r' ta tb tc)) (tsb (chn g g' fa fb fc)) := ⟨pt_chain ho ho' x.pe y.pe z.pe hm, ev_tsb (ev_chain hr hr' x.ev y.ev z.ev)⟩
end
end DL

namespace DL
open PySem L2 PySem.Spec PyProof.Rows

section
variable {S : Type} {X : Cx} {F : Fc S} {Z Z' Z1 Z2 : Addr → Prop} {H H' H1 H2 : Hp} {σ : L2.St} {ρ : Env} {own : List Nat} {s s' : S} {p : Addr} {o : HO} {v : V} {d : D} {m m' m1 m2 m3 : Mo} {W : WX} {Q : VK} {k : Nat}
variable {a b c e : Expr} {ta tb tc te : TE} {fa fb fc fe : Env → M S D} {pos : Pos} {es : List Expr} {t : TA} {f : Env → M S (List D)}

/-! ### arguments, displays -/
def aNil : Env → M S (List D) := fun _ => ret []
def aCons (fa : Env → M S D) (fr : Env → M S (List D)) : Env → M S (List D) := fun ρ => bnd (fa ρ) fun x => bnd (fr ρ) fun xs => ret (x :: xs)
/-- as many as are written -/
def Cnt (f : Env → M S (List D)) (n : Nat) : Prop := ∀ ρ s ds s', f ρ s = some (.ok ds, s') → ds.length = n
theorem cnt_nil : Cnt (aNil : Env → M S (List D)) 0 := fun ρ s ds s' e => by cases e; rfl
theorem cnt_cons {n : Nat} (h : Cnt f n) : Cnt (aCons fa f) (n + 1) := fun ρ s ds s' e => by
  dsimp only [aCons, bnd, ret] at e
  split at e
  · cases e
  · cases e
  · split at e
    · cases e
    · cases e
    · rename_i q
      cases e
      rw [List.length_cons, h _ _ _ _ q]
theorem da_nil : DA X F own W [] tNil aNil := ⟨pa_nil, fun σ H Z ρ s Q k h => h [] H Z Ext.refl k .nil⟩
theorem da_cons (x : DE X F own W .fz e te fe) (y : DA X F own W es t f) (hs : starEach (e :: es) X.env = (false, eval e X.env) :: starEach es X.env := by rfl) : DA X F own W (e :: es) (tCons te t) (aCons fe f) := by
  refine ⟨pa_cons x.pe y.pa hs, EvA.bind (g := fun ρ x => bnd (f ρ) fun xs => ret (x :: xs)) (K := fun x σ H1 Q => t σ H1 fun xs H2 => Q (x :: xs) H2) x.ev fun v d Hs Z H σ ρ s Q k z q => ?_⟩
  refine y.ev σ H Z ρ s _ k ?_
  dsimp only [bnd] at q
  cases e1 : f ρ s with
  | none => rw [e1] at q; exact q
  | some p1 =>
    rw [e1] at q
    obtain ⟨r1, s1⟩ := p1
    cases r1 with
    | error _ => exact q
    | ok ds => exact fun vs H' Z' x' k' z' => q (v :: vs) H' Z' x' k' (.cons (Fz.grow (k.toBs.grow x') z) z')
def mTup (f : Env → M S (List D)) : Env → M S D := fun ρ => bnd (f ρ) fun ds => ret (.tup ds)
def mLst (f : Env → M S (List D)) : Env → M S D := fun ρ => bnd (f ρ) fun ds => ret (.lst ds)
theorem ev_cnt {n : Nat} {g : Env → List D → M S D} {K : List V → L2.St → Hp → VK → Prop} (x : EvA F own W t f) (hn : Cnt f n)
    (hk : ∀ vs ds Z H σ ρ s Q, ds.length = n → Ok F own Z H σ ρ s → FzAll F.cn Z H vs ds → PostE F own W m Z H σ ρ Q (g ρ ds s) → K vs σ H Q) :
    Ev F own W m (fun σ H Q => t σ H fun x H1 => K x σ H1 Q) (fun ρ => bnd (f ρ) (g ρ)) := by
  intro σ H Z ρ s Q k h
  refine x σ H Z ρ s _ k ?_
  dsimp only [bnd] at h
  match e : f ρ s, h with
  | none, h => exact h
  | some (.error y, s'), h => exact h
  | some (.ok d, s'), h => exact fun vs H' Z' x k' z => hk vs d Z' H' σ ρ s' Q (hn _ _ _ _ e) k' z (h.from x)
theorem de_tup {n x1 : Nat} (x : DA X F own W es t f) (hn : Cnt f n) (h : n ≤ 1000 := by decide) : DE X F own W .fz (.Tuple es x1 pos) (tTup t) (mTup f) :=
  ⟨pe_tup x.pa, ev_cnt (g := fun _ ds => ret (.tup ds)) (K := fun xs _ H1 Q => xs.length ≤ sizeLine ∧ ∀ p, H1 p = none → Q (.ref p) (upd H1 p (.tup xs))) x.ev hn fun vs ds Z H σ ρ s Q hl k z q => by
    have : vs.length ≤ sizeLine := by rw [z.1, hl]; exact Nat.le_trans h (by decide)
    exact ⟨this, q.newT k z this⟩⟩
theorem de_lst {n : Nat} (x : DA X F own W es t f) (hn : Cnt f n) (h : n ≤ 1000 := by decide) : DE X F own W .fr (.List es pos) (tLst t) (mLst f) :=
  ⟨pe_lst x.pa, ev_cnt (g := fun _ ds => ret (.lst ds)) (K := fun xs _ H1 Q => xs.length ≤ sizeLine ∧ ∀ p, H1 p = none → Q (.ref p) (upd H1 p (.lst xs))) x.ev hn fun vs ds Z H σ ρ s Q hl k z q => by
    have : vs.length ≤ sizeLine := by rw [z.1, hl]; exact Nat.le_trans h (by decide)
    exact ⟨this, q.newL k z this⟩⟩

/-! ### one and two operands of a built-in -/
theorem CallR.or {fv : Value} {r r' : List V → Hp → VK → Prop} (h : CallR X fv r) (h' : CallR X fv r') : CallR X fv (fun xs H Q => r xs H Q ∨ r' xs H Q) := by
  intro pins s σ H xs us Q I rx q
  exact q.elim (h pins s σ H xs us Q I rx) (h' pins s σ H xs us Q I rx)
theorem de_b1 {x : Str} {id : String} {r : List V → Hp → VK → Prop} {g : D → Option D} {p : Pos} (hc : CallR X (.builtin id) r) (hr : Op1 F own W m (fun x H Q => r [x] H Q) g) (hg : Gl X x) (hm : X.mg x = none) (hv : bootBuiltins x = some (.builtin id)) (ha : DE X F own W m1 e te fe)
    (hn : x ≠ "__name__" := by decide) (hdb : (x == ("__debug__" : Str)) = false := by decide) (hs : starEach [e] X.env = [(false, eval e X.env)] := by rfl) : DE X F own W m (.Call (.Name x p) [e] [] pos) (tCB r (tCons te tNil)) (o1 g fe) :=
  ⟨pe_callB hc hg hm hv (pa_cons ha.pe pa_nil (by rw [hs]; rfl)) hn hdb (by rw [hs]; rfl) (by rfl), ev_op1 hr ha.ev⟩
theorem de_ty1 {x : Str} {T : String} {r : List V → Hp → VK → Prop} {g : D → Option D} {p : Pos} (hc : CallR X (.type T) r) (hr : Op1 F own W m (fun x H Q => r [x] H Q) g) (hg : Gl X x) (hm : X.mg x = none) (hv : bootBuiltins x = some (.type T)) (ha : DE X F own W m1 e te fe)
    (hn : x ≠ "__name__" := by decide) (hdb : (x == ("__debug__" : Str)) = false := by decide) (hs : starEach [e] X.env = [(false, eval e X.env)] := by rfl) : DE X F own W m (.Call (.Name x p) [e] [] pos) (tCB r (tCons te tNil)) (o1 g fe) :=
  ⟨pe_callTy hc hg hm hv (pa_cons ha.pe pa_nil (by rw [hs]; rfl)) hn hdb (by rw [hs]; rfl) (by rfl), ev_op1 hr ha.ev⟩
theorem de_b2 {x : Str} {id : String} {r : List V → Hp → VK → Prop} {g : D → D → Option D} {p : Pos} (hc : CallR X (.builtin id) r) (hr : Op2 F own W m (fun x y H Q => r [x, y] H Q) g) (hg : Gl X x) (hm : X.mg x = none) (hv : bootBuiltins x = some (.builtin id)) (ha : DE X F own W m1 a ta fa) (hb : DE X F own W m2 b tb fb)
    (hn : x ≠ "__name__" := by decide) (hdb : (x == ("__debug__" : Str)) = false := by decide) (hs : starEach [a, b] X.env = [(false, eval a X.env), (false, eval b X.env)] := by rfl) (hs2 : starEach [b] X.env = [(false, eval b X.env)] := by rfl) :
    DE X F own W m (.Call (.Name x p) [a, b] [] pos) (tCB r (tCons ta (tCons tb tNil))) (o2 g fa fb) :=
  ⟨pe_callB hc hg hm hv (pa_cons ha.pe (pa_cons hb.pe pa_nil (by rw [hs2]; rfl)) (by rw [hs, hs2])) hn hdb (by rw [hs, hs2]) (by rw [hs2]; rfl), ev_op2 hr ha.ev hb.ev⟩

/-! ### len, abs, min, max, int, all, any, list, tuple -/
def dLen : D → Option D
  | .str x => if x.length ≤ sizeLine then some (.int x.length) else none
  | .lst ds => some (.int ds.length)
  | .tup ds => some (.int ds.length)
  | .scr ns => some (.int ns.length)
  | .dic ds => some (.int ds.length)
  | _ => none
def dAbs : D → Option D
  | .int i => some (.int (if i < 0 then -i else i))
  | _ => none
def dMin2 : D → D → Option D
  | .int i, .int j => some (.int (if j < i then j else i))
  | _, _ => none
def dMax2 : D → D → Option D
  | .int i, .int j => some (.int (if j > i then j else i))
  | _, _ => none
def dInt : D → Option D
  | .int i => some (.int i)
  | .bl b => some (.int (if b then 1 else 0))
  | _ => none
def bls : List D → Option (List Bool)
  | [] => some []
  | .bl b :: ds => (bls ds).map (b :: ·)
  | _ => none
def dAll : D → Option D
  | .lst ds => (bls ds).map fun bs => .bl (bs.all id)
  | _ => none
def dAny : D → Option D
  | .lst ds => (bls ds).map fun bs => .bl (bs.any id)
  | _ => none
def dList : D → Option D
  | .lst ds => some (.lst ds)
  | .tup ds => some (.lst ds)
  | _ => none
def dTuple : D → Option D
  | .lst ds => some (.tup ds)
  | .tup ds => some (.tup ds)
  | _ => none
theorem Bz.dic_ {adr : Addr → Prop} {c : Cn} {des : List (Key × D)} (z : Bz c adr Z H v (.dic des)) : ∃ a kvs, v = .ref a ∧ H a = some (.dK kvs) ∧ kvs.length ≤ sizeLine ∧ kvs.map (·.1) = des.map (·.1) ∧ FzAll c Z H (kvs.map (·.2)) (des.map (·.2)) := by
  rcases z with z | ⟨a, e, _, kvs, h1, h2, h3, h4⟩
  · cases z with
    | dic h1 h2 h3 h4 h5 h6 =>
      refine ⟨_, _, rfl, h2, h4, ?_, by simpa using h3, fun i w q a b => ?_⟩
      · apply List.ext_getElem?
        intro i
        rw [List.getElem?_map, List.getElem?_map]
        rename_i a0 kvs
        cases e1 : kvs[i]? with
        | none =>
          have : des[i]? = none := by rw [List.getElem?_eq_none_iff] at e1 ⊢; omega
          rw [this]; rfl
        | some p =>
          have hi : i < des.length := by have := (List.getElem?_eq_some_iff.mp e1).1; omega
          have e2 : des[i]? = some des[i] := List.getElem?_eq_getElem hi
          rw [e2]
          show some p.1 = some des[i].1
          rw [h5 i p _ e1 e2]
      · rw [List.getElem?_map] at a b
        obtain ⟨p, hp, rfl⟩ := Option.map_eq_some_iff.mp a
        obtain ⟨q', hq, rfl⟩ := Option.map_eq_some_iff.mp b
        exact h6 i p q' hp hq
  · exact ⟨a, kvs, e, h1, h2, h3, h4⟩
abbrev rLenA (K : PySem.W.Frag) : List V → Hp → VK → Prop := fun xs H Q => (∃ x n, xs = [x] ∧ LenV K x H n ∧ Q (.int n) H) ∨ ∃ d kvs, xs = [V.ref d] ∧ H d = some (.dK kvs) ∧ Q (.int kvs.length) H
theorem d_len : Op1 F own W .fz (fun x H Q => rLenA F.K [x] H Q) dLen := by
  intro v x d Z H σ ρ s Q e k z q
  cases x <;> simp only [dLen] at e <;> try cases e
  · split at e
    · rename_i hl
      cases e
      rw [z.str_]
      exact .inl ⟨_, _, rfl, ⟨hl, rfl⟩, q.val k (.int _)⟩
    · cases e
  · obtain ⟨a, vs, rfl, h1, h2, h3⟩ := z.lst_
    exact .inl ⟨_, _, rfl, .inl ⟨vs, SqL.of h1, rfl⟩, by rw [h3.1]; exact q.val k (.int _)⟩
  · obtain ⟨a, vs, rfl, h1, h2, h3⟩ := z.tup_
    exact .inl ⟨_, _, rfl, .inr ⟨vs, h1.sq, rfl⟩, by rw [h3.1]; exact q.val k (.int _)⟩
  · obtain ⟨a, vs, rfl, h1, h2, h3, h4⟩ := z.dic_
    exact .inr ⟨a, vs, rfl, h1, by
      have := congrArg List.length h3
      simp only [List.length_map] at this
      rw [this]; exact q.val k (.int _)⟩
  · obtain ⟨a, rfl, h1, h2⟩ := z.scr_
    exact .inl ⟨_, _, rfl, .inl ⟨_, h1.sq, rfl⟩, by rw [List.length_map]; exact q.val k (.int _)⟩
theorem d_abs : Op1 F own W .fz (fun x H Q => ∃ i, [x] = [V.int i] ∧ Q (.int (if i < 0 then -i else i)) H) dAbs := by
  intro v x d Z H σ ρ s Q e k z q
  cases x <;> simp only [dAbs] at e <;> try cases e
  rw [z.int_]
  exact ⟨_, rfl, q.val k (.int _)⟩
theorem d_min2 : Op2 F own W .fz (fun x y H Q => ∃ i j, [x, y] = [V.int i, V.int j] ∧ Q (.int (if j < i then j else i)) H) dMin2 := by
  intro v u x y d Z H σ ρ s Q e k z1 z2 q
  cases x <;> cases y <;> simp only [dMin2] at e <;> try cases e
  rw [z1.int_, z2.int_]
  exact ⟨_, _, rfl, q.val k (.int _)⟩
theorem d_max2 : Op2 F own W .fz (fun x y H Q => ∃ i j, [x, y] = [V.int i, V.int j] ∧ Q (.int (if j > i then j else i)) H) dMax2 := by
  intro v u x y d Z H σ ρ s Q e k z1 z2 q
  cases x <;> cases y <;> simp only [dMax2] at e <;> try cases e
  rw [z1.int_, z2.int_]
  exact ⟨_, _, rfl, q.val k (.int _)⟩
theorem d_int : Op1 F own W .fz (fun x H Q => (∃ i, [x] = [V.int i] ∧ Q (.int i) H) ∨ ∃ k, [x] = [V.bl k] ∧ Q (.int (if k then 1 else 0)) H) dInt := by
  intro v x d Z H σ ρ s Q e k z q
  cases x <;> simp only [dInt] at e <;> try cases e
  · rw [z.bl_]; exact .inr ⟨_, rfl, q.val k (.int _)⟩
  · rw [z.int_]; exact .inl ⟨_, rfl, q.val k (.int _)⟩
theorem bls_vals {c : Cn} : ∀ (ds : List D) (vs : List V) (bs : List Bool), FzAll c Z H vs ds → bls ds = some bs → vs = bs.map V.bl
  | [], vs, bs, h, e => by
    simp only [bls] at e
    cases e
    exact List.length_eq_zero_iff.mp h.1
  | d :: ds, [], bs, h, e => by have := h.1; simp at this
  | d :: ds, v :: vs, bs, h, e => by
    obtain ⟨h1, h2⟩ := h.inv
    cases d <;> simp only [bls] at e <;> try cases e
    obtain ⟨bs', e1, rfl⟩ := Option.map_eq_some_iff.mp e
    rw [bls_vals ds vs bs' h2 e1]
    cases h1
    rfl
theorem d_all : Op1 F own W .fz (fun x H Q => L2.rAll F.K [x] H Q) dAll := by
  intro v x d Z H σ ρ s Q e k z q
  cases x <;> simp only [dAll] at e <;> try cases e
  obtain ⟨bs, e1, rfl⟩ := Option.map_eq_some_iff.mp e
  obtain ⟨a, vs, rfl, h1, h2, h3⟩ := z.lst_
  rw [bls_vals _ _ _ h3 e1] at h1
  exact ⟨a, bs, rfl, SqL.of h1, q.val k (.bl _)⟩
theorem d_any : Op1 F own W .fz (fun x H Q => L2.rAny F.K [x] H Q) dAny := by
  intro v x d Z H σ ρ s Q e k z q
  cases x <;> simp only [dAny] at e <;> try cases e
  obtain ⟨bs, e1, rfl⟩ := Option.map_eq_some_iff.mp e
  obtain ⟨a, vs, rfl, h1, h2, h3⟩ := z.lst_
  rw [bls_vals _ _ _ h3 e1] at h1
  exact ⟨a, bs, rfl, SqL.of h1, q.val k (.bl _)⟩
theorem d_list : Op1 F own W .fr (fun x H Q => ∃ p ys, [x] = [V.ref p] ∧ (SqL F.K H p ys ∨ SqT F.K H p ys) ∧ ∀ l, H l = none → Q (.ref l) (upd H l (.lst ys))) dList := by
  intro v x d Z H σ ρ s Q e k z q
  cases x <;> simp only [dList] at e <;> try cases e
  · obtain ⟨a, vs, rfl, h1, h2, h3⟩ := z.lst_
    exact ⟨a, vs, rfl, .inl (SqL.of h1), q.newL k h3 h2⟩
  · obtain ⟨a, vs, rfl, h1, h2, h3⟩ := z.tup_
    exact ⟨a, vs, rfl, .inr h1.sq, q.newL k h3 h2⟩
theorem d_tuple : Op1 F own W .fz (fun x H Q => ∃ p ys, [x] = [V.ref p] ∧ ((SqL F.K H p ys ∧ ∀ l, H l = none → Q (.ref l) (upd H l (.tup ys))) ∨ (SqT F.K H p ys ∧ Q (.ref p) H))) dTuple := by
  intro v x d Z H σ ρ s Q e k z q
  cases x <;> simp only [dTuple] at e <;> try cases e
  · obtain ⟨a, vs, rfl, h1, h2, h3⟩ := z.lst_
    exact ⟨a, vs, rfl, .inl ⟨SqL.of h1, q.newT k h3 h2⟩⟩
  · obtain ⟨a, vs, rfl, h1, h2, h3⟩ := z.tup_
    exact ⟨a, vs, rfl, .inr ⟨h1.sq, q.val k (.tup h1 h3.1 h2 h3.2)⟩⟩
variable {p : Pos}
theorem de_len (A : Amb X F k) (hg : Gl X "len") (hm : X.mg "len" = none) (ha : DE X F own W m1 e te fe) (hs : starEach [e] X.env = [(false, eval e X.env)] := by rfl) : DE X F own W .fz (.Call (.Name "len" p) [e] [] pos) (tCB (rLenA X.K) (tCons te tNil)) (o1 dLen fe) :=
  de_b1 (call_len.or call_lenD) (A.K ▸ d_len) hg hm PySem.boot_len ha (hs := hs)
theorem de_abs (hg : Gl X "abs") (hm : X.mg "abs" = none) (ha : DE X F own W m1 e te fe) (hs : starEach [e] X.env = [(false, eval e X.env)] := by rfl) : DE X F own W .fz (.Call (.Name "abs" p) [e] [] pos) (tCB (fun xs H Q => ∃ i, xs = [.int i] ∧ Q (.int (if i < 0 then -i else i)) H) (tCons te tNil)) (o1 dAbs fe) :=
  de_b1 call_abs d_abs hg hm (by decide +kernel) ha (hs := hs)
theorem de_min2 (A : Amb X F k) (hg : Gl X "min") (hm : X.mg "min" = none) (ha : DE X F own W m1 a ta fa) (hb : DE X F own W m2 b tb fb) (hs : starEach [a, b] X.env = [(false, eval a X.env), (false, eval b X.env)] := by rfl) (hs2 : starEach [b] X.env = [(false, eval b X.env)] := by rfl) :
    DE X F own W .fz (.Call (.Name "min" p) [a, b] [] pos) (tCB (fun xs H Q => ∃ i j, xs = [.int i, .int j] ∧ Q (.int (if j < i then j else i)) H) (tCons ta (tCons tb tNil))) (o2 dMin2 fa fb) := de_b2 (call_min2 A.calm) d_min2 hg hm (by decide +kernel) ha hb (hs := hs) (hs2 := hs2)
theorem de_max2 (A : Amb X F k) (hg : Gl X "max") (hm : X.mg "max" = none) (ha : DE X F own W m1 a ta fa) (hb : DE X F own W m2 b tb fb) (hs : starEach [a, b] X.env = [(false, eval a X.env), (false, eval b X.env)] := by rfl) (hs2 : starEach [b] X.env = [(false, eval b X.env)] := by rfl) :
    DE X F own W .fz (.Call (.Name "max" p) [a, b] [] pos) (tCB (fun xs H Q => ∃ i j, xs = [.int i, .int j] ∧ Q (.int (if j > i then j else i)) H) (tCons ta (tCons tb tNil))) (o2 dMax2 fa fb) := de_b2 (call_max2 A.calm) d_max2 hg hm (by decide +kernel) ha hb (hs := hs) (hs2 := hs2)
theorem de_toint (hg : Gl X "int") (hm : X.mg "int" = none) (ha : DE X F own W m1 e te fe) (hs : starEach [e] X.env = [(false, eval e X.env)] := by rfl) : DE X F own W .fz (.Call (.Name "int" p) [e] [] pos) (tCB (fun xs H Q => (∃ i, xs = [.int i] ∧ Q (.int i) H) ∨ ∃ k, xs = [.bl k] ∧ Q (.int (if k then 1 else 0)) H) (tCons te tNil)) (o1 dInt fe) :=
  de_ty1 call_int1 d_int hg hm (by decide +kernel) ha (hs := hs)
theorem de_all (A : Amb X F k) (hg : Gl X "all") (hm : X.mg "all" = none) (ha : DE X F own W m1 e te fe) (hs : starEach [e] X.env = [(false, eval e X.env)] := by rfl) : DE X F own W .fz (.Call (.Name "all" p) [e] [] pos) (tCB (L2.rAll X.K) (tCons te tNil)) (o1 dAll fe) :=
  de_b1 (cr_all A.calm) (A.K ▸ d_all) hg hm (by decide +kernel) ha (hs := hs)
theorem de_any (A : Amb X F k) (hg : Gl X "any") (hm : X.mg "any" = none) (ha : DE X F own W m1 e te fe) (hs : starEach [e] X.env = [(false, eval e X.env)] := by rfl) : DE X F own W .fz (.Call (.Name "any" p) [e] [] pos) (tCB (L2.rAny X.K) (tCons te tNil)) (o1 dAny fe) :=
  de_b1 (cr_any A.calm) (A.K ▸ d_any) hg hm (by decide +kernel) ha (hs := hs)
theorem de_list (A : Amb X F k) (hg : Gl X "list") (hm : X.mg "list" = none) (ha : DE X F own W m1 e te fe) (hs : starEach [e] X.env = [(false, eval e X.env)] := by rfl) : DE X F own W .fr (.Call (.Name "list" p) [e] [] pos) (tCB (fun xs H Q => ∃ p ys, xs = [.ref p] ∧ (SqL X.K H p ys ∨ SqT X.K H p ys) ∧ ∀ l, H l = none → Q (.ref l) (upd H l (.lst ys))) (tCons te tNil)) (o1 dList fe) :=
  de_ty1 call_list_of (A.K ▸ d_list) hg hm (by decide +kernel) ha (hs := hs)
theorem de_tuple (A : Amb X F k) (hg : Gl X "tuple") (hm : X.mg "tuple" = none) (ha : DE X F own W m1 e te fe) (hs : starEach [e] X.env = [(false, eval e X.env)] := by rfl) : DE X F own W .fz (.Call (.Name "tuple" p) [e] [] pos) (tCB (fun xs H Q => ∃ p ys, xs = [.ref p] ∧ ((SqL X.K H p ys ∧ ∀ l, H l = none → Q (.ref l) (upd H l (.tup ys))) ∨ (SqT X.K H p ys ∧ Q (.ref p) H))) (tCons te tNil)) (o1 dTuple fe) :=
  de_ty1 call_tuple_of (A.K ▸ d_tuple) hg hm (by decide +kernel) ha (hs := hs)
end
end DL

namespace DL
open PySem L2 PySem.Spec PyProof.Rows

/-! ### repr -/
def keyPy : Key → PyData
  | .inl i => .int i
  | .inr x => .str x
mutual
def toPyR : D → Option PyData
  | .non => some .none
  | .bl b => some (.bool b)
  | .int i => some (.int i)
  | .str x => some (.str x)
  | .lst ds => match toPyRs ds with
    | some xs => some (.list xs)
    | none => none
  | .tup ds => match toPyRs ds with
    | some xs => some (.tuple xs)
    | none => none
  | .dic kvs => match toPyRk kvs with
    | some xs => some (.dict xs)
    | none => none
  | _ => none
def toPyRs : List D → Option (List PyData)
  | [] => some []
  | d :: ds => match toPyR d, toPyRs ds with
    | some x, some xs => some (x :: xs)
    | _, _ => none
def toPyRk : List (Key × D) → Option (List (PyData × PyData))
  | [] => some []
  | (k, d) :: ds => match toPyR d, toPyRk ds with
    | some x, some xs => some ((keyPy k, x) :: xs)
    | _, _ => none
end
/-- no address is met within -/
def flatPy : PyData → Bool
  | .none => true
  | .bool _ => true
  | .int _ => true
  | .str _ => true
  | _ => false
/-- what repr is served of: no dict within; or a dict of flat values -/
def reprOk (x : PyData) : Bool := x.showable && decide (x.depth ≤ 64) && decide (x.shown.length ≤ sizeLine) && (!x.hasDict || match x with
  | .dict kvs => kvs.all fun p => flatPy p.1 && flatPy p.2
  | _ => false)
def dRepr (d : D) : Option D := match toPyR d with
  | some x => if reprOk x = true then some (.str x.shown) else none
  | none => none

section
variable {S : Type} {X : Cx} {F : Fc S} {Z Z' Z1 Z2 : Addr → Prop} {H H' H1 H2 : Hp} {σ : L2.St} {ρ : Env} {own : List Nat} {s s' : S} {p : Addr} {o : HO} {v : V} {d : D} {m m' m1 m2 m3 : Mo} {W : WX} {Q : VK} {k : Nat}
variable {a b c e : Expr} {ta tb tc te : TE} {fa fb fc fe : Env → M S D} {pos : Pos} {es : List Expr} {t : TA} {f : Env → M S (List D)}

theorem readsAll_of {h : Heap} : ∀ (ds : List D) (vs : List V) (us : List Value) (xs : List PyData), vs.length = ds.length → Vals vs us →
    (∀ (i : Nat) (v : V) (d : D), vs[i]? = some v → ds[i]? = some d → ∀ x u, toPyR d = some x → RelV v u → ∃ as, Reads h u x as) → toPyRs ds = some xs → ∃ as, ReadsAll h us xs as
  | [], [], us, xs, _, r, _, e => by
    simp only [toPyRs] at e
    cases e
    cases r
    exact ⟨_, .nil⟩
  | [], _ :: _, _, _, hl, _, _, _ => by simp at hl
  | _ :: _, [], _, _, hl, _, _, _ => by simp at hl
  | d :: ds, v :: vs, us, xs, hl, r, h, e => by
    simp only [toPyRs] at e
    split at e
    · rename_i x xs' e1 e2
      cases e
      cases r with
      | cons r1 r2 =>
        obtain ⟨as, h1⟩ := h 0 v d rfl rfl x _ e1 r1
        obtain ⟨bs, h2⟩ := readsAll_of ds vs _ _ (by simpa using hl) r2 (fun i w q a b => h (i + 1) w q (by simpa using a) (by simpa using b)) e2
        exact ⟨_, .cons h1 h2⟩
    · cases e
theorem keyReads {h : Heap} {k : Key} {u : Value} (e : keyIs k u = true) : Reads h u (keyPy k) [] := by
  rcases keyIs_shape e with ⟨i, t, rfl, rfl⟩ | ⟨x, t, rfl, rfl⟩
  · exact .int i t
  · exact .str x t
theorem readsKv_of {P : Program} {w : World} {h : Heap} : ∀ (des : List (Key × D)) (kvs : List (Key × V)) (ws : List (Key × Value)) (es : List DictEntry) (xs : List (PyData × PyData)), kvs.map (·.1) = des.map (·.1) → KV kvs ws → Pairs (mixKind P w) es ws →
    (∀ (i : Nat) (p : Key × V) (q : Key × D), kvs[i]? = some p → des[i]? = some q → ∀ x u, toPyR q.2 = some x → RelV p.2 u → ∃ as, Reads h u x as) → toPyRk des = some xs →
    (∃ as, ReadsAll h (es.map (·.key)) (xs.map (·.1)) as) ∧ ∃ bs, ReadsAll h (es.map (·.val)) (xs.map (·.2)) bs
  | [], kvs, ws, es, xs, hk, r, pr, _, e => by
    simp only [toPyRk] at e
    cases e
    obtain rfl : kvs = [] := by simpa using hk
    cases r
    cases pr
    exact ⟨⟨_, .nil⟩, _, .nil⟩
  | (k, d) :: des, [], _, _, _, hk, _, _, _, _ => by simp at hk
  | (k, d) :: des, (k', v) :: kvs, ws, es, xs, hk, r, pr, h, e => by
    simp only [toPyRk] at e
    split at e
    · rename_i x xs' e1 e2
      cases e
      cases r with
      | cons r1 r2 =>
        cases pr with
        | cons p1 p2 p3 =>
          simp only [List.map_cons, List.cons.injEq] at hk
          obtain ⟨⟨as, q1⟩, bs, q2⟩ := readsKv_of des kvs _ _ _ hk.2 r2 p3 (fun i p q a b => h (i + 1) p q (by simpa using a) (by simpa using b)) e2
          obtain ⟨cs, q3⟩ := h 0 _ _ rfl rfl x _ e1 r1.2
          rw [← p2] at q3
          refine ⟨⟨_, .cons (keyReads (k := k) ?_) q1⟩, _, .cons q3 q2⟩
          rw [← hk.1]
          have := r1.1
          simp only at this
          rw [this]
          exact p1
    · cases e
theorem dk_parts {P : Program} {w : World} {h : Heap} {a : Addr} {kvs : List (Key × V)} (hok : HOk P w H h) (e : H a = some (.dK kvs)) :
    ∃ (ws : List (Key × Value)) (o : Obj) (es : Array DictEntry) (ep : Nat), KV kvs ws ∧ h.get? a = some o ∧ o.cls = .type "dict" ∧ o.data = .dict es ep ∧ Pairs (mixKind P w) es.toList ws ∧ (a == sysModules) = false := by
  obtain ⟨_, h1, ws, h2, o, es, ep, h3, h4, h5, h6, h7, h8⟩ := hok a _ e
  exact ⟨ws, o, es, ep, h2, h3, h4.1, h5, h7, h1⟩
theorem Fz.reads {pins : List (Addr × Obj)} {sh : Shared} {c : Cn} (I : Inv X pins σ H sh) (hK : X.K = c.K) (h : Fz c Z H v d) : ∀ x u, toPyR d = some x → RelV v u → ∃ as, Reads sh.heap u x as := by
  induction h with
  | non => intro x u e r; simp only [toPyR] at e; cases e; cases r; exact ⟨_, .none⟩
  | bl b => intro x u e r; simp only [toPyR] at e; cases e; cases r; exact ⟨_, .bool b⟩
  | int b => intro x u e r; simp only [toPyR] at e; cases e; obtain ⟨t, rfl⟩ := r; exact ⟨_, .int b t⟩
  | str b => intro x u e r; simp only [toPyR] at e; cases e; obtain ⟨t, rfl⟩ := r; exact ⟨_, .str b t⟩
  | lst h1 h2 h3 h4 h5 ih =>
    intro x u e r
    simp only [toPyR] at e
    split at e
    · rename_i xs e1
      cases e
      cases r
      obtain ⟨its, rv, ⟨o, n, q1, q2, q3, q4⟩, _⟩ := I.list (SqL.of h2)
      obtain ⟨as, q5⟩ := readsAll_of _ _ _ _ h3 rv ih e1
      exact ⟨_, .list q1 q2 q4 (by simpa using q5)⟩
    · cases e
  | tup h1 h2 h3 h5 ih =>
    intro x u e r
    simp only [toPyR] at e
    split at e
    · rename_i xs e1
      cases e
      cases r
      obtain ⟨its, rv, ⟨o, q1, q2, n, q4⟩, _⟩ := I.tuple (hK ▸ h1.sq)
      obtain ⟨as, q5⟩ := readsAll_of _ _ _ _ h2 rv ih e1
      exact ⟨_, .tuple q1 q2 q4 (by simpa using q5)⟩
    · cases e
  | dic h1 h2 h3 h4 h5 h6 ih =>
    intro x u e r
    simp only [toPyR] at e
    split at e
    · rename_i xs e1
      cases e
      cases r
      obtain ⟨ws, o, es, ep, q1, q2, q3, q4, q5, q6⟩ := dk_parts I.hok h2
      obtain ⟨_, kvs', e0, q7, _, q8, _⟩ := Bz.dic_ (adr := fun _ => False) (.inl (Fz.dic (c := c) h1 h2 h3 h4 h5 h6))
      cases e0
      rw [h2] at q7
      cases q7
      obtain ⟨⟨as, r1⟩, bs, r2⟩ := readsKv_of _ _ ws es.toList xs q8 q1 q5 ih e1
      exact ⟨_, .dict q2 q3 q4 r1 r2⟩
    · cases e
  | _ => intro x u e r; simp only [toPyR] at e; cases e
theorem Bz.reads {pins : List (Addr × Obj)} {sh : Shared} {c : Cn} {adr : Addr → Prop} (I : Inv X pins σ H sh) (hK : X.K = c.K) (h : Bz c adr Z H v d) : ∀ x u, toPyR d = some x → RelV v u → ∃ as, Reads sh.heap u x as := by
  rcases h with h | ⟨a, rfl, _, h⟩
  · exact h.reads I hK
  · have g : Grow Z H (fun _ => True) H := ⟨fun _ _ => trivial, fun _ _ => rfl⟩
    exact (Ow.fz (c := c) (Z := fun _ => True) trivial (h.grow g rfl)).reads I hK
/-- a dict of flat values has no address within but its own -/
theorem flat_reads {h : Heap} : ∀ (xs : List PyData) (us : List Value) (as : List Addr), xs.all flatPy = true → ReadsAll h us xs as → as = []
  | [], _, _, _, .nil => rfl
  | x :: xs, _, _, e, .cons (as := as) r1 r2 => by
    rw [List.all_cons, Bool.and_eq_true] at e
    rw [flat_reads xs _ _ e.2 r2]
    cases r1 <;> first | rfl | (simp [flatPy] at e)
theorem repr_ok {pins : List (Addr × Obj)} {sh : Shared} {x : PyData} {u : Value} {c : Cn} {adr : Addr → Prop} {Qv : Value → Shared → Prop} (I : Inv X pins σ H sh) (hK : X.K = c.K) (hr : Room k X.A) (hg : X.A.guards = some []) (z : Bz c adr Z H v d) (e : toPyR d = some x) (ok : reprOk x = true) (r : RelV v u)
    (h : ∀ s' tk, Inv X pins σ H s' → Qv (.str x.shown tk) s') : wpAny (model X.prog X.w) X.A (call (.builtin "repr") [u]) Qv X.xe sh := by
  obtain ⟨as, rd⟩ := z.reads I hK x u e r
  unfold reprOk at ok
  simp only [Bool.and_eq_true, decide_eq_true_eq] at ok
  obtain ⟨⟨⟨s1, s2⟩, s3⟩, s4⟩ := ok
  have hu : X.A.units + (x.depth + 1) < cLine := by have := hr.units; have := hr.un; omega
  cases rd with
  | none => exact PySem.P.repr_of_none (h _ _ (I.tok _))
  | bool b => exact PySem.P.repr_of_bool (h _ _ (I.tok _))
  | int i t => exact PySem.P.repr_of_int (by simpa [PyData.showable] using s1) (h _ _ (I.tok _))
  | str i t => exact PySem.P.repr_of_str (h _ _ (I.tok _)) (by simpa [PyData.shown] using s3)
  | list q1 q2 q3 q4 =>
    rename_i xs0 _
    have nd : (PyData.list xs0).hasDict = false := by simpa using s4
    exact repr_of_reads' (.list q1 q2 q3 q4) s1 (PyData.noDict_hsm nd) hg hu (fun _ _ q => q) (fun h' u' tk hk => h _ _ (I.kept hk)) s3
  | tuple q1 q2 q3 q4 =>
    rename_i xs0
    have nd : (PyData.tuple xs0).hasDict = false := by simpa using s4
    exact repr_of_reads' (.tuple q1 q2 q3 q4) s1 (PyData.noDict_hsm nd) hg hu (fun _ _ q => q) (fun h' u' tk hk => h _ _ (I.kept hk)) s3
  | dict q1 q2 q3 q4 q5 =>
    rename_i a o es n kvs as1 bs1
    have fl : ∀ p ∈ kvs, flatPy p.1 = true ∧ flatPy p.2 = true := by
      have q : (kvs.all fun p => flatPy p.1 && flatPy p.2) = true := by simpa [PyData.hasDict] using s4
      intro p hp
      have := List.all_eq_true.mp q p hp
      rwa [Bool.and_eq_true] at this
    have e1 : as1 = [] := flat_reads _ _ _ (by rw [List.all_map]; exact List.all_eq_true.mpr fun p hp => (fl p hp).1) q4
    have e2 : bs1 = [] := flat_reads _ _ _ (by rw [List.all_map]; exact List.all_eq_true.mpr fun p hp => (fl p hp).2) q5
    have na : a ≠ sysModules := by
      have : ∃ kvs', H a = some (.dK kvs') := by
        cases d <;> simp only [toPyR] at e <;> try cases e
        · split at e <;> cases e
        · split at e <;> cases e
        · obtain ⟨a', kvs', rfl, h1, _⟩ := z.dic_
          cases r
          exact ⟨_, h1⟩
      obtain ⟨kvs', h1⟩ := this
      obtain ⟨_, _, _, _, _, _, _, _, _, q6⟩ := dk_parts I.hok h1
      exact beq_eq_false_iff_ne.mp q6
    refine repr_of_reads' (.dict q1 q2 q3 q4 q5) s1 (fun _ hm => ?_) hg hu (fun _ _ q => q) (fun h' u' tk hk => h _ _ (I.kept hk)) s3
    rw [e1, e2] at hm
    simp at hm
    exact na hm.symm
theorem dRepr_some {x d : D} (h : dRepr x = some d) : ∃ y, toPyR x = some y ∧ reprOk y = true ∧ d = .str y.shown := by
  unfold dRepr at h
  split at h
  · rename_i y e
    split at h
    · rename_i ok
      cases h
      exact ⟨y, e, ok, rfl⟩
    · cases h
  · cases h
def rRepr (c : Cn) : List V → Hp → VK → Prop := fun xs H Q => ∃ (v : V) (Z : Addr → Prop) (adr : Addr → Prop) (d : D) (x : PyData), xs = [v] ∧ Bz c adr Z H v d ∧ toPyR d = some x ∧ reprOk x = true ∧ Q (.str x.shown) H
theorem call_repr (A : Amb X F k) : CallR X (.builtin "repr") (rRepr F.cn) := by
  intro pins sh σ H xs us Q I r h
  obtain ⟨v, Z, adr, d, x, rfl, z, e1, ok, q⟩ := h
  obtain ⟨u, rfl, r1⟩ := vals1 r
  exact repr_ok I A.K A.rm A.gd z e1 ok r1 fun s' tk I' => ⟨.str _, H, I', ⟨tk, rfl⟩, q⟩
theorem d_repr : Op1 F own W .fz (fun x H Q => rRepr F.cn [x] H Q) dRepr := by
  intro v x d Z H σ ρ s Q e k z q
  obtain ⟨y, e1, ok, rfl⟩ := dRepr_some e
  exact ⟨v, Z, _, x, y, rfl, z, e1, ok, q.val k (.str _)⟩
theorem de_repr {p : Pos} (A : Amb X F k) (hg : Gl X "repr") (hm : X.mg "repr" = none) (ha : DE X F own W m1 e te fe) (hs : starEach [e] X.env = [(false, eval e X.env)] := by rfl) : DE X F own W .fz (.Call (.Name "repr" p) [e] [] pos) (tCB (rRepr F.cn) (tCons te tNil)) (o1 dRepr fe) :=
  de_b1 (call_repr A) d_repr hg hm boot_repr ha (hs := hs)
end
end DL

namespace DL
open PySem L2 PySem.Spec PyProof.Rows

section
variable {S : Type} {X : Cx} {F : Fc S} {Z Z' Z1 Z2 : Addr → Prop} {H H' H1 H2 : Hp} {σ : L2.St} {ρ : Env} {own : List Nat} {s s' : S} {p : Addr} {o : HO} {v : V} {d : D} {m m' m1 m2 m3 : Mo} {W : WX} {Q : VK} {k : Nat}
variable {a b c e : Expr} {ta tb tc te : TE} {fa fb fc fe : Env → M S D} {pos : Pos} {es : List Expr} {t : TA} {f : Env → M S (List D)}

/-! ### x in y -/
def flatD : D → Bool
  | .non => true
  | .bl _ => true
  | .int _ => true
  | .str _ => true
  | _ => false
def eqF : D → D → Bool
  | .non, .non => true
  | .bl a, .bl b => a == b
  | .bl a, .int b => (if a then 1 else 0) == b
  | .int a, .bl b => a == (if b then 1 else 0)
  | .int a, .int b => a == b
  | .str a, .str b => a == b
  | _, _ => false
def dInB : D → D → Option Bool
  | .str x, .str y => match x.cps.toList with
    | [c] => some (decide (c ∈ y.cps.toList))
    | _ => none
  | x, .lst ys => if flatD x = true ∧ ys.all flatD = true then some (ys.any fun y => eqF y x) else match toPy x, toPys ys with
    | some a, some bs => if SeqAt.shaped a = true ∧ SeqAt.shaped (.list bs) = true then some (bs.any fun z => PyData.eqv z a) else none
    | _, _ => none
  | x, .tup ys => if flatD x = true ∧ ys.all flatD = true then some (ys.any fun y => eqF y x) else none
  | .int i, .dic kvs => some ((kvs.find? fun kv => decide (kv.1 = .inl i)).isSome)
  | .str x, .dic kvs => some ((kvs.find? fun kv => decide (kv.1 = .inr x)).isSome)
  | _, _ => none
def dIn (x y : D) : Option D := (dInB x y).map .bl
def dNotIn (x y : D) : Option D := (dInB x y).map fun b => .bl (!b)
theorem flat_V {c : Cn} (h : Fz c Z H v d) (hf : flatD d = true) : flatV v = true := by
  cases h <;> first | rfl | cases hf
theorem flat_eq {c : Cn} {v' : V} {d' : D} (h : Fz c Z H v d) (h' : Fz c Z H v' d') (hf : flatD d = true) (hf' : flatD d' = true) : eqV v v' = eqF d d' := by
  cases h <;> cases h' <;> first | rfl | cases hf | cases hf'
theorem flat_all {c : Cn} : ∀ (vs : List V) (ds : List D), FzAll c Z H vs ds → ds.all flatD = true → vs.all flatV = true ∧ ∀ v' d', Fz c Z H v' d' → flatD d' = true → (vs.any fun y => eqV y v') = ds.any fun y => eqF y d'
  | [], [], _, _ => ⟨rfl, fun _ _ _ _ => rfl⟩
  | [], _ :: _, h, _ => by have := h.1; simp at this
  | _ :: _, [], h, _ => by have := h.1; simp at this
  | v :: vs, d :: ds, h, e => by
    rw [List.all_cons, Bool.and_eq_true] at e
    obtain ⟨h1, h2⟩ := h.inv
    obtain ⟨i1, i2⟩ := flat_all vs ds h2 e.2
    refine ⟨by rw [List.all_cons, flat_V h1 e.1, i1]; rfl, fun v' d' z f' => ?_⟩
    rw [List.any_cons, List.any_cons, flat_eq h1 z e.1 f', i2 v' d' z f']
theorem Bz.flat {c : Cn} {adr : Addr → Prop} (h : Bz c adr Z H v d) (hf : flatD d = true) : Fz c Z H v d := by
  rcases h with h | ⟨a, _, _, h⟩
  · exact h
  · cases d <;> first | exact h.elim | cases hf
/-- the four rules -/
abbrev rInA (K : PySem.W.Frag) (neg : Bool) : R2 := fun x y H Q => (∃ (c : Nat) (z : Str), x = .str ⟨#[c]⟩ ∧ y = .str z ∧ Q (.bl (if neg then !decide (c ∈ z.cps.toList) else decide (c ∈ z.cps.toList))) H) ∨ rIn K neg x y H Q ∨
  ∃ d ds, Dp K H x d ∧ Dp K H y (.list ds) ∧ SeqAt.shaped d = true ∧ SeqAt.shaped (.list ds) = true ∧ Q (.bl (if neg then !(ds.any fun z => PyData.eqv z d) else ds.any fun z => PyData.eqv z d)) H
theorem op_inA (hu : X.A.units + 65 < cLine) : OpR X (compareOp .In) (rInA X.K false) := op_in_sign.or (op_in_seq.or (op_inD hu))
theorem op_notInA (hu : X.A.units + 65 < cLine) : OpR X (compareOp .NotIn) (rInA X.K true) := op_notIn_sign.or (op_notIn_seq.or (op_notInD hu))
def inX (td ty : TE) (neg : Bool) : TE := fun σ H Q => ty σ H fun y H1 => td σ H1 fun x H2 => ∃ a o, x = .ref a ∧ DGet H2 a y o ∧ Q (.bl (if neg then !o.isSome else o.isSome)) H2
theorem val_find {κ : Type} [DecidableEq κ] {kvs : List (κ × V)} {des : List (κ × D)} (h : kvs.map (·.1) = des.map (·.1)) (x : κ) : (valV kvs x).isSome = (des.find? fun kv => decide (kv.1 = x)).isSome := by
  induction kvs generalizing des with
  | nil => cases des with
    | nil => rfl
    | cons q r => simp at h
  | cons p r ih => cases des with
    | nil => simp at h
    | cons q r' =>
      simp only [List.map_cons, List.cons.injEq] at h
      unfold valV
      rw [List.find?_cons, List.find?_cons, h.1]
      by_cases e : q.1 = x
      · simp [e]
      · simp only [e, decide_false]
        exact ih h.2
theorem one_sign {x : Str} {c : Nat} (h : x.cps.toList = [c]) : x = ⟨#[c]⟩ := by
  obtain ⟨cps⟩ := x
  simp only at h
  congr 1
  exact Array.toList_inj.mp h
/-- one of two rules, by what the operands are -/
theorem Ev.either2 {g : D → D → Option D} {K1 K2 : V → V → Hp → VK → Prop} (pick : D → D → Bool) (ha : Ev F own W m1 ta fa) (hb : Ev F own W m2 tb fb)
    (h1 : ∀ v u x y d Z H σ ρ s Q, pick x y = false → g x y = some d → Ok F own Z H σ ρ s → Bz F.cn F.md.adr Z H v x → Bz F.cn F.md.adr Z H u y → PostE F own W m Z H σ ρ Q (ret d s) → K1 v u H Q)
    (h2 : ∀ v u x y d Z H σ ρ s Q, pick x y = true → g x y = some d → Ok F own Z H σ ρ s → Bz F.cn F.md.adr Z H v x → Bz F.cn F.md.adr Z H u y → PostE F own W m Z H σ ρ Q (ret d s) → K2 v u H Q) :
    Ev F own W m (tEither (fun σ H Q => ta σ H fun x H1 => tb σ H1 fun y H2 => K1 x y H2 Q) (fun σ H Q => ta σ H fun x H1 => tb σ H1 fun y H2 => K2 x y H2 Q)) (o2 g fa fb) := by
  intro σ H Z ρ s Q k q
  have both : ∀ K : V → V → Hp → VK → Prop, (∀ v u x y d Z H s1 s2, fa ρ s = some (.ok x, s1) → fb ρ s1 = some (.ok y, s2) → g x y = some d → Ok F own Z H σ ρ s2 → Bz F.cn F.md.adr Z H v x → Bz F.cn F.md.adr Z H u y → PostE F own W m Z H σ ρ Q (ret d s2) → K v u H Q) →
      ta σ H fun x H1 => tb σ H1 fun y H2 => K x y H2 Q := by
    intro K hk
    dsimp only [o2, bnd] at q
    refine ha σ H Z ρ s _ k ?_
    cases e1 : fa ρ s with
    | none => rw [e1] at q; exact q
    | some p1 =>
      obtain ⟨r1, s1⟩ := p1
      rw [e1] at q
      cases r1 with
      | error y => exact q
      | ok x =>
        intro v H1 Z1 x1 k1 z1
        refine hb σ H1 Z1 ρ s1 _ k1 ?_
        dsimp only at q
        cases e2 : fb ρ s1 with
        | none => rw [e2] at q; exact q
        | some p2 =>
          obtain ⟨r2, s2⟩ := p2
          rw [e2] at q
          cases r2 with
          | error y => exact q
          | ok y =>
            intro u H2 Z2 x2 k2 z2
            dsimp only at q
            have q2 := PostE.from (x1.trans x2) q
            cases e3 : g x y with
            | none => rw [e3] at q2; exact (show False from q2).elim
            | some d =>
              rw [e3] at q2
              exact hk v u x y d Z2 H2 s1 s2 e1 e2 e3 k2 (z1.bz.ext k1.toBs x2) z2.bz q2
  by_cases hp : ∃ x s1 y s2, fa ρ s = some (.ok x, s1) ∧ fb ρ s1 = some (.ok y, s2) ∧ pick x y = true
  · obtain ⟨x, s1, y, s2, e1, e2, e3⟩ := hp
    refine .inr (both K2 fun v u x' y' d Z H s1' s2' q1 q2 q3 k z1 z2 q4 => ?_)
    rw [e1] at q1
    cases q1
    rw [e2] at q2
    cases q2
    exact h2 v u _ _ d Z H σ ρ _ Q e3 q3 k z1 z2 q4
  · refine .inl (both K1 fun v u x' y' d Z H s1' s2' q1 q2 q3 k z1 z2 q4 => ?_)
    have e3 : pick x' y' = false := by
      cases e : pick x' y' with
      | false => rfl
      | true => exact absurd ⟨_, _, _, _, q1, q2, e⟩ hp
    exact h1 v u _ _ d Z H σ ρ _ Q e3 q3 k z1 z2 q4
def isDic : D → Bool
  | .dic _ => true
  | .dit _ => true
  | _ => false
theorem ev_in (A : Amb X F k) (neg : Bool) (ha : Ev F own W m1 ta fa) (hb : Ev F own W m2 tb fb) :
    Ev F own W .fz (tEither (tOp (rInA X.K neg) ta tb) (inX tb ta neg)) (o2 (fun x y => (dInB x y).map fun b => .bl (if neg then !b else b)) fa fb) := by
  refine Ev.either2 (g := fun x y => (dInB x y).map fun b => .bl (if neg then !b else b)) (K1 := rInA X.K neg) (K2 := fun y x H2 Q => ∃ a o, x = .ref a ∧ DGet H2 a y o ∧ Q (.bl (if neg then !o.isSome else o.isSome)) H2) (fun _ y => isDic y) ha hb (fun v u x y d Z H σ ρ s Q hp e k z1 z2 h => ?_) fun v u x y d Z H σ ρ s Q hp e k z1 z2 h => ?_
  · obtain ⟨r, eB, e2⟩ := Option.map_eq_some_iff.mp e
    subst e2
    clear e
    have e := eB
    clear eB
    cases y with
    | str y =>
      cases x <;> simp only [dInB] at e <;> try cases e
      split at e
      · rename_i c e2
        cases e
        rw [z1.str_, z2.str_, one_sign e2]
        exact .inl ⟨c, y, rfl, rfl, h.val k (.bl _)⟩
      · cases e
    | lst ys =>
      have e' : (if flatD x = true ∧ ys.all flatD = true then some (ys.any fun y => eqF y x) else match toPy x, toPys ys with
        | some a, some bs => if SeqAt.shaped a = true ∧ SeqAt.shaped (.list bs) = true then some (bs.any fun z => PyData.eqv z a) else none
        | _, _ => none) = some r := by cases x <;> exact e
      obtain ⟨b, us, rfl, h1, h2, h3⟩ := z2.lst_
      split at e'
      · rename_i hf
        cases e'
        obtain ⟨i1, i2⟩ := flat_all us ys h3 hf.2
        have z := z1.flat hf.1
        refine .inr (.inl ⟨b, us, rfl, .inl (SqL.of h1), flat_V z hf.1, i1, ?_⟩)
        unfold inV
        rw [i2 v x z hf.1]
        exact h.val k (.bl _)
      · split at e'
        · rename_i a bs q1 q2
          split at e'
          · rename_i hs
            cases e'
            refine .inr (.inr ⟨a, bs, A.K ▸ z1.dp a q1, A.K ▸ z2.dp (.list bs) (by simp only [toPy]; rw [q2]), hs.1, hs.2, h.val k (.bl _)⟩)
          · cases e'
        · cases e'
    | tup ys =>
      have e' : (if flatD x = true ∧ ys.all flatD = true then some (ys.any fun y => eqF y x) else none) = some r := by cases x <;> exact e
      obtain ⟨b, us, rfl, h1, h2, h3⟩ := z2.tup_
      split at e'
      · rename_i hf
        cases e'
        obtain ⟨i1, i2⟩ := flat_all us ys h3 hf.2
        have z := z1.flat hf.1
        refine .inr (.inl ⟨b, us, rfl, .inr (A.K ▸ h1.sq), flat_V z hf.1, i1, ?_⟩)
        unfold inV
        rw [i2 v x z hf.1]
        exact h.val k (.bl _)
      · cases e'
    | dic des => cases hp
    | _ => cases x <;> simp only [dInB] at e <;> cases e
  · obtain ⟨r, eB, e2⟩ := Option.map_eq_some_iff.mp e
    subst e2
    clear e
    have e := eB
    clear eB
    cases y with
    | dic des =>
      obtain ⟨a, kvs, rfl, h1, h2, h3, h4⟩ := z2.dic_
      cases x <;> simp only [dInB] at e <;> try cases e
      · rw [z1.int_]
        refine ⟨a, valV kvs (.inl _), rfl, DGet.k (k := .inl _) h1, ?_⟩
        rw [val_find h3]
        exact h.val k (.bl _)
      · rw [z1.str_]
        refine ⟨a, valV kvs (.inr _), rfl, DGet.k (k := .inr _) h1, ?_⟩
        rw [val_find h3]
        exact h.val k (.bl _)
    | dit des => cases x <;> simp only [dInB] at e <;> cases e
    | _ => cases hp
theorem pe_inX (hu : X.A.units + 65 < cLine) (ha : PE X a ta) (hb : PE X b tb) (hm : behindInMarks .In b = false) : PE X (.Compare a [.In] [b] pos) (tEither (tOp (rInA X.K false) ta tb) (inX tb ta false)) :=
  pe_either (pe_cmpR (op_inA hu) ha hb hm) (pe_cmp (pc_din (by omega) ha hb) hm)
theorem pe_notInX (hu : X.A.units + 65 < cLine) (ha : PE X a ta) (hb : PE X b tb) (hm : behindInMarks .NotIn b = false) : PE X (.Compare a [.NotIn] [b] pos) (tEither (tOp (rInA X.K true) ta tb) (inX tb ta true)) :=
  pe_either (pe_cmpR (op_notInA hu) ha hb hm) (pe_cmp (pc_dnotin (by omega) ha hb) hm)
theorem Amb.u65 (A : Amb X F k) : X.A.units + 65 < cLine := by have := A.rm.un; omega
theorem de_in (A : Amb X F k) (ha : DE X F own W m1 a ta fa) (hb : DE X F own W m2 b tb fb) (hm : behindInMarks .In b = false := by rfl) : DE X F own W .fz (.Compare a [.In] [b] pos) (tEither (tOp (rInA X.K false) ta tb) (inX tb ta false)) (o2 dIn fa fb) :=
  ⟨pe_inX A.u65 ha.pe hb.pe hm, ev_in A false ha.ev hb.ev⟩
theorem de_notin (A : Amb X F k) (ha : DE X F own W m1 a ta fa) (hb : DE X F own W m2 b tb fb) (hm : behindInMarks .NotIn b = false := by rfl) : DE X F own W .fz (.Compare a [.NotIn] [b] pos) (tEither (tOp (rInA X.K true) ta tb) (inX tb ta true)) (o2 dNotIn fa fb) :=
  ⟨pe_notInX A.u65 ha.pe hb.pe hm, ev_in A true ha.ev hb.ev⟩
/-- a comparison whose value is a bool, as a test -/
theorem dt_of {t : TE} {g : D → D → Option D} (h : DE X F own W .fz e t (o2 g fa fb)) (hp : PT X e (tTest t)) : DT X F own W e (tTest t) (tsb (o2 g fa fb)) := ⟨hp, ev_tsb h.ev⟩
theorem pt_either {t u : TE} (h1 : PT X e (tTest t)) (h2 : PT X e (tTest u)) : PT X e (tTest (tEither t u)) := ⟨fun pins s σ H Q I h => h.elim (fun q => h1.run pins s σ H Q I q) (fun q => h2.run pins s σ H Q I q)⟩
theorem dt_in (A : Amb X F k) (ha : DE X F own W m1 a ta fa) (hb : DE X F own W m2 b tb fb) (hm : behindInMarks .In b = false := by rfl) : DT X F own W (.Compare a [.In] [b] pos) (tTest (tEither (tOp (rInA X.K false) ta tb) (inX tb ta false))) (tsb (o2 dIn fa fb)) :=
  ⟨pt_either (pt_cmpR (op_inA A.u65) ha.pe hb.pe hm) (pt_cmp (pc_din (by have := A.u65; omega) ha.pe hb.pe) hm), ev_tsb (ev_in A false ha.ev hb.ev)⟩
theorem dt_notin (A : Amb X F k) (ha : DE X F own W m1 a ta fa) (hb : DE X F own W m2 b tb fb) (hm : behindInMarks .NotIn b = false := by rfl) : DT X F own W (.Compare a [.NotIn] [b] pos) (tTest (tEither (tOp (rInA X.K true) ta tb) (inX tb ta true))) (tsb (o2 dNotIn fa fb)) :=
  ⟨pt_either (pt_cmpR (op_notInA A.u65) ha.pe hb.pe hm) (pt_cmp (pc_dnotin (by have := A.u65; omega) ha.pe hb.pe) hm), ev_tsb (ev_in A true ha.ev hb.ev)⟩

/-! ### x[i] -/
def dSubs : D → D → Option D
  | .lst ds, .int i => atI ds i
  | .tup ds, .int i => atI ds i
  | .str x, .int i => if x.length ≤ sizeLine then (atI x.cps.toList i).map fun c => .str ⟨#[c]⟩ else none
  | .dic kvs, .int i => (kvs.find? fun kv => decide (kv.1 = .inl i)).map (·.2)
  | .dic kvs, .str x => (kvs.find? fun kv => decide (kv.1 = .inr x)).map (·.2)
  | _, _ => none
theorem atI_map {α β : Type} {xs : List α} {ys : List β} (hl : xs.length = ys.length) {i : Int} {y : β} (h : atI ys i = some y) : ∃ (j : Nat) (x : α), atI xs i = some x ∧ xs[j]? = some x ∧ ys[j]? = some y := by
  unfold atI at h ⊢
  rw [hl]
  cases e : ixN ys.length i with
  | none => rw [e] at h; cases h
  | some j =>
    rw [e] at h
    have h' : ys[j]? = some y := h
    have hj : j < xs.length := by rw [hl]; exact (List.getElem?_eq_some_iff.mp h').1
    exact ⟨j, xs[j], by show xs[j]? = _; exact List.getElem?_eq_getElem hj, List.getElem?_eq_getElem hj, h'⟩
theorem find_val {κ : Type} [DecidableEq κ] {c : Cn} {kvs : List (κ × V)} {des : List (κ × D)} (h : kvs.map (·.1) = des.map (·.1)) (hz : FzAll c Z H (kvs.map (·.2)) (des.map (·.2))) (x : κ) {d : D} (e : (des.find? fun kv => decide (kv.1 = x)).map (·.2) = some d) : ∃ v, valV kvs x = some v ∧ Fz c Z H v d := by
  induction kvs generalizing des with
  | nil => cases des with
    | nil => cases e
    | cons q r => simp at h
  | cons p r ih => cases des with
    | nil => simp at h
    | cons q r' =>
      simp only [List.map_cons, List.cons.injEq] at h
      rw [List.map_cons, List.map_cons] at hz
      obtain ⟨h1, h2⟩ := hz.inv
      unfold valV
      rw [List.find?_cons] at e ⊢
      rw [h.1]
      by_cases e0 : q.1 = x
      · simp only [e0, decide_true] at e ⊢
        cases e
        exact ⟨p.2, rfl, h1⟩
      · simp only [e0, decide_false] at e ⊢
        exact ih h.2 h2 e
theorem ev_sub (A : Amb X F k) (ha : Ev F own W m1 ta fa) (hb : Ev F own W m2 tb fb) : Ev F own W .fz (tEither (tOp (rIx X.K) ta tb) (tDGet ta tb)) (o2 dSubs fa fb) := by
  refine Ev.either2 (g := dSubs) (K1 := rIx X.K) (K2 := fun x y H2 Q => ∃ a v, x = .ref a ∧ DGet H2 a y (some v) ∧ Q v H2) (fun x _ => isDic x) ha hb (fun v u x y d Z H σ ρ s Q hp e k z1 z2 h => ?_) fun v u x y d Z H σ ρ s Q hp e k z1 z2 h => ?_
  · cases x <;> cases y <;> simp only [dSubs] at e <;> try cases e
    · split at e
      · rename_i hl
        obtain ⟨c, e1, rfl⟩ := Option.map_eq_some_iff.mp e
        rw [z1.str_, z2.int_]
        exact .inr (.inr ⟨_, _, c, rfl, rfl, hl, e1, h.val k (.str _)⟩)
      · cases e
    · obtain ⟨b, us, rfl, h1, h2, h3⟩ := z1.lst_
      obtain ⟨j, w, q1, q2, q3⟩ := atI_map h3.1 e
      rw [z2.int_]
      exact .inl ⟨b, us, _, w, rfl, rfl, SqL.of h1, q1, h.val k (h3.2 j w d q2 q3)⟩
    · obtain ⟨b, us, rfl, h1, h2, h3⟩ := z1.tup_
      obtain ⟨j, w, q1, q2, q3⟩ := atI_map h3.1 e
      rw [z2.int_]
      exact .inr (.inl ⟨b, us, _, w, rfl, rfl, A.K ▸ h1.sq, q1, h.val k (h3.2 j w d q2 q3)⟩)
    · cases hp
    · cases hp
  · cases x <;> cases y <;> simp only [dSubs] at e <;> try cases e
    all_goals try cases hp
    · obtain ⟨a, kvs, rfl, h1, h2, h3, h4⟩ := z1.dic_
      obtain ⟨w, q1, q2⟩ := find_val h3 h4 _ e
      rw [z2.int_]
      exact ⟨a, w, rfl, by rw [← q1]; exact DGet.k (k := .inl _) h1, h.val k q2⟩
    · obtain ⟨a, kvs, rfl, h1, h2, h3, h4⟩ := z1.dic_
      obtain ⟨w, q1, q2⟩ := find_val h3 h4 _ e
      rw [z2.str_]
      exact ⟨a, w, rfl, by rw [← q1]; exact DGet.k (k := .inr _) h1, h.val k q2⟩
theorem de_subs (A : Amb X F k) (ha : DE X F own W m1 a ta fa) (hb : DE X F own W m2 b tb fb) (hs : PlainIx b := by exact (fun _ _ => rfl)) (hn : NoSl b := by exact (fun _ _ => rfl)) : DE X F own W .fz (.Subscript a b pos) (tEither (tOp (rIx X.K) ta tb) (tDGet ta tb)) (o2 dSubs fa fb) :=
  ⟨pe_either (pe_ix ix_seq ha.pe hb.pe hs) (pe_dget (by have := A.u65; omega) ha.pe hb.pe hn), ev_sub A ha.ev hb.ev⟩
end
end DL

namespace DL
open PySem L2 PySem.Spec PyProof.Rows

section
variable {S : Type} {X : Cx} {F : Fc S} {Z Z' Z1 Z2 : Addr → Prop} {H H' H1 H2 : Hp} {σ : L2.St} {ρ : Env} {own : List Nat} {s s' : S} {p : Addr} {o : HO} {v : V} {d : D} {m m' m1 m2 m3 : Mo} {W : WX} {Q : VK} {k : Nat}
variable {a b c e : Expr} {ta tb tc te : TE} {fa fb fc fe : Env → M S D} {pos : Pos} {es : List Expr} {t : TA} {f : Env → M S (List D)}

/-! ### a text repeated -/
def repS (x : Str) (n : Nat) : Str := ⟨(List.replicate n x.cps).foldl (· ++ ·) #[]⟩
def rMulS : R2 := fun x y H Q => ∃ a n, x = .str a ∧ y = .int n ∧ 2 ≤ n ∧ n ≤ 1000000 ∧ 1 ≤ a.length ∧ a.length * n.toNat ≤ sizeLine ∧ (repS a n.toNat).length ≤ sizeLine ∧ Q (.str (repS a n.toNat)) H
theorem op_mulS : OpR X (binaryOp .Mult) rMulS := by
  intro pins s σ H x y v u Q I rx ry h
  obtain ⟨a, n, rfl, rfl, h1, h2, h3, h4, h5, q⟩ := h
  obtain ⟨t, rfl⟩ := rx
  obtain ⟨t', rfl⟩ := ry
  have hn1 : (n == 1 || a.length == 0) = false := by
    have e1 : (n == 1) = false := beq_eq_false_iff_ne.mpr (by omega)
    have e2 : (a.length == 0) = false := beq_eq_false_iff_ne.mpr (by omega)
    rw [e1, e2]; rfl
  have hz := sizeLine_eq
  refine PySem.P.mul_str (by
      have e1 : ¬ n < -(2 ^ 63 : Int) := by omega
      have e2 : ¬ n ≥ 2 ^ 63 := by omega
      rw [decide_eq_false e1, decide_eq_false e2]; rfl) (fun _ _ q => ?_) (fun _ _ => ?_) ?_
  · have e1 : (a.length : Int) ≤ 16777216 := by
      have : a.length ≤ a.length * n.toNat := Nat.le_mul_of_pos_right _ (by omega)
      omega
    have e2 : (16777216 : Int) ≤ (2 ^ 63 - 1) / n := by
      refine Int.le_ediv_of_mul_le (by omega) ?_
      have : (16777216 : Int) * n ≤ 16777216 * 1000000 := Int.mul_le_mul_of_nonneg_left h2 (by decide)
      omega
    omega
  · unfold Builtin.Str.tooLong
    exact decide_eq_false (Nat.not_lt.mpr h4)
  · rw [if_neg (show ¬ n < 1 by omega), if_neg (by rw [hn1]; decide)]
    exact ⟨h5, ⟨.str _, H, I.tok _, ⟨_, rfl⟩, q⟩⟩
def dMulS : D → D → Option D
  | .int i, .int j => if okMul i j = true then some (.int (i * j)) else none
  | .str a, .int n => if 2 ≤ n ∧ n ≤ 1000000 ∧ 1 ≤ a.length ∧ a.length * n.toNat ≤ sizeLine ∧ (repS a n.toNat).length ≤ sizeLine then some (.str (repS a n.toNat)) else none
  | _, _ => none
abbrev rMulA : R2 := fun x y H Q => rI CMul (fun i j => .int (i * j)) x y H Q ∨ rMulS x y H Q
theorem de_mulS (ha : DE X F own W m1 a ta fa) (hb : DE X F own W m2 b tb fb) : DE X F own W .fz (.BinOp a .Mult b pos) (tOp rMulA ta tb) (o2 dMulS fa fb) := by
  refine de_op (op_mul.or op_mulS) (fun v u x y d Z H σ ρ s Q e k z1 z2 q => ?_) ha hb
  cases x <;> cases y <;> simp only [dMulS] at e <;> try cases e
  · split at e
    · rename_i h
      cases e
      exact .inl ⟨_, _, z1.int_, z2.int_, (by unfold okMul at h; have h2 := of_decide_eq_true h; exact h2), q.val k (.int _)⟩
    · cases e
  · split at e
    · rename_i h
      cases e
      exact .inr ⟨_, _, z1.str_, z2.int_, h.1, h.2.1, h.2.2.1, h.2.2.2.1, h.2.2.2.2, q.val k (.str _)⟩
    · cases e

/-! ### x[a:b] -/
def cut {α : Type} (xs : List α) (lo hi : Option Int) : List α := (xs.drop (HT.sIx xs.length 0 lo)).take (HT.sIx xs.length xs.length hi - HT.sIx xs.length 0 lo)
theorem cut_map {α β : Type} (f : α → β) (xs : List α) (lo hi : Option Int) : cut (xs.map f) lo hi = (cut xs lo hi).map f := by unfold cut; rw [List.length_map, List.map_take, List.map_drop]
theorem FzAll.cut {c : Cn} {vs : List V} {ds : List D} (h : FzAll c Z H vs ds) (lo hi : Option Int) : FzAll c Z H (DL.cut vs lo hi) (DL.cut ds lo hi) := by
  have hl := h.1
  refine ⟨by unfold DL.cut; rw [hl]; simp [List.length_take, List.length_drop, hl], fun i v d a b => ?_⟩
  unfold DL.cut at a b
  rw [hl] at a
  rw [List.getElem?_take] at a b
  split at a
  · rename_i hi
    rw [if_pos hi] at b
    rw [List.getElem?_drop] at a b
    exact h.2 _ v d a b
  · cases a
structure DP (X : Cx) (F : Fc S) (own : List Nat) (W : WX) (e : Option Expr) (t : TO) (f : Env → M S (Option Int)) : Prop where
  po : PO X e t
  ev : ∀ σ H Z ρ s (Q : Option Int → Hp → Prop), Ok F own Z H σ ρ s → (match f ρ s with
    | some (.ok i, s') => ∀ H' Z', Ext F Z H Z' H' → Ok F own Z' H' σ ρ s' → Q i H'
    | some (.error x, s') => ∀ cls dd H' Z', Bs F Z' H' s' → ExcAt F.cn Z' H' x cls dd → W cls dd σ H'
    | none => False) → t σ H Q
def pNone : Env → M S (Option Int) := fun _ => ret none
def asI : D → Option Int
  | .int i => some i
  | _ => none
theorem asI_some {x : D} {i : Int} (h : asI x = some i) : x = .int i := by cases x <;> simp only [asI] at h <;> first | cases h; rfl | cases h
def pSome (fe : Env → M S D) : Env → M S (Option Int) := fun ρ => bnd (fe ρ) fun x => match asI x with
  | some i => ret (some i)
  | none => stk
theorem dp_none : DP X F own W none tNoPart pNone := ⟨po_none, fun σ H Z ρ s Q k h => h H Z Ext.refl k⟩
theorem dp_some (x : DE X F own W m1 e te fe) : DP X F own W (some e) (tPart te) (pSome fe) := by
  refine ⟨po_some x.pe, fun σ H Z ρ s Q k h => ?_⟩
  refine x.ev σ H Z ρ s _ k ?_
  dsimp only [pSome, bnd] at h
  cases e1 : fe ρ s with
  | none => rw [e1] at h; exact h
  | some p1 =>
    obtain ⟨r1, s1⟩ := p1
    rw [e1] at h
    cases r1 with
    | error y => exact h
    | ok d =>
      intro v H' Z' x' k' z
      dsimp only at h
      cases e2 : asI d with
      | none => rw [e2] at h; exact (show False from h).elim
      | some i =>
        rw [e2] at h
        obtain rfl := asI_some e2
        exact ⟨i, z.bz.int_, h H' Z' x' k'⟩
def dSlc (x : D) (lo hi : Option Int) : Option D := match x with
  | .lst ds => some (.lst (cut ds lo hi))
  | .tup ds => some (.tup (cut ds lo hi))
  | .str x => if x.length ≤ sizeLine then some (.str (cutS x lo hi)) else none
  | _ => none
def dSlcL (x : D) (lo hi : Option Int) : Option D := match x with
  | .lst ds => some (.lst (cut ds lo hi))
  | .scr ns => some (.lst ((cut ns lo hi).map .int))
  | _ => none
def slc (g : D → Option Int → Option Int → Option D) (fe : Env → M S D) (fl fh : Env → M S (Option Int)) : Env → M S D := fun ρ => bnd (fe ρ) fun x => bnd (fl ρ) fun l => bnd (fh ρ) fun h => lft (g x l h)
theorem cut_len {α : Type} (xs : List α) (lo hi : Option Int) : (cut xs lo hi).length ≤ xs.length := by unfold cut; rw [List.length_take, List.length_drop]; omega
theorem cut_all {α : Type} {xs : List α} {lo hi : Option Int} (h : HT.sIx xs.length 0 lo = 0 ∧ HT.sIx xs.length xs.length hi = xs.length) : cut xs lo hi = xs := by
  unfold cut
  rw [h.1, h.2]
  simp
abbrev rSlX (K : PySem.W.Frag) : V → Option Int → Option Int → Hp → VK → Prop := fun x lo hi H Q => rSlL K x lo hi H Q ∨ rSlA K x lo hi H Q ∨ rSlS x lo hi H Q
theorem ev_slc {r : V → Option Int → Option Int → Hp → VK → Prop} {g : D → Option Int → Option Int → Option D} {lo hi : Option Expr} {tl th : TO} {fl fh : Env → M S (Option Int)}
    (hr : ∀ v x i j d Z H σ ρ s Q, g x i j = some d → Ok F own Z H σ ρ s → Bz F.cn F.md.adr Z H v x → PostE F own W m Z H σ ρ Q (ret d s) → r v i j H Q)
    (x : Ev F own W m1 te fe) (yl : DP X F own W lo tl fl) (yh : DP X F own W hi th fh) : Ev F own W m (tSl r te tl th) (slc g fe fl fh) := by
  intro σ H Z ρ s Q k q
  refine x σ H Z ρ s _ k ?_
  dsimp only [slc, bnd] at q
  cases e1 : fe ρ s with
  | none => rw [e1] at q; exact q
  | some p1 =>
    obtain ⟨r1, s1⟩ := p1
    rw [e1] at q
    cases r1 with
    | error y => exact q
    | ok d1 =>
      intro v H1 Z1 x1 k1 z1
      refine yl.ev σ H1 Z1 ρ s1 _ k1 ?_
      dsimp only at q
      cases e2 : fl ρ s1 with
      | none => rw [e2] at q; exact q
      | some p2 =>
        obtain ⟨r2, s2⟩ := p2
        rw [e2] at q
        cases r2 with
        | error y => exact q
        | ok l =>
          intro H2 Z2 x2 k2
          refine yh.ev σ H2 Z2 ρ s2 _ k2 ?_
          dsimp only at q
          cases e3 : fh ρ s2 with
          | none => rw [e3] at q; exact q
          | some p3 =>
            obtain ⟨r3, s3⟩ := p3
            rw [e3] at q
            cases r3 with
            | error y => exact q
            | ok h =>
              intro H3 Z3 x3 k3
              dsimp only at q
              have q3 := PostE.from ((x1.trans x2).trans x3) q
              cases e4 : g d1 l h with
              | none => rw [e4] at q3; exact (show False from q3).elim
              | some d =>
                rw [e4] at q3
                exact hr v d1 l h d Z3 H3 σ ρ s3 Q e4 k3 ((z1.bz.ext k1.toBs x2).ext k2.toBs x3) q3
theorem de_slc (A : Amb X F k) {lo hi : Option Expr} {tl th : TO} {fl fh : Env → M S (Option Int)} {p2 : Pos} (x : DE X F own W m1 e te fe) (yl : DP X F own W lo tl fl) (yh : DP X F own W hi th fh) : DE X F own W .fz (.Subscript e (.Slice lo hi none p2) pos) (tSl (rSlX X.K) te tl th) (slc dSlc fe fl fh) := by
  refine ⟨pe_slice (sl_list.or (sl_tupA.or sl_str)) x.pe yl.po yh.po, ev_slc (fun v x i j d Z H σ ρ s Q e k z q => ?_) x.ev yl yh⟩
  cases x <;> simp only [dSlc] at e <;> try cases e
  · split at e
    · rename_i hl
      cases e
      rw [z.str_]
      exact .inr (.inr ⟨_, rfl, hl, q.val k (.str _)⟩)
    · cases e
  · obtain ⟨b, us, rfl, h1, h2, h3⟩ := z.lst_
    exact .inl ⟨b, us, rfl, SqL.of h1, q.newLz k (h3.cut i j) (Nat.le_trans (cut_len us i j) h2)⟩
  · obtain ⟨b, us, rfl, h1, h2, h3⟩ := z.tup_
    refine .inr (.inl ⟨b, us, rfl, A.K ▸ h1.sq, fun hw => ?_, fun _ => q.newT k (h3.cut i j) (Nat.le_trans (cut_len us i j) h2)⟩)
    rw [h3.1] at hw
    rw [cut_all hw] at q
    exact q.val k (.tup h1 h3.1 h2 h3.2)
theorem de_slcL (A : Amb X F k) {lo hi : Option Expr} {tl th : TO} {fl fh : Env → M S (Option Int)} {p2 : Pos} (x : DE X F own W m1 e te fe) (yl : DP X F own W lo tl fl) (yh : DP X F own W hi th fh) : DE X F own W .fr (.Subscript e (.Slice lo hi none p2) pos) (tSl (rSlL X.K) te tl th) (slc dSlcL fe fl fh) := by
  refine ⟨pe_slice sl_list x.pe yl.po yh.po, ev_slc (fun v x i j d Z H σ ρ s Q e k z q => ?_) x.ev yl yh⟩
  cases x <;> simp only [dSlcL] at e <;> try cases e
  · obtain ⟨b, us, rfl, h1, h2, h3⟩ := z.lst_
    exact ⟨b, us, rfl, SqL.of h1, q.newL k (h3.cut i j) (Nat.le_trans (cut_len us i j) h2)⟩
  · rename_i ns
    obtain ⟨b, rfl, h1, h2⟩ := z.scr_
    have hz : FzAll F.cn Z H (ns.map V.int) (ns.map D.int) := ⟨by simp, fun i v d a b => by
      rw [List.getElem?_map] at a b
      obtain ⟨n, hn, rfl⟩ := Option.map_eq_some_iff.mp a
      rw [hn] at b
      cases b
      exact .int n⟩
    refine ⟨b, _, rfl, (by rw [A.K]; exact h1.sq), q.newL k ?_ ?_⟩
    · rw [← cut_map]
      exact hz.cut i j
    · refine Nat.le_trans (cut_len _ i j) ?_
      rw [List.length_map]
      exact Nat.le_trans h2 (by decide)

/-! ### isinstance by built-in classes -/
def tyN : D → Option String
  | .non => some "NoneType"
  | .bl _ => some "bool"
  | .int _ => some "int"
  | .str _ => some "str"
  | .lst _ => some "list"
  | .tup _ => some "tuple"
  | .dic _ => some "dict"
  | .dit _ => some "dict"
  | .scr _ => some "list"
  | _ => none
def tyKnown : List String := ["NoneType", "bool", "int", "str", "list", "tuple", "dict"]
def isTy (a b : String) : Option Bool := if a ∈ tyKnown ∧ b ∈ tyKnown.drop 1 then some (decide (a = b ∨ a = "bool" ∧ b = "int")) else none
theorem isTy_kit {a b : String} {r : Bool} (h : isTy a b = some r) : kitB a b = some r := by
  unfold isTy at h
  split at h
  · rename_i hm
    cases h
    obtain ⟨h1, h2⟩ := hm
    unfold tyKnown at h1 h2
    simp only [List.mem_cons, List.not_mem_nil, or_false, List.drop] at h1 h2
    rcases h1 with rfl | rfl | rfl | rfl | rfl | rfl | rfl <;> rcases h2 with rfl | rfl | rfl | rfl | rfl | rfl <;> decide +kernel
  · cases h
def tys : List D → Option (List String)
  | [] => some []
  | .ty n :: r => (tys r).map (n :: ·)
  | _ => none
def isAny (a : String) : List String → Option Bool
  | [] => some false
  | c :: r => match isTy a c with
    | some true => some true
    | some false => isAny a r
    | none => none
def dIsi : D → D → Option D
  | x, .ty n => match tyN x with
    | some a => (isTy a n).map .bl
    | none => none
  | x, .tup cs => match tyN x, tys cs with
    | some a, some ns => (isAny a ns).map .bl
    | _, _ => none
  | _, _ => none
theorem ty_of {c : Cn} {adr : Addr → Prop} {a : String} (h : tyN d = some a) (z : Bz c adr Z H v d) : TyX c.K H v (.type a) := by
  cases d <;> simp only [tyN] at h <;> try cases h
  · rw [z.non_]; exact .base .non
  · rw [z.bl_]; exact .base (.bl _)
  · rw [z.int_]; exact .base (.int _)
  · rw [z.str_]; exact .base (.str _)
  · obtain ⟨b, us, rfl, h1, _⟩ := z.lst_; exact .base (.lst h1)
  · obtain ⟨b, us, rfl, h1, _⟩ := z.tup_
    rcases h1 with ⟨_, h1⟩ | h1
    · exact .base (.tup h1)
    · rcases h1 (fun _ => none) with (h2 | ⟨_, h2⟩) | ⟨o, its, n, q1, q2, _⟩
      · cases h2
      · cases h2
      · exact .kTuple q1 q2
  · obtain ⟨b, us, rfl, h1, _⟩ := z.dic_; exact .base (.dK h1)
  · rcases z with z | ⟨b, rfl, _, us, h1, _⟩
    · cases z with
      | dit h1 h2 h3 h4 h5 h6 => exact .base (.dT h2)
    · exact .base (.dT h1)
  · obtain ⟨b, rfl, h1, _⟩ := z.scr_
    rcases h1 with ⟨_, h1 | ⟨o, h1⟩⟩ | h1
    · exact .base (.lst h1)
    · exact .base (.frz h1)
    · rcases h1 (fun _ => none) with (h2 | ⟨_, h2⟩) | ⟨o, its, n, q1, q2, _⟩
      · cases h2
      · cases h2
      · exact .kList q1 q2
theorem tys_vals {c : Cn} : ∀ (cs : List D) (vs : List V) (ns : List String), FzAll c Z H vs cs → tys cs = some ns → Paired ClsV vs (ns.map Value.type)
  | [], vs, ns, h, e => by
    simp only [tys] at e
    cases e
    rw [List.length_eq_zero_iff.mp h.1]
    exact .nil
  | d :: cs, [], ns, h, e => by have := h.1; simp at this
  | d :: cs, v :: vs, ns, h, e => by
    obtain ⟨h1, h2⟩ := h.inv
    cases d <;> simp only [tys] at e <;> try cases e
    obtain ⟨ns', e1, rfl⟩ := Option.map_eq_some_iff.mp e
    cases h1
    exact .cons (.ty _) (tys_vals cs vs ns' h2 e1)
theorem isAny_kit {K : PySem.W.Frag} {a : String} : ∀ (ns : List String) (r : Bool), isAny a ns = some r → PySem.W.kitAny K (.type a) (ns.map Value.type) = some r
  | [], r, e => by simp only [isAny] at e; cases e; rfl
  | n :: ns, r, e => by
    simp only [isAny] at e
    unfold PySem.W.kitAny
    show (match PySem.W.kitOne K (.type a) (.type n) with | some true => some true | some false => PySem.W.kitAny K (.type a) (ns.map Value.type) | none => none) = some r
    split at e
    · rename_i h; cases e; rw [kit_ty (isTy_kit h)]
    · rename_i h; rw [kit_ty (isTy_kit h)]; exact isAny_kit ns r e
    · cases e
abbrev rIsiA (K : PySem.W.Frag) : List V → Hp → VK → Prop := fun xs H Q => rIsi K xs H Q ∨ rIsiT K xs H Q ∨ rIsiK K xs H Q
theorem d_isi : Op2 F own W .fz (fun x y H Q => rIsiA F.K [x, y] H Q) dIsi := by
  intro v u x y d Z H σ ρ s Q e k z1 z2 q
  cases y with
  | ty n =>
    have e' : (match tyN x with | some a => (isTy a n).map D.bl | none => none) = some d := by cases x <;> exact e
    split at e'
    · rename_i a ea
      obtain ⟨r, e1, rfl⟩ := Option.map_eq_some_iff.mp e'
      rw [z2.ty_]
      exact .inl ⟨v, _, _, _, r, rfl, .ty n, ty_of ea z1, kit_ty (isTy_kit e1), q.val k (.bl _)⟩
    · cases e'
  | tup cs =>
    have e' : (match tyN x, tys cs with | some a, some ns => (isAny a ns).map D.bl | _, _ => none) = some d := by cases x <;> exact e
    split at e'
    · rename_i a ns ea en
      obtain ⟨r, e1, rfl⟩ := Option.map_eq_some_iff.mp e'
      obtain ⟨b, us, rfl, h1, h2, h3⟩ := z2.tup_
      have pr := tys_vals cs us ns h3 en
      rcases h1 with ⟨_, h1⟩ | h1
      · exact .inr (.inl ⟨v, b, us, _, _, r, rfl, h1, pr, ty_of ea z1, isAny_kit ns r e1, q.val k (.bl _)⟩)
      · rcases h1 (fun _ => none) with (h2 | ⟨_, h2⟩) | ⟨o, its, n, q1, q2, q3, q4, q5⟩
        · cases h2
        · cases h2
        · obtain ⟨oc, od, dt, sl⟩ := o
          simp only at q2 q3
          subst q2 q3
          have e5 := ClsV.all pr q5
          refine .inr (.inr ⟨v, b, od, ns.map Value.type, n, sl, _, r, rfl, ?_, ty_of ea z1, isAny_kit ns r e1, q.val k (.bl _)⟩)
          rw [q1, ← e5]
    · cases e'
  | _ => cases x <;> simp only [dIsi] at e <;> cases e
theorem de_isi {p : Pos} (A : Amb X F k) (hg : Gl X "isinstance") (hm : X.mg "isinstance" = none) (ha : DE X F own W m1 a ta fa) (hb : DE X F own W m2 b tb fb) (hs : starEach [a, b] X.env = [(false, eval a X.env), (false, eval b X.env)] := by rfl) (hs2 : starEach [b] X.env = [(false, eval b X.env)] := by rfl) :
    DE X F own W .fz (.Call (.Name "isinstance" p) [a, b] [] pos) (tCB (rIsiA X.K) (tCons ta (tCons tb tNil))) (o2 dIsi fa fb) :=
  de_b2 (call_isi.or (call_isiT.or call_isiK)) (A.K ▸ d_isi) hg hm (by decide +kernel) ha hb (hs := hs) (hs2 := hs2)

/-! ### sep.join(xs) -/
def txts : List D → Option (List Str)
  | [] => some []
  | .str x :: r => (txts r).map (x :: ·)
  | _ => none
theorem txts_vals {c : Cn} : ∀ (ds : List D) (vs : List V) (ys : List Str), FzAll c Z H vs ds → txts ds = some ys → vs = ys.map V.str
  | [], vs, ys, h, e => by
    simp only [txts] at e
    cases e
    exact List.length_eq_zero_iff.mp h.1
  | d :: ds, [], ys, h, e => by have := h.1; simp at this
  | d :: ds, v :: vs, ys, h, e => by
    obtain ⟨h1, h2⟩ := h.inv
    cases d <;> simp only [txts] at e <;> try cases e
    obtain ⟨ys', e1, rfl⟩ := Option.map_eq_some_iff.mp e
    rw [txts_vals ds vs ys' h2 e1]
    cases h1
    rfl
def dJoin : D → D → Option D
  | .str a, .lst ds => match txts ds with
    | some ys => if (ys.map (·.length)).sum + ys.length * a.length ≤ 16777216 then some (.str (Str.join a ys)) else none
    | none => none
  | _, _ => none
def asS : D → Option Str
  | .str x => some x
  | _ => none
theorem asS_some {x : D} {i : Str} (h : asS x = some i) : x = .str i := by cases x <;> simp only [asS] at h <;> first | cases h; rfl | cases h
def joi (fa fe : Env → M S D) : Env → M S D := fun ρ => bnd (fa ρ) fun x => match asS x with
  | some a => bnd (fe ρ) fun y => lft (dJoin (.str a) y)
  | none => stk
theorem de_join {apos : Pos} (x : DE X F own W m1 a ta fa) (y : DE X F own W m2 e te fe) (hs : starEach [e] X.env = [(false, eval e X.env)] := by rfl) (hbase : attributeBase a "join" X.env (eval a X.env) = eval a X.env := by rfl) (hline : (apos.endLine == pos.line) = true := by rfl) :
    DE X F own W .fz (.Call (.Attribute a "join" apos) [e] [] pos) (tM1 (fun x xs H Q => ∃ a p, ∃ ys : List Str, x = .str a ∧ xs = [.ref p] ∧ (SqL X.K H p (ys.map V.str) ∨ SqT X.K H p (ys.map V.str)) ∧
      (ys.map (·.length)).sum + ys.length * a.length ≤ 16777216 ∧ Q (.str (Txt.join a ys)) H) ta te) (joi fa fe) := by
  refine ⟨pe_join x.pe y.pe hs hbase hline, ?_⟩
  refine Ev.bind (g := fun ρ x => match asS x with | some a => bnd (fe ρ) fun y => lft (dJoin (.str a) y) | none => stk) (K := fun x σ H1 Q => (∃ a, x = .str a) ∧ te σ H1 fun y H2 => ∃ a p, ∃ ys : List Str, x = .str a ∧ [y] = [.ref p] ∧ (SqL X.K H2 p (ys.map V.str) ∨ SqT X.K H2 p (ys.map V.str)) ∧
      (ys.map (·.length)).sum + ys.length * a.length ≤ 16777216 ∧ Q (.str (Txt.join a ys)) H2) x.ev fun v d1 Hs Z1 H1 σ ρ s1 Q k1 z1 q => ?_
  cases e0 : asS d1 with
  | none => rw [e0] at q; exact (show False from q).elim
  | some sep =>
    rw [e0] at q
    obtain rfl := asS_some e0
    refine ⟨⟨_, z1.bz.str_⟩, y.ev σ H1 Z1 ρ s1 _ k1 ?_⟩
    dsimp only [bnd] at q
    cases e2 : fe ρ s1 with
    | none => rw [e2] at q; exact q
    | some p2 =>
      obtain ⟨r2, s2⟩ := p2
      rw [e2] at q
      cases r2 with
      | error w => exact q
      | ok d2 =>
        intro u H2 Z2 x2 k2 z2
        dsimp only at q
        have q2 := PostE.from x2 q
        cases e3 : dJoin (.str sep) d2 with
        | none => rw [e3] at q2; exact (show False from q2).elim
        | some d3 =>
          rw [e3] at q2
          cases d2 <;> simp only [dJoin] at e3 <;> try cases e3
          rename_i ds
          split at e3
          · rename_i ys eys
            split at e3
            · rename_i hl
              cases e3
              obtain ⟨b, us, rfl, h1, h2, h3⟩ := z2.bz.lst_
              rw [txts_vals ds us ys h3 eys] at h1
              refine ⟨sep, b, ys, z1.bz.str_, rfl, .inl (SqL.of h1), hl, ?_⟩
              rw [TL.join_eq]
              exact PostE.val q2 k2 (.str _)
            · cases e3
          · cases e3

/-! ### {} -/
def mDnew : Env → M S D := fun _ => ret (.dic [])
theorem de_dnew : DE X F own W .fr (.Dict [] [] pos) tDNewK mDnew := ⟨pe_dnewK, fun σ H Z ρ s Q k q p n =>
  q (.ref p) _ Z (Ext.newO n) (k.newO n) ⟨p, rfl, fun z => (k.zd p z).1 n, k.toBs.nadr n, k.toBs.entry n, ⟨[], upd_same, Nat.zero_le _, rfl, FzAll.nil⟩, n, fun i d' h1 h2 h3 => by
    obtain ⟨a, q1, _, _, _, q5⟩ := k.ow i d' h1 h2
    rw [h3] at q1
    cases q1
    exact q5.there n⟩⟩
end
end DL

namespace DL
open PySem L2 PySem.Spec PyProof.Rows

section
variable {S : Type} {X : Cx} {F : Fc S} {Z Z' Z1 Z2 : Addr → Prop} {H H' H1 H2 : Hp} {σ σ' : L2.St} {ρ : Env} {own own1 own2 own' oL : List Nat} {s s' : S} {p : Addr} {o : HO} {v : V} {d : D} {m m' m1 m2 m3 : Mo} {W : WX} {Q : VK} {k : Nat} {fr : Bool} {D0 : Ends}
variable {a b c e : Expr} {ta tb tc te : TE} {fa fb fc fe : Env → M S D} {pos pos' : Pos} {es : List Expr} {t : TA} {f : Env → M S (List D)}
variable {st : Stmt} {sts : List Stmt} {ts us : TS} {fs gs : Env → M S (Fl × Env)} {tt : TT} {ft : Env → M S Bool}

theorem PostS.from (g : Grow Z H Z1 H1) {r : Option (Except Exc (Fl × Env) × S)} (h : PostS F own' oL W fr Z H D0 r) : PostS F own' oL W fr Z1 H1 D0 r := by
  match r, h with
  | none, h => exact h
  | some (.ok (.nx, ρ'), s'), h => exact fun σ' H' Z' e => h σ' H' Z' (g.trans e)
  | some (.ok (.bk, ρ'), s'), h => exact fun σ' H' Z' e => h σ' H' Z' (g.trans e)
  | some (.ok (.ct, ρ'), s'), h => exact fun σ' H' Z' e => h σ' H' Z' (g.trans e)
  | some (.ok (.rt d, ρ'), s'), h => exact h
  | some (.error y, s'), h => exact h
/-- an expression, then the rest of a statement -/
theorem EvS.bind {g : Env → D → M S (Fl × Env)} {K : V → L2.St → Hp → Ends → Prop} (ha : Ev F own W m ta fa)
    (hk : ∀ v d Hs Z H σ ρ s D0, Ok F own Z H σ ρ s → Vz m F own σ ρ Hs Z H v d → PostS F own' oL W fr Z H D0 (g ρ d s) → K v σ H D0) :
    EvS F own own' oL W fr (fun D0 σ H => ta σ H fun x H1 => K x σ H1 D0) (fun ρ => bnd (fa ρ) (g ρ)) := by
  intro σ H Z ρ s D0 k h
  refine ha σ H Z ρ s _ k ?_
  dsimp only [bnd] at h
  cases e : fa ρ s with
  | none => rw [e] at h; exact h
  | some p1 =>
    obtain ⟨r1, s1⟩ := p1
    rw [e] at h
    cases r1 with
    | error y => exact fun cls dd H' Z' => h cls dd σ H' Z'
    | ok d => exact fun v H' Z' x k' z => hk v d _ Z' H' σ ρ s1 D0 k' z (h.from (k.toBs.grow x))
theorem EvS.bindT {g : Env → Bool → M S (Fl × Env)} {K : Bool → L2.St → Hp → Ends → Prop} (ha : EvT F own W tt ft)
    (hk : ∀ d Z H σ ρ s D0, Ok F own Z H σ ρ s → PostS F own' oL W fr Z H D0 (g ρ d s) → K d σ H D0) :
    EvS F own own' oL W fr (fun D0 σ H => tt σ H fun x H1 => K x σ H1 D0) (fun ρ => bnd (ft ρ) (g ρ)) := by
  intro σ H Z ρ s D0 k h
  refine ha σ H Z ρ s _ k ?_
  dsimp only [bnd] at h
  cases e : ft ρ s with
  | none => rw [e] at h; exact h
  | some p1 =>
    obtain ⟨r1, s1⟩ := p1
    rw [e] at h
    cases r1 with
    | error y => exact fun cls dd H' Z' => h cls dd σ H' Z'
    | ok d => exact fun H' Z' x k' => hk d Z' H' σ ρ s1 D0 k' (h.from (k.toBs.grow x))

/-! ### owned things are let go: frozen -/
def Zd (own own2 : List Nat) (σ : L2.St) (ρ : Env) (Z : Addr → Prop) : Addr → Prop := fun a => Z a ∨ ∃ i d, i ∈ own ∧ i ∉ own2 ∧ ρ[i]? = some (some d) ∧ σ[i]? = some (some (V.ref a))
theorem Ok.drop (k : Ok F own Z H σ ρ s) (sub : ∀ i ∈ own2, i ∈ own) : Grow Z H (Zd own own2 σ ρ Z) H ∧ Ok F own2 (Zd own own2 σ ρ Z) H σ ρ s := by
  have g : Grow Z H (Zd own own2 σ ρ Z) H := ⟨fun _ h => .inl h, fun _ _ => rfl⟩
  refine ⟨g, ⟨⟨k.st, fun a z => ?_, fun a z => .inl (k.z0 a z), fun a z => ?_, k.sm⟩, fun i d h1 h2 => ?_, fun i d h1 h2 => ?_, fun i j d d' a h1 h2 => k.sp i j d d' a (sub i h1) (sub j h2), k.ln⟩⟩
  · rcases z with z | ⟨i, d, h1, h2, h3, h4⟩
    · exact k.zd a z
    · obtain ⟨a', q1, q2, q3, q4, q5⟩ := k.ow i d h1 h3
      rw [h4] at q1; cases q1
      exact ⟨q5.there, q3⟩
  · rcases z with z | ⟨i, d, h1, h2, h3, h4⟩
    · exact k.zn a z
    · obtain ⟨a', q1, q2, q3, q4, q5⟩ := k.ow i d h1 h3
      rw [h4] at q1; cases q1
      exact .inr q4
  · by_cases hi : i ∈ own
    · obtain ⟨a', q1, q2, q3, q4, q5⟩ := k.ow i d hi h2
      exact ⟨_, q1, Ow.fz (.inr ⟨i, d, hi, h1, h2, q1⟩) (q5.grow g rfl)⟩
    · obtain ⟨v, q1, q2⟩ := k.fz i d hi h2
      exact ⟨v, q1, q2.grow g⟩
  · obtain ⟨a, q1, q2, q3, q4, q5⟩ := k.ow i d (sub i h1) h2
    refine ⟨a, q1, fun z => ?_, q3, q4, q5.grow g rfl⟩
    rcases z with z | ⟨j, d', h3, h4, h5, h6⟩
    · exact q2 z
    · exact h4 (k.sp i j d d' a (sub i h1) h3 h2 h5 q1 h6 ▸ h1)
theorem EvS.pre (h : EvS F own1 own' oL W fr ts fs) (sub : ∀ i ∈ own1, i ∈ own) : EvS F own own' oL W fr ts fs := by
  intro σ H Z ρ s D0 k q
  obtain ⟨g, k'⟩ := k.drop sub
  exact h σ H _ ρ s D0 k' (q.from g)
theorem EvS.post (h : EvS F own own1 oL W fr ts fs) (sub : ∀ i ∈ own', i ∈ own1) : EvS F own own' oL W fr ts fs := by
  intro σ H Z ρ s D0 k q
  refine h σ H Z ρ s D0 k ?_
  match e : fs ρ s, q with
  | none, q => exact q
  | some (.ok (.nx, ρ'), s'), q =>
    intro σ' H' Z' g k'
    obtain ⟨g2, k2⟩ := k'.drop sub
    exact q σ' H' _ (g.trans g2) k2
  | some (.ok (.bk, ρ'), s'), q => exact q
  | some (.ok (.ct, ρ'), s'), q => exact q
  | some (.ok (.rt d, ρ'), s'), q => exact q
  | some (.error y, s'), q => exact q
theorem DS.pre (h : DS X F own1 own' oL W fr st ts fs) (sub : ∀ i ∈ own1, i ∈ own := by decide) : DS X F own own' oL W fr st ts fs := ⟨h.ps, h.ev.pre sub⟩
theorem DS.to (h : DS X F own own1 oL W fr st ts fs) (sub : ∀ i ∈ own', i ∈ own1 := by decide) : DS X F own own' oL W fr st ts fs := ⟨h.ps, h.ev.post sub⟩
theorem DSs.to (h : DSs X F own own1 oL W fr sts ts fs) (sub : ∀ i ∈ own', i ∈ own1 := by decide) : DSs X F own own' oL W fr sts ts fs := ⟨h.ps, h.ev.post sub⟩
theorem DSs.pre (h : DSs X F own1 own' oL W fr sts ts fs) (sub : ∀ i ∈ own1, i ∈ own := by decide) : DSs X F own own' oL W fr sts ts fs := ⟨h.ps, h.ev.pre sub⟩

/-! ### blocks -/
def sNx : Env → M S (Fl × Env) := fun ρ => ret (.nx, ρ)
def sSeq (f g : Env → M S (Fl × Env)) : Env → M S (Fl × Env) := fun ρ => bnd (f ρ) fun x => match x.1 with
  | .nx => g x.2
  | _ => ret x
theorem dss_nil : DSs X F own own oL W fr [] tNext sNx := ⟨pss_nil, fun σ H Z ρ s D0 k q => q σ H Z (Grow.refl Z H) k⟩
theorem dss_one (h : DS X F own own' oL W fr st ts fs) : DSs X F own own' oL W fr [st] ts fs := ⟨pss_one h.ps, h.ev⟩
theorem dss_cons (h : DS X F own own1 oL W fr st ts fs) (h2 : DSs X F own1 own' oL W fr sts us gs) : DSs X F own own' oL W fr (st :: sts) (tSeq ts us) (sSeq fs gs) := by
  refine ⟨pss_cons h.ps h2.ps, fun σ H Z ρ s D0 k q => ?_⟩
  refine h.ev σ H Z ρ s _ k ?_
  dsimp only [sSeq, bnd] at q
  match e : fs ρ s, q with
  | none, q => exact q
  | some (.ok (.nx, ρ'), s'), q => exact fun σ' H' Z' g k' => h2.ev σ' H' Z' ρ' s' D0 k' (PostS.from g q)
  | some (.ok (.bk, ρ'), s'), q => exact q
  | some (.ok (.ct, ρ'), s'), q => exact q
  | some (.ok (.rt d, ρ'), s'), q => exact q
  | some (.error y, s'), q => exact q
theorem ds_pass : DS X F own own oL W fr (.Pass pos) tNext sNx := ⟨ps_pass, fun σ H Z ρ s D0 k q => q σ H Z (Grow.refl Z H) k⟩
theorem ds_doc {x : Str} {j : Nat} : DS X F own own oL W fr (.Expr (.Constant (.str x) j pos) pos') tNext sNx := ⟨ps_doc, fun σ H Z ρ s D0 k q => q σ H Z (Grow.refl Z H) k⟩
def sBk : Env → M S (Fl × Env) := fun ρ => ret (.bk, ρ)
def sCt : Env → M S (Fl × Env) := fun ρ => ret (.ct, ρ)
theorem ds_break (sub : ∀ i ∈ oL, i ∈ own := by decide) : DS X F own own' oL W fr (.Break pos) tBreak sBk := ⟨ps_break, fun σ H Z ρ s D0 k q => by
  obtain ⟨g, k'⟩ := k.drop sub
  exact q σ H _ g k'⟩
theorem ds_cont (sub : ∀ i ∈ oL, i ∈ own := by decide) : DS X F own own' oL W fr (.Continue pos) tCont sCt := ⟨ps_continue, fun σ H Z ρ s D0 k q => by
  obtain ⟨g, k'⟩ := k.drop sub
  exact q σ H _ g k'⟩
def sExp (fe : Env → M S D) : Env → M S (Fl × Env) := fun ρ => bnd (fe ρ) fun _ => ret (.nx, ρ)
theorem ds_expr (h : DE X F own W m e te fe) (hs : swapsWith e none pos.line X.env = pure false := by rfl) : DS X F own own oL W fr (.Expr e pos) (tDrop te) (sExp fe) :=
  ⟨ps_expr h.pe hs, EvS.bind (g := fun ρ _ => ret (.nx, ρ)) (K := fun _ σ H1 D0 => D0.nx σ H1) h.ev fun v d Hs Z H σ ρ s D0 k z q => q σ H Z (Grow.refl Z H) k⟩
def sRet (fe : Env → M S D) : Env → M S (Fl × Env) := fun ρ => bnd (fe ρ) fun d => ret (.rt d, ρ)
theorem ds_ret (h : DE X F own W .fz e te fe) : DS X F own own' oL W false (.Return (some e) pos) (tRet te) (sRet fe) :=
  ⟨ps_ret h.pe, EvS.bind (g := fun ρ d => ret (.rt d, ρ)) (K := fun v _ H1 D0 => D0.rt v H1) h.ev fun v d Hs Z H σ ρ s D0 k z q => q v H Z k.toBs z⟩
theorem ds_retF (h : DE X F own W .fr e te fe) : DS X F own own' oL W true (.Return (some e) pos) (tRet te) (sRet fe) :=
  ⟨ps_ret h.pe, EvS.bind (g := fun ρ d => ret (.rt d, ρ)) (K := fun v _ H1 D0 => D0.rt v H1) h.ev fun v d Hs Z H σ ρ s D0 k z q => q v H Z k.toBs (by
    obtain ⟨a, h1, h2, h3, h4, h5, h6⟩ := z
    exact ⟨a, h1, h2, h3, h4, h5⟩)⟩
theorem ds_retO {i : Nat} {x : Str} (hi : i ∈ own := by decide) (hN : X.N[i]? = some x := by rfl) (hv : Vis X.env.scope x := by first | exact Or.inl rfl | exact Or.inr (Or.inl rfl) | exact Or.inr (Or.inr rfl)) (hd : (x == ("__debug__" : Str)) = false := by decide)
    (hcd : (x == ("__classdict__" : Str)) = false := by decide) : DS X F own own' oL W true (.Return (some (.Name x pos')) pos) (tRet (tVar i)) (sRet (vr i)) := by
  refine ⟨ps_ret (pe_var hN hv hd hcd), fun σ H Z ρ s D0 k q => ?_⟩
  dsimp only [sRet, vr] at q
  cases e : ρ[i]? with
  | none => rw [e] at q; exact (show False from q).elim
  | some o =>
    rw [e] at q
    cases o with
    | none => exact (show False from q).elim
    | some d =>
      obtain ⟨a, q1, q2, q3, q4, q5⟩ := k.ow i d hi e
      exact ⟨_, q1, q _ H Z k.toBs ⟨a, rfl, q2, q3, q4, q5⟩⟩
def sRetN : Env → M S (Fl × Env) := fun ρ => ret (.rt .non, ρ)
theorem ds_retN : DS X F own own' oL W false (.Return none pos) tRetN sRetN := ⟨ps_retN, fun σ H Z ρ s D0 k q => q .non H Z k.toBs .non⟩
def sIf (f : Env → M S Bool) (g h : Env → M S (Fl × Env)) : Env → M S (Fl × Env) := fun ρ => bnd (f ρ) fun b => if b = true then g ρ else h ρ
theorem ds_if {c : Expr} {xs ys : List Stmt} (h : DT X F own W c tt ft) (h1 : DSs X F own own' oL W fr xs ts fs) (h2 : DSs X F own own' oL W fr ys us gs) : DS X F own own' oL W fr (.If c xs ys pos) (tIfS tt ts us) (sIf ft fs gs) :=
  ⟨ps_if h.pt h1.ps h2.ps, EvS.bindT (g := fun ρ b => if b = true then fs ρ else gs ρ) (K := fun b σ H1 D0 => if b = true then ts D0 σ H1 else us D0 σ H1) h.ev fun b Z H σ ρ s D0 k q => by
    cases b with
    | true => exact h1.ev σ H Z ρ s D0 k q
    | false => exact h2.ev σ H Z ρ s D0 k q⟩

/-! ### x = e -/
theorem set_get {α : Type} {xs : List (Option α)} {i j : Nat} {x : Option α} {y : α} (h : (xs.set i x)[j]? = some (some y)) : (j = i ∧ x = some y ∧ i < xs.length) ∨ (j ≠ i ∧ xs[j]? = some (some y)) := by
  by_cases e : i = j
  · subst e
    rw [List.getElem?_set_self'] at h
    cases q : xs[i]? with
    | none => rw [q] at h; cases h
    | some z =>
      rw [q] at h
      exact .inl ⟨rfl, by simpa using h, (List.getElem?_eq_some_iff.mp q).1⟩
  · rw [List.getElem?_set_ne e] at h
    exact .inr ⟨fun q => e q.symm, h⟩
theorem set_at {α : Type} {xs : List (Option α)} {i : Nat} {x : Option α} (h : i < xs.length) : (xs.set i x)[i]? = some x := List.getElem?_set_self h
def less (own : List Nat) (i : Nat) : List Nat := own.filter (fun j => !(j == i))
theorem mem_less {own : List Nat} {i j : Nat} : j ∈ less own i ↔ j ∈ own ∧ j ≠ i := by
  unfold less
  rw [List.mem_filter]
  simp
theorem Ok.set {i : Nat} (k : Ok F own Z H σ ρ s) (z : Fz F.cn Z H v d) : Ok F (less own i) Z H (σ.set i (some v)) (ρ.set i (some d)) s where
  toBs := k.toBs
  fz := fun j d' h1 h2 => by
    rcases set_get h2 with ⟨rfl, e, hi⟩ | ⟨hj, h3⟩
    · cases e
      exact ⟨v, set_at (by rw [← k.ln]; exact hi), z⟩
    · by_cases hm : j ∈ own
      · exact absurd (mem_less.mpr ⟨hm, hj⟩) h1
      · obtain ⟨w, q1, q2⟩ := k.fz j d' hm h3
        exact ⟨w, by rw [List.getElem?_set_ne (Ne.symm hj)]; exact q1, q2⟩
  ow := fun j d' h1 h2 => by
    obtain ⟨h1, hj⟩ := mem_less.mp h1
    rw [List.getElem?_set_ne (Ne.symm hj)] at h2
    obtain ⟨w, q⟩ := k.ow j d' h1 h2
    exact ⟨w, by rw [List.getElem?_set_ne (Ne.symm hj)]; exact q⟩
  sp := fun j l d1 d2 w h1 h2 h3 h4 h5 h6 => by
    obtain ⟨h1, n1⟩ := mem_less.mp h1
    obtain ⟨h2, n2⟩ := mem_less.mp h2
    rw [List.getElem?_set_ne (Ne.symm n1)] at h3 h5
    rw [List.getElem?_set_ne (Ne.symm n2)] at h4 h6
    exact k.sp j l d1 d2 w h1 h2 h3 h4 h5 h6
  ln := by rw [List.length_set, List.length_set]; exact k.ln
theorem Ok.setO {i : Nat} (k : Ok F own Z H σ ρ s) {Hs : Hp} (z : Frs F own σ ρ Hs Z H v d) : Ok F (i :: less own i) Z H (σ.set i (some v)) (ρ.set i (some d)) s where
  toBs := k.toBs
  fz := fun j d' h1 h2 => by
    have n1 : j ≠ i := fun e => h1 (by rw [e]; exact List.mem_cons_self)
    have n2 : j ∉ own := fun e => h1 (List.mem_cons_of_mem _ (mem_less.mpr ⟨e, n1⟩))
    rw [List.getElem?_set_ne (Ne.symm n1)] at h2
    obtain ⟨w, q1, q2⟩ := k.fz j d' n2 h2
    exact ⟨w, by rw [List.getElem?_set_ne (Ne.symm n1)]; exact q1, q2⟩
  ow := fun j d' h1 h2 => by
    rcases set_get h2 with ⟨rfl, e, hi⟩ | ⟨hj, h3⟩
    · cases e
      obtain ⟨a, rfl, h2, h3, h4, h5, h6⟩ := z
      exact ⟨a, set_at (by rw [← k.ln]; exact hi), h2, h3, h4, h5⟩
    · rcases List.mem_cons.mp h1 with e | h1
      · exact absurd e hj
      · obtain ⟨w, q⟩ := k.ow j d' (mem_less.mp h1).1 h3
        exact ⟨w, by rw [List.getElem?_set_ne (Ne.symm hj)]; exact q⟩
  sp := fun j l d1 d2 w h1 h2 h3 h4 h5 h6 => by
    obtain ⟨a, rfl, g2, g3, g4, g5, _, g6⟩ := z
    rcases set_get h3 with ⟨rfl, e, hi⟩ | ⟨hj, h3'⟩
    · rcases set_get h4 with ⟨rfl, e', hi'⟩ | ⟨hl, h4⟩
      · rfl
      · rw [set_at (by rw [← k.ln]; exact hi)] at h5
        cases h5
        rw [List.getElem?_set_ne (Ne.symm hl)] at h6
        rcases List.mem_cons.mp h2 with e' | h2
        · exact absurd e' hl
        · exact absurd h6 (g6 l d2 (mem_less.mp h2).1 h4)
    · rw [List.getElem?_set_ne (Ne.symm hj)] at h5
      rcases List.mem_cons.mp h1 with e' | h1
      · exact absurd e' hj
      · rcases set_get h4 with ⟨rfl, e', hi'⟩ | ⟨hl, h4⟩
        · rw [set_at (by rw [← k.ln]; exact hi')] at h6
          cases h6
          exact absurd h5 (g6 j d1 (mem_less.mp h1).1 h3')
        · rw [List.getElem?_set_ne (Ne.symm hl)] at h6
          rcases List.mem_cons.mp h2 with e' | h2
          · exact absurd e' hl
          · exact k.sp j l d1 d2 w (mem_less.mp h1).1 (mem_less.mp h2).1 h3' h4 h5 h6
  ln := by rw [List.length_set, List.length_set]; exact k.ln
def sSet (i : Nat) (fe : Env → M S D) : Env → M S (Fl × Env) := fun ρ => bnd (fe ρ) fun d => ret (.nx, ρ.set i (some d))
theorem ds_set {i : Nat} {x : Str} (nd : X.N.Nodup) (h : DE X F own W .fz e te fe) (hi : X.N[i]? = some x := by rfl) (hx : Loc X.env.scope x := by first | exact Or.inl rfl | exact Or.inr rfl) (hs : swapsWith e (some (.Name x pos')) pos.line X.env = pure false := by rfl) (hf : X.fn x = true ∨ X.env.scope.names.lookup x = some .local := by first | exact .inl rfl | exact .inr rfl) :
    DS X F own (less own i) oL W fr (.Assign [.Name x pos'] e pos) (tAsg te (gName i)) (sSet i fe) :=
  ⟨ps_set nd hi hx h.pe hs hf, EvS.bind (g := fun ρ d => ret (.nx, ρ.set i (some d))) (K := fun v σ H1 D0 => D0.nx (σ.set i (some v)) H1) h.ev fun v d Hs Z H σ ρ s D0 k z q => q _ H Z (Grow.refl Z H) (k.set z)⟩
theorem ds_setO {i : Nat} {x : Str} (nd : X.N.Nodup) (h : DE X F own W .fr e te fe) (hi : X.N[i]? = some x := by rfl) (hx : Loc X.env.scope x := by first | exact Or.inl rfl | exact Or.inr rfl) (hs : swapsWith e (some (.Name x pos')) pos.line X.env = pure false := by rfl) (hf : X.fn x = true ∨ X.env.scope.names.lookup x = some .local := by first | exact .inl rfl | exact .inr rfl) :
    DS X F own (i :: less own i) oL W fr (.Assign [.Name x pos'] e pos) (tAsg te (gName i)) (sSet i fe) :=
  ⟨ps_set nd hi hx h.pe hs hf, EvS.bind (g := fun ρ d => ret (.nx, ρ.set i (some d))) (K := fun v σ H1 D0 => D0.nx (σ.set i (some v)) H1) h.ev fun v d Hs Z H σ ρ s D0 k z q => q _ H Z (Grow.refl Z H) (k.setO z)⟩
end
end DL

namespace DL
open PySem L2 PySem.Spec PyProof.Rows

/-! ### targets -/
def wipeD (ρ : Env) : List Nat → Env
  | [] => ρ
  | v :: vs => (wipeD ρ vs).set v none
section
variable {S : Type} {X : Cx} {F : Fc S} {Z Z' Z1 Z2 : Addr → Prop} {H H' H1 H2 : Hp} {σ σ' : L2.St} {ρ : Env} {own own1 own2 own' oL : List Nat} {s s' : S} {p : Addr} {o : HO} {v : V} {d : D} {m m' m1 m2 m3 : Mo} {W : WX} {Q : VK} {k : Nat} {fr : Bool} {D0 : Ends}
variable {a b c e : Expr} {ta tb tc te : TE} {fa fb fc fe : Env → M S D} {pos pos' : Pos} {es : List Expr} {t : TA} {f : Env → M S (List D)}
variable {st : Stmt} {sts : List Stmt} {ts us : TS} {fs gs : Env → M S (Fl × Env)} {tt : TT} {ft : Env → M S Bool}

/-- the slots that are stored: tg -/
def PostG (F : Fc S) (own tgs : List Nat) (Z : Addr → Prop) (H : Hp) (σ : L2.St) (s : S) (Q : L2.St → Hp → Prop) : Option Env → Prop
  | some ρ' => ∀ σ', (∀ vs : List Nat, (∀ i ∈ tgs, i ∈ vs) → wipe σ' vs = wipe σ vs) → Ok F own Z H σ' ρ' s → Q σ' H
  | none => False
def EvG (F : Fc S) (own tgs : List Nat) (g : TG) (asg : D → Env → Option Env) : Prop :=
  ∀ v d σ H Z ρ s (Q : L2.St → Hp → Prop), Ok F own Z H σ ρ s → Fz F.cn Z H v d → PostG F own tgs Z H σ s Q (asg d ρ) → g v σ H Q
structure DG (X : Cx) (F : Fc S) (own tgs : List Nat) (tg : Expr) (g : TG) (asg : D → Env → Option Env) : Prop where
  pg : PG X tg g
  ev : EvG F own tgs g asg
def EvGs (F : Fc S) (own tgs : List Nat) (g : TGs) (asg : List D → Env → Option Env) : Prop :=
  ∀ vs ds σ H Z ρ s (Q : L2.St → Hp → Prop), Ok F own Z H σ ρ s → FzAll F.cn Z H vs ds → PostG F own tgs Z H σ s Q (asg ds ρ) → g vs σ H Q
structure DGs (X : Cx) (F : Fc S) (own tgs : List Nat) (n : Nat) (tg : List Expr) (g : TGs) (asg : List D → Env → Option Env) : Prop where
  pg : PGs X tg g
  ev : EvGs F own tgs g asg
  ln : tg.length = n
theorem wipe_set {x : Option V} {i : Nat} : ∀ (vs : List Nat) (σ : L2.St), i ∈ vs → wipe (σ.set i x) vs = wipe σ vs
  | [], _, h => absurd h (by simp)
  | v :: vs, σ, h => by
    unfold wipe
    by_cases e : i ∈ vs
    · rw [wipe_set vs σ e]
    · rcases List.mem_cons.mp h with rfl | h
      · have : ∀ (vs : List Nat) (σ : L2.St), i ∉ vs → wipe (σ.set i x) vs = (wipe σ vs).set i x := by
          intro vs
          induction vs with
          | nil => intro σ _; rfl
          | cons w ws ih =>
            intro σ hn
            unfold wipe
            rw [ih σ (fun q => hn (List.mem_cons_of_mem _ q))]
            exact List.set_comm _ _ (fun q => hn (by rw [q]; exact List.mem_cons_self))
        rw [this vs σ e, List.set_set]
      · exact absurd h e
theorem wipe_wipe (vs : List Nat) (σ : L2.St) : wipe (wipe σ vs) vs = wipe σ vs := by
  have : ∀ (us vs : List Nat) (σ : L2.St), (∀ i ∈ us, i ∈ vs) → wipe (wipe σ us) vs = wipe σ vs := by
    intro us
    induction us with
    | nil => intro vs σ _; rfl
    | cons u us ih =>
      intro vs σ h
      show wipe ((wipe σ us).set u none) vs = _
      rw [wipe_set vs _ (h u List.mem_cons_self), ih vs σ fun i hi => h i (List.mem_cons_of_mem _ hi)]
  exact this vs vs σ fun _ h => h
theorem less_id {i : Nat} (h : i ∉ own) : less own i = own := by
  unfold less
  refine List.filter_eq_self.mpr fun j hj => ?_
  have : j ≠ i := fun e => h (e ▸ hj)
  simp [this]
def gSet (i : Nat) : D → Env → Option Env := fun d ρ => some (ρ.set i (some d))
theorem dg_name {i : Nat} {x : Str} (nd : X.N.Nodup) (ho : i ∉ own := by decide) (hi : X.N[i]? = some x := by rfl) (hx : Loc X.env.scope x := by first | exact Or.inl rfl | exact Or.inr rfl) (hf : X.fn x = true ∨ X.env.scope.names.lookup x = some .local := by first | exact .inl rfl | exact .inr rfl) : DG X F own [i] (.Name x pos) (gName i) (gSet i) := by
  refine ⟨pg_name nd hi hx hf, fun v d σ H Z ρ s Q k z q => ?_⟩
  have k' := k.set (i := i) z
  rw [less_id ho] at k'
  exact q _ (fun vs h => wipe_set vs σ (h i (by simp))) k'
def gsNil : List D → Env → Option Env := fun ds ρ => match ds with
  | [] => some ρ
  | _ => none
def gsCons (g : D → Env → Option Env) (gs : List D → Env → Option Env) : List D → Env → Option Env := fun ds ρ => match ds with
  | [] => none
  | d :: ds => match g d ρ with
    | some ρ' => gs ds ρ'
    | none => none
theorem dgs_nil : DGs X F own [] 0 [] gNil gsNil := by
  refine ⟨pgs_nil, fun vs ds σ H Z ρ s Q k z q => ?_, rfl⟩
  cases ds with
  | nil => exact ⟨List.length_eq_zero_iff.mp z.1, q σ (fun _ _ => rfl) k⟩
  | cons d ds => exact (show False from q).elim
theorem dgs_cons {n : Nat} {tg1 tg2 : List Nat} {g1 : TG} {g2 : TGs} {a1 : D → Env → Option Env} {a2 : List D → Env → Option Env} (x : DG X F own tg1 e g1 a1) (y : DGs X F own tg2 n es g2 a2) (hs : (assignEach (e :: es) X.env).map (·.2) = assign e X.env :: (assignEach es X.env).map (·.2) := by rfl) : DGs X F own (tg1 ++ tg2) (n + 1) (e :: es) (gCons g1 g2) (gsCons a1 a2) := by
  refine ⟨pgs_cons x.pg y.pg hs, fun vs ds σ H Z ρ s Q k z q => ?_, by rw [List.length_cons, y.ln]⟩
  cases ds with
  | nil => exact (show False from q).elim
  | cons d ds =>
    cases vs with
    | nil => have := z.1; simp at this
    | cons v vs =>
      obtain ⟨z1, z2⟩ := z.inv
      refine ⟨v, vs, rfl, x.ev v d σ H Z ρ s _ k z1 ?_⟩
      dsimp only [gsCons] at q
      cases e1 : a1 d ρ with
      | none => rw [e1] at q; exact q
      | some ρ1 =>
        rw [e1] at q
        dsimp only at q
        intro σ1 w1 k1
        refine y.ev vs ds σ1 H Z ρ1 s _ k1 z2 ?_
        cases e2 : a2 ds ρ1 with
        | none => rw [e2] at q; exact q
        | some ρ2 =>
          rw [e2] at q
          intro σ2 w2 k2
          exact q σ2 (fun vs h => (w2 vs fun i hi => h i (List.mem_append_right _ hi)).trans (w1 vs fun i hi => h i (List.mem_append_left _ hi))) k2
def asT : D → Option (List D)
  | .tup ds => some ds
  | _ => none
def gTupD (n : Nat) (gs : List D → Env → Option Env) : D → Env → Option Env := fun d ρ => match asT d with
  | some ds => if ds.length = n then gs ds ρ else none
  | none => none
theorem dg_tup {n kt : Nat} {tg2 : List Nat} {g2 : TGs} {a2 : List D → Env → Option Env} (A : Amb X F k) (y : DGs X F own tg2 n es g2 a2) (hn : (assignEach es X.env).length = n := by rfl) (hst : (assignEach es X.env).findIdx? (·.1) = none := by rfl) : DG X F own tg2 (.Tuple es kt pos) (gTup F.K n g2) (gTupD n a2) := by
  refine ⟨A.K ▸ pg_tup A.calm y.pg hn hst, fun v d σ H Z ρ s Q k z q => ?_⟩
  dsimp only [gTupD] at q
  cases d <;> try exact (show False from q).elim
  rename_i ds
  dsimp only [asT] at q
  by_cases hl : ds.length = n
  · rw [if_pos hl] at q
    obtain ⟨a, vs, rfl, h1, h2, h3⟩ := Bz.tup_ (adr := F.md.adr) (.inl z)
    exact ⟨a, vs, rfl, h1.sq, by rw [h3.1]; exact hl, y.ev vs ds σ H Z ρ s Q k h3 q⟩
  · rw [if_neg hl] at q
    exact (show False from q).elim
/-- target = value, the target of any form -/
def sAsg (fe : Env → M S D) (g : D → Env → Option Env) : Env → M S (Fl × Env) := fun ρ => bnd (fe ρ) fun d => match g d ρ with
  | some ρ' => ret (.nx, ρ')
  | none => stk
theorem ds_asg {tg : Expr} {g : TG} {asg : D → Env → Option Env} {tgs : List Nat} (x : DE X F own W .fz e te fe) (y : DG X F own tgs tg g asg) (hs : swapsWithSole [tg] e pos.line X.env = pure false := by rfl) (hw : swappedStores [tg] e X.env = pure none := by rfl)
    (h1 : (assignEach [tg] X.env).map (·.2) = [assign tg X.env] := by rfl) : DS X F own own oL W fr (.Assign [tg] e pos) (tAsg te g) (sAsg fe asg) := by
  refine ⟨ps_asg x.pe y.pg hs hw h1, EvS.bind (g := fun ρ d => match asg d ρ with | some ρ' => ret (.nx, ρ') | none => stk) (K := fun v σ H1 D0 => g v σ H1 D0.nx) x.ev fun v d Hs Z H σ ρ s D0 k z q => ?_⟩
  refine y.ev v d σ H Z ρ s _ k z ?_
  cases e1 : asg d ρ with
  | none => rw [e1] at q; exact q
  | some ρ1 => rw [e1] at q; exact fun σ' w k' => q σ' H Z (Grow.refl Z H) k'

/-! ### what is walked -/
structure Wk (F : Fc S) (Z0 : Addr → Prop) (H0 : Hp) (J : It) (ds : List D) : Prop where
  go : ∀ (i : Nat) (d : D) Z H, (∀ a, Z a → H a ≠ none) → (∃ s, F.md.ok s H) → Grow Z0 H0 Z H → ds[i]? = some d → J.go i H ∧ ∀ x H', J.yld i H x H' → (H' = H ∧ Fz F.cn Z H x d) ∨
    ∃ p vs es, x = .ref p ∧ H p = none ∧ H' = upd H p (.tup vs) ∧ d = .tup es ∧ vs.length ≤ sizeLine ∧ FzAll F.cn Z H vs es
  stop : ∀ (i : Nat) Z H, (∃ s, F.md.ok s H) → Grow Z0 H0 Z H → ds.length ≤ i → J.stop i H
theorem Wk.from {J : It} {ds : List D} (w : Wk F Z H J ds) (g : Grow Z H Z' H') : Wk F Z' H' J ds :=
  ⟨fun i d Z1 H1 hd hs g1 => w.go i d Z1 H1 hd hs (g.trans g1), fun i Z1 H1 hs g1 => w.stop i Z1 H1 hs (g.trans g1)⟩
def PostI (F : Fc S) (own : List Nat) (W : WX) (Z : Addr → Prop) (H : Hp) (σ : L2.St) (ρ : Env) (R : It → Hp → Prop) : Option (Except Exc (List D) × S) → Prop
  | some (.ok ds, s') => ∀ J H' Z', Ext F Z H Z' H' → Ok F own Z' H' σ ρ s' → Wk F Z' H' J ds → R J H'
  | some (.error x, s') => ∀ cls dd H' Z', Bs F Z' H' s' → ExcAt F.cn Z' H' x cls dd → W cls dd σ H'
  | none => False
structure DI (X : Cx) (F : Fc S) (own : List Nat) (W : WX) (tg iter : Expr) (w : TI) (f : Env → M S (List D)) : Prop where
  pi : PI X tg iter w
  ev : ∀ σ H Z ρ s R, Ok F own Z H σ ρ s → PostI F own W Z H σ ρ R (f ρ s) → w σ H R
def iSeq (fe : Env → M S D) : Env → M S (List D) := fun ρ => bnd (fe ρ) fun x => match x with
  | .lst ds => ret ds
  | .tup ds => ret ds
  | .str x => ret (x.cps.toList.map fun c => .str ⟨#[c]⟩)
  | _ => stk
def wEither (t u : TI) : TI := fun σ H R => t σ H R ∨ u σ H R
theorem pi_either {tg : Expr} {t u : TI} (h1 : PI X tg e t) (h2 : PI X tg e u) : PI X tg e (wEither t u) := ⟨fun pins s σ H Q I h => h.elim (h1.run pins s σ H Q I) (h2.run pins s σ H Q I)⟩
theorem wk_list {vs : List V} {ds : List D} (z : Z p) (h : H p = some (.lst vs)) (hf : FzAll F.cn Z H vs ds) : Wk F Z H (Itl X.K p) ds where
  go := fun i d Z1 H1 hd _ g1 hi => by
    have h1 : H1 p = some (.lst vs) := (g1.h p z).trans h
    have hl : i < vs.length := by rw [hf.1]; exact (List.getElem?_eq_some_iff.mp hi).1
    have hv : vs[i]? = some vs[i] := List.getElem?_eq_getElem hl
    refine ⟨⟨vs, vs[i], SqL.of h1, hv⟩, fun x H' y => .inl ⟨y.1, ?_⟩⟩
    have := y.2 vs (SqL.of h1)
    rw [hv] at this
    cases this
    exact (hf.2 i _ d hv hi).grow g1
  stop := fun i Z1 H1 _ g1 hi => ⟨vs, SqL.of ((g1.h p z).trans h), by rw [hf.1]; exact hi⟩
theorem wk_tup {vs : List V} {ds : List D} (hK : X.K = F.K) (h : TupAt F.K Z H p vs) (hf : FzAll F.cn Z H vs ds) : Wk F Z H (Itt X.K p) ds where
  go := fun i d Z1 H1 hd _ g1 hi => by
    have h1 : SqT X.K H1 p vs := by rw [hK]; exact (h.grow g1).sq
    have hl : i < vs.length := by rw [hf.1]; exact (List.getElem?_eq_some_iff.mp hi).1
    have hv : vs[i]? = some vs[i] := List.getElem?_eq_getElem hl
    refine ⟨⟨vs, vs[i], h1, hv⟩, fun x H' y => .inl ⟨y.1, ?_⟩⟩
    have := y.2 vs h1
    rw [hv] at this
    cases this
    exact (hf.2 i _ d hv hi).grow g1
  stop := fun i Z1 H1 _ g1 hi => ⟨vs, by rw [hK]; exact (h.grow g1).sq, by rw [hf.1]; exact hi⟩
theorem wk_str {x : Str} : Wk F Z H (Its x) (x.cps.toList.map fun c => .str ⟨#[c]⟩) where
  go := fun i d Z1 H1 hd _ g1 hi => by
    rw [List.getElem?_map] at hi
    obtain ⟨c, hc, rfl⟩ := Option.map_eq_some_iff.mp hi
    rw [Array.getElem?_toList] at hc
    refine ⟨(Array.getElem?_eq_some_iff.mp hc).1, fun y H' h => .inl ⟨h.1, ?_⟩⟩
    obtain ⟨c', q1, rfl⟩ := h.2
    rw [hc] at q1
    cases q1
    exact .str _
  stop := fun i Z1 H1 _ g1 hi => by
    rw [List.length_map, Array.length_toList] at hi
    exact hi
theorem wk_range {lo : Int} {n : Nat} : Wk F Z H (Itr lo n) ((List.range n).map fun (i : Nat) => D.int (lo + (i : Int))) where
  go := fun i d Z1 H1 hd _ g1 hi => by
    rw [List.getElem?_map] at hi
    obtain ⟨j, hj, rfl⟩ := Option.map_eq_some_iff.mp hi
    obtain ⟨h1, h2⟩ := List.getElem?_eq_some_iff.mp hj
    rw [List.length_range] at h1
    rw [List.getElem_range] at h2
    subst h2
    exact ⟨h1, fun y H' h => .inl ⟨h.1, by rw [h.2]; exact .int _⟩⟩
  stop := fun i Z1 H1 _ g1 hi => by
    rw [List.length_map, List.length_range] at hi
    exact hi
theorem di_seq {tg : Expr} (A : Amb X F k) (x : DE X F own W .fz e te fe) : DI X F own W tg e (wEither (iList X.K te) (wEither (iTup X.K te) (iStr te))) (iSeq fe) := by
  refine ⟨pi_either (pi_list x.pe) (pi_either (pi_tup x.pe) (pi_str x.pe)), fun σ H Z ρ s R k q => ?_⟩
  dsimp only [iSeq, bnd] at q
  match e1 : fe ρ s, q with
  | none, q => exact q.elim
  | some (.error y, s1), q => exact .inl (x.ev σ H Z ρ s _ k (by rw [e1]; exact q))
  | some (.ok d, s1), q =>
    dsimp only at q
    cases d <;> try exact (show False from q).elim
    · refine .inr (.inr (x.ev σ H Z ρ s _ k ?_))
      rw [e1]
      intro v H' Z' x' k' z
      exact ⟨_, Bz.str_ (adr := F.md.adr) (.inl z), q _ H' Z' x' k' wk_str⟩
    · refine .inl (x.ev σ H Z ρ s _ k ?_)
      rw [e1]
      intro v H' Z' x' k' z
      cases z with
      | lst h1 h2 h3 h4 h5 => exact ⟨_, rfl, ⟨_, SqL.of h2⟩, q _ H' Z' x' k' (wk_list h1 h2 ⟨h3, h5⟩)⟩
    · refine .inr (.inl (x.ev σ H Z ρ s _ k ?_))
      rw [e1]
      intro v H' Z' x' k' z
      obtain ⟨a, vs, rfl, h1, h2, h3⟩ := Bz.tup_ (adr := F.md.adr) (.inl z)
      exact ⟨_, rfl, ⟨_, (by rw [A.K]; exact h1.sq)⟩, q _ H' Z' x' k' (wk_tup A.K h1 h3)⟩
def rng (lo hi : Int) : List D := (List.range (hi - lo).toNat).map fun (i : Nat) => D.int (lo + (i : Int))
def iRg1 (fe : Env → M S D) : Env → M S (List D) := fun ρ => bnd (fe ρ) fun x => match asI x with
  | some n => if -(2 ^ 62) ≤ n ∧ n < 2 ^ 62 then ret (rng 0 n) else stk
  | none => stk
theorem di_rng1 {tg : Expr} {p : Pos} (hg : Gl X "range") (hm : X.mg "range" = none) (x : DE X F own W m e te fe) (hs : starEach [e] X.env = [(false, eval e X.env)] := by rfl) : DI X F own W tg (.Call (.Name "range" p) [e] [] pos) (iRng1 (tCons te tNil)) (iRg1 fe) := by
  refine ⟨pi_range1 hg hm (pa_cons x.pe pa_nil (by rw [hs]; rfl)) hs, fun σ H Z ρ s R k q => ?_⟩
  refine x.ev σ H Z ρ s _ k ?_
  dsimp only [iRg1, bnd] at q
  match e1 : fe ρ s, q with
  | none, q => exact q
  | some (.error y, s1), q => exact q
  | some (.ok d, s1), q =>
    intro v H' Z' x' k' z
    dsimp only at q
    cases e2 : asI d with
    | none => rw [e2] at q; exact (show False from q).elim
    | some n =>
      rw [e2] at q
      obtain rfl := asI_some e2
      dsimp only at q
      split at q
      · rename_i hn
        refine ⟨n, by rw [z.bz.int_], hn.1, hn.2, q _ H' Z' x' k' ?_⟩
        unfold rng
        rw [Int.sub_zero]
        exact wk_range
      · exact (show False from q).elim
def iRg2 (fa fb : Env → M S D) : Env → M S (List D) := fun ρ => bnd (fa ρ) fun x => bnd (fb ρ) fun y => match asI x, asI y with
  | some i, some j => if -(2 ^ 62) ≤ i ∧ i < 2 ^ 62 ∧ -(2 ^ 62) ≤ j ∧ j < 2 ^ 62 then ret (rng i j) else stk
  | _, _ => stk
theorem di_rng2 {tg : Expr} {p : Pos} (hg : Gl X "range") (hm : X.mg "range" = none) (x : DE X F own W m1 a ta fa) (y : DE X F own W m2 b tb fb) (hs : starEach [a, b] X.env = [(false, eval a X.env), (false, eval b X.env)] := by rfl) (hs2 : starEach [b] X.env = [(false, eval b X.env)] := by rfl) : DI X F own W tg (.Call (.Name "range" p) [a, b] [] pos) (iRng2 (tCons ta (tCons tb tNil))) (iRg2 fa fb) := by
  refine ⟨pi_range2 hg hm (pa_cons x.pe (pa_cons y.pe pa_nil (by rw [hs2]; rfl)) (by rw [hs, hs2])) hs hs2, fun σ H Z ρ s R k q => ?_⟩
  refine x.ev σ H Z ρ s _ k ?_
  dsimp only [iRg2, bnd] at q
  match e1 : fa ρ s, q with
  | none, q => exact q
  | some (.error y, s1), q => exact q
  | some (.ok d, s1), q =>
    intro v H' Z' x' k' z
    dsimp only at q
    refine y.ev σ H' Z' ρ s1 _ k' ?_
    cases e2 : fb ρ s1 with
    | none => rw [e2] at q; exact q
    | some p2 =>
      obtain ⟨r2, s2⟩ := p2
      rw [e2] at q
      cases r2 with
      | error y => exact q
      | ok d2 =>
        intro u H2 Z2 x2 k2 z2
        dsimp only at q
        cases e3 : asI d with
        | none => rw [e3] at q; exact (show False from q).elim
        | some n =>
          cases e4 : asI d2 with
          | none => rw [e3, e4] at q; exact (show False from q).elim
          | some n2 =>
            rw [e3, e4] at q
            obtain rfl := asI_some e3
            obtain rfl := asI_some e4
            dsimp only at q
            by_cases hn : -(2 ^ 62) ≤ n ∧ n < 2 ^ 62 ∧ -(2 ^ 62) ≤ n2 ∧ n2 < 2 ^ 62
            · rw [if_pos hn] at q
              exact ⟨n, n2, by rw [z.bz.int_, z2.bz.int_], hn, q _ H2 Z2 (x'.trans x2) k2 wk_range⟩
            · rw [if_neg hn] at q
              exact (show False from q).elim
end
end DL

namespace DL
open PySem L2 PySem.Spec PyProof.Rows

section
variable {S : Type} {X : Cx} {F : Fc S} {Z Z' Z1 Z2 : Addr → Prop} {H H' H1 H2 : Hp} {σ σ' : L2.St} {ρ : Env} {own own1 own2 own' oL : List Nat} {s s' : S} {p : Addr} {o : HO} {v : V} {d : D} {m m' m1 m2 m3 : Mo} {W : WX} {Q : VK} {k : Nat} {fr : Bool} {D0 : Ends}
variable {a b c e : Expr} {ta tb tc te : TE} {fa fb fc fe : Env → M S D} {pos pos' : Pos} {es : List Expr} {t : TA} {f : Env → M S (List D)}
variable {st : Stmt} {sts : List Stmt} {ts us : TS} {fs gs : Env → M S (Fl × Env)} {tt : TT} {ft : Env → M S Bool}

/-! ### for -/
def forF (asg : D → Env → Option Env) (body : Env → M S (Fl × Env)) : List D → Env → M S (Fl × Env)
  | [], ρ => ret (.nx, ρ)
  | d :: ds, ρ => match asg d ρ with
    | none => stk
    | some ρ1 => bnd (body ρ1) fun x => match x.1 with
      | .nx => forF asg body ds x.2
      | .ct => forF asg body ds x.2
      | .bk => ret (.nx, x.2)
      | .rt d => ret (.rt d, x.2)
def sFor (fi : Env → M S (List D)) (asg : D → Env → Option Env) (body : Env → M S (Fl × Env)) : Env → M S (Fl × Env) := fun ρ => bnd (fi ρ) fun ds => forF asg body ds ρ
/-- the item at hand, whichever way it came -/
theorem Wk.item {J : It} {ds : List D} {i : Nat} {x : V} {H' : Hp} (w : Wk F Z1 H1 J ds) (g : Grow Z1 H1 Z H) (k : Ok F own Z H σ ρ s) (hi : ds[i]? = some d) (y : J.yld i H x H') : ∃ Z', Ext F Z H Z' H' ∧ Ok F own Z' H' σ ρ s ∧ Fz F.cn Z' H' x d := by
  rcases (w.go i d Z H (fun a z => (k.zd a z).1) ⟨_, k.st⟩ g hi).2 x H' y with ⟨rfl, z⟩ | ⟨p, vs, es, rfl, n, rfl, rfl, hl, z⟩
  · exact ⟨Z, Ext.refl, k, z⟩
  · refine ⟨_, Ext.newZ n, k.newZ n, ?_⟩
    have z' := z.grow (k.toBs.grow (Ext.newZ (o := .tup vs) n))
    exact .tup (.inl ⟨.inr rfl, upd_same⟩) z'.1 hl z'.2
theorem ds_for {tg iter : Expr} {body : List Stmt} {wi : TI} {g : TG} {tgs : List Nat} {fi : Env → M S (List D)} {asg : D → Env → Option Env} (A : Amb X F k) (hi : DI X F own W tg iter wi fi) (hg : DG X F own tgs tg g asg) (hb : DSs X F own own own W fr body ts fs)
    (hs : ∀ x, foldedSetIterable iter X.env x = pure x := by intro _; rfl) : DS X F own own oL W fr (.For tg iter body [] pos) (tFor wi g ts) (sFor fi asg fs) := by
  refine ⟨ps_for A.po A.calm hi.pi hg.pg hb.ps hs, fun σ H Z ρ s D0 k q => ?_⟩
  refine hi.ev σ H Z ρ s _ k ?_
  dsimp only [sFor, bnd] at q
  cases e1 : fi ρ s with
  | none => rw [e1] at q; exact q
  | some p1 =>
    obtain ⟨r1, s1⟩ := p1
    rw [e1] at q
    cases r1 with
    | error y => exact fun cls dd H' Z' => q cls dd σ H' Z'
    | ok ds =>
      intro J H1 Z1 x1 k1 w1
      dsimp only at q
      have q1 := q.from (k.toBs.grow x1)
      refine ⟨fun i mm σ' H' => mm = ds.length - i ∧ i ≤ ds.length ∧ ∃ Z' ρ' s', Grow Z1 H1 Z' H' ∧ Ok F own Z' H' σ' ρ' s' ∧ PostS F own oL W fr Z' H' D0 (forF asg fs (ds.drop i) ρ' s'), ⟨ds.length, by simp, Nat.zero_le _, Z1, ρ, s1, Grow.refl _ _, k1, by rw [List.drop_zero]; exact q1⟩, ?_⟩
      rintro i mm σ' H' ⟨rfl, hle, Z', ρ', s', g', k', q'⟩
      by_cases hlt : i < ds.length
      · have hget : ds[i]? = some ds[i] := List.getElem?_eq_getElem hlt
        refine .inr ⟨(w1.go i _ Z' H' (fun a z => (k'.zd a z).1) ⟨_, k'.st⟩ g' hget).1, fun σ2 H2 => ∃ Z2 ρ2 s2, Grow Z1 H1 Z2 H2 ∧ Ok F own Z2 H2 σ2 ρ2 s2 ∧ PostS F own oL W fr Z2 H2 D0 (forF asg fs (ds.drop (i + 1)) ρ2 s2),
          fun σ2 H2 ⟨Z2, ρ2, s2, g2, k2, q2⟩ => ⟨ds.length - (i + 1), by omega, rfl, hlt, Z2, ρ2, s2, g2, k2, q2⟩, fun x H2 y => ?_⟩
        obtain ⟨Z2, x2, k2, z2⟩ := w1.item g' k' hget y
        refine hg.ev x _ σ' H2 Z2 ρ' s' _ k2 z2 ?_
        rw [List.drop_eq_getElem_cons hlt] at q'
        dsimp only [forF] at q'
        cases e2 : asg ds[i] ρ' with
        | none => rw [e2] at q'; exact (show False from q').elim
        | some ρ1 =>
          rw [e2] at q'
          dsimp only [bnd] at q'
          intro σ3 wp k3
          refine hb.ev σ3 H2 Z2 ρ1 s' _ k3 ?_
          have g2 : Grow Z1 H1 Z2 H2 := g'.trans (k'.toBs.grow x2)
          have q2 := PostS.from (k'.toBs.grow x2) q'
          match e3 : fs ρ1 s', q2 with
          | none, q2 => exact q2
          | some (.error y, s2), q2 => exact q2
          | some (.ok (.nx, ρ2), s2), q2 => exact fun σ4 H4 Z4 g4 k4 => ⟨Z4, ρ2, s2, g2.trans g4, k4, PostS.from g4 q2⟩
          | some (.ok (.ct, ρ2), s2), q2 => exact fun σ4 H4 Z4 g4 k4 => ⟨Z4, ρ2, s2, g2.trans g4, k4, PostS.from g4 q2⟩
          | some (.ok (.bk, ρ2), s2), q2 => exact q2
          | some (.ok (.rt d, ρ2), s2), q2 => exact q2
      · have e : i = ds.length := by omega
        subst e
        refine .inl ⟨w1.stop _ Z' H' ⟨_, k'.st⟩ g' (Nat.le_refl _), ?_⟩
        rw [List.drop_length] at q'
        exact q' σ' H' Z' (Grow.refl _ _) k'

/-! ### while -/
def whF (c : Env → M S Bool) (body : Env → M S (Fl × Env)) : Nat → Env → M S (Fl × Env)
  | 0, _ => stk
  | n + 1, ρ => bnd (c ρ) fun b => if b = true then bnd (body ρ) fun x => match x.1 with
      | .nx => whF c body n x.2
      | .ct => whF c body n x.2
      | .bk => ret (.nx, x.2)
      | .rt d => ret (.rt d, x.2)
    else ret (.nx, ρ)
def fuel : Nat := 1000000
def sWh (c : Env → M S Bool) (body : Env → M S (Fl × Env)) : Env → M S (Fl × Env) := fun ρ => whF c body fuel ρ
theorem ds_while {c : Expr} {body : List Stmt} (A : Amb X F k) (hc : DT X F own W c tt ft) (hb : DSs X F own own own W fr body ts fs) : DS X F own own oL W fr (.While c body [] pos) (tWhile tt ts) (sWh ft fs) := by
  refine ⟨ps_while A.po hc.pt hb.ps, fun σ H Z ρ s D0 k q => ?_⟩
  refine ⟨fun n σ' H' => ∃ Z' ρ' s', Grow Z H Z' H' ∧ Ok F own Z' H' σ' ρ' s' ∧ PostS F own oL W fr Z' H' D0 (whF ft fs n ρ' s'), ⟨fuel, Z, ρ, s, Grow.refl _ _, k, q⟩, ?_⟩
  rintro n σ' H' ⟨Z', ρ', s', g', k', q'⟩
  cases n with
  | zero => exact (show False from q').elim
  | succ n =>
    refine hc.ev σ' H' Z' ρ' s' _ k' ?_
    dsimp only [whF, bnd] at q'
    cases e1 : ft ρ' s' with
    | none => rw [e1] at q'; exact q'
    | some p1 =>
      obtain ⟨r1, s1⟩ := p1
      rw [e1] at q'
      cases r1 with
      | error y => exact fun cls dd H' Z' => q' cls dd σ' H' Z'
      | ok b =>
        intro H2 Z2 x2 k2
        have g2 : Grow Z H Z2 H2 := g'.trans (k'.toBs.grow x2)
        have q2 := PostS.from (k'.toBs.grow x2) q'
        cases b with
        | false => exact q2 σ' H2 Z2 (Grow.refl _ _) k2
        | true =>
          refine ⟨fun σ4 H4 => ∃ Z4 ρ4 s4, Grow Z H Z4 H4 ∧ Ok F own Z4 H4 σ4 ρ4 s4 ∧ PostS F own oL W fr Z4 H4 D0 (whF ft fs n ρ4 s4), fun σ4 H4 h4 => ⟨n, Nat.lt_succ_self n, h4⟩, ?_⟩
          refine hb.ev σ' H2 Z2 ρ' s1 _ k2 ?_
          dsimp only at q2
          rw [if_pos rfl] at q2
          dsimp only [bnd] at q2
          match e3 : fs ρ' s1, q2 with
          | none, q2 => exact q2
          | some (.error y, s2), q2 => exact q2
          | some (.ok (.nx, ρ2), s2), q2 => exact fun σ4 H4 Z4 g4 k4 => ⟨Z4, ρ2, s2, g2.trans g4, k4, PostS.from g4 q2⟩
          | some (.ok (.ct, ρ2), s2), q2 => exact fun σ4 H4 Z4 g4 k4 => ⟨Z4, ρ2, s2, g2.trans g4, k4, PostS.from g4 q2⟩
          | some (.ok (.bk, ρ2), s2), q2 => exact q2
          | some (.ok (.rt d, ρ2), s2), q2 => exact q2

/-! ### comprehensions -/
def cmpF (asg : D → Env → Option Env) (tst : Env → M S Bool) (fe : Env → M S D) (ρ : Env) : List D → M S (List D)
  | [] => ret []
  | d :: ds => match asg d ρ with
    | none => stk
    | some ρ1 => bnd (tst ρ1) fun b => if b = true then bnd (fe ρ1) fun y => bnd (cmpF asg tst fe ρ ds) fun ys => ret (y :: ys) else cmpF asg tst fe ρ ds
/-- no exception comes out -/
def nox {A : Type} (x : M S A) : M S A := fun s => match x s with
  | some (.ok a, s') => some (.ok a, s')
  | _ => none
def mCmp (fi : Env → M S (List D)) (asg : D → Env → Option Env) (tst : Env → M S Bool) (fe : Env → M S D) (vs : List Nat) : Env → M S D := fun ρ => bnd (fi ρ) fun ds => if ds.length ≤ sizeLine then bnd (nox (cmpF asg tst fe (wipeD ρ vs) ds)) fun ys => ret (.lst ys) else stk
theorem wipeD_some {ρ : Env} {i : Nat} {x : D} : ∀ {vs : List Nat}, (wipeD ρ vs)[i]? = some (some x) → ρ[i]? = some (some x) ∧ i ∉ vs
  | [], h => ⟨h, by simp⟩
  | v :: vs, h => by
    unfold wipeD at h
    by_cases hi : v = i
    · subst hi
      by_cases hv : v < (wipeD ρ vs).length
      · rw [List.getElem?_set_self hv] at h; cases h
      · rw [List.getElem?_eq_none (by simpa using hv)] at h; cases h
    · rw [List.getElem?_set_ne hi] at h
      obtain ⟨h1, h2⟩ := wipeD_some h
      exact ⟨h1, by simp only [List.mem_cons, not_or]; exact ⟨fun e => hi e.symm, h2⟩⟩
theorem wipe_keep {i : Nat} : ∀ (vs : List Nat) (σ : L2.St), i ∉ vs → (wipe σ vs)[i]? = σ[i]?
  | [], _, _ => rfl
  | v :: vs, σ, h => by
    unfold wipe
    rw [List.getElem?_set_ne (fun e => h (by rw [← e]; exact List.mem_cons_self)), wipe_keep vs σ fun q => h (List.mem_cons_of_mem _ q)]
theorem wipeD_length (ρ : Env) : ∀ vs : List Nat, (wipeD ρ vs).length = ρ.length
  | [] => rfl
  | v :: vs => by unfold wipeD; rw [List.length_set, wipeD_length ρ vs]
theorem Ok.wipe {vs : List Nat} (k : Ok F own Z H σ ρ s) : Ok F own Z H (L2.wipe σ vs) (wipeD ρ vs) s where
  toBs := k.toBs
  fz := fun i d h1 h2 => by
    obtain ⟨h3, h4⟩ := wipeD_some h2
    obtain ⟨v, q1, q2⟩ := k.fz i d h1 h3
    exact ⟨v, by rw [wipe_keep vs σ h4]; exact q1, q2⟩
  ow := fun i d h1 h2 => by
    obtain ⟨h3, h4⟩ := wipeD_some h2
    obtain ⟨v, q⟩ := k.ow i d h1 h3
    exact ⟨v, by rw [wipe_keep vs σ h4]; exact q⟩
  sp := fun i j d d' a h1 h2 h3 h4 h5 h6 => by
    obtain ⟨h3, n3⟩ := wipeD_some h3
    obtain ⟨h4, n4⟩ := wipeD_some h4
    rw [wipe_keep vs σ n3] at h5
    rw [wipe_keep vs σ n4] at h6
    exact k.sp i j d d' a h1 h2 h3 h4 h5 h6
  ln := by rw [wipeD_length, L2.wipe_length]; exact k.ln
/-- the same names, another time -/
theorem Ok.again {σ2 : L2.St} {ρ2 : Env} (k : Ok F own Z H σ ρ s) (f : Bs F Z' H' s') (g : Grow Z H Z' H') (h : ∀ a, (∃ i d, i ∈ own ∧ ρ[i]? = some (some d) ∧ σ[i]? = some (some (V.ref a))) → ¬ Z' a ∧ H' a = H a) : Ok F own Z' H' σ ρ s' where
  toBs := f
  fz := fun i d h1 h2 => by
    obtain ⟨v, q1, q2⟩ := k.fz i d h1 h2
    exact ⟨v, q1, q2.grow g⟩
  ow := fun i d h1 h2 => by
    obtain ⟨a, q1, q2, q3, q4, q5⟩ := k.ow i d h1 h2
    obtain ⟨h3, h4⟩ := h a ⟨i, d, h1, h2, q1⟩
    exact ⟨a, q1, h3, q3, q4, q5.grow g h4⟩
  sp := k.sp
  ln := k.ln
/-- an object of ours that no name holds: the list under way -/
structure Side (F : Fc S) (own : List Nat) (Z : Addr → Prop) (H : Hp) (σ : L2.St) (ρ : Env) (p : Addr) : Prop where
  nz : ¬ Z p
  na : ¬ F.md.adr p
  h0 : F.H0 p = none
  no : ∀ i d, i ∈ own → ρ[i]? = some (some d) → σ[i]? ≠ some (some (V.ref p))
theorem Bs.put (f : Bs F Z H s) (h1 : ¬ Z p) (h2 : ¬ F.md.adr p) (h3 : F.H0 p = none) : Bs F Z (upd H p o) s where
  st := F.md.frame s H _ f.st fun b hb => upd_ne fun e => h2 (e ▸ hb)
  zd := fun a z => by
    have ne : a ≠ p := fun e => h1 (e ▸ z)
    rw [upd_ne ne]; exact f.zd a z
  z0 := f.z0
  zn := f.zn
  sm := fun a u h n => by
    rw [upd_ne fun e => by rw [e, h3] at h; cases h]
    exact f.sm a u h n
theorem Ok.put (k : Ok F own Z H σ ρ s) (sd : Side F own Z H σ ρ p) : Ok F own Z (upd H p o) σ ρ s := by
  refine k.again (σ2 := σ) (ρ2 := ρ) (k.toBs.put sd.nz sd.na sd.h0) ⟨fun _ h => h, fun a z => upd_ne fun e => sd.nz (e ▸ z)⟩ fun a ⟨i, d, h1, h2, h3⟩ => ⟨?_, upd_ne fun e => sd.no i d h1 h2 (e ▸ h3)⟩
  obtain ⟨a', q1, q2, _⟩ := k.ow i d h1 h2
  rw [h3] at q1
  cases q1
  exact q2
def WN : WX := fun _ _ _ _ => False
structure DTs (X : Cx) (F : Fc S) (own : List Nat) (W : WX) (es : List Expr) (t : TT) (f : Env → M S Bool) : Prop where
  pt : PTs X es t
  ev : EvT F own W t f
def yes : Env → M S Bool := fun _ => ret true
theorem dts_nil : DTs X F own W [] tYes yes := ⟨pts_nil, fun σ H Z ρ s Q k q => q H Z Ext.refl k⟩
theorem dts_one (h : DT X F own W e tt ft) : DTs X F own W [e] tt ft := ⟨pts_one h.pt, h.ev⟩
theorem Side.ext (sd : Side F own Z H σ ρ p) (h : H p ≠ none) (x : Ext F Z H Z' H') : Side F own Z' H' σ ρ p :=
  ⟨fun z => (x.zn p z).elim sd.nz fun q => q.elim h sd.na, sd.na, sd.h0, sd.no⟩
theorem startFree (x : Ext F Z H Z1 H1) (n : H1 p = none) (na : ¬ F.md.adr p) : H p = none := by
  cases q : H p with
  | none => rfl
  | some o => rw [x.h p o q na] at n; cases n
theorem ev_cmp1 {wi : TI} {g : TG} {tgs vs : List Nat} {fi : Env → M S (List D)} {asg : D → Env → Option Env} (k : Ok F own Z H σ ρ s)
    (hi : ∀ R, PostI F own W Z H σ ρ R (fi ρ s) → wi σ H R) (hg : EvG F own tgs g asg) (ht : EvT F own WN tt ft) (he : Ev F own WN .fz te fe) (hv : ∀ i ∈ tgs, i ∈ vs) (q : PostE F own W .fr Z H σ ρ Q (mCmp fi asg ft fe vs ρ s)) :
    tLc wi g tt te vs σ H Q := by
  refine hi _ ?_
  dsimp only [mCmp, bnd] at q
  cases e1 : fi ρ s with
  | none => rw [e1] at q; exact q
  | some p1 =>
    obtain ⟨r1, s1⟩ := p1
    rw [e1] at q
    cases r1 with
    | error y => exact q
    | ok ds =>
      intro J H1 Z1 x1 k1 w1 L nL
      dsimp only at q
      by_cases hz : ds.length ≤ sizeLine
      · rw [if_pos hz] at q
        -- the loop's word
        refine ⟨fun i mm H' => mm = ds.length - i ∧ i ≤ ds.length ∧ ∃ Z' s' vs' acc, Ext F Z1 H1 Z' H' ∧ Ok F own Z' H' σ ρ s' ∧ Side F own Z' H' σ ρ L ∧ H' L = some (.lst vs') ∧ FzAll F.cn Z' H' vs' acc ∧ vs'.length ≤ i ∧
          (match cmpF asg ft fe (wipeD ρ vs) (ds.drop i) s' with
            | some (.ok ys, s2) => PostE F own W .fr Z H σ ρ Q (ret (.lst (acc ++ ys)) s2)
            | _ => False), ⟨ds.length, by simp, Nat.zero_le _, Z1, s1, [], [], Ext.newO nL, k1.newO nL, ⟨fun z => (k1.zd L z).1 nL, k1.toBs.nadr nL, k1.toBs.entry nL, fun i d' h1 h2 h3 => ?_⟩, upd_same, FzAll.nil, Nat.zero_le _, ?_⟩, ?_⟩
        · obtain ⟨a, q1, _, _, _, q5⟩ := k1.ow i d' h1 h2
          rw [h3] at q1
          cases q1
          exact q5.there nL
        · rw [List.drop_zero]
          dsimp only [bnd, nox] at q
          match e2 : cmpF asg ft fe (wipeD ρ vs) ds s1, q with
          | none, q => exact q
          | some (.error _, _), q => exact q
          | some (.ok ys, s2), q => exact q
        · rintro i mm H' ⟨rfl, hle, Z', s', vs', acc, x', k', sd, hL, hacc, hvl, q'⟩
          by_cases hlt : i < ds.length
          · have hget : ds[i]? = some ds[i] := List.getElem?_eq_getElem hlt
            have g1 : Grow Z1 H1 Z' H' := k1.toBs.grow x'
            refine .inr ⟨(w1.go i _ Z' H' (fun a z => (k'.zd a z).1) ⟨_, k'.st⟩ g1 hget).1, fun H2 => i + 1 ≤ ds.length ∧ ∃ Z2 s2 vs2 acc2, Ext F Z1 H1 Z2 H2 ∧ Ok F own Z2 H2 σ ρ s2 ∧ Side F own Z2 H2 σ ρ L ∧ H2 L = some (.lst vs2) ∧ FzAll F.cn Z2 H2 vs2 acc2 ∧ vs2.length ≤ i + 1 ∧
              (match cmpF asg ft fe (wipeD ρ vs) (ds.drop (i + 1)) s2 with
                | some (.ok ys, s2) => PostE F own W .fr Z H σ ρ Q (ret (.lst (acc2 ++ ys)) s2)
                | _ => False), fun H2 h2 => ⟨ds.length - (i + 1), by omega, rfl, h2⟩, fun x H2 y => ?_⟩
            obtain ⟨Z2, x2, k2, z2⟩ := w1.item g1 k' hget y
            have hL2 : H2 L = some (.lst vs') := x2.h L _ hL sd.na
            have sd2 := sd.ext (by rw [hL]; simp) x2
            have kw := k2.wipe (vs := vs)
            rw [List.drop_eq_getElem_cons hlt] at q'
            dsimp only [cmpF] at q'
            refine hg x _ (L2.wipe σ vs) H2 Z2 (wipeD ρ vs) s' _ kw z2 ?_
            cases e2 : asg ds[i] (wipeD ρ vs) with
            | none => rw [e2] at q'; exact (show False from q').elim
            | some ρ1 =>
              rw [e2] at q'
              dsimp only [bnd] at q'
              intro σ3 wp k3
              refine ⟨(wp vs hv).trans (wipe_wipe vs σ), ?_⟩
              refine ht σ3 H2 Z2 ρ1 s' _ k3 ?_
              cases e3 : ft ρ1 s' with
              | none => rw [e3] at q'; exact q'
              | some p3 =>
                obtain ⟨r3, s3⟩ := p3
                rw [e3] at q'
                cases r3 with
                | error _ => exact (show False from q').elim
                | ok b =>
                  intro H3 Z3 x3 k3'
                  have hL3 : H3 L = some (.lst vs') := x3.h L _ hL2 sd2.na
                  have sd3 := sd2.ext (by rw [hL2]; simp) x3
                  have ko3 : Ok F own Z3 H3 σ ρ s3 := k2.carry x3 k3'.toBs
                  have hacc3 : FzAll F.cn Z3 H3 vs' acc := hacc.grow ((k'.toBs.grow x2).trans (k2.toBs.grow x3))
                  dsimp only at q'
                  cases b with
                  | false =>
                    rw [if_neg Bool.false_ne_true] at q' ⊢
                    exact ⟨hlt, Z3, s3, vs', acc, (x'.trans x2).trans x3, ko3, sd3, hL3, hacc3, by omega, q'⟩
                  | true =>
                    rw [if_pos rfl] at q' ⊢
                    refine he σ3 H3 Z3 ρ1 s3 _ k3' ?_
                    dsimp only [bnd] at q'
                    cases e4 : fe ρ1 s3 with
                    | none => rw [e4] at q'; exact q'
                    | some p4 =>
                      obtain ⟨r4, s4⟩ := p4
                      rw [e4] at q'
                      cases r4 with
                      | error _ => exact (show False from q').elim
                      | ok yd =>
                        intro yv H4 Z4 x4 k4 z4
                        have hL4 : H4 L = some (.lst vs') := x4.h L _ hL3 sd3.na
                        have sd4 := sd3.ext (by rw [hL3]; simp) x4
                        have ko4 : Ok F own Z4 H4 σ ρ s4 := ko3.carry x4 k4.toBs
                        have hacc4 : FzAll F.cn Z4 H4 vs' acc := hacc3.grow (ko3.toBs.grow x4)
                        have gp : Grow Z4 H4 Z4 (upd H4 L (.lst (vs' ++ [yv]))) := ⟨fun _ h => h, fun a z => upd_ne fun e => sd4.nz (e ▸ z)⟩
                        refine ⟨vs', hL4, by have := hz; omega, hlt, Z4, s4, vs' ++ [yv], acc ++ [yd], ?_, ko4.put sd4, ⟨sd4.nz, sd4.na, sd4.h0, sd4.no⟩, upd_same, (hacc4.snoc z4).grow gp, by rw [List.length_append]; simp; omega, ?_⟩
                        · have xx := ((x'.trans x2).trans x3).trans x4
                          refine ⟨xx.z, xx.zn, fun a o h n => ?_⟩
                          have ne : a ≠ L := fun e => by rw [e, nL] at h; cases h
                          rw [upd_ne ne]
                          exact xx.h a o h n
                        · dsimp only at q'
                          match e5 : cmpF asg ft fe (wipeD ρ vs) (ds.drop (i + 1)) s4, q' with
                          | none, q' => exact q'
                          | some (.error _, _), q' => exact q'
                          | some (.ok ys, s5), q' =>
                            show PostE F own W .fr Z H σ ρ Q (ret (.lst ((acc ++ [yd]) ++ ys)) s5)
                            rw [List.append_assoc]
                            exact q'
          · have e : i = ds.length := by omega
            subst e
            refine .inl ⟨w1.stop _ Z' H' ⟨_, k'.st⟩ (k1.toBs.grow x') (Nat.le_refl _), ?_⟩
            rw [List.drop_length] at q'
            have q' : PostE F own W .fr Z H σ ρ Q (ret (.lst (acc ++ [])) s') := q'
            rw [List.append_nil] at q'
            exact q' (.ref L) H' Z' (x1.trans x') k' ⟨L, rfl, sd.nz, sd.na, sd.h0, ⟨vs', hL, Nat.le_trans hvl hz, hacc⟩, startFree x1 nL sd.na, sd.no⟩
      · rw [if_neg hz] at q
        exact (show False from q).elim
theorem ev_cmp {wi : TI} {g : TG} {tgs vs : List Nat} {fi : Env → M S (List D)} {asg : D → Env → Option Env}
    (hi : ∀ σ H Z ρ s R, Ok F own Z H σ ρ s → PostI F own W Z H σ ρ R (fi ρ s) → wi σ H R) (hg : EvG F own tgs g asg) (ht : EvT F own WN tt ft) (he : Ev F own WN .fz te fe) (hv : ∀ i ∈ tgs, i ∈ vs) :
    Ev F own W .fr (tLc wi g tt te vs) (mCmp fi asg ft fe vs) := fun σ H Z ρ s Q k q => ev_cmp1 k (fun R => hi σ H Z ρ s R k) hg ht he hv q
end
end DL

namespace DL
open PySem L2 PySem.Spec PyProof.Rows

section
variable {S : Type} {X : Cx} {F : Fc S} {Z Z' Z1 Z2 : Addr → Prop} {H H' H1 H2 : Hp} {σ σ' : L2.St} {ρ : Env} {own own1 own2 own' oL : List Nat} {s s' : S} {p : Addr} {o : HO} {v : V} {d : D} {m m' m1 m2 m3 : Mo} {W : WX} {Q : VK} {k : Nat} {fr : Bool} {D0 : Ends}
variable {a b c e : Expr} {ta tb tc te : TE} {fa fb fc fe : Env → M S D} {pos pos' : Pos} {es : List Expr} {t : TA} {f : Env → M S (List D)}
variable {st : Stmt} {sts : List Stmt} {ts us : TS} {fs gs : Env → M S (Fl × Env)} {tt : TT} {ft : Env → M S Bool}

theorem Amb.blk (A : Amb X F k) {sh : Shared} {Hb : Hp} {scope : Scope} {env : PySem.Env} {fp : List Addr} : Amb (X.blk sh Hb scope env fp) F k := ⟨A.K, A.mg, A.rm, A.gd, A.calm, PassesOwn.never⟩
theorem takesN : Takes X WN := takes_none5
abbrev Blk (X : Cx) (scope : Scope) (sh : Shared) (Hb : Hp) (C : Addr) (cl : List (Str × Addr)) (fp : List Addr) : Cx := X.blk sh Hb scope (compEnvC scope cl C X.env) fp
/-- the weakest reading of a mirror: it names no place in the code -/
def tE (F : Fc S) (own : List Nat) (W : WX) (m : Mo) (f : Env → M S D) : TE := fun σ H Q => ∃ Z ρ s, Ok F own Z H σ ρ s ∧ PostE F own W m Z H σ ρ Q (f ρ s)
def tB (F : Fc S) (own : List Nat) (W : WX) (f : Env → M S Bool) : TT := fun σ H Q => ∃ Z ρ s, Ok F own Z H σ ρ s ∧ PostT F own W Z H σ ρ Q (f ρ s)
theorem DE.canon (h : DE X F own W m e te fe) : DE X F own W m e (tE F own W m fe) fe :=
  ⟨⟨fun pins s σ H Q I ⟨Z, ρ, s', k, q⟩ => h.pe.run pins s σ H Q I (h.ev σ H Z ρ s' Q k q)⟩, fun σ H Z ρ s Q k q => ⟨Z, ρ, s, k, q⟩⟩
theorem DT.canon (h : DT X F own W e tt ft) : DT X F own W e (tB F own W ft) ft :=
  ⟨⟨fun pins s σ H Q I ⟨Z, ρ, s', k, q⟩ => h.pt.run pins s σ H Q I (h.ev σ H Z ρ s' Q k q)⟩, fun σ H Z ρ s Q k q => ⟨Z, ρ, s, k, q⟩⟩
theorem de_lc {elt tg iter : Expr} {ifs : List Expr} {scope : Scope} {oc : List (Str × Nat)} {wi : TI} {g : TG} {tgs : List Nat} {fi : Env → M S (List D)} {asg : D → Env → Option Env} (A : Amb X F k) (nd : X.N.Nodup) (hi : DI X F own W tg iter wi fi) (ok : BlkOk X.N X.env.scope scope oc)
    (hg : ∀ sh Hb C cl fp, DG (Blk X scope sh Hb C cl fp) F own tgs tg g asg) (ht : ∀ sh Hb C cl fp, DTs (Blk X scope sh Hb C cl fp) F own WN ifs tt ft) (he : ∀ sh Hb C cl fp, DE (Blk X scope sh Hb C cl fp) F own WN .fz elt te fe)
    (hv : ∀ i ∈ tgs, i ∈ oc.map (·.2) := by decide) (hs : ∀ x, foldedSetIterable iter X.env x = pure x := by intro _; rfl) :
    DE X F own W .fr (.ListComp elt [⟨tg, iter, ifs, 0⟩] scope pos) (tLc wi g tt te (oc.map (·.2))) (mCmp fi asg ft fe (oc.map (·.2))) :=
  ⟨pe_lc A.calm nd hi.pi ok (fun s H C cl fp => (hg s H C cl fp).pg) (fun s H C cl fp => (ht s H C cl fp).pt) (fun s H C cl fp => (he s H C cl fp).pe) hs,
    ev_cmp hi.ev (hg X.s_0 X.H_0 0 [] []).ev (ht X.s_0 X.H_0 0 [] []).ev (he X.s_0 X.H_0 0 [] []).ev hv⟩
/-- name = [..] -/
theorem ds_lc {i : Nat} {y : Str} {py : Pos} {elt tg iter : Expr} {ifs : List Expr} {scope : Scope} {oc : List (Str × Nat)} {wi : TI} {g : TG} {tgs : List Nat} {fi : Env → M S (List D)} {asg : D → Env → Option Env} (A : Amb X F k) (nd : X.N.Nodup)
    (hi : DI X F own W tg iter wi fi) (ok : BlkOk X.N X.env.scope scope oc)
    (hg : ∀ sh Hb C cl fp, DG (Blk X scope sh Hb C cl fp) F own tgs tg g asg) (ht : ∀ sh Hb C cl fp, DTs (Blk X scope sh Hb C cl fp) F own WN ifs tt ft) (he : ∀ sh Hb C cl fp, DE (Blk X scope sh Hb C cl fp) F own WN .fz elt te fe)
    (hsw : swapsWith (.ListComp elt [⟨tg, iter, ifs, 0⟩] scope pos) (some (.Name y py)) pos'.line X.env = pure true)
    (hy : X.N[i]? = some y := by rfl) (hyl : X.env.scope.names.lookup y = some .local := by rfl)
    (hv : ∀ i ∈ tgs, i ∈ oc.map (·.2) := by decide) (hs : ∀ x, foldedSetIterable iter X.env x = pure x := by intro _; rfl) :
    DS X F own (i :: less own i) oL W fr (.Assign [.Name y py] (.ListComp elt [⟨tg, iter, ifs, 0⟩] scope pos) pos') (tAsg (tLc wi g tt te (oc.map (·.2))) (gName i)) (sSet i (mCmp fi asg ft fe (oc.map (·.2)))) :=
  ⟨ps_setLc A.calm nd hy hyl hsw hi.pi ok (fun s H C cl fp => (hg s H C cl fp).pg) (fun s H C cl fp => (ht s H C cl fp).pt) (fun s H C cl fp => (he s H C cl fp).pe) hs,
    EvS.bind (g := fun ρ d => ret (.nx, ρ.set i (some d))) (K := fun v σ H1 D0 => D0.nx (σ.set i (some v)) H1) (ev_cmp hi.ev (hg X.s_0 X.H_0 0 [] []).ev (ht X.s_0 X.H_0 0 [] []).ev (he X.s_0 X.H_0 0 [] []).ev hv) fun v d Hs Z H σ ρ s D0 k z q => q _ H Z (Grow.refl Z H) (k.setO z)⟩
end

/-! ### defs -/
section
variable {P : Program} {w : World} {K : PySem.W.Frag} {mg : Str → Option Value} {base : Heap}
structure FnG (P : Program) (w : World) (K : PySem.W.Frag) (mg : Str → Option Value) (base : Heap) (k : Nat) (f : Addr) (fd : FuncData) (ps : List Str) (sp : Sp) : Prop where
  len : ∀ vs H Q E, sp vs H Q E → vs.length = ps.length
  run : ∀ (A : Around) (outer : List PySem.Env) (s : Shared) (H : Hp) (args : Args) (us : List Value) (vs : List V) (Q : VK) (E : XK), A.guards = some [] → Room k A → Env0 P w K mg base A outer s H → BindsTo s fd args (ps.zip us) → Vals vs us → sp vs H Q E →
    codeAny (model P w) A (.call (.ref f) args) (CR (L2.CX P w) outer P w H s Q E) s
/-- a def by its body -/
theorem fnG_of {k : Nat} {f : Addr} {name qual : Str} {params : Arguments} {body : List Stmt} {scope : Scope} {dV kV doc pm cdv ct oc : Value} {an od : Option Addr}
    {osl : Array (Option Value)} {N ps : List Str} {sp : Sp} (lk : K.lookup f = some ⟨oc, od, .func (PySem.W.fnOf name qual params body scope dV kV doc pm an cdv ct), osl⟩) (hcd : PySem.W.codeIn K cdv qual = true) (Sc : FnScope N ps scope)
    (len : ∀ vs H Q E, sp vs H Q E → vs.length = ps.length)
    (hbody : ∀ (A : Around) (outer : List PySem.Env) (s : Shared) (H : Hp) (vs : List V) (Q : VK) (E : XK), A.guards = some [] → Room k (A.deeper (envOfC qual scope s.heap.objs.size f cdv)) → sp vs H Q E →
      ∃ t, PSs (cxOf (L2.CX P w) P w K mg base N qual scope f cdv A outer s H E) body t ∧ t { nx := fun _ H' => Q .non H', rt := Q } (L2.start N vs) H) :
    FnG P w K mg base (k + 1) f (PySem.W.fnOf name qual params body scope dV kV doc pm an cdv ct) ps sp := by
  constructor
  · exact len
  · intro A outer s H args us vs Q E hgd hr e0 hb r hsp
    have hl := len _ _ _ _ hsp
    have KX : K.In s.heap := e0.mod.kin.keeps fun b o e => (e0.bs b o e).1
    have lim : s.heap.NoLimit := e0.mod.nolimit.keeps fun b o e => (e0.bs b o e).1
    have hkind : ∀ y ∈ ps.zip us, scope.names.lookup y.1 = some .local ∨ (scope.names.lookup y.1 = some .cell ∧ ((cellsFrom (s.heap.objs.size + 1) scope.names []).lookup y.1).isSome = true) := by
      rintro ⟨n, v⟩ hy
      cases Sc.par n (List.of_mem_zip hy).1 with
      | inl q => exact .inl q
      | inr q => exact .inr ⟨q, PySem.W.cellsFrom_some _ _ _ (.inl q)⟩
    refine codeAny_call_function hr.depth (KX _ _ lk) rfl Sc.co Sc.gen rfl (PySem.W.codeRec_of KX hcd) (hb _ _ _ _ (wpAny_newFunctionEnv_cells Sc.kind hkind ?_))
    intro env he s1 x
    subst he
    refine ⟨lim.keeps x.toInCall.keep, codeAny_func ?_⟩
    obtain ⟨t, ht, hq⟩ := hbody A outer s H vs Q E hgd (hr.deeper _) hsp
    have I := inv_start (CX := L2.CX P w) (E := E) Sc hr.hd e0 hl r x
    refine wpAny_mono (ht.run [] s1 (L2.start N vs) H _ I hq) ?_ (fun e s' hs => hs)
    intro fl s' hs
    have fin : ∀ {σ' : L2.St} {H' : Hp} {v : V} {u : Value}, Inv (cxOf (L2.CX P w) P w K mg base N qual scope f cdv A outer s H E) [] σ' H' s' → RelV v u → Q v H' → CE outer P w H s Q u s' := by
      intro σ' H' v u J rv q
      exact ⟨v, H', J.os, J.bare, J.base, J.hok, rv, q⟩
    cases fl with
    | ret u =>
      obtain ⟨v, σ', H', J, rv, q⟩ := hs
      exact fin J rv q
    | next =>
      obtain ⟨σ', H', J, q⟩ := hs
      exact fin (v := V.non) (u := Value.none) J rfl q
    | brk =>
      obtain ⟨_, _, _, q⟩ := hs
      exact q.elim
    | cont =>
      obtain ⟨_, _, _, q⟩ := hs
      exact q.elim

/-- what a def's call comes to, as data -/
def PostF {S : Type} (F : Fc S) (fr : Bool) (Q : VK) (E : XK) : Option (Except Exc D × S) → Prop
  | some (.ok d, s') => ∀ v H' Z', Bs F Z' H' s' → Res fr F Z' H' v d → Q v H'
  | some (.error x, s') => ∀ cls dd H' Z', Bs F Z' H' s' → ExcAt F.cn Z' H' x cls dd → E cls dd H'
  | none => False
def SpD {S : Type} (K : PySem.W.Frag) (mg : Str → Option Value) (mds : Md S → Prop) (n : Nat) (fr : Bool) (mm : List D → M S D) : Sp := fun vs H Q E =>
  ∃ (md : Md S) (Z : Addr → Prop) (s : S) (ds : List D), mds md ∧ vs.length = n ∧ md.ok s H ∧ (∀ a, Z a → H a ≠ none ∧ ¬ md.adr a) ∧ FzAll ⟨K, mg, md.da, md.sf⟩ Z H vs ds ∧ PostF (⟨K, mg, md, Z, H⟩ : Fc S) fr Q E (mm ds s)
/-- a body's function, as the def's -/
def runB {S : Type} (n : Nat) (f : Env → M S (Fl × Env)) : List D → M S D := fun ds s => match f (ds.map some ++ List.replicate (n - ds.length) none) s with
  | some (.ok (.nx, _), s') => some (.ok .non, s')
  | some (.ok (.rt d, _), s') => some (.ok d, s')
  | some (.error x, s') => some (.error x, s')
  | _ => none
theorem fn_mk {S : Type} {mds : Md S → Prop} {x qual : Str} {st : Stmt} {f : Addr} {fd : FuncData} {N ps : List Str} {k : Nat} {fr : Bool} {fb : Env → M S (Fl × Env)} (F : Fun K x qual st f fd) (Sc : FnScope N ps (defScope st))
    (hnx : fr = true → ∀ ρ s ρ' s', fb ρ s ≠ some (.ok (.nx, ρ'), s'))
    (hbody : ∀ (cdv : Value) (A : Around) (outer : List PySem.Env) (s : Shared) (H : Hp) (E : XK) (md : Md S) (Z : Addr → Prop), mds md →
      Amb (cxOf (L2.CX P w) P w K mg base N qual (defScope st) f cdv A outer s H E) (⟨K, mg, md, Z, H⟩ : Fc S) k → Takes (cxOf (L2.CX P w) P w K mg base N qual (defScope st) f cdv A outer s H E) (fun cls d _ H' => E cls d H') →
      ∃ t, DSs (cxOf (L2.CX P w) P w K mg base N qual (defScope st) f cdv A outer s H E) (⟨K, mg, md, Z, H⟩ : Fc S) [] [] [] (fun cls d _ H' => E cls d H') fr (defBody st) t fb) :
    FnG P w K mg base (k + 1) f fd ps (SpD K mg mds ps.length fr (runB N.length fb)) := by
  obtain ⟨oc, od, kV, doc, pm, an, cdv, ct, osl, rfl, lk, hcd⟩ := F.ex
  refine fnG_of lk hcd Sc (fun vs H Q E h => ?_) fun A outer s H vs Q E hgd hr hsp => ?_
  · obtain ⟨_, _, _, _, _, h, _⟩ := h
    exact h
  · obtain ⟨md, Z, s0, ds, hmd, hl, hok, hz, hf, hp⟩ := hsp
    obtain ⟨t, dv⟩ := hbody cdv A outer s H E md Z hmd ⟨rfl, rfl, hr, hgd, rfl, passes_of (K := fun e s'' => L2.CX P w outer H s E e s'') rfl⟩ (takes_of rfl rfl rfl rfl)
    refine ⟨t, dv.ps, dv.ev (L2.start N vs) H Z (ds.map some ++ List.replicate (N.length - ds.length) none) s0 _ ?_ ?_⟩
    · refine ⟨⟨hok, hz, fun _ h => h, fun _ h => .inl h, fun _ _ h _ => h⟩, fun i d _ h => ?_, fun i d h _ => by simp at h, fun i j d d' a h => by simp at h, ?_⟩
      · by_cases hi : i < ds.length
        · rw [List.getElem?_append_left (by simpa using hi), List.getElem?_map] at h
          obtain ⟨d', h1, h2⟩ := Option.map_eq_some_iff.mp h
          cases h2
          have hv : i < vs.length := by rw [hf.1]; exact hi
          refine ⟨vs[i], ?_, hf.2 i _ d (List.getElem?_eq_getElem hv) h1⟩
          unfold L2.start
          rw [List.getElem?_append_left (by simpa using hv), List.getElem?_map, List.getElem?_eq_getElem hv]
          rfl
        · rw [List.getElem?_append_right (by simpa using hi), List.getElem?_replicate] at h
          split at h <;> cases h
      · unfold L2.start
        rw [List.length_append, List.length_append, List.length_map, List.length_map, List.length_replicate, List.length_replicate, hf.1]
    · have hp : PostF _ fr Q E (runB N.length fb ds s0) := hp
      unfold runB at hp
      match e : fb (ds.map some ++ List.replicate (N.length - ds.length) none) s0, hp with
      | none, hp => exact hp
      | some (.error x, s'), hp => exact fun cls dd σ' H' Z' => hp cls dd H' Z'
      | some (.ok (.nx, ρ'), s'), hp =>
        intro σ' H' Z' g k'
        refine hp .non H' Z' k'.toBs ?_
        cases fr with
        | false => exact .non
        | true => exact absurd e (hnx rfl _ _ _ _)
      | some (.ok (.rt d, ρ'), s'), hp => exact hp
      | some (.ok (.bk, ρ'), s'), hp => exact hp.elim
      | some (.ok (.ct, ρ'), s'), hp => exact hp.elim

/-! ### calls -/
structure Callee (P : Program) (w : World) (K : PySem.W.Frag) (mg : Str → Option Value) (base : Heap) (x : Str) (st : Stmt) (ps : List Str) (k : Nat) (sp : Sp) : Prop where
  ex : ∃ f fd, mg x = some (.ref f) ∧ Fun K x x st f fd ∧ FnG P w K mg base k f fd ps sp
  bd : ∀ (kV doc pm : Value) (an : Option Addr) (cdv ct : Value) (us : List Value), us.length = ps.length → bindArgs (PySem.W.fnOf x x (defArgs st) (defBody st) (defScope st) .none kV doc pm an cdv ct) ⟨us, []⟩ = pure (ps.zip us)
section
variable {S : Type} {X : Cx} {F : Fc S} {Z Z' Z1 Z2 : Addr → Prop} {H H' H1 H2 : Hp} {σ σ' : L2.St} {ρ : Env} {own own1 own2 own' oL : List Nat} {s s' : S} {p : Addr} {o : HO} {v : V} {d : D} {m m' m1 m2 m3 : Mo} {W : WX} {Q : VK} {k : Nat} {fr : Bool} {D0 : Ends}
variable {a b c e : Expr} {ta tb tc te : TE} {fa fb fc fe : Env → M S D} {pos pos' ppos : Pos} {es : List Expr} {t : TA} {f : Env → M S (List D)} {x : Str} {sp : Sp} {st : Stmt} {ps : List Str} {j : Nat}
theorem pe_callG (A : Amb X F k) (tk : Takes X W) (C : Callee X.prog X.w X.K X.mg X.base x st ps j sp) (hj : j ≤ k) (hg : Gl X x) (ha : PA X (e :: es) t) (hdb : (x == ("__debug__" : Str)) = false := by decide)
    (he : starEach (e :: es) X.env = (false, eval e X.env) :: starEach es X.env := by rfl) (hpl : (backTo pos (starEach es X.env)).any (·.1) = false := by rfl) : PE X (.Call (.Name x ppos) (e :: es) [] pos) (tCallS sp (WE W) t) := by
  obtain ⟨fa, fd, hm, Fn, G⟩ := C.ex
  constructor
  intro pins s σ H Q I h
  refine wpAny_Call_Name_kw (ld_glob I hg hm (PySem.W.callWith_K (h₀ := X.base) I.ok.mod.kin Fn.kp (thn (ha.run pos pins s σ H _ I h) ?_) he hpl) hdb)
  rintro us s1 ⟨vs, H1, I1, r, q⟩
  refine ⟨I1.kIn, ?_⟩
  have hl : us.length = ps.length := by rw [← r.length]; exact G.len _ _ _ _ q
  have b := Fn.binds (ps := ps) C.bd s1 us I1.kIn (by rw [List.append_nil]; exact hl)
  rw [List.append_nil] at b
  refine wpAny_call (codeAny_mono (G.run X.A X.stack s1 H1 ⟨us, []⟩ us vs Q (WE W σ) A.gd (A.rm.mono hj) I1.env0 b r q) ?_)
  intro r s' hq
  cases r with
  | error y => exact passAt tk σ pins H1 s1 y s' I1 hq
  | ok fl =>
    cases fl with
    | ret u => exact I1.after hq
    | next => exact hq.elim
    | brk => exact hq.elim
    | cont => exact hq.elim
def mCal (f : Env → M S (List D)) (mm : List D → M S D) : Env → M S D := fun ρ => bnd (f ρ) mm
/-- a call within the same kind of memory -/
theorem post_call {mds : Md S → Prop} {n : Nat} {mm : List D → M S D} {vs : List V} {ds : List D} (hm : mds F.md) (hn : vs.length = n) (k : Ok F own Z H σ ρ s) (z : FzAll F.cn Z H vs ds) (q : PostE F own W (if fr then .fr else .fz) Z H σ ρ Q (mm ds s)) : SpD F.K F.mg mds n fr mm vs H Q (WE W σ) := by
  refine ⟨F.md, Z, s, ds, hm, hn, k.st, k.zd, z, ?_⟩
  have bs : ∀ {Z' H' s'}, Bs (⟨F.K, F.mg, F.md, Z, H⟩ : Fc S) Z' H' s' → Ext F Z H Z' H' ∧ Bs F Z' H' s' := fun {Z' H' s'} b => ⟨⟨b.z0, fun a h => (b.zn a h).elim .inl fun q => .inr (.inl q), b.sm⟩,
    ⟨b.st, b.zd, fun a h => b.z0 a (k.z0 a h), fun a h => by
      rcases b.zn a h with q | q
      · exact k.zn a q
      · exact .inr (k.toBs.entry q), fun a o h n => b.sm a o (k.sm a o h n) n⟩⟩
  match e : mm ds s, q with
  | none, q => exact q
  | some (.error y, s'), q => exact fun cls dd H' Z' b x => q cls dd H' Z' (bs b).2 x
  | some (.ok d, s'), q =>
    intro v H' Z' b r
    obtain ⟨x, b2⟩ := bs b
    have k' := k.carry x b2
    cases fr with
    | false => exact q v H' Z' x k' r
    | true =>
      obtain ⟨a, rfl, h1, h2, h3, h4⟩ := r
      have h3 : H a = none := h3
      refine q _ H' Z' x k' ⟨a, rfl, h1, h2, k.toBs.entry h3, h4, h3, fun i d' q1 q2 q3 => ?_⟩
      obtain ⟨a', r1, _, _, _, r5⟩ := k.ow i d' q1 q2
      rw [q3] at r1
      cases r1
      exact r5.there h3
/-- memory that nothing is written to; da: where the draws lie -/
def Md.pure (da : Addr → Prop) : Md Unit := ⟨da, fun _ => False, fun _ => False, fun _ _ => True, fun _ _ _ _ _ => trivial, fun _ _ _ _ h => h.elim⟩
def Pure : Md Unit → Prop := fun md => ∃ da, md = Md.pure da
def mCalP (f : Env → M S (List D)) (mm : List D → M Unit D) : Env → M S D := fun ρ => bnd (f ρ) fun ds => pur (mm ds)
theorem post_callP {n : Nat} {mm : List D → M Unit D} {vs : List V} {ds : List D} (hn : vs.length = n) (k : Ok F own Z H σ ρ s) (z : FzAll F.cn Z H vs ds) (q : PostE F own W (if fr then .fr else .fz) Z H σ ρ Q ((pur (mm ds) : M S D) s)) : SpD F.K F.mg Pure n fr mm vs H Q (WE W σ) := by
  refine ⟨Md.pure F.md.da, Z, (), ds, ⟨_, rfl⟩, hn, trivial, fun a h => ⟨(k.zd a h).1, fun q => q⟩, z.sf, ?_⟩
  have bs : ∀ {Z' H'}, Bs (⟨F.K, F.mg, Md.pure F.md.da, Z, H⟩ : Fc Unit) Z' H' () → Ext F Z H Z' H' ∧ Bs F Z' H' s := fun {Z' H'} b => by
    have sm : ∀ a o, H a = some o → H' a = some o := fun a o h => b.sm a o h fun q => q
    refine ⟨⟨b.z0, fun a h => (b.zn a h).elim .inl fun q => .inr (.inl q), fun a o h _ => sm a o h⟩, ⟨F.md.frame s H H' k.st fun c hc => ?_, fun a h => ⟨(b.zd a h).1, ?_⟩, fun a h => b.z0 a (k.z0 a h), fun a h => ?_, fun a o h n => sm a o (k.sm a o h n)⟩⟩
    · cases q : H c with
      | none => exact absurd q (F.md.dom s H c k.st hc)
      | some o => exact sm c o q
    · rcases b.zn a h with q | q
      · exact (k.zd a q).2
      · exact k.toBs.nadr q
    · rcases b.zn a h with q | q
      · exact k.zn a q
      · exact .inr (k.toBs.entry q)
  unfold pur at q
  match e : mm ds (), q with
  | none, q => exact q
  | some (.error y, s'), q => exact fun cls dd H' Z' b x => q cls dd H' Z' (bs b).2 x.sf
  | some (.ok d, s'), q =>
    intro v H' Z' b r
    obtain ⟨x, b2⟩ := bs b
    have k' := k.carry x b2
    cases fr with
    | false => exact q v H' Z' x k' (Fz.sf r)
    | true =>
      obtain ⟨a, rfl, h1, h2, h3, h4⟩ := r
      have h3 : H a = none := h3
      refine q _ H' Z' x k' ⟨a, rfl, h1, k.toBs.nadr h3, k.toBs.entry h3, Ow.sf (fun z => z.elim) h4, h3, fun i d' q1 q2 q3 => ?_⟩
      obtain ⟨a', r1, _, _, _, r5⟩ := k.ow i d' q1 q2
      rw [q3] at r1
      cases r1
      exact r5.there h3
theorem de_callP {n : Nat} {mm : List D → M Unit D} (A : Amb X F k) (tk : Takes X W) (C : Callee X.prog X.w X.K X.mg X.base x st ps j (SpD X.K X.mg Pure n fr mm)) (hj : j ≤ k) (ha : DA X F own W (e :: es) t f) (hc : Cnt f n) (hg : Gl X x := by rfl) (hdb : (x == ("__debug__" : Str)) = false := by decide)
    (he : starEach (e :: es) X.env = (false, eval e X.env) :: starEach es X.env := by rfl) (hpl : (backTo pos (starEach es X.env)).any (·.1) = false := by rfl) : DE X F own W (if fr then .fr else .fz) (.Call (.Name x ppos) (e :: es) [] pos) (tCallS (SpD X.K X.mg Pure n fr mm) (WE W) t) (mCalP f mm) := by
  refine ⟨pe_callG A tk C hj hg ha.pa hdb he hpl, ?_⟩
  rw [A.K, A.mg]
  exact ev_cnt (g := fun _ ds => pur (mm ds)) (K := fun vs σ H1 Q => SpD F.K F.mg Pure n fr mm vs H1 Q (WE W σ)) ha.ev hc fun vs ds Z H σ ρ s Q hl k z q => post_callP (by rw [z.1]; exact hl) k z q
/-- f(k = v, ..): the keywords alone, in the order pm of the parameters -/
def pick {α : Type} (pm : List Nat) (xs : List α) : List α := pm.filterMap fun i => xs[i]?
theorem pick_vals {pm : List Nat} {vs : List V} {us : List Value} (r : Vals vs us) : Vals (pick pm vs) (pick pm us) := by
  induction pm with
  | nil => exact .nil
  | cons i pm ih =>
    unfold pick
    rw [List.filterMap_cons, List.filterMap_cons]
    cases q : vs[i]? with
    | none => rw [r.none_of q]; exact ih
    | some v =>
      obtain ⟨u, hu, rv⟩ := r.get q
      rw [hu]
      exact .cons rv ih
theorem pick_fz {cn : Cn} {pm : List Nat} {vs : List V} {ds : List D} (h : FzAll cn Z H vs ds) : FzAll cn Z H (pick pm vs) (pick pm ds) := by
  induction pm with
  | nil => exact .nil
  | cons i pm ih =>
    unfold pick
    rw [List.filterMap_cons, List.filterMap_cons]
    cases q : vs[i]? with
    | none =>
      have : ds[i]? = none := by rw [List.getElem?_eq_none_iff] at q ⊢; rw [← h.1]; exact q
      rw [this]; exact ih
    | some v =>
      have hi : i < ds.length := by rw [← h.1]; exact (List.getElem?_eq_some_iff.mp q).1
      have e2 : ds[i]? = some ds[i] := List.getElem?_eq_getElem hi
      rw [e2]
      exact .cons (h.2 i v _ q e2) ih
structure DK (X : Cx) (F : Fc S) (own : List Nat) (W : WX) (kws : List Keyword) (t : TA) (f : Env → M S (List D)) : Prop where
  pk : PK X kws t
  ev : EvA F own W t f
theorem dk_nil : DK X F own W [] tNil aNil := ⟨pk_nil, fun σ H Z ρ s Q k h => h [] H Z Ext.refl k .nil⟩
theorem dk_cons {kws : List Keyword} {nm : Option Str} {kpos : Pos} (y : DE X F own W .fz e te fe) (z : DK X F own W kws t f) : DK X F own W (⟨nm, e, kpos⟩ :: kws) (tCons te t) (aCons fe f) := by
  refine ⟨pk_cons y.pe z.pk, EvA.bind (g := fun ρ x => bnd (f ρ) fun xs => ret (x :: xs)) (K := fun x σ H1 Q => t σ H1 fun xs H2 => Q (x :: xs) H2) y.ev fun v d Hs Z H σ ρ s Q k z1 q => ?_⟩
  refine z.ev σ H Z ρ s _ k ?_
  dsimp only [bnd] at q
  cases e1 : f ρ s with
  | none => rw [e1] at q; exact q
  | some p1 =>
    rw [e1] at q
    obtain ⟨r1, s1⟩ := p1
    cases r1 with
    | error _ => exact q
    | ok ds => exact fun vs H' Z' x' k' z' => q (v :: vs) H' Z' x' k' (.cons (Fz.grow (k.toBs.grow x') z1) z')
def tCalK (sp : Sp) (n : Nat) (pm : List Nat) (W : WX) (t : TA) : TE := fun σ H Q => t σ H fun vs H1 => vs.length = n ∧ sp (pick pm vs) H1 Q (WE W σ)
theorem pe_callKG {kws : List Keyword} {ks : List Str} {pm : List Nat} (A : Amb X F k) (tk : Takes X W) (C : Callee X.prog X.w X.K X.mg X.base x st ps j sp) (hj : j ≤ k) (hg : Gl X x) (ha : PK X kws t)
    (kb : ∀ (kV doc pmv : Value) (an : Option Addr) (cdv ct : Value) (us : List Value), us.length = ps.length → bindArgs (PySem.W.fnOf x x (defArgs st) (defBody st) (defScope st) .none kV doc pmv an cdv ct) ⟨[], ks.zip us⟩ = pure (ps.zip (pick pm us)))
    (hall : (backToKw pos (keywordEach kws X.env)).all (·.1.isSome) = true := by rfl) (hks : (backToKw pos (keywordEach kws X.env)).filterMap (·.1) = ks := by rfl)
    (hdb : (x == ("__debug__" : Str)) = false := by decide) (hpl : ((backTo pos (starEach [] X.env)).any (·.1) || (backToKw pos (keywordEach kws X.env)).any (·.1.isNone)) = false := by rfl) :
    PE X (.Call (.Name x ppos) [] kws pos) (tCalK sp ps.length pm W t) := by
  obtain ⟨fa, fd, hm, Fn, G⟩ := C.ex
  constructor
  intro pins s σ H Q I h
  refine wpAny_Call_Name_kw (ld_glob I hg hm (PySem.W.callWith_KW0 (h₀ := X.base) I.ok.mod.kin Fn.kp hall (thn (ha.run pos pins s σ H _ I h) ?_) hpl) hdb)
  rintro us s1 ⟨vs, H1, I1, r, hvl, q⟩
  refine ⟨I1.kIn, ?_⟩
  rw [hks]
  have hl : us.length = ps.length := by rw [← r.length]; exact hvl
  obtain ⟨oc, od, kV, doc, pmv, an, cdv, ct, osl, rfl, lk, hcd⟩ := Fn.ex
  have b : BindsTo s1 _ ⟨[], ks.zip us⟩ (ps.zip (pick pm us)) := .of_eq (kb kV doc pmv an cdv ct us hl)
  refine wpAny_call (codeAny_mono (G.run X.A X.stack s1 H1 ⟨[], ks.zip us⟩ (pick pm us) (pick pm vs) Q (WE W σ) A.gd (A.rm.mono hj) I1.env0 b (pick_vals r) q) ?_)
  intro r s' hq
  cases r with
  | error y => exact passAt tk σ pins H1 s1 y s' I1 hq
  | ok fl =>
    cases fl with
    | ret u => exact I1.after hq
    | next => exact hq.elim
    | brk => exact hq.elim
    | cont => exact hq.elim
def mCalKP (pm : List Nat) (f : Env → M S (List D)) (mm : List D → M Unit D) : Env → M S D := fun ρ => bnd (f ρ) fun ds => pur (mm (pick pm ds))
theorem de_callKP {n : Nat} {mm : List D → M Unit D} {kws : List Keyword} {ks : List Str} {pm : List Nat} (A : Amb X F k) (tk : Takes X W) (C : Callee X.prog X.w X.K X.mg X.base x st ps j (SpD X.K X.mg Pure n fr mm)) (hj : j ≤ k) (ha : DK X F own W kws t f) (hc : Cnt f ps.length)
    (kb : ∀ (kV doc pmv : Value) (an : Option Addr) (cdv ct : Value) (us : List Value), us.length = ps.length → bindArgs (PySem.W.fnOf x x (defArgs st) (defBody st) (defScope st) .none kV doc pmv an cdv ct) ⟨[], ks.zip us⟩ = pure (ps.zip (pick pm us)))
    (h1 : ∀ (us : List V), us.length = ps.length → (pick pm us).length = n) (hg : Gl X x := by rfl)
    (hall : (backToKw pos (keywordEach kws X.env)).all (·.1.isSome) = true := by rfl) (hks : (backToKw pos (keywordEach kws X.env)).filterMap (·.1) = ks := by rfl)
    (hdb : (x == ("__debug__" : Str)) = false := by decide) (hpl : ((backTo pos (starEach [] X.env)).any (·.1) || (backToKw pos (keywordEach kws X.env)).any (·.1.isNone)) = false := by rfl) :
    DE X F own W (if fr then .fr else .fz) (.Call (.Name x ppos) [] kws pos) (tCalK (SpD X.K X.mg Pure n fr mm) ps.length pm W t) (mCalKP pm f mm) := by
  refine ⟨pe_callKG A tk C hj hg ha.pk kb hall hks hdb hpl, ?_⟩
  rw [A.K, A.mg]
  exact ev_cnt (g := fun _ ds => pur (mm (pick pm ds))) (K := fun vs σ H1 Q => vs.length = ps.length ∧ SpD F.K F.mg Pure n fr mm (pick pm vs) H1 Q (WE W σ)) ha.ev hc fun vs ds Z H σ ρ s Q hl k z q => ⟨by rw [z.1]; exact hl, post_callP (h1 vs (by rw [z.1]; exact hl)) k (pick_fz z) q⟩
theorem de_call {mds : Md S → Prop} {n : Nat} {mm : List D → M S D} (A : Amb X F k) (tk : Takes X W) (C : Callee X.prog X.w X.K X.mg X.base x st ps j (SpD X.K X.mg mds n fr mm)) (hj : j ≤ k) (hm : mds F.md) (ha : DA X F own W (e :: es) t f) (hc : Cnt f n) (hg : Gl X x := by rfl) (hdb : (x == ("__debug__" : Str)) = false := by decide)
    (he : starEach (e :: es) X.env = (false, eval e X.env) :: starEach es X.env := by rfl) (hpl : (backTo pos (starEach es X.env)).any (·.1) = false := by rfl) : DE X F own W (if fr then .fr else .fz) (.Call (.Name x ppos) (e :: es) [] pos) (tCallS (SpD X.K X.mg mds n fr mm) (WE W) t) (mCal f mm) := by
  refine ⟨pe_callG A tk C hj hg ha.pa hdb he hpl, ?_⟩
  rw [A.K, A.mg]
  exact ev_cnt (g := fun _ ds => mm ds) (K := fun vs σ H1 Q => SpD F.K F.mg mds n fr mm vs H1 Q (WE W σ)) ha.ev hc fun vs ds Z H σ ρ s Q hl k z q => post_call hm (by rw [z.1]; exact hl) k z q
end
end
end DL

namespace DL
open PySem L2 PySem.Spec PyProof.Rows

/-! ### the law's own call -/
section
variable {P : Program} {w : World} {K : PySem.W.Frag} {mg mb : Str → Option Value}
/-- the promise of a law's def -/
def spLaw (K : PySem.W.Frag) : Sp := fun vs H Q _ => ∃ (a : Addr) (ns : List Int), vs = [.ref a] ∧ SqL K H a (ns.map V.int) ∧ Only H ∧ ns.length ≤ 63 ∧ ∀ H', Q (.bl true) H'
theorem base_in {s1 : Shared} {a : Addr} {vs : List Value} {H : Hp} (ha : s1.heap.get? a = some { cls := .type "list", data := .seq vs.toArray }) (hA : ∀ b, H b ≠ none → b = a) {b : Addr} {m : Str → Option Value} (h : s1.heap.Ns b m) : (hidT s1.heap H).Ns b m := by
  obtain ⟨o, es, ep, e, d, r⟩ := h
  refine ⟨o, es, ep, hidT_get e ?_, d, r⟩
  cases q : H b with
  | none => rfl
  | some u =>
    obtain rfl : b = a := hA b (by rw [q]; simp)
    rw [ha] at e
    cases e
    cases (show Data.seq vs.toArray _ = Data.dict es ep from d)
theorem law_run {k : Nat} {fa a : Addr} {fd : FuncData} {x : Str} {s1 : Shared} {vs : List Value} {ns : List Int} {H : Hp}
    (KX : K.In s1.heap) (hns : s1.heap.Ns mainGlobals mg) (hb : s1.heap.Ns builtinsNs mb) (hbb : ∀ x : Str, x ≠ "__name__" → mb x = bootBuiltins x) (hlim : s1.heap.NoLimit) (hg : s1.gens = #[])
    (ha : s1.heap.get? a = some { cls := .type "list", data := .seq vs.toArray }) (hl : ns.length ≤ 63) (hr : Room k callerA)
    (G : ∀ base : Heap, K.In base → base.Ns mainGlobals mg → FnG P w K mg base k fa fd [x] (spLaw K)) (hbind : ∀ (s : Shared) (u : Value), BindsTo s fd ⟨[u], []⟩ [(x, u)])
    (hO : Only H) (hS : SqL K H a (ns.map V.int)) (hok : HOk P w H s1.heap) (hA : ∀ b, H b ≠ none → b = a) (hK : H a ≠ none → K.lookup a = none) :
    codeAny (model P w) callerA (.call (.ref fa) ⟨[.ref a], []⟩) (fun r s' => r = .ok (.ret (.bool true)) ∧ OldK s1.heap s'.heap ∧ s'.os = s1.os ∧ AllBare s'.gens) s1 := by
  have KB : K.In (hidT s1.heap H) := by
    intro b o e
    refine hidT_get (KX b o e) ?_
    cases q : H b with
    | none => rfl
    | some u =>
      obtain rfl : b = a := hA b (by rw [q]; simp)
      rw [hK (by rw [q]; simp)] at e
      cases e
  have glob := base_in ha hA hns
  have md : Mod K mg (hidT s1.heap H) := by
    refine ⟨KB, glob, ⟨mb, base_in ha hA hb, hbb⟩, ?_⟩
    obtain ⟨mc, h1, h2⟩ := hlim
    exact ⟨mc, base_in ha hA h1, h2⟩
  have e0 : Env0 P w K mg (hidT s1.heap H) callerA [] s1 H :=
    ⟨rfl, md, fun b o e => of_hidT e, Nat.le_of_eq (hidT_size _ _), trivial, fun b z => (by cases (show b ∈ ([] : List Addr) from z)), hok, .of_eq hg⟩
  have go := (G _ KB glob).run callerA [] s1 H ⟨[.ref a], []⟩ [.ref a] [.ref a] (fun v _ => v = .bl true) (fun _ _ _ => False) rfl hr e0 (hbind s1 (.ref a)) (.cons rfl .nil) ⟨a, ns, rfl, hS, hO, hl, fun _ => rfl⟩
  refine codeAny_mono go ?_
  intro r s' h
  cases r with
  | error e =>
    obtain ⟨_, _, _, _, _, _, _, _, _, _, _, _, z⟩ := h
    exact z.elim
  | ok fl =>
    cases fl with
    | next => exact h.elim
    | brk => exact h.elim
    | cont => exact h.elim
    | ret u =>
      obtain ⟨v, H', os, bare, un, hok', r', q⟩ := h
      obtain rfl : v = .bl true := q
      obtain rfl : u = Value.bool true := r'
      refine ⟨rfl, OldK.of_keep ?_, os, bare⟩
      intro b o e
      cases q : H b with
      | none => exact un.keep b o e q (fun z => by cases (show b ∈ ([] : List Addr) from z)) (fun z => by cases (show b ∈ ([] : List Addr) from z))
      | some u =>
        rcases hO b with z | ⟨ob, xs, z⟩
        · rw [q] at z; cases z
        · have e1 := (hok b _ z).1
          have e2 := (hok' b _ (un.frzs b ob _ z)).1
          rw [e] at e1
          cases e1
          exact e2
theorem law_callG {k : Nat} {fa a : Addr} {fd : FuncData} {x : Str} {s1 : Shared} {vs : List Value} {ns : List Int}
    (KX : K.In s1.heap) (hns : s1.heap.Ns mainGlobals mg) (hb : s1.heap.Ns builtinsNs mb) (hbb : ∀ x : Str, x ≠ "__name__" → mb x = bootBuiltins x) (hlim : s1.heap.NoLimit) (hg : s1.gens = #[])
    (ha : s1.heap.get? a = some { cls := .type "list", data := .seq vs.toArray }) (hi : IntsAre vs ns) (hl : ns.length ≤ 63) (hr : Room k callerA)
    (G : ∀ base : Heap, K.In base → base.Ns mainGlobals mg → FnG P w K mg base k fa fd [x] (spLaw K)) (hbind : ∀ (s : Shared) (u : Value), BindsTo s fd ⟨[u], []⟩ [(x, u)]) :
    codeAny (model P w) callerA (.call (.ref fa) ⟨[.ref a], []⟩) (fun r s' => r = .ok (.ret (.bool true)) ∧ OldK s1.heap s'.heap ∧ s'.os = s1.os ∧ AllBare s'.gens) s1 := by
  have rv := vals_ints hi
  have lenV := hi.length
  have hz : ns.length ≤ sizeLine := Nat.le_trans hl (by decide)
  cases hk : K.lookup a with
  | some o =>
    have e := KX a o hk
    rw [ha] at e
    cases e
    have sq : SqL K (fun _ => none) a (ns.map V.int) := .inr ⟨_, vs.toArray, _, hk, rfl, rfl, rfl, by rw [List.size_toArray, lenV]; exact hz, by simpa using rv⟩
    exact law_run (H := fun _ => none) KX hns hb hbb hlim hg ha hl hr G hbind (fun _ => .inl rfl) sq (fun b u z => by cases (show (none : Option HO) = some u from z)) (fun b z => absurd rfl z) (fun z => absurd rfl z)
  | none =>
    let ob : Obj := { cls := .type "list", data := .seq vs.toArray }
    let H : Hp := upd (fun _ => none) a (.frz ob (.lst (ns.map V.int)))
    have hHa : H a = some (.frz ob (.lst (ns.map V.int))) := upd_same
    have hHn : ∀ b, b ≠ a → H b = none := fun b n => upd_ne n
    refine law_run (H := H) KX hns hb hbb hlim hg ha hl hr G hbind (fun b => ?_) (.inl (.inr ⟨ob, hHa⟩)) (fun b u z => ?_) (fun b z => ?_) (fun _ => hk)
    · by_cases q : b = a
      · exact .inr ⟨_, _, by rw [q]; exact hHa⟩
      · exact .inl (hHn b q)
    · by_cases q : b = a
      · subst q
        rw [hHa] at z
        cases z
        exact ⟨ha, by rw [List.length_map]; exact hz, vs, _, rv, ha⟩
      · rw [hHn b q] at z; cases z
    · by_cases q : b = a
      · exact q
      · exact absurd (hHn b q) z
end
theorem walk_law {l : PySem.W.OpenLaw} {k : Nat} {q : Program} {loose : List Str} {XP : (Str → Option Value) → Heap → Prop} {YP : World → Heap → Prop} {d : DefRec} {K : Params → PySem.W.Frag} {x : Str}
    (hn : l.most = some 63) (hdf : d.params.defaults = []) (hr : Room k callerA)
    (hY : ∀ (w : World) (h : Heap), YP w h → (K w.params).In h)
    (G : ∀ (w : World) (mg : Str → Option Value) (fa : Addr) (h : Heap), (K w.params).In h → h.Ns mainGlobals mg → mg d.name = some (.ref fa) →
      ∃ fd : FuncData, (∀ (s : Shared) (u : Value), BindsTo s fd ⟨[u], []⟩ [(x, u)]) ∧
        ∀ base : Heap, (K w.params).In base → base.Ns mainGlobals mg → FnG l.prog w (K w.params) mg base k fa fd [x] (spLaw (K w.params))) :
    PySem.W.WalkO q loose XP YP l.row.toRowW d [] (fun f vs => PySem.call f vs) := by
  refine Att.attach_call hn hdf ?_
  intro w s0 s1 mg mb fa o pm cd doc a vs ns Gr Y ho hd hcd hmg hobj hints hlen hg
  obtain ⟨fd, hb, hF⟩ := G w mg fa _ (hY w _ Y) Gr.T.g hmg
  exact law_callG (hY w _ Y) Gr.T.g Gr.T.b Gr.T.builtins Gr.T.nolimit hg hobj hints hlen hr hF hb

/-! ### the draws -/
structure DrS where
  cells : List Int
  at_ : Int
  mix : Int
  ne : 0 < cells.length
  pos : ∀ c ∈ cells, 0 ≤ c
  hat : 0 ≤ at_
  hmix : 0 ≤ mix
  lin : cells.length ≤ sizeLine
def DrS.spot (s : DrS) : Nat := (s.at_ % (s.cells.length : Int)).toNat
theorem DrS.spot_lt (s : DrS) : s.spot < s.cells.length := by
  have h := s.ne
  have h1 := Int.emod_lt_of_pos s.at_ (show (0 : Int) < (s.cells.length : Int) by omega)
  have h2 := Int.emod_nonneg s.at_ (show (s.cells.length : Int) ≠ 0 by omega)
  unfold DrS.spot
  omega
def DrS.cell (s : DrS) : Int := s.cells[s.spot]'s.spot_lt
theorem DrS.cell_nn (s : DrS) : 0 ≤ s.cell := s.pos _ (List.getElem_mem _)
def DrS.mix2 (s : DrS) : Int := (s.mix * 48271 + s.cell + 7919 * (s.at_ + 1) + 12345) % 2147483647
theorem DrS.mix2_nn (s : DrS) : 0 ≤ s.mix2 := Int.emod_nonneg _ (by decide)
theorem DrS.mix2_lt (s : DrS) : s.mix2 < 2147483647 := Int.emod_lt_of_pos _ (by decide)
/-- a cell used up by a digit -/
def DrS.dig (s : DrS) (n : Int) (hn : 0 < n) : DrS := ⟨s.cells.set s.spot (s.cell / n), s.at_, s.mix, by rw [List.length_set]; exact s.ne, fun c hc => by
  rcases List.mem_or_eq_of_mem_set hc with h | rfl
  · exact s.pos c h
  · exact Int.ediv_nonneg s.cell_nn (Int.le_of_lt hn), s.hat, s.hmix, by rw [List.length_set]; exact s.lin⟩
def DrS.stir (s : DrS) : DrS := ⟨s.cells, s.at_ + 1, s.mix2, s.ne, s.pos, by have := s.hat; omega, s.mix2_nn, s.lin⟩
def DrS.draw (s : DrS) (n : Int) (hn : 0 < n) : Int × DrS :=
  if (10 : Int) ^ 18 ≤ s.cell then (s.cell % n, s.dig n hn) else (s.mix2 * s.mix2 % 2147483629 / 16 % n, s.stir)
theorem DrS.draw_nn (s : DrS) (n : Int) (hn : 0 < n) : 0 ≤ (s.draw n hn).1 ∧ (s.draw n hn).1 < n := by
  unfold DrS.draw
  split
  · exact ⟨Int.emod_nonneg _ (by omega), Int.emod_lt_of_pos _ hn⟩
  · exact ⟨Int.emod_nonneg _ (by omega), Int.emod_lt_of_pos _ hn⟩
def drawM : List D → M DrS D
  | [.drw, .int n] => fun s => if h : 0 < n ∧ n < 1073741824 then some (.ok (.int (s.draw n h.1).1), (s.draw n h.1).2) else none
  | _ => stk
def Md.draw (a c : Addr) : Md DrS where
  da := fun b => b = a
  sf := fun _ => False
  adr := fun b => b = a ∨ b = c
  ok := fun s H => a ≠ c ∧ H a = some (.lst [.ref c, .int s.at_, .int s.mix]) ∧ H c = some (.lst (s.cells.map V.int))
  frame := fun s H H' h k => ⟨h.1, (k a (.inl rfl)).trans h.2.1, (k c (.inr rfl)).trans h.2.2⟩
  dom := fun s H b h hb => by
    rcases hb with rfl | rfl
    · rw [h.2.1]; simp
    · rw [h.2.2]; simp
def Draw : Md DrS → Prop := fun md => ∃ a c, md = Md.draw a c
end DL
namespace DL
open PySem L2 PySem.Spec PyProof.Rows
/-! ### constants of the module, by data -/
def CstD (K : PySem.W.Frag) (mg : Str → Option Value) (x : Str) (d : D) : Prop := ∃ v u, mg x = some u ∧ RelV v u ∧ ∀ (c : Cn) Z H, c.K = K → Fz c Z H v d
theorem cst_int {K : PySem.W.Frag} {mg : Str → Option Value} {x : Str} {i : Int} {t : Tok} (h : mg x = some (.int i t)) : CstD K mg x (.int i) := ⟨.int i, _, h, ⟨t, rfl⟩, fun _ _ _ _ => .int i⟩
theorem cst_str {K : PySem.W.Frag} {mg : Str → Option Value} {x : Str} {i : Str} {t : Tok} (h : mg x = some (.str i t)) : CstD K mg x (.str i) := ⟨.str i, _, h, ⟨t, rfl⟩, fun _ _ _ _ => .str i⟩
def tK (K : PySem.W.Frag) (d : D) : TE := fun _ H Q => ∀ v, (∀ (c : Cn) Z H', c.K = K → Fz c Z H' v d) → Q v H
theorem de_const {S : Type} {X : Cx} {F : Fc S} {own : List Nat} {W : WX} {k : Nat} {x : Str} {d : D} {pos : Pos} (A : Amb X F k) (C : CstD X.K X.mg x d) (hg : Gl X x := by rfl) (hd : (x == ("__debug__" : Str)) = false := by decide) : DE X F own W .fz (.Name x pos) (tK X.K d) (cst d) := by
  obtain ⟨v, u, h1, h2, h3⟩ := C
  refine ⟨⟨fun pins s σ H Q I h => ld_glob I hg h1 ⟨v, H, I, h2, h v h3⟩ hd⟩, fun σ H Z ρ s Q k q v z => q v H Z Ext.refl k (z F.cn Z H A.K.symm)⟩
end DL

namespace DL
open PySem L2 PySem.Spec PyProof.Rows
section
variable {S : Type} {X : Cx} {F : Fc S} {Z Z' Z1 Z2 : Addr → Prop} {H H' H1 H2 : Hp} {σ σ' : L2.St} {ρ : Env} {own own1 own2 own' oL : List Nat} {s s' : S} {p : Addr} {o : HO} {v : V} {d : D} {m m' m1 m2 m3 : Mo} {W : WX} {Q : VK} {k : Nat} {fr : Bool} {D0 : Ends}
variable {a b c e : Expr} {ta tb tc te : TE} {fa fb fc fe : Env → M S D} {pos pos' : Pos}

/-! ### {k: v, ..} -/
def asK : D → Option Key
  | .int i => some (.inl i)
  | .str x => some (.inr x)
  | _ => none
theorem asK_kV {cn : Cn} {x : D} {kk : Key} (h : asK x = some kk) (z : Fz cn Z H v x) : v = kV kk := by
  cases x <;> simp only [asK] at h <;> cases h <;> cases z <;> rfl
def putD {κ : Type} [DecidableEq κ] (kvs : List (κ × D)) (k : κ) (v : D) : List (κ × D) :=
  if (kvs.any fun kv => decide (kv.1 = k)) = true then kvs.map (fun kv => if kv.1 = k then (kv.1, v) else kv) else kvs ++ [(k, v)]
def mergeD (kvs more : List (Key × D)) : List (Key × D) := more.foldl (fun acc kv => putD acc kv.1 kv.2) kvs
theorem put_pair {κ : Type} [DecidableEq κ] {cn : Cn} {kvs : List (κ × V)} {des : List (κ × D)} (kk : κ) (hk : kvs.map (·.1) = des.map (·.1)) (hf : FzAll cn Z H (kvs.map (·.2)) (des.map (·.2))) (hv : Fz cn Z H v d) :
    (putK kvs kk v).map (·.1) = (putD des kk d).map (·.1) ∧ FzAll cn Z H ((putK kvs kk v).map (·.2)) ((putD des kk d).map (·.2)) := by
  have hany : (kvs.any fun kv => decide (kv.1 = kk)) = des.any fun kv => decide (kv.1 = kk) := by
    have e1 : (kvs.any fun kv => decide (kv.1 = kk)) = (kvs.map (·.1)).any fun x => decide (x = kk) := by rw [List.any_map]; rfl
    have e2 : (des.any fun kv => decide (kv.1 = kk)) = (des.map (·.1)).any fun x => decide (x = kk) := by rw [List.any_map]; rfl
    rw [e1, e2, hk]
  unfold putK putD
  rw [hany]
  split
  · rename_i hq
    clear hany hq
    induction kvs generalizing des with
    | nil => cases des with
      | nil => exact ⟨rfl, hf⟩
      | cons q r => simp at hk
    | cons p r ih => cases des with
      | nil => simp at hk
      | cons q r' =>
        simp only [List.map_cons, List.cons.injEq] at hk
        rw [List.map_cons, List.map_cons] at hf
        obtain ⟨h1, h2⟩ := hf.inv
        obtain ⟨i1, i2⟩ := ih hk.2 h2
        by_cases ep : p.1 = kk
        · have eq : q.1 = kk := hk.1 ▸ ep
          simp only [List.map_cons, if_pos ep, if_pos eq]
          exact ⟨by rw [i1, hk.1], .cons hv i2⟩
        · have eq : ¬ q.1 = kk := hk.1 ▸ ep
          simp only [List.map_cons, if_neg ep, if_neg eq]
          exact ⟨by rw [i1, hk.1], .cons h1 i2⟩
  · rw [List.map_append, List.map_append, List.map_append, List.map_append, hk]
    exact ⟨rfl, hf.snoc hv⟩
def ppNil : Env → M S (List (Key × D)) := fun _ => ret []
def ppCons (fa fb : Env → M S D) (fr : Env → M S (List (Key × D))) : Env → M S (List (Key × D)) := fun ρ => bnd (fa ρ) fun x => match asK x with
  | none => stk
  | some kk => bnd (fb ρ) fun y => bnd (fr ρ) fun r => ret ((kk, y) :: r)
structure DPp (X : Cx) (F : Fc S) (own : List Nat) (W : WX) (pos : Pos) (keys : List (Option Expr)) (values : List Expr) (trs : List (TE × TE)) (n : Nat) (f : Env → M S (List (Key × D))) : Prop where
  pp : PPs X pos keys values trs
  ev : ∀ σ H Z ρ s (Q : List (V × V) → Hp → Prop), Ok F own Z H σ ρ s → (match f ρ s with
    | some (.ok ds, s') => ∀ (kvs : List (Key × V)) H' Z', Ext F Z H Z' H' → Ok F own Z' H' σ ρ s' → kvs.map (·.1) = ds.map (·.1) → FzAll F.cn Z' H' (kvs.map (·.2)) (ds.map (·.2)) → kvs.length = n → Q (kvs.map fun kv => (kV kv.1, kv.2)) H'
    | some (.error x, s') => ∀ cls dd H' Z', Bs F Z' H' s' → ExcAt F.cn Z' H' x cls dd → W cls dd σ H'
    | none => False) → tPairs trs σ H Q
  l1 : keys.length = n
  l2 : values.length = n
  al : keys.all (·.isSome) = true
theorem dpp_nil : DPp X F own W pos [] [] [] 0 ppNil := ⟨pps_nil, fun σ H Z ρ s Q k q => q [] H Z Ext.refl k rfl .nil rfl, rfl, rfl, rfl⟩
theorem dpp_cons {n : Nat} {ks : List (Option Expr)} {vs : List Expr} {trs : List (TE × TE)} {f : Env → M S (List (Key × D))} (x : DE X F own W .fz a ta fa) (y : DE X F own W .fz b tb fb) (z : DPp X F own W pos ks vs trs n f) : DPp X F own W pos (some a :: ks) (b :: vs) ((ta, tb) :: trs) (n + 1) (ppCons fa fb f) := by
  refine ⟨pps_cons x.pe y.pe z.pp, fun σ H Z ρ s Q k q => ?_, by rw [List.length_cons, z.l1], by rw [List.length_cons, z.l2], by rw [List.all_cons, z.al]; rfl⟩
  dsimp only [tPairs]
  refine x.ev σ H Z ρ s _ k ?_
  dsimp only [ppCons, bnd] at q
  cases e1 : fa ρ s with
  | none => rw [e1] at q; exact q
  | some p1 =>
    obtain ⟨r1, s1⟩ := p1
    rw [e1] at q
    cases r1 with
    | error w => exact q
    | ok d1 =>
      intro v H1 Z1 x1 k1 z1
      dsimp only at q
      cases e0 : asK d1 with
      | none => rw [e0] at q; exact (show False from q).elim
      | some kk =>
        rw [e0] at q
        dsimp only [bnd] at q
        refine y.ev σ H1 Z1 ρ s1 _ k1 ?_
        cases e2 : fb ρ s1 with
        | none => rw [e2] at q; exact q
        | some p2 =>
          obtain ⟨r2, s2⟩ := p2
          rw [e2] at q
          cases r2 with
          | error w => exact q
          | ok d2 =>
            intro u H2 Z2 x2 k2 z2
            dsimp only at q
            refine z.ev σ H2 Z2 ρ s2 _ k2 ?_
            cases e3 : f ρ s2 with
            | none => rw [e3] at q; exact q
            | some p3 =>
              obtain ⟨r3, s3⟩ := p3
              rw [e3] at q
              cases r3 with
              | error w => exact q
              | ok ds =>
                intro kvs H3 Z3 x3 k3 h1 h2 h3
                rw [asK_kV e0 z1]
                refine q ((kk, u) :: kvs) H3 Z3 ((x1.trans x2).trans x3) k3 (by rw [List.map_cons, List.map_cons, h1]) ?_ (by rw [List.length_cons, h3])
                exact .cons (Fz.grow (k2.toBs.grow x3) z2) h2
def mDisp (f : Env → M S (List (Key × D))) : Env → M S D := fun ρ => bnd (f ρ) fun ds => ret (.dic (mergeD [] ds))
theorem merge_pair {cn : Cn} : ∀ (more : List (Key × V)) (dmore : List (Key × D)) (kvs : List (Key × V)) (des : List (Key × D)), kvs.map (·.1) = des.map (·.1) → FzAll cn Z H (kvs.map (·.2)) (des.map (·.2)) → more.map (·.1) = dmore.map (·.1) → FzAll cn Z H (more.map (·.2)) (dmore.map (·.2)) →
    (mergeK kvs more).map (·.1) = (mergeD des dmore).map (·.1) ∧ FzAll cn Z H ((mergeK kvs more).map (·.2)) ((mergeD des dmore).map (·.2))
  | [], [], kvs, des, h1, h2, _, _ => ⟨h1, h2⟩
  | [], _ :: _, _, _, _, _, h, _ => by simp at h
  | _ :: _, [], _, _, _, _, h, _ => by simp at h
  | p :: more, q :: dmore, kvs, des, h1, h2, h3, h4 => by
    simp only [List.map_cons, List.cons.injEq] at h3
    rw [List.map_cons, List.map_cons] at h4
    obtain ⟨g1, g2⟩ := h4.inv
    obtain ⟨i1, i2⟩ := put_pair p.1 h1 h2 g1
    have := merge_pair more dmore (putK kvs p.1 p.2) (putD des p.1 q.2) i1 i2 h3.2 g2
    unfold mergeK mergeD at this ⊢
    rw [List.foldl_cons, List.foldl_cons, ← h3.1]
    exact this
theorem Ok.side (k : Ok F own Z H σ ρ s) (n : H p = none) : Side F own Z H σ ρ p := ⟨fun z => (k.zd p z).1 n, k.toBs.nadr n, k.toBs.entry n, fun i d' h1 h2 h3 => by
  obtain ⟨a, q1, _, _, _, q5⟩ := k.ow i d' h1 h2
  rw [h3] at q1
  cases q1
  exact q5.there n⟩
theorem de_disp {n : Nat} {keys : List (Option Expr)} {values : List Expr} {trs : List (TE × TE)} {f : Env → M S (List (Key × D))} (x : DPp X F own W pos keys values trs n f) (h0 : keys ≠ [] := by intro h; cases h) (hn : n ≤ 15 := by decide) : DE X F own W .fr (.Dict keys values pos) (tDisp trs) (mDisp f) := by
  refine ⟨pe_disp x.pp x.al (by rw [x.l1, x.l2]) h0 (by rw [x.l1]; exact hn), fun σ H Z ρ s Q k q p np => ?_⟩
  have sd := k.side np
  have k1 : Ok F own Z (upd H p (.dK [])) σ ρ s := k.newO np
  refine x.ev σ _ Z ρ s _ k1 ?_
  dsimp only [mDisp, bnd] at q
  cases e1 : f ρ s with
  | none => rw [e1] at q; exact q
  | some p1 =>
    obtain ⟨r1, s1⟩ := p1
    rw [e1] at q
    cases r1 with
    | error w => exact q
    | ok ds =>
      intro kvs H2 Z2 x2 k2 h1 h2 h3
      dsimp only at q
      have hp : H2 p = some (.dK []) := x2.h p _ upd_same sd.na
      have sd2 : Side F own Z2 H2 σ ρ p := Side.ext (H := upd H p (.dK [])) ⟨sd.nz, sd.na, sd.h0, sd.no⟩ (by rw [upd_same]; simp) x2
      refine ⟨hp, kvs, rfl, by rw [h3]; exact hn, ?_⟩
      obtain ⟨i1, i2⟩ := merge_pair (cn := F.cn) kvs ds [] [] rfl .nil h1 h2
      have gp : Grow Z2 H2 Z2 (upd H2 p (.dK (mergeK [] kvs))) := ⟨fun _ h => h, fun a z => upd_ne fun e => sd2.nz (e ▸ z)⟩
      refine q (.ref p) _ Z2 ⟨x2.z, fun a h => ?_, fun a o h n => ?_⟩ (k2.put sd2) ⟨p, rfl, sd2.nz, sd2.na, sd2.h0, ⟨_, upd_same, ?_, i1, i2.grow gp⟩, np, sd2.no⟩
      · rcases x2.zn a h with q1 | q1 | q1
        · exact .inl q1
        · by_cases ea : a = p
          · exact .inr (.inl (by rw [ea]; exact np))
          · rw [upd_ne ea] at q1; exact .inr (.inl q1)
        · exact .inr (.inr q1)
      · have ne : a ≠ p := fun e => by rw [e, np] at h; cases h
        rw [upd_ne ne]
        exact x2.h a o (by rw [upd_ne ne]; exact h) n
      · refine Nat.le_trans (length_mergeK kvs []) ?_
        have := sizeLine_eq
        simp only [List.length_nil]
        omega
end
end DL

namespace DL
open PySem L2 PySem.Spec PyProof.Rows

/-! ### the draw itself -/
section
variable {X : Cx} {a b e : Expr} {ta tb te : TE} {pos : Pos}
theorem p_var (i : Nat) {x : Str} (hN : X.N[i]? = some x := by rfl) (hv : Vis X.env.scope x := by first | exact Or.inl rfl | exact Or.inr (Or.inl rfl) | exact Or.inr (Or.inr rfl)) (hd : (x == ("__debug__" : Str)) = false := by decide)
    (hcd : (x == ("__classdict__" : Str)) = false := by decide) : PE X (.Name x pos) (tVar i) := pe_var hN hv hd hcd
theorem p_ix (ha : PE X a ta) (hb : PE X b tb) (hs : PlainIx b := by exact (fun _ _ => rfl)) : PE X (.Subscript a b pos) (tOp (rIxL X.K) ta tb) := pe_ix ix_list ha hb hs
def rInt : List V → Hp → VK → Prop := fun xs H Q => (∃ i, xs = [.int i] ∧ Q (.int i) H) ∨ ∃ k, xs = [.bl k] ∧ Q (.int (if k then 1 else 0)) H
theorem p_int {p : Pos} (hm : X.mg "int" = none) (ha : PE X e te) (hg : Gl X "int" := by rfl) (hs : starEach [e] X.env = [(false, eval e X.env)] := by rfl) : PE X (.Call (.Name "int" p) [e] [] pos) (tCB rInt (tCons te tNil)) :=
  pe_callTy (T := "int") call_int1 hg hm (by decide +kernel) (pa_cons ha pa_nil (by rw [hs]; rfl)) (by decide) (by decide) (by rw [hs]; rfl) (by rfl)
def rLn (K : PySem.W.Frag) : List V → Hp → VK → Prop := fun xs H Q => ∃ x n, xs = [x] ∧ LenV K x H n ∧ Q (.int n) H
theorem p_len {p : Pos} (hm : X.mg "len" = none) (ha : PE X e te) (hg : Gl X "len" := by rfl) (hs : starEach [e] X.env = [(false, eval e X.env)] := by rfl) : PE X (.Call (.Name "len" p) [e] [] pos) (tCB (rLn X.K) (tCons te tNil)) :=
  pe_callB call_len hg hm PySem.boot_len (pa_cons ha pa_nil (by rw [hs]; rfl)) (by decide) (by decide) (by rw [hs]; rfl) (by rfl)
theorem p_set (i : Nat) {x : Str} {pos' : Pos} (hN : X.N.Nodup) (he : PE X e te) (hi : X.N[i]? = some x := by rfl) (hx : Loc X.env.scope x := by first | exact Or.inl rfl | exact Or.inr rfl) (hs : swapsWith e (some (.Name x pos')) pos.line X.env = pure false := by rfl)
    (hf : X.fn x = true ∨ X.env.scope.names.lookup x = some .local := by first | exact .inl rfl | exact .inr rfl) : PS X (.Assign [.Name x pos'] e pos) (tAsg te (gName i)) := ps_set hN hi hx he hs hf
end
abbrev tI (i : Int) : TE := tC (.int i)
abbrev tIx (K : PySem.W.Frag) (i : Nat) (j : Int) : TE := tOp (rIxL K) (tVar i) (tI j)
abbrev tInt (t : TE) : TE := tCB rInt (tCons t tNil)
abbrev tMod : TE → TE → TE := tOp (rI (fun _ j => 0 < j) fun i j => .int (i % j))
abbrev tDiv : TE → TE → TE := tOp (rI CDiv fun i j => .int (i / j))
abbrev tMul : TE → TE → TE := tOp (rI CMul fun i j => .int (i * j))
abbrev tAdd : TE → TE → TE := tOp (rI0 fun i j => .int (i + j))
abbrev tPow : TE → TE → TE := tOp (rI CPow fun i j => .int (i ^ j.toNat))
abbrev tGe : TE → TE → TE := tOp (rI0 fun i j => .bl (decide (j ≤ i)))
def tDraw (K : PySem.W.Frag) : TS :=
  tSeq (tAsg (tIx K 0 0) (gName 2)) <|
  tSeq (tAsg (tMod (tInt (tIx K 0 1)) (tCB (rLn K) (tCons (tVar 2) tNil))) (gName 3)) <|
  tSeq (tAsg (tOp (rIxL K) (tVar 2) (tVar 3)) (gName 4)) <|
  tSeq (tIfS (tTest (tGe (tVar 4) (tPow (tI 10) (tI 18)))) (tSeq (tAsg (tDiv (tVar 4) (tVar 1)) (gSub (tVar 2) (tVar 3) rSetL)) (tSeq (tRet (tMod (tInt (tVar 4)) (tVar 1))) tNext)) tNext) <|
  tSeq (tAsg (tAdd (tIx K 0 1) (tI 1)) (gSub (tVar 0) (tI 1) rSetL)) <|
  tSeq (tAsg (tMod (tInt (tAdd (tAdd (tAdd (tMul (tIx K 0 2) (tI 48271)) (tVar 4)) (tMul (tI 7919) (tIx K 0 1))) (tI 12345))) (tI 2147483647)) (gSub (tVar 0) (tI 2) rSetL)) <|
  tSeq (tAsg (tMod (tInt (tMul (tIx K 0 2) (tIx K 0 2))) (tI 2147483629)) (gName 5)) <|
  tSeq (tRet (tMod (tInt (tDiv (tVar 5) (tI 16))) (tVar 1))) tNext

theorem draw_vs {c : Cn} {Z : Addr → Prop} {H : Hp} {vs : List V} {n : Int} (h : FzAll c Z H vs [.drw, .int n]) : ∃ a, vs = [.ref a, .int n] ∧ c.da a := by
  obtain ⟨hl, h⟩ := h
  match vs, hl with
  | [v, u], _ =>
    have h1 := h 0 v .drw rfl rfl
    have h2 := h 1 u (.int n) rfl rfl
    cases h1 with
    | drw z =>
      cases h2
      exact ⟨_, rfl, z⟩
theorem ixN_at {n j : Nat} (hj : j < n) : ixN n (j : Int) = some j := by
  unfold ixN
  rw [if_pos (by omega), if_pos (by omega)]
  simp
theorem ixr {K : PySem.W.Frag} {H : Hp} {p : Addr} {xs : List V} {i : Int} {v : V} {Q : VK} (h : H p = some (.lst xs)) (e : atI xs i = some v) (q : Q v H) : rIxL K (.ref p) (.int i) H Q := ⟨p, xs, i, v, rfl, rfl, .inl (.inl h), e, q⟩
theorem tDraw_ok {K : PySem.W.Frag} {mg : Str → Option Value} {vs : List V} {H : Hp} {Q : VK} {E : XK} {N : List Str} {D0 : Ends} (hN : N.length = 6) (hD : D0.rt = Q) (h : SpD K mg Draw 2 false drawM vs H Q E) : tDraw K D0 (L2.start N vs) H := by
  obtain ⟨md, Z, s, ds, ⟨a, c, rfl⟩, hl, ⟨hac, ha, hc⟩, hz, hf, hp⟩ := h
  match ds, hf, hp with
  | [.drw, .int n], hf, hp =>
    obtain ⟨a', rfl, hda⟩ := draw_vs hf
    obtain rfl : a' = a := hda
    have hst : L2.start N [.ref a', .int n] = [some (.ref a'), some (.int n), none, none, none, none] := by
      unfold L2.start
      rw [hN]
      rfl
    rw [hst]
    dsimp only [drawM] at hp
    by_cases hn : 0 < n ∧ n < 1073741824
    · rw [dif_pos hn] at hp
      have hp : ∀ v H' Z', Bs (⟨K, mg, Md.draw a' c, Z, H⟩ : Fc DrS) Z' H' (s.draw n hn.1).2 → Fz _ Z' H' v (.int (s.draw n hn.1).1) → Q v H' := hp
      have fin : ∀ H', (Md.draw a' c).ok (s.draw n hn.1).2 H' → (∀ b, b ≠ a' → b ≠ c → H' b = H b) → Q (.int (s.draw n hn.1).1) H' := by
        intro H' k1 k2
        refine hp _ H' Z ⟨k1, fun b z => ?_, fun _ z => z, fun _ z => .inl z, fun b o h n => ?_⟩ (.int _)
        · have hh := hz b z
          have hn : ¬ (b = a' ∨ b = c) := hh.2
          refine ⟨by rw [k2 b (fun e => hn (.inl e)) fun e => hn (.inr e)]; exact hh.1, hh.2⟩
        · have hn : ¬ (b = a' ∨ b = c) := n
          rw [k2 b (fun e => hn (.inl e)) fun e => hn (.inr e)]
          exact h
      have hlen : LenV K (.ref c) H s.cells.length := .inl ⟨_, .inl (.inl hc), by rw [List.length_map]⟩
      have hspot : s.at_ % (s.cells.length : Int) = (s.spot : Int) := by
        have h2 := Int.emod_nonneg s.at_ (show (s.cells.length : Int) ≠ 0 by have := s.ne; omega)
        unfold DrS.spot
        omega
      have hcell : atI (s.cells.map V.int) (s.spot : Int) = some (.int s.cell) := by
        unfold atI
        rw [ixN_at (by rw [List.length_map]; exact s.spot_lt)]
        show (s.cells.map V.int)[s.spot]? = _
        rw [List.getElem?_map, List.getElem?_eq_getElem s.spot_lt]
        rfl
      refine ⟨_, rfl, ixr ha rfl ?_⟩
      refine ⟨_, rfl, ixr ha rfl ?_⟩
      refine .inl ⟨_, rfl, ?_⟩
      refine ⟨_, rfl, ⟨_, _, rfl, hlen, ?_⟩⟩
      refine ⟨_, _, rfl, rfl, (by have := s.ne; omega), ?_⟩
      refine ⟨_, rfl, _, rfl, ?_⟩
      refine ixr hc (by rw [hspot]; exact hcell) ?_
      refine ⟨_, rfl, ?_⟩
      refine ⟨_, _, rfl, rfl, ⟨by decide, by decide, by decide⟩, ?_⟩
      refine ⟨_, _, rfl, rfl, ?_⟩
      refine ⟨_, rfl, ?_⟩
      by_cases hb : (10 : Int) ^ (18 : Int).toNat ≤ s.cell
      · rw [decide_eq_true hb]
        have hb' : (10 : Int) ^ 18 ≤ s.cell := hb
        refine ⟨_, rfl, _, rfl, ?_⟩
        refine ⟨_, _, rfl, rfl, hn, ?_⟩
        refine ⟨_, rfl, _, rfl, ?_⟩
        refine ⟨c, _, _, s.spot, rfl, rfl, hc, (by rw [hspot]; exact ixN_at (by rw [List.length_map]; exact s.spot_lt)), ?_⟩
        refine ⟨_, rfl, ?_⟩
        refine .inl ⟨_, rfl, ?_⟩
        refine ⟨_, rfl, ?_⟩
        refine ⟨_, _, rfl, rfl, hn.1, ?_⟩
        show D0.rt _ _
        rw [hD]
        have e1 : (s.draw n hn.1).1 = s.cell % n := by unfold DrS.draw; rw [if_pos hb']
        have e2 : (s.draw n hn.1).2 = s.dig n hn.1 := by unfold DrS.draw; rw [if_pos hb']
        show Q (.int (s.cell % n)) _
        rw [← e1]
        refine fin _ ?_ fun b h1 h2 => upd_ne h2
        rw [e2]
        refine ⟨hac, by rw [upd_ne hac]; exact ha, ?_⟩
        rw [upd_same]
        show _ = some (HO.lst ((s.cells.set s.spot (s.cell / n)).map V.int))
        rw [List.map_set]
      · rw [decide_eq_false hb]
        dsimp only
        rw [if_neg (by decide)]
        dsimp only [tNext, tSeq, tAsg, tOp, tI, tC, tIx, tAdd, tMul, tMod, tDiv, tInt]
        have hb' : ¬ (10 : Int) ^ 18 ≤ s.cell := hb
        refine ⟨_, rfl, ?_⟩
        try dsimp only [tNext, tSeq, tAsg, tOp, tI, tC, tIx, tAdd, tMul, tMod, tDiv, tInt]
        refine ixr (i := 1) ha rfl ?_
        refine ⟨_, _, rfl, rfl, ?_⟩
        refine ⟨_, rfl, ?_⟩
        refine ⟨a', _, _, 1, rfl, rfl, ha, rfl, ?_⟩
        refine ⟨_, rfl, ?_⟩
        try dsimp only [tNext, tSeq, tAsg, tOp, tI, tC, tIx, tAdd, tMul, tMod, tDiv, tInt]
        refine ixr (i := 2) upd_same (by rfl) ?_
        refine ⟨_, _, rfl, rfl, .inr ⟨by decide, by decide⟩, ?_⟩
        refine ⟨_, rfl, _, _, rfl, rfl, ?_⟩
        refine ⟨_, rfl, ?_⟩
        try dsimp only [tNext, tSeq, tAsg, tOp, tI, tC, tIx, tAdd, tMul, tMod, tDiv, tInt]
        refine ixr (i := 1) upd_same (by rfl) ?_
        refine ⟨_, _, rfl, rfl, .inl ⟨by decide, by decide⟩, ?_⟩
        refine ⟨_, _, rfl, rfl, ?_⟩
        refine ⟨_, _, rfl, rfl, ?_⟩
        refine .inl ⟨_, rfl, ?_⟩
        refine ⟨_, _, rfl, rfl, (by show (0 : Int) < _; decide), ?_⟩
        refine ⟨_, rfl, ?_⟩
        refine ⟨a', _, _, 2, rfl, rfl, upd_same, rfl, ?_⟩
        have hm : (s.mix * 48271 + s.cell + 7919 * (s.at_ + 1) + 12345) % 2147483647 = s.mix2 := rfl
        have k1 := s.mix2_nn
        have k2 := s.mix2_lt
        refine ⟨_, rfl, ?_⟩
        try dsimp only [tNext, tSeq, tAsg, tOp, tI, tC, tIx, tAdd, tMul, tMod, tDiv, tInt]
        refine ixr (i := 2) upd_same (by rfl) ?_
        refine ⟨_, rfl, ?_⟩
        try dsimp only [tNext, tSeq, tAsg, tOp, tI, tC, tIx, tAdd, tMul, tMod, tDiv, tInt]
        refine ixr (i := 2) upd_same (by rfl) ?_
        refine ⟨_, _, rfl, rfl, .inl ⟨by rw [hm]; omega, by rw [hm]; omega⟩, ?_⟩
        refine .inl ⟨_, rfl, ?_⟩
        refine ⟨_, _, rfl, rfl, (by show (0 : Int) < _; decide), ?_⟩
        refine ⟨_, rfl, ?_⟩
        refine ⟨_, _, rfl, rfl, ⟨by decide, by decide⟩, ?_⟩
        refine .inl ⟨_, rfl, ?_⟩
        refine ⟨_, rfl, ?_⟩
        refine ⟨_, _, rfl, rfl, hn.1, ?_⟩
        show D0.rt _ _
        rw [hD]
        have e1 : (s.draw n hn.1).1 = s.mix2 * s.mix2 % 2147483629 / 16 % n := by unfold DrS.draw; rw [if_neg hb']
        have e2 : (s.draw n hn.1).2 = s.stir := by unfold DrS.draw; rw [if_neg hb']
        show Q (.int (((s.mix * 48271 + s.cell + 7919 * (s.at_ + 1) + 12345) % 2147483647) * ((s.mix * 48271 + s.cell + 7919 * (s.at_ + 1) + 12345) % 2147483647) % 2147483629 / 16 % n)) _
        rw [hm, ← e1]
        refine fin _ ?_ fun b h1 h2 => by rw [upd_ne h1, upd_ne h1]
        rw [e2]
        refine ⟨hac, ?_, by rw [upd_ne (Ne.symm hac), upd_ne (Ne.symm hac)]; exact hc⟩
        rw [upd_same]
        rfl
    · rw [dif_neg hn] at hp
      exact (show False from hp).elim

/-! ### bodies that never run off their end -/
def NX {S : Type} (f : Env → M S (Fl × Env)) : Prop := ∀ ρ s ρ' s', f ρ s ≠ some (.ok (.nx, ρ'), s')
section
variable {S : Type} {f g : Env → M S (Fl × Env)} {fe : Env → M S D} {ft : Env → M S Bool}
theorem nx_ret : NX (sRet fe) := by
  intro ρ s ρ' s' h
  unfold sRet bnd at h
  split at h
  · cases h
  · cases h
  · cases h
theorem nx_seq (h : NX g) : NX (sSeq f g) := by
  intro ρ s ρ' s' e
  unfold sSeq bnd at e
  split at e
  · cases e
  · cases e
  · rename_i a s1 _
    obtain ⟨fl, ρ1⟩ := a
    cases fl with
    | nx => exact h _ _ _ _ e
    | rt d => cases e
    | bk => cases e
    | ct => cases e
theorem nx_if (h1 : NX f) (h2 : NX g) : NX (sIf ft f g) := by
  intro ρ s ρ' s' e
  unfold sIf bnd at e
  split at e
  · cases e
  · cases e
  · rename_i b _ _
    cases b with
    | true => exact h1 _ _ _ _ e
    | false => exact h2 _ _ _ _ e
end

/-! ### the law's def -/
section
variable {P : Program} {w : World} {K : PySem.W.Frag} {mg : Str → Option Value} {base : Heap}
/-- the weakest reading of a block's mirror, whatever the draws' place -/
def tSS {S : Type} (mds : Md S → Prop) (K : PySem.W.Frag) (mg : Str → Option Value) (W : WX) (fb : Env → M S (Fl × Env)) : TS := fun D0 σ H =>
  ∃ (md : Md S) (Z0 : Addr → Prop) (H0 : Hp) (Z : Addr → Prop) (ρ : Env) (s : S), mds md ∧ Ok (⟨K, mg, md, Z0, H0⟩ : Fc S) [] Z H σ ρ s ∧ PostS (⟨K, mg, md, Z0, H0⟩ : Fc S) [] [] W false Z H D0 (fb ρ s)
theorem pss_tSS {S : Type} {mds : Md S → Prop} {X : Cx} {W : WX} {fb : Env → M S (Fl × Env)} {sts : List Stmt} (h : ∀ (md : Md S) (Z0 : Addr → Prop) (H0 : Hp), mds md → ∃ t, DSs X (⟨K, mg, md, Z0, H0⟩ : Fc S) [] [] [] W false sts t fb) : PSs X sts (tSS mds K mg W fb) :=
  ⟨fun pins s σ H D0 I ⟨md, Z0, H0, Z, ρ, s', hm, k, q⟩ => by
    obtain ⟨t, d⟩ := h md Z0 H0 hm
    exact d.ps.run pins s σ H D0 I (d.ev σ H Z ρ s' D0 k q)⟩
theorem scr_at {H : Hp} {a : Addr} {vs : List V} (h : SqL K H a vs) : ∃ Z : Addr → Prop, (∀ b, Z b → H b ≠ none) ∧ ScrAt K Z H a vs := by
  rcases h with h | h
  · refine ⟨fun b => b = a, fun b e => ?_, .inl ⟨rfl, h⟩⟩
    subst e
    rcases h with h | ⟨o, h⟩ <;> rw [h] <;> simp
  · exact ⟨fun _ => False, fun _ z => z.elim, .inr fun H' => .inr h⟩
theorem int_vs {c : Cn} {Z : Addr → Prop} {H : Hp} : ∀ {vs : List V} {ns : List Int}, FzAll c Z H vs (ns.map .int) → vs = ns.map V.int
  | [], [], _ => rfl
  | v :: vs, n :: ns, h => by
    obtain ⟨h1, h2⟩ := FzAll.inv (ds := ns.map .int) (d := .int n) h
    cases h1
    rw [int_vs h2]
    rfl
  | [], n :: ns, h => by have := h.1; simp at this
  | v :: vs, [], h => by have := h.1; simp at this
/-- the cells that the draws begin with -/
def cells0 (ns : List Int) : List Int := if ns = [] then [1] else ns.map fun i => if i < 0 then -i else i
def s0 (ns : List Int) (h : ns.length ≤ 63) : DrS := ⟨cells0 ns, 0, 1, by
    unfold cells0
    split
    · decide
    · rw [List.length_map]; rename_i h; exact List.length_pos_iff.mpr h, by
    unfold cells0
    split
    · decide
    · intro c hc
      obtain ⟨i, _, rfl⟩ := List.mem_map.mp hc
      split <;> omega, by decide, by decide, by
    unfold cells0
    split
    · decide
    · rw [List.length_map]; exact Nat.le_trans h (by decide)⟩
theorem law_mk {x qual : Str} {st s1 : Stmt} {rest : List Stmt} {f : Addr} {fd : FuncData} {N : List Str} {sc : Str} {k : Nat} {fb : Env → M DrS (Fl × Env)} {mst : List D → M Unit D} (F : Fun K x qual st f fd) (Sc : FnScope N [sc] (defScope st))
    (hb : defBody st = s1 :: rest) (hN : 2 ≤ N.length)
    (hst : ∀ ns : List Int, ns.length ≤ 63 → mst [.scr ns] () = some (.ok (.lst [.lst ((cells0 ns).map .int), .int 0, .int 1]), ()))
    (h1 : ∀ (cdv : Value) (A : Around) (outer : List PySem.Env) (s : Shared) (H : Hp) (E : XK), Amb (cxOf (L2.CX P w) P w K mg base N qual (defScope st) f cdv A outer s H E) (⟨K, mg, Md.unit, fun _ => False, H⟩ : Fc Unit) k →
      Takes (cxOf (L2.CX P w) P w K mg base N qual (defScope st) f cdv A outer s H E) (fun cls d _ H' => E cls d H') →
      PS (cxOf (L2.CX P w) P w K mg base N qual (defScope st) f cdv A outer s H E) s1 (tAsg (tCallS (SpD K mg Pure 1 true mst) (WE fun cls d _ H' => E cls d H') (tCons (tVar 0) tNil)) (gName 1)))
    (h2 : ∀ (cdv : Value) (A : Around) (outer : List PySem.Env) (s : Shared) (H : Hp) (E : XK) (md : Md DrS) (Z0 : Addr → Prop) (H0 : Hp), Draw md → Amb (cxOf (L2.CX P w) P w K mg base N qual (defScope st) f cdv A outer s H E) (⟨K, mg, md, Z0, H0⟩ : Fc DrS) k →
      Takes (cxOf (L2.CX P w) P w K mg base N qual (defScope st) f cdv A outer s H E) (fun cls d _ H' => E cls d H') →
      ∃ t, DSs (cxOf (L2.CX P w) P w K mg base N qual (defScope st) f cdv A outer s H E) (⟨K, mg, md, Z0, H0⟩ : Fc DrS) [] [] [] (fun cls d _ H' => E cls d H') false rest t fb)
    (hm : ∀ (ns : List Int) (s : DrS), ns.length ≤ 63 → ∃ ρ' s', fb (some (.scr ns) :: some .drw :: List.replicate (N.length - 2) none) s = some (.ok (.rt (.bl true), ρ'), s')) :
    FnG P w K mg base (k + 1) f fd [sc] (spLaw K) := by
  obtain ⟨oc, od, kV, doc, pm, an, cdv, ct, osl, rfl, lk, hcd⟩ := F.ex
  refine fnG_of lk hcd Sc (fun vs H Q E h => ?_) fun A outer s H vs Q E hgd hr hsp => ?_
  · obtain ⟨a, ns, rfl, _⟩ := h; rfl
  obtain ⟨a, ns, rfl, hS, hO, hl, hQ⟩ := hsp
  have am : ∀ {S : Type} (md : Md S) Z0 H0, Amb (cxOf (L2.CX P w) P w K mg base N qual (defScope st) f cdv A outer s H E) (⟨K, mg, md, Z0, H0⟩ : Fc S) k := fun md Z0 H0 => ⟨rfl, rfl, hr, hgd, rfl, passes_of (K := fun e s'' => L2.CX P w outer H s E e s'') rfl⟩
  have tk : Takes (cxOf (L2.CX P w) P w K mg base N qual (defScope st) f cdv A outer s H E) (fun cls d _ H' => E cls d H') := takes_of rfl rfl rfl rfl
  refine ⟨tSeq (tAsg (tCallS (SpD K mg Pure 1 true mst) (WE fun cls d _ H' => E cls d H') (tCons (tVar 0) tNil)) (gName 1)) (tSS Draw K mg (fun cls d _ H' => E cls d H') fb), ?_, ?_⟩
  · rw [hb]
    exact pss_cons (h1 cdv A outer s H E (am _ _ _) tk) (pss_tSS fun md Z0 H0 hmd => h2 cdv A outer s H E md Z0 H0 hmd (am _ _ _) tk)
  have hst0 : L2.start N [.ref a] = some (.ref a) :: none :: List.replicate (N.length - 2) none := by
    unfold L2.start
    obtain ⟨n, e⟩ : ∃ n, N.length = n + 2 := ⟨N.length - 2, by omega⟩
    rw [e]
    show _ :: List.replicate (n + 2 - 1) none = _
    rw [show n + 2 - 1 = n + 1 by omega, List.replicate_succ]
    simp
  rw [hst0]
  obtain ⟨Z, hz, hsc⟩ := scr_at hS
  refine ⟨.ref a, rfl, ?_⟩
  refine ⟨Md.pure fun _ => False, Z, (), [.scr ns], ⟨_, rfl⟩, rfl, trivial, fun b z => ⟨hz b z, fun q => q⟩, .cons (.scr hsc hl) .nil, ?_⟩
  rw [hst ns hl]
  intro v H' Z' bs r
  obtain ⟨p, rfl, np, _, hp0, vs, hp, hvl, hvf⟩ := r
  have hp0 : H p = none := hp0
  obtain ⟨c, us, rfl, hzc, hc, rfl⟩ : ∃ c us, vs = [.ref c, .int 0, .int 1] ∧ Z' c ∧ H' c = some (.lst us) ∧ us = (cells0 ns).map V.int := by
    obtain ⟨hlen, hv⟩ := hvf
    match vs, hlen with
    | [v0, v1, v2], _ =>
      have q0 := hv 0 v0 _ rfl rfl
      have q1 := hv 1 v1 (.int 0) rfl rfl
      have q2 := hv 2 v2 (.int 1) rfl rfl
      cases q1
      cases q2
      cases q0 with
      | lst z1 z2 z3 z4 z5 => exact ⟨_, _, rfl, z1, z2, int_vs ⟨z3, z5⟩⟩
  have hold : ∀ b o, H b = some o → H' b = some o := fun b o h => bs.sm b o h fun q => q
  have hcn : H c = none := by
    rcases bs.zn c hzc with z | z
    · rcases hO c with q | ⟨ob, xs, q⟩
      · exact q
      · have := hold c _ q
        rw [hc] at this
        cases this
    · exact z
  have hpc : p ≠ c := fun e => np (e ▸ hzc)
  have hzH : ∀ b, Z b → H' b = H b := fun b z => by
    cases q : H b with
    | none => exact absurd q (hz b z)
    | some o => exact hold b o q
  have hok : (Md.draw p c).ok (s0 ns hl) H' := ⟨hpc, hp, hc⟩
  obtain ⟨ρ', s', e⟩ := hm ns (s0 ns hl) hl
  refine ⟨Md.draw p c, Z, H', Z, some (.scr ns) :: some .drw :: List.replicate (N.length - 2) none, s0 ns hl, ⟨p, c, rfl⟩, ?_, ?_⟩
  · refine ⟨⟨hok, fun b z => ⟨by rw [hzH b z]; exact hz b z, ?_⟩, fun _ z => z, fun _ z => .inl z, fun _ _ h _ => h⟩, fun i d _ h => ?_, fun i d h _ => by simp at h, fun i j d d' a h => by simp at h, by simp⟩
    · rintro (rfl | rfl)
      · exact hz _ z hp0
      · exact hz _ z hcn
    · match i, h with
      | 0, h =>
        cases h
        exact ⟨.ref a, rfl, .scr (hsc.grow ⟨fun _ z => z, hzH⟩) hl⟩
      | 1, h =>
        cases h
        exact ⟨.ref p, rfl, .drw rfl⟩
      | i + 2, h =>
        rw [show (some (D.scr ns) :: some D.drw :: List.replicate (N.length - 2) none)[i + 2]? = (List.replicate (N.length - 2) (none : Option D))[i]? from rfl, List.getElem?_replicate] at h
        split at h <;> cases h
  · rw [e]
    intro v H2 Z2 b2 r2
    cases (show Fz _ Z2 H2 v (.bl true) from r2)
    exact hQ H2
end
end DL

namespace DL
open PySem L2 PySem.Spec PyProof.Rows

/-! ### the text's places, by the written part -/
theorem txt_fn {K : PySem.W.Frag} {h : Heap} {mg : Str → Option Value} {x : Str} {st : Stmt} {f : Addr} {oc : Value} {od an : Option Addr} {osl : Array (Option Value)} {kV doc pm cdv ct : Value} (X : K.In h) (G : h.Ns mainGlobals mg) (a : PySem.W.nsIn K mainGlobals x = some (some (.ref f)))
    (l : K.lookup f = some ⟨oc, od, .func (PySem.W.fnOf x x (defArgs st) (defBody st) (defScope st) .none kV doc pm an cdv ct), osl⟩) (c : PySem.W.codeIn K cdv x = true) (k : PySem.W.keepIn K (.ref f) = true) : ∃ f fd, mg x = some (.ref f) ∧ Fun K x x st f fd :=
  ⟨f, _, PySem.W.mg_of X G a, fun_mk l c k⟩
theorem txt_int {K : PySem.W.Frag} {h : Heap} {mg : Str → Option Value} {x : Str} {i : Int} {t : Tok} (X : K.In h) (G : h.Ns mainGlobals mg) (a : PySem.W.nsIn K mainGlobals x = some (some (.int i t))) : CstD K mg x (.int i) := cst_int (PySem.W.mg_of X G a)
theorem txt_str {K : PySem.W.Frag} {h : Heap} {mg : Str → Option Value} {x : Str} {i : Str} {t : Tok} (X : K.In h) (G : h.Ns mainGlobals mg) (a : PySem.W.nsIn K mainGlobals x = some (some (.str i t))) : CstD K mg x (.str i) := cst_str (PySem.W.mg_of X G a)

/-! ### running mirrors -/
section
variable {S A B : Type}
/-- whatever the draws, it answers, and so -/
def Sat (m : M S A) (Q : A → Prop) : Prop := ∀ s, ∃ a s', m s = some (.ok a, s') ∧ Q a
theorem sat_ret {a : A} {Q : A → Prop} (h : Q a) : Sat (ret a : M S A) Q := fun s => ⟨a, s, rfl, h⟩
theorem sat_bnd {m : M S A} {f : A → M S B} {P : A → Prop} {Q : B → Prop} (h : Sat m P) (k : ∀ a, P a → Sat (f a) Q) : Sat (bnd m f) Q := fun s => by
  obtain ⟨a, s1, e, p⟩ := h s
  obtain ⟨b, s2, e2, q⟩ := k a p s1
  refine ⟨b, s2, ?_, q⟩
  unfold bnd
  rw [e]
  exact e2
theorem Sat.mono {m : M S A} {P Q : A → Prop} (h : Sat m P) (k : ∀ a, P a → Q a) : Sat m Q := fun s => by
  obtain ⟨a, s1, e, p⟩ := h s
  exact ⟨a, s1, e, k a p⟩
theorem Sat.and {m : M S A} {P Q : A → Prop} (h : Sat m P) (k : Sat m Q) : Sat m fun a => P a ∧ Q a := fun s => by
  obtain ⟨a, s1, e, p⟩ := h s
  obtain ⟨b, s2, e2, q⟩ := k s
  rw [e] at e2
  cases e2
  exact ⟨a, s1, e, p, q⟩
theorem runB_eq {n : Nat} {f : Env → M S (Fl × Env)} {ds : List D} : runB n f ds = bnd (f (ds.map some ++ List.replicate (n - ds.length) none)) fun x => match x.1 with
    | .rt d => ret d
    | .nx => ret .non
    | _ => stk := by
  funext s
  unfold runB bnd
  match f (ds.map some ++ List.replicate (n - ds.length) none) s with
  | none => rfl
  | some (.error x, s') => rfl
  | some (.ok (.nx, _), s') => rfl
  | some (.ok (.rt d, _), s') => rfl
  | some (.ok (.bk, _), s') => rfl
  | some (.ok (.ct, _), s') => rfl
theorem sat_draw {n : Int} {Q : D → Prop} (h0 : 0 < n) (h1 : n < 1073741824) (k : ∀ r, 0 ≤ r → r < n → Q (.int r)) : Sat (drawM [.drw, .int n]) Q := fun s => by
  refine ⟨_, (s.draw n h0).2, ?_, k _ (s.draw_nn n h0).1 (s.draw_nn n h0).2⟩
  · show (if h : 0 < n ∧ n < 1073741824 then _ else _) = _
    rw [dif_pos ⟨h0, h1⟩]
@[simp] theorem bnd_ret' (m : M S A) : bnd m ret = m := by
  funext s
  unfold bnd
  match m s with
  | none => rfl
  | some (.error x, s') => rfl
  | some (.ok a, s') => rfl
/-- a comprehension whose parts answer -/
theorem cmpF_eq {asg : D → Env → Option Env} {tst : Env → M S Bool} {fe : Env → M S D} {ρ : Env} {p : D → Bool} {g : D → D} : ∀ {ds : List D}, (∀ d ∈ ds, ∃ ρ1, asg d ρ = some ρ1 ∧ tst ρ1 = ret (p d) ∧ (p d = true → fe ρ1 = ret (g d))) → cmpF asg tst fe ρ ds = ret ((ds.filter p).map g)
  | [], _ => rfl
  | d :: ds, h => by
    obtain ⟨ρ1, e1, e2, e3⟩ := h d List.mem_cons_self
    unfold cmpF
    rw [e1]
    dsimp only
    rw [e2, bnd_ret, cmpF_eq fun x hx => h x (List.mem_cons_of_mem _ hx)]
    by_cases hp : p d = true
    · rw [if_pos hp, e3 hp, bnd_ret, bnd_ret, List.filter_cons_of_pos hp]
      rfl
    · rw [if_neg hp, List.filter_cons_of_neg hp]
/-- of a comprehension that draws: what holds of each item -/
theorem sat_cmp {asg : D → Env → Option Env} {fe : Env → M S D} {ρ : Env} {Q : D → Prop} : ∀ {ds : List D}, (∀ d ∈ ds, ∃ ρ1, asg d ρ = some ρ1 ∧ Sat (fe ρ1) Q) → Sat (cmpF asg yes fe ρ ds) fun ys => ys.length = ds.length ∧ ∀ y ∈ ys, Q y
  | [], _ => sat_ret ⟨rfl, by simp⟩
  | d :: ds, h => by
    obtain ⟨ρ1, e1, e2⟩ := h d List.mem_cons_self
    unfold cmpF
    rw [e1]
    dsimp only [yes]
    rw [bnd_ret, if_pos rfl]
    refine sat_bnd e2 fun y hy => sat_bnd (sat_cmp fun x hx => h x (List.mem_cons_of_mem _ hx)) fun ys hys => sat_ret ⟨by simp [hys.1], fun z hz => ?_⟩
    rcases List.mem_cons.mp hz with rfl | hz
    · exact hy
    · exact hys.2 z hz
theorem sat_nox {m : M S A} {Q : A → Prop} (h : Sat m Q) : Sat (nox m) Q := fun s => by
  obtain ⟨a, s1, e, p⟩ := h s
  refine ⟨a, s1, ?_, p⟩
  unfold nox
  rw [e]
@[simp] theorem nox_ret (a : A) : nox (ret a : M S A) = ret a := rfl
/-- a loop whose body goes on, by what holds of the names -/
theorem sat_for {asg : D → Env → Option Env} {body : Env → M S (Fl × Env)} (I : Nat → Env → Prop) (R : D → Prop) : ∀ {ds : List D} {i : Nat} {ρ : Env}, I i ρ →
    (∀ j d ρ, ds[j - i]? = some d → i ≤ j → I j ρ → ∃ ρ1, asg d ρ = some ρ1 ∧ Sat (body ρ1) fun x => (x.1 = .nx ∨ x.1 = .ct) ∧ I (j + 1) x.2 ∨ ∃ d, x.1 = .rt d ∧ R d) →
    Sat (forF asg body ds ρ) fun x => x.1 = .nx ∧ I (i + ds.length) x.2 ∨ ∃ d, x.1 = .rt d ∧ R d
  | [], i, ρ, h, _ => sat_ret (.inl ⟨rfl, h⟩)
  | d :: ds, i, ρ, h, hb => by
    obtain ⟨ρ1, e1, e2⟩ := hb i d ρ (by simp) (Nat.le_refl i) h
    unfold forF
    rw [e1]
    dsimp only
    have go : ∀ ρ2, I (i + 1) ρ2 → Sat (forF asg body ds ρ2) fun x => x.1 = .nx ∧ I (i + (d :: ds).length) x.2 ∨ ∃ d, x.1 = .rt d ∧ R d := fun ρ2 h2 => by
      have := sat_for I R (ds := ds) (i := i + 1) h2 fun j d' ρ' hj hij hI => hb j d' ρ' (by
        obtain ⟨t, rfl⟩ : ∃ t, j = i + 1 + t := ⟨j - (i + 1), by omega⟩
        rw [show i + 1 + t - (i + 1) = t by omega] at hj
        rw [show i + 1 + t - i = t + 1 by omega]
        simpa using hj) (by omega) hI
      rw [show i + 1 + ds.length = i + (d :: ds).length by simp; omega] at this
      exact this
    refine sat_bnd e2 fun x hx => ?_
    obtain ⟨fl, ρ2⟩ := x
    rcases hx with ⟨rfl | rfl, h2⟩ | ⟨d', rfl, h2⟩
    · exact go ρ2 h2
    · exact go ρ2 h2
    · exact sat_ret (.inr ⟨d', rfl, h2⟩)
end

/-! ### the draws' beginning -/
def stB : Env → M Unit (Fl × Env) := sRet (mLst (aCons (orV (mCmp (iSeq (slc dSlcL (vr 0) (pNone) (pSome (cst (.int 63))))) (gSet 1) (yes) (o1 dAbs (vr 1)) [1]) (mLst (aCons (cst (.int 1)) (aNil)))) (aCons (cst (.int 0)) (aCons (cst (.int 1)) (aNil)))))
theorem st_ok (ns : List Int) (hl : ns.length ≤ 63) : runB 2 stB [.scr ns] () = some (.ok (.lst [.lst ((cells0 ns).map .int), .int 0, .int 1]), ()) := by
  have hc : cut ns none (some 63) = ns := by
    refine cut_all ⟨rfl, ?_⟩
    show HT.sIx ns.length ns.length (some 63) = ns.length
    have := HT.sIx_nat ns.length ns.length 63
    rw [show ((63 : Nat) : Int) = 63 from rfl] at this
    rw [this]
    omega
  have h1 : (mCmp (iSeq (slc dSlcL (vr 0) (pNone) (pSome (cst (.int 63))))) (gSet 1) (yes) (o1 dAbs (vr 1)) [1] : Env → M Unit D) [some (.scr ns), none] = ret (.lst ((ns.map fun i => if i < 0 then -i else i).map .int)) := by
    unfold mCmp iSeq slc pSome
    simp only [vr, List.getElem?_cons_zero, bnd_ret, pNone, cst, asI, dSlcL, hc, lft_some, List.length_map]
    rw [if_pos (Nat.le_trans hl (by decide)), cmpF_eq (p := fun _ => true) (g := fun d => (dAbs d).getD .non)]
    · simp only [nox_ret, bnd_ret]
      congr 2
      rw [List.filter_eq_self.mpr (by simp), List.map_map, List.map_map]
      rfl
    · intro d hd
      obtain ⟨i, _, rfl⟩ := List.mem_map.mp hd
      exact ⟨_, rfl, rfl, fun _ => rfl⟩
  rw [runB_eq]
  show bnd (stB [some (.scr ns), none]) _ () = _
  unfold stB sRet mLst aCons orV
  rw [h1]
  by_cases hn : ns = []
  · subst hn
    rfl
  · obtain ⟨n, t, rfl⟩ := List.exists_cons_of_ne_nil hn
    unfold cells0
    rw [if_neg hn]
    rfl
end DL

namespace DL
open PySem L2 PySem.Spec PyProof.Rows PySem.PyData

/-! ### plain facts of the data's functions -/
theorem atI_get {α : Type} {xs : List α} {r : Int} (h0 : 0 ≤ r) (h1 : r < xs.length) : ∃ x, atI xs r = some x ∧ x ∈ xs := by
  unfold atI ixN
  rw [if_pos h0, if_pos h1]
  have hr : r.toNat < xs.length := by omega
  exact ⟨xs[r.toNat], List.getElem?_eq_getElem hr, List.getElem_mem hr⟩
theorem dEq_int (i j : Int) : dEq (.int i) (.int j) = some (.bl (decide (i = j))) := by
  have : (i == j) = decide (i = j) := by rw [Bool.eq_iff_iff]; simp
  exact congrArg (fun b => some (D.bl b)) this
theorem dNe_str (x y : Str) : dNe (.str x) (.str y) = some (.bl (!(decide (x = y)))) := by
  have : (x == y) = decide (x = y) := by rw [Bool.eq_iff_iff]; simp
  exact congrArg (fun b => some (D.bl !b)) this
theorem dEq_str (x y : Str) : dEq (.str x) (.str y) = some (.bl (decide (x = y))) := by
  have : (x == y) = decide (x = y) := by rw [Bool.eq_iff_iff]; simp
  exact congrArg (fun b => some (D.bl b)) this
section
variable {S A B : Type}
theorem sat_lft {o : Option A} {a : A} {Q : A → Prop} (h : o = some a) (q : Q a) : Sat (lft o : M S A) Q := by
  rw [h]
  exact sat_ret q
theorem sat_if {c : Prop} [Decidable c] {f g : M S A} {Q : A → Prop} (h : c → Sat f Q) (h' : ¬ c → Sat g Q) : Sat (if c then f else g) Q := by
  split
  · exact h (by assumption)
  · exact h' (by assumption)
end
/-! ### some[draw(draws, len(some))] -/
def pkB : Env → M DrS (Fl × Env) := sRet (o2 dSubs (vr 1) (mCal (aCons (vr 0) (aCons (o1 dLen (vr 1)) (aNil))) drawM))
theorem pick_of {d n : D} {len : Int} {Q : D → Prop} (hl : dLen d = some (.int len)) (h0 : 0 < len) (h1 : len < 1000000) (k : ∀ r, 0 ≤ r → r < len → ∃ x, dSubs d (.int r) = some x ∧ Q x) : Sat (runB 2 pkB [.drw, d]) Q := by
  rw [runB_eq]
  simp only [pkB, sRet, o2, o1, vr, mCal, aCons, aNil, List.map_cons, List.map_nil, List.cons_append, List.nil_append, List.length_cons, List.length_nil, List.getElem?_cons_succ, List.getElem?_cons_zero, bnd_ret, hl, lft_some, bnd_assoc]
  refine sat_bnd (sat_draw h0 (by omega) (Q := fun y => ∃ r : Int, y = .int r ∧ 0 ≤ r ∧ r < len) fun r a b => ⟨r, rfl, a, b⟩) ?_
  rintro _ ⟨r, rfl, a, b⟩
  obtain ⟨x, e, q⟩ := k r a b
  rw [e]
  exact sat_ret q
theorem pick_lst {xs : List D} (h0 : 0 < xs.length) (h1 : xs.length < 1000000) : Sat (runB 2 pkB [.drw, .lst xs]) fun d => d ∈ xs :=
  pick_of (n := .non) rfl (by omega) (by omega) fun r a b => atI_get a b
theorem pick_tup {xs : List D} (h0 : 0 < xs.length) (h1 : xs.length < 1000000) : Sat (runB 2 pkB [.drw, .tup xs]) fun d => d ∈ xs :=
  pick_of (n := .non) rfl (by omega) (by omega) fun r a b => atI_get a b
theorem pick_str {x : Str} (h0 : 0 < x.length) (h1 : x.length < 1000000) : Sat (runB 2 pkB [.drw, .str x]) fun d => ∃ c ∈ x.cps.toList, d = .str ⟨#[c]⟩ := by
  have hz : x.length ≤ sizeLine := Nat.le_trans (Nat.le_of_lt h1) (by decide)
  have hx : x.length = x.cps.toList.length := by rw [Array.length_toList]; rfl
  refine pick_of (n := .non) (len := x.length) ?_ (by omega) (by omega) fun r a b => ?_
  · show (if x.length ≤ sizeLine then _ else _) = _
    rw [if_pos hz]
  · obtain ⟨c, e, m⟩ := atI_get (xs := x.cps.toList) a (by rw [← hx]; exact b)
    refine ⟨.str ⟨#[c]⟩, ?_, c, m, rfl⟩
    show (if x.length ≤ sizeLine then _ else _) = _
    rw [if_pos hz, e]
    rfl

/-! ### repr -/
theorem dRepr_str {x : Str} (hl : x.length ≤ 100000) (hc : ∀ c ∈ x.cps.toList, c < 16 ^ 8) : dRepr (.str x) = some (.str (reprText x)) := by
  have h := StrLaws.reprText_len x hc
  have hs : (reprText x).length ≤ sizeLine := Nat.le_trans h (Nat.le_trans (by omega : 10 * x.length + 2 ≤ 1000002) (by decide))
  show (if reprOk (.str x) = true then _ else _) = _
  have : reprOk (.str x) = true := by
    unfold reprOk
    simp only [PyData.showable, PyData.hasDict, Bool.true_and, Bool.not_false, Bool.true_or, Bool.and_true, Bool.and_eq_true, decide_eq_true_eq]
    exact ⟨Nat.zero_le _, hs⟩
  rw [if_pos this]
  rfl

/-! ### == of plain data -/
mutual
def fromPy : PyData → D
  | .none => .non
  | .bool b => .bl b
  | .int i => .int i
  | .str x => .str x
  | .list xs => .lst (fromPys xs)
  | .tuple xs => .tup (fromPys xs)
  | .dict _ => .non
def fromPys : List PyData → List D
  | [] => []
  | x :: xs => fromPy x :: fromPys xs
end
mutual
theorem from_to : ∀ (d : D) (x : PyData), toPy d = some x → fromPy x = d
  | .non, x, h => by simp only [toPy] at h; cases h; rfl
  | .bl _, x, h => by simp only [toPy] at h; cases h; rfl
  | .int _, x, h => by simp only [toPy] at h; cases h; rfl
  | .str _, x, h => by simp only [toPy] at h; cases h; rfl
  | .lst ds, x, h => by
    simp only [toPy] at h
    split at h
    · rename_i xs e
      cases h
      show D.lst (fromPys xs) = _
      rw [froms_to ds xs e]
    · cases h
  | .tup ds, x, h => by
    simp only [toPy] at h
    split at h
    · rename_i xs e
      cases h
      show D.tup (fromPys xs) = _
      rw [froms_to ds xs e]
    · cases h
  | .dic _, x, h => by simp only [toPy] at h; cases h
  | .dit _, x, h => by simp only [toPy] at h; cases h
  | .obj _ _, x, h => by simp only [toPy] at h; cases h
  | .slf _ _, x, h => by simp only [toPy] at h; cases h
  | .drw, x, h => by simp only [toPy] at h; cases h
  | .ty _, x, h => by simp only [toPy] at h; cases h
  | .scr _, x, h => by simp only [toPy] at h; cases h
theorem froms_to : ∀ (ds : List D) (xs : List PyData), toPys ds = some xs → fromPys xs = ds
  | [], xs, h => by simp only [toPys] at h; cases h; rfl
  | d :: ds, xs, h => by
    simp only [toPys] at h
    split at h
    · rename_i y ys e1 e2
      cases h
      show fromPy y :: fromPys ys = _
      rw [from_to d y e1, froms_to ds ys e2]
    · cases h
end
mutual
def nbP : PyData → Bool
  | .none => true
  | .int _ => true
  | .str x => strOk x
  | .list xs => nbPs xs
  | .tuple xs => nbPs xs
  | _ => false
def nbPs : List PyData → Bool
  | [] => true
  | x :: xs => nbP x && nbPs xs
end
mutual
theorem eqv_eq : ∀ x y : PyData, nbP x = true → nbP y = true → PyData.eqv x y = true → x = y
  | .none, y, _, h2, h => by cases y <;> first | rfl | (simp only [PyData.eqv] at h; cases h) | (cases h)
  | .int i, y, _, h2, h => by
    cases y <;> simp only [PyData.eqv] at h <;> first | cases h | (simp only [nbP] at h2; cases h2) | skip
    rw [beq_iff_eq] at h
    rw [h]
  | .str x, y, _, h2, h => by
    cases y <;> simp only [PyData.eqv] at h <;> first | cases h | (simp only [nbP] at h2; cases h2) | skip
    rw [beq_iff_eq] at h
    rw [h]
  | .list xs, y, h1, h2, h => by
    cases y <;> simp only [PyData.eqv] at h <;> first | cases h | (simp only [nbP] at h2; cases h2) | skip
    rename_i ys
    rw [eqvs_eq xs ys (by simpa only [nbP] using h1) (by simpa only [nbP] using h2) h]
  | .tuple xs, y, h1, h2, h => by
    cases y <;> simp only [PyData.eqv] at h <;> first | cases h | (simp only [nbP] at h2; cases h2) | skip
    rename_i ys
    rw [eqvs_eq xs ys (by simpa only [nbP] using h1) (by simpa only [nbP] using h2) h]
  | .bool _, y, h1, h2, h => by simp only [nbP] at h1; cases h1
  | .dict _, y, h1, h2, h => by simp only [nbP] at h1; cases h1
theorem eqvs_eq : ∀ xs ys : List PyData, nbPs xs = true → nbPs ys = true → PyData.eqvAll xs ys = true → xs = ys
  | [], [], _, _, _ => rfl
  | [], _ :: _, _, _, h => by simp only [PyData.eqvAll] at h; cases h
  | _ :: _, [], _, _, h => by simp only [PyData.eqvAll] at h; cases h
  | x :: xs, y :: ys, h1, h2, h => by
    simp only [PyData.eqvAll, nbPs, Bool.and_eq_true] at h h1 h2
    rw [eqv_eq x y h1.1 h2.1 h.1, eqvs_eq xs ys h1.2 h2.2 h.2]
end
mutual
theorem lay_nb : ∀ x : PyData, nbP x = true → x.canLay0 = true
  | .none, _ => rfl
  | .int i, _ => rfl
  | .str x, h => h
  | .list xs, h => lays_nb xs h
  | .tuple xs, h => lays_nb xs h
  | .bool _, h => rfl
  | .dict _, h => by simp only [nbP] at h; cases h
theorem lays_nb : ∀ xs : List PyData, nbPs xs = true → PyData.canLayAll0 xs = true
  | [], _ => rfl
  | x :: xs, h => by
    simp only [nbPs, Bool.and_eq_true] at h
    show (PyData.canLay0 x && PyData.canLayAll0 xs) = true
    rw [lay_nb x h.1, lays_nb xs h.2]
    rfl
end
/-- plain: no bools, no dicts, not too deep -/
def Plain (d : D) : Prop := ∃ x, toPy d = some x ∧ nbP x = true ∧ x.depth ≤ 64
theorem eq_plain {d e : D} (h : Plain d) (h' : Plain e) : ∃ b, dEqB d e = some b ∧ (b = true ↔ d = e) := by
  obtain ⟨x, e1, n1, p1⟩ := h
  obtain ⟨y, e2, n2, p2⟩ := h'
  have key : dEqG d e = some (PyData.eqv x y) := by
    unfold dEqG
    rw [e1, e2]
    dsimp only
    refine if_pos ⟨?_, ?_⟩
    · unfold SeqAt.shaped; rw [lay_nb x n1, decide_eq_true p1]; rfl
    · unfold SeqAt.shaped; rw [lay_nb y n2, decide_eq_true p2]; rfl
  have hv : PyData.eqv x y = true ↔ d = e := by
    refine ⟨fun q => ?_, fun q => ?_⟩
    · rw [← from_to d x e1, ← from_to e y e2, eqv_eq x y n1 n2 q]
    · subst q
      rw [e1] at e2
      cases e2
      exact SeqAt.eqv_refl x (lay_nb x n1)
  unfold dEqB
  cases q : strs2 d e with
  | none => exact ⟨_, key, hv⟩
  | some r =>
    refine ⟨r, rfl, ?_⟩
    cases d <;> cases e <;> simp only [strs2] at q <;> cases q
    rename_i a b
    rw [beq_iff_eq, D.str.injEq]
/-! what is plain, by parts: at most n deep -/
def PlainN (n : Nat) (d : D) : Prop := ∃ x, toPy d = some x ∧ nbP x = true ∧ x.depth ≤ n
theorem PlainN.plain {n : Nat} {d : D} (h : PlainN n d) (hn : n ≤ 64 := by decide) : Plain d := by
  obtain ⟨x, a, b, c⟩ := h
  exact ⟨x, a, b, Nat.le_trans c hn⟩
theorem PlainN.mono {n m : Nat} {d : D} (h : PlainN n d) (hn : n ≤ m) : PlainN m d := by
  obtain ⟨x, a, b, c⟩ := h
  exact ⟨x, a, b, Nat.le_trans c hn⟩
theorem plain_non {n : Nat} : PlainN n .non := ⟨_, rfl, rfl, Nat.zero_le _⟩
theorem plain_int {n : Nat} (i : Int) : PlainN n (.int i) := ⟨_, rfl, rfl, Nat.zero_le _⟩
theorem plain_str {n : Nat} {x : Str} (h : strOk x = true) : PlainN n (.str x) := ⟨_, rfl, h, Nat.zero_le _⟩
theorem plain_all {n : Nat} : ∀ {ds : List D}, (∀ d ∈ ds, PlainN n d) → ∃ xs, toPys ds = some xs ∧ nbPs xs = true ∧ PyData.depthAll xs ≤ n
  | [], _ => ⟨[], rfl, rfl, Nat.zero_le _⟩
  | d :: ds, h => by
    obtain ⟨x, e1, e2, e3⟩ := h d List.mem_cons_self
    obtain ⟨xs, f1, f2, f3⟩ := plain_all fun e he => h e (List.mem_cons_of_mem _ he)
    refine ⟨x :: xs, ?_, ?_, Nat.max_le.mpr ⟨e3, f3⟩⟩
    · simp only [toPys]; rw [e1, f1]
    · simp only [nbPs]; rw [e2, f2]; rfl
theorem plain_lst {n : Nat} {ds : List D} (h : ∀ d ∈ ds, PlainN n d) : PlainN (n + 1) (.lst ds) := by
  obtain ⟨xs, e1, e2, e3⟩ := plain_all h
  refine ⟨.list xs, ?_, e2, Nat.succ_le_succ e3⟩
  simp only [toPy]; rw [e1]
theorem plain_tup {n : Nat} {ds : List D} (h : ∀ d ∈ ds, PlainN n d) : PlainN (n + 1) (.tup ds) := by
  obtain ⟨xs, e1, e2, e3⟩ := plain_all h
  refine ⟨.tuple xs, ?_, e2, Nat.succ_le_succ e3⟩
  simp only [toPy]; rw [e1]
theorem dEq_plain {d e : D} (h : Plain d) (h' : Plain e) : ∃ b, dEq d e = some (.bl b) ∧ (b = true ↔ d = e) := by
  obtain ⟨b, e1, e2⟩ := eq_plain h h'
  exact ⟨b, by unfold dEq; rw [e1]; rfl, e2⟩
theorem dNe_plain {d e : D} (h : Plain d) (h' : Plain e) : ∃ b, dNe d e = some (.bl b) ∧ (b = true ↔ d ≠ e) := by
  obtain ⟨b, e1, e2⟩ := eq_plain h h'
  refine ⟨!b, by unfold dNe; rw [e1]; rfl, ?_⟩
  cases b <;> simp_all

/-! ### "".join of signs -/
theorem join_signs : ∀ cs : List Nat, (Str.join ("" : Str) (cs.map fun c => (⟨#[c]⟩ : Str))).cps.toList = cs
  | [] => rfl
  | [c] => rfl
  | c :: d :: cs => by
    have h := join_signs (d :: cs)
    show (((⟨#[c]⟩ : Str) ++ ("" : Str) ++ Str.join ("" : Str) ((d :: cs).map fun c => (⟨#[c]⟩ : Str))).cps).toList = _
    show ((#[c] ++ #[]) ++ (Str.join ("" : Str) ((d :: cs).map fun c => (⟨#[c]⟩ : Str))).cps).toList = _
    rw [Array.toList_append, h]
    rfl
theorem txts_signs : ∀ cs : List Nat, txts (cs.map fun c => D.str ⟨#[c]⟩) = some (cs.map fun c => (⟨#[c]⟩ : Str))
  | [] => rfl
  | c :: cs => by
    show (txts (cs.map fun c => D.str ⟨#[c]⟩)).map _ = _
    rw [txts_signs cs]
    rfl
theorem sum_ones (cs : List Nat) : ((cs.map fun c => (⟨#[c]⟩ : Str)).map (·.length)).sum = cs.length := by
  induction cs with
  | nil => rfl
  | cons c cs ih =>
    rw [List.map_cons, List.map_cons, List.sum_cons, ih]
    show 1 + cs.length = cs.length + 1
    omega
theorem signs_of {P : Nat → Prop} : ∀ {ys : List D}, (∀ y ∈ ys, ∃ c, P c ∧ y = .str ⟨#[c]⟩) → ∃ cs : List Nat, ys = cs.map (fun c => D.str ⟨#[c]⟩) ∧ ∀ c ∈ cs, P c
  | [], _ => ⟨[], rfl, by simp⟩
  | y :: ys, h => by
    obtain ⟨c, hc, rfl⟩ := h y List.mem_cons_self
    obtain ⟨cs, rfl, hcs⟩ := signs_of fun z hz => h z (List.mem_cons_of_mem _ hz)
    refine ⟨c :: cs, rfl, fun d hd => ?_⟩
    rcases List.mem_cons.mp hd with rfl | hd
    · exact hc
    · exact hcs d hd
theorem dJoin_signs {P : Nat → Prop} {ys : List D} (h : ∀ y ∈ ys, ∃ c, P c ∧ y = .str ⟨#[c]⟩) (hl : ys.length ≤ 1000) : ∃ x : Str, dJoin (.str "") (.lst ys) = some (.str x) ∧ x.length = ys.length ∧ ∀ c ∈ x.cps.toList, P c := by
  obtain ⟨cs, rfl, hcs⟩ := signs_of h
  rw [List.length_map] at hl
  refine ⟨Str.join "" (cs.map fun c => (⟨#[c]⟩ : Str)), ?_, ?_, ?_⟩
  · simp only [dJoin, txts_signs]
    rw [if_pos]
    rw [sum_ones, List.length_map]
    show cs.length + cs.length * 0 ≤ 16777216
    omega
  · show (Str.join ("" : Str) (cs.map fun c => (⟨#[c]⟩ : Str))).cps.size = _
    rw [← Array.length_toList, join_signs, List.length_map]
  · rw [join_signs]
    exact hcs
/-- [f for k in range(n)], of draws -/
theorem sat_lcR {S : Type} {fe : Env → M S D} {n : Int} {i : Nat} {ρ : Env} {vs : List Nat} {Q : D → Prop} (h0 : 0 ≤ n) (h1 : n ≤ 1000000) (hb : ∀ k : Int, 0 ≤ k → k < n → Sat (fe ((wipeD ρ vs).set i (some (.int k)))) Q) :
    Sat (bnd (if -(2 ^ 62) ≤ n ∧ n < 2 ^ 62 then ret (rng 0 n) else stk) fun ds => if ds.length ≤ sizeLine then bnd (nox (cmpF (gSet i) yes fe (wipeD ρ vs) ds)) fun ys => ret (.lst ys) else stk : M S D) fun d => ∃ ys, d = .lst ys ∧ ys.length = n.toNat ∧ ∀ y ∈ ys, Q y := by
  have hl : (rng 0 n).length = n.toNat := by unfold rng; rw [List.length_map, List.length_range, Int.sub_zero]
  · rw [if_pos ⟨by omega, by omega⟩, bnd_ret, if_pos (by rw [hl]; exact Nat.le_trans (show n.toNat ≤ 1000000 by omega) (by decide))]
    refine sat_bnd (sat_nox (sat_cmp (Q := Q) fun d hd => ?_)) fun ys hys => sat_ret ⟨ys, rfl, hys.1.trans hl, hys.2⟩
    unfold rng at hd
    obtain ⟨k, hk, rfl⟩ := List.mem_map.mp hd
    rw [List.mem_range] at hk
    exact ⟨_, rfl, hb _ (by omega) (by omega)⟩
end DL

namespace DL
open PySem L2 PySem.Spec PyProof.Rows

section
variable {S : Type} {X : Cx} {F : Fc S} {Z Z' Z1 Z2 : Addr → Prop} {H H' H1 H2 : Hp} {σ σ' : L2.St} {ρ : Env} {own own1 own2 own' oL : List Nat} {s s' : S} {p : Addr} {o : HO} {v : V} {d : D} {m m' m1 m2 m3 : Mo} {W : WX} {Q : VK} {k : Nat} {fr : Bool} {D0 : Ends}
variable {a b c e : Expr} {ta tb tc te : TE} {fa fb fc fe : Env → M S D} {pos pos' : Pos} {es : List Expr} {t : TA} {f : Env → M S (List D)}
variable {st : Stmt} {sts : List Stmt} {ts us : TS} {fs gs : Env → M S (Fl × Env)} {tt : TT} {ft : Env → M S Bool}

/-! ### what is never reached -/
def sStk : Env → M S (Fl × Env) := fun _ => stk
theorem ds_stk : DS X F own own' oL W fr st (fun _ _ _ => False) sStk := ⟨⟨fun _ _ _ _ _ _ h => h.elim⟩, fun _ _ _ _ _ _ _ q => q⟩
theorem dss_stk : DSs X F own own' oL W fr sts (fun _ _ _ => False) sStk := ⟨⟨fun _ _ _ _ _ _ h => h.elim⟩, fun _ _ _ _ _ _ _ q => q⟩
def mStk : Env → M S D := fun _ => stk
theorem de_stk : DE X F own W m e (fun _ _ _ => False) mStk := ⟨⟨fun _ _ _ _ _ _ h => h.elim⟩, fun _ _ _ _ _ _ _ q => q⟩
/-! ### an owned thing is changed -/
theorem Ok.upd {i : Nat} {x : Addr} {d' : D} (k : Ok F own Z H σ ρ s) (hi : i ∈ own) (hd : ρ[i]? = some (some d)) (hx : σ[i]? = some (some (.ref x))) (h : Ow F.cn Z (L2.upd H x o) x d') : Ok F own Z (L2.upd H x o) σ (ρ.set i (some d')) s := by
  obtain ⟨x', q1, q2, q3, q4, q5⟩ := k.ow i d hi hd
  rw [hx] at q1
  cases q1
  have g : Grow Z H Z (L2.upd H x o) := ⟨fun _ z => z, fun b z => upd_ne fun e => q2 (e ▸ z)⟩
  have hl : i < ρ.length := (List.getElem?_eq_some_iff.mp hd).1
  refine ⟨k.toBs.put q2 q3 q4, fun j dj h1 h2 => ?_, fun j dj h1 h2 => ?_, fun j l d1 d2 w h1 h2 h3 h4 h5 h6 => ?_, by rw [List.length_set]; exact k.ln⟩
  · rcases set_get h2 with ⟨rfl, e, _⟩ | ⟨hj, h3⟩
    · exact absurd hi h1
    · obtain ⟨w, r1, r2⟩ := k.fz j dj h1 h3
      exact ⟨w, r1, r2.grow g⟩
  · rcases set_get h2 with ⟨rfl, e, _⟩ | ⟨hj, h3⟩
    · cases e
      exact ⟨x, hx, q2, q3, q4, h⟩
    · obtain ⟨y, r1, r2, r3, r4, r5⟩ := k.ow j dj h1 h3
      refine ⟨y, r1, r2, r3, r4, r5.grow g (upd_ne fun e => ?_)⟩
      subst e
      exact hj (k.sp j i dj d y h1 hi h3 hd r1 hx)
  · have old : ∀ {j : Nat} {dj : D}, (ρ.set i (some d'))[j]? = some (some dj) → ∃ e, ρ[j]? = some (some e) := fun {j dj} hh => by
      rcases set_get hh with ⟨rfl, _, _⟩ | ⟨_, h⟩
      · exact ⟨d, hd⟩
      · exact ⟨_, h⟩
    obtain ⟨e1, g1⟩ := old h3
    obtain ⟨e2, g2⟩ := old h4
    exact k.sp j l e1 e2 w h1 h2 g1 g2 h5 h6
/-- the owned list of a slot -/
theorem Ok.lstO {i : Nat} {ds : List D} (k : Ok F own Z H σ ρ s) (hi : i ∈ own) (hd : ρ[i]? = some (some (.lst ds))) : ∃ x vs, σ[i]? = some (some (.ref x)) ∧ H x = some (.lst vs) ∧ vs.length ≤ sizeLine ∧ FzAll F.cn Z H vs ds := by
  obtain ⟨x, q1, q2, q3, q4, vs, q5, q6, q7⟩ := k.ow i _ hi hd
  exact ⟨x, vs, q1, q5, q6, q7⟩
theorem Ok.lstU {i : Nat} {ds es : List D} {x : Addr} {us : List V} (k : Ok F own Z H σ ρ s) (hi : i ∈ own) (hd : ρ[i]? = some (some (.lst ds))) (hx : σ[i]? = some (some (.ref x))) (hz : us.length ≤ sizeLine) (hu : FzAll F.cn Z H us es) : Ok F own Z (L2.upd H x (.lst us)) σ (ρ.set i (some (.lst es))) s := by
  obtain ⟨x', q1, q2, _⟩ := k.ow i _ hi hd
  rw [hx] at q1
  cases q1
  exact k.upd hi hd hx ⟨us, upd_same, hz, hu.grow ⟨fun _ z => z, fun b z => upd_ne fun e => q2 (e ▸ z)⟩⟩
theorem Ok.growU {i : Nat} {x : Addr} (k : Ok F own Z H σ ρ s) (hi : i ∈ own) (hd : ρ[i]? = some (some d)) (hx : σ[i]? = some (some (.ref x))) : Grow Z H Z (L2.upd H x o) := by
  obtain ⟨x', q1, q2, _⟩ := k.ow i _ hi hd
  rw [hx] at q1
  cases q1
  exact ⟨fun _ z => z, fun b z => upd_ne fun e => q2 (e ▸ z)⟩

/-! ### expressions that change owned things -/
def PostX (F : Fc S) (own : List Nat) (W : WX) (Z : Addr → Prop) (H : Hp) (σ : L2.St) (Q : VK) : Option (Except Exc (D × Env) × S) → Prop
  | some (.ok (d, ρ'), s') => ∀ v H' Z', Grow Z H Z' H' → Ok F own Z' H' σ ρ' s' → Fz F.cn Z' H' v d → Q v H'
  | some (.error x, s') => ∀ cls dd H' Z', Bs F Z' H' s' → ExcAt F.cn Z' H' x cls dd → W cls dd σ H'
  | none => False
def EvX (F : Fc S) (own : List Nat) (W : WX) (t : TE) (f : Env → M S (D × Env)) : Prop :=
  ∀ σ H Z ρ s Q, Ok F own Z H σ ρ s → PostX F own W Z H σ Q (f ρ s) → t σ H Q
structure DX (X : Cx) (F : Fc S) (own : List Nat) (W : WX) (e : Expr) (t : TE) (f : Env → M S (D × Env)) : Prop where
  pe : PE X e t
  ev : EvX F own W t f
theorem PostX.from {r : Option (Except Exc (D × Env) × S)} (g : Grow Z H Z1 H1) (h : PostX F own W Z H σ Q r) : PostX F own W Z1 H1 σ Q r := by
  match r, h with
  | none, h => exact h
  | some (.ok (d, ρ'), s'), h => exact fun v H' Z' e => h v H' Z' (g.trans e)
  | some (.error y, s'), h => exact h
def xOf (fe : Env → M S D) : Env → M S (D × Env) := fun ρ => bnd (fe ρ) fun d => ret (d, ρ)
theorem DE.dx (h : DE X F own W .fz e te fe) : DX X F own W e te (xOf fe) := by
  refine ⟨h.pe, fun σ H Z ρ s Q k q => h.ev σ H Z ρ s Q k ?_⟩
  dsimp only [xOf, bnd] at q
  match e1 : fe ρ s, q with
  | none, q => exact q
  | some (.error y, s'), q => exact q
  | some (.ok d, s'), q => exact fun v H' Z' x k' z => q v H' Z' (k.toBs.grow x) k' z
def slL (ρ : Env) (i : Nat) : Option (List D) := match ρ[i]? with
  | some (some (.lst ds)) => some ds
  | _ => none
theorem slL_some {i : Nat} {ds : List D} (h : slL ρ i = some ds) : ρ[i]? = some (some (.lst ds)) := by
  unfold slL at h
  split at h
  · cases h; assumption
  · cases h
/-- xs.pop(i) -/
def xPop (j : Nat) (fe : Env → M S D) : Env → M S (D × Env) := fun ρ => match slL ρ j with
  | none => stk
  | some ds => bnd (fe ρ) fun x => match asI x with
    | none => stk
    | some n => match ixN ds.length n with
      | none => stk
      | some q => match ds[q]? with
        | none => stk
        | some y => ret (y, ρ.set j (some (.lst (ds.eraseIdx q))))
theorem FzAll.erase {c : Cn} : ∀ {vs : List V} {ds : List D} (n : Nat), FzAll c Z H vs ds → FzAll c Z H (vs.eraseIdx n) (ds.eraseIdx n)
  | [], [], n, h => by simpa using h
  | [], _ :: _, n, h => by have := h.1; simp at this
  | _ :: _, [], n, h => by have := h.1; simp at this
  | v :: vs, d :: ds, 0, h => h.inv.2
  | v :: vs, d :: ds, n + 1, h => .cons h.inv.1 (FzAll.erase n h.inv.2)
theorem ixN_lt {n j : Nat} {i : Int} (h : ixN n i = some j) : j < n ∧ -(n : Int) ≤ i ∧ i < n := (ixN_seq h).2
theorem dx_pop {j : Nat} {y : Str} {py apos cpos : Pos} (h : DE X F own W m e te fe) (hj : j ∈ own := by decide) (hN : X.N[j]? = some y := by rfl) (hv : Vis X.env.scope y := by first | exact Or.inl rfl | exact Or.inr (Or.inl rfl) | exact Or.inr (Or.inr rfl)) (hd : (y == ("__debug__" : Str)) = false := by decide)
    (hcd : (y == ("__classdict__" : Str)) = false := by decide)
    (hbase : attributeBase (.Name y py) "pop" X.env (eval (.Name y py) X.env) = eval (.Name y py) X.env := by rfl)
    (hfew : ((backTo cpos (starEach (e :: []) X.env)).all (fun x => !x.1) && (backToKw cpos (keywordEach [] X.env)).all (fun x => x.1.isSome)
      && decide ((e :: []).length + ([] : List Keyword).length + (if ([] : List Keyword).isEmpty then 0 else 1) < 30)) = true := by rfl)
    (hline : (apos.endLine == cpos.line) = true := by rfl) (hs : starEach (e :: []) X.env = (false, eval e X.env) :: starEach [] X.env := by rfl) (hplain : (backTo cpos (starEach [] X.env)).any (·.1) = false := by rfl) :
    DX X F own W (.Call (.Attribute (.Name y py) "pop" apos) [e] [] cpos) (tBM X.K "list" rPopAt (tVar j) (tCons te tNil)) (xPop j fe) := by
  refine ⟨pe_bm PySem.F.plainAttrs_list PySem.F.slot_list_pop PySem.F.type_list_pop mt_popAt (pe_var hN hv hd hcd) (pa_cons h.pe pa_nil hs) hbase hfew hline hs hplain, fun σ H Z ρ s Q k q => ?_⟩
  dsimp only [xPop] at q
  cases e1 : slL ρ j with
  | none => rw [e1] at q; exact (show False from q).elim
  | some ds =>
    rw [e1] at q
    dsimp only [bnd] at q
    obtain ⟨x, vs, q1, q2, q3, q4⟩ := k.lstO hj (slL_some e1)
    refine ⟨_, q1, .inl ⟨rfl, _, SqL.of q2⟩, ?_⟩
    refine h.ev σ H Z ρ s _ k ?_
    match e2 : fe ρ s, q with
    | none, q => exact q
    | some (.error y, s'), q => exact q
    | some (.ok dx, s1), q =>
      intro v1 H1 Z1 x1 k1 z1
      try dsimp only at q
      cases e3 : asI dx with
      | none => rw [e3] at q; exact (show False from q).elim
      | some n =>
        rw [e3] at q
        obtain rfl := asI_some e3
        try dsimp only at q
        cases e4 : ixN ds.length n with
        | none => rw [e4] at q; exact (show False from q).elim
        | some jj =>
          rw [e4] at q
          try dsimp only at q
          cases e5 : ds[jj]? with
          | none => rw [e5] at q; exact (show False from q).elim
          | some y =>
            rw [e5] at q
            obtain ⟨x', vs', r1, r2, r3, r4⟩ := k1.lstO hj (slL_some e1)
            rw [q1] at r1
            cases r1
            have e6 : ixN vs'.length n = some jj := by rw [r4.1]; exact e4
            obtain ⟨b1, b2, b3⟩ := ixN_lt e6
            have hz : vs'.length ≤ 16777216 := r3
            refine ⟨x, vs', n, jj, vs'[jj], rfl, by rw [z1.bz.int_], r2, by omega, by omega, (ixN_seq e6).1, List.getElem?_eq_getElem b1, ?_⟩
            have z2 : Fz F.cn Z1 H1 vs'[jj] y := r4.2 jj _ _ (List.getElem?_eq_getElem b1) e5
            have g2 := k1.growU (o := .lst (vs'.eraseIdx jj)) hj (slL_some e1) q1
            exact q _ _ Z1 ((k.toBs.grow x1).trans g2) (k1.lstU hj (slL_some e1) q1 (Nat.le_trans (List.length_eraseIdx_le _ _) r3) (r4.erase jj)) (z2.grow g2)
/-- xs.append(e) -/
def sApp (i : Nat) (fx : Env → M S (D × Env)) : Env → M S (Fl × Env) := fun ρ => match slL ρ i with
  | none => stk
  | some _ => bnd (fx ρ) fun x => match slL x.2 i with
    | none => stk
    | some ds => if ds.length < sizeLine then ret (.nx, x.2.set i (some (.lst (ds ++ [x.1])))) else stk
theorem ds_app {i : Nat} {y : Str} {py apos cpos : Pos} {fx : Env → M S (D × Env)} (h : DX X F own W e te fx) (hj : i ∈ own := by decide) (hN : X.N[i]? = some y := by rfl) (hv : Vis X.env.scope y := by first | exact Or.inl rfl | exact Or.inr (Or.inl rfl) | exact Or.inr (Or.inr rfl)) (hd : (y == ("__debug__" : Str)) = false := by decide)
    (hcd : (y == ("__classdict__" : Str)) = false := by decide)
    (hbase : attributeBase (.Name y py) "append" X.env (eval (.Name y py) X.env) = eval (.Name y py) X.env := by rfl)
    (hfew : ((backTo cpos (starEach (e :: []) X.env)).all (fun x => !x.1) && (backToKw cpos (keywordEach [] X.env)).all (fun x => x.1.isSome)
      && decide ((e :: []).length + ([] : List Keyword).length + (if ([] : List Keyword).isEmpty then 0 else 1) < 30)) = true := by rfl)
    (hline : (apos.endLine == cpos.line) = true := by rfl) (hs : starEach (e :: []) X.env = (false, eval e X.env) :: starEach [] X.env := by rfl) (hplain : (backTo cpos (starEach [] X.env)).any (·.1) = false := by rfl)
    (hsw : swapsWith (.Call (.Attribute (.Name y py) "append" apos) [e] [] cpos) none pos.line X.env = pure false := by rfl) :
    DS X F own own oL W fr (.Expr (.Call (.Attribute (.Name y py) "append" apos) [e] [] cpos) pos) (tDrop (tBM X.K "list" rAppend (tVar i) (tCons te tNil))) (sApp i fx) := by
  refine ⟨ps_expr (pe_bm PySem.F.plainAttrs_list PySem.F.slot_list_append PySem.F.type_list_append mt_append (pe_var hN hv hd hcd) (pa_cons h.pe pa_nil hs) hbase hfew hline hs hplain) hsw, fun σ H Z ρ s D0 k q => ?_⟩
  dsimp only [sApp] at q
  cases e1 : slL ρ i with
  | none => rw [e1] at q; exact (show False from q).elim
  | some ds0 =>
    rw [e1] at q
    dsimp only [bnd] at q
    obtain ⟨x, vs, q1, q2, q3, q4⟩ := k.lstO hj (slL_some e1)
    refine ⟨_, q1, .inl ⟨rfl, _, SqL.of q2⟩, ?_⟩
    refine h.ev σ H Z ρ s _ k ?_
    match e2 : fx ρ s, q with
    | none, q => exact q
    | some (.error y, s'), q => exact fun cls dd H' Z' => q cls dd σ H' Z'
    | some (.ok (dx, ρ1), s1), q =>
      intro v1 H1 Z1 g1 k1 z1
      dsimp only at q
      match e3 : slL ρ1 i, q with
      | none, q => exact (show False from q).elim
      | some ds, q =>
        dsimp only at q
        by_cases hl : ds.length < sizeLine
        · rw [if_pos hl] at q
          obtain ⟨x', vs', r1, r2, r3, r4⟩ := k1.lstO hj (slL_some e3)
          rw [q1] at r1
          cases r1
          refine ⟨x, vs', v1, rfl, rfl, r2, by rw [r4.1]; exact hl, ?_⟩
          have g2 := k1.growU (o := .lst (vs' ++ [v1])) hj (slL_some e3) q1
          exact q σ _ Z1 (g1.trans g2) (k1.lstU hj (slL_some e3) q1 (by rw [List.length_append, r4.1]; exact hl) (r4.snoc z1))
        · rw [if_neg hl] at q
          exact (show False from q).elim
/-- x = e, where e changes owned things -/
def sSetX (i : Nat) (fx : Env → M S (D × Env)) : Env → M S (Fl × Env) := fun ρ => bnd (fx ρ) fun x => ret (.nx, x.2.set i (some x.1))
theorem ds_setX {i : Nat} {x : Str} {fx : Env → M S (D × Env)} (nd : X.N.Nodup) (h : DX X F own W e te fx) (hi : X.N[i]? = some x := by rfl) (hx : Loc X.env.scope x := by first | exact Or.inl rfl | exact Or.inr rfl) (hs : swapsWith e (some (.Name x pos')) pos.line X.env = pure false := by rfl) (hf : X.fn x = true ∨ X.env.scope.names.lookup x = some .local := by first | exact .inl rfl | exact .inr rfl) :
    DS X F own (less own i) oL W fr (.Assign [.Name x pos'] e pos) (tAsg te (gName i)) (sSetX i fx) := by
  refine ⟨ps_set nd hi hx h.pe hs hf, fun σ H Z ρ s D0 k q => ?_⟩
  refine h.ev σ H Z ρ s _ k ?_
  dsimp only [sSetX, bnd] at q
  match e2 : fx ρ s, q with
  | none, q => exact q
  | some (.error y, s'), q => exact fun cls dd H' Z' => q cls dd σ H' Z'
  | some (.ok (dx, ρ1), s1), q => exact fun v1 H1 Z1 g1 k1 z1 => q _ H1 Z1 g1 (k1.set z1)
/-- e alone, where e changes owned things -/
def sExpX (fx : Env → M S (D × Env)) : Env → M S (Fl × Env) := fun ρ => bnd (fx ρ) fun x => ret (.nx, x.2)
theorem ds_expX {fx : Env → M S (D × Env)} (h : DX X F own W e te fx) (hs : swapsWith e none pos.line X.env = pure false := by rfl) : DS X F own own oL W fr (.Expr e pos) (tDrop te) (sExpX fx) := by
  refine ⟨ps_expr h.pe hs, fun σ H Z ρ s D0 k q => ?_⟩
  refine h.ev σ H Z ρ s _ k ?_
  dsimp only [sExpX, bnd] at q
  match e2 : fx ρ s, q with
  | none, q => exact q
  | some (.error y, s'), q => exact fun cls dd H' Z' => q cls dd σ H' Z'
  | some (.ok (dx, ρ1), s1), q => exact fun v1 H1 Z1 g1 k1 z1 => q _ H1 Z1 g1 k1

/-! ### xs[i] = e, xs owned -/
def sIxs (i : Nat) (fe fi : Env → M S D) : Env → M S (Fl × Env) := fun ρ => bnd (fe ρ) fun x => match slL ρ i with
  | none => stk
  | some ds => bnd (fi ρ) fun y => match asI y with
    | none => stk
    | some n => match ixN ds.length n with
      | none => stk
      | some q => ret (.nx, ρ.set i (some (.lst (ds.set q x))))
theorem FzAll.set {c : Cn} : ∀ {vs : List V} {ds : List D} (n : Nat), FzAll c Z H vs ds → Fz c Z H v d → FzAll c Z H (vs.set n v) (ds.set n d)
  | [], [], n, h, _ => by simpa using h
  | [], _ :: _, n, h, _ => by have := h.1; simp at this
  | _ :: _, [], n, h, _ => by have := h.1; simp at this
  | v :: vs, d :: ds, 0, h, z => .cons z h.inv.2
  | v :: vs, d :: ds, n + 1, h, z => .cons h.inv.1 (FzAll.set n h.inv.2 z)
theorem ds_ixs {i : Nat} {y : Str} {py spos : Pos} {ix : Expr} {ti : TE} {fi : Env → M S D} (h : DE X F own W .fz e te fe) (hi : DE X F own W m ix ti fi) (hj : i ∈ own := by decide) (hN : X.N[i]? = some y := by rfl) (hv : Vis X.env.scope y := by first | exact Or.inl rfl | exact Or.inr (Or.inl rfl) | exact Or.inr (Or.inr rfl)) (hd : (y == ("__debug__" : Str)) = false := by decide)
    (hcd : (y == ("__classdict__" : Str)) = false := by decide)
    (ha : ∀ v, assign (.Subscript (.Name y py) ix spos) X.env v = (do
      let ov ← holding [v] (eval (.Name y py) X.env)
      let iv ← holding [v, ov] (eval ix X.env)
      standAt spos
      holding [v, ov, iv] (setItem ov iv v)
      release [v, ov, iv] []) := by intro _; rfl)
    (hs : swapsWithSole [.Subscript (.Name y py) ix spos] e pos.line X.env = pure false := by rfl) (hw : swappedStores [.Subscript (.Name y py) ix spos] e X.env = pure none := by rfl)
    (h1 : (assignEach [.Subscript (.Name y py) ix spos] X.env).map (·.2) = [assign (.Subscript (.Name y py) ix spos) X.env] := by rfl) :
    DS X F own own oL W fr (.Assign [.Subscript (.Name y py) ix spos] e pos) (tAsg te (gSub (tVar i) ti rSetL)) (sIxs i fe fi) := by
  refine ⟨ps_asg h.pe (pg_sub (pe_var hN hv hd hcd) hi.pe set_list ha) hs hw h1, fun σ H Z ρ s D0 k q => ?_⟩
  refine h.ev σ H Z ρ s _ k ?_
  dsimp only [sIxs, bnd] at q
  match e2 : fe ρ s, q with
  | none, q => exact q
  | some (.error y, s'), q => exact fun cls dd H' Z' => q cls dd σ H' Z'
  | some (.ok dx, s1), q =>
    intro v1 H1 Z1 x1 k1 z1
    dsimp only at q
    cases e3 : slL ρ i with
    | none => rw [e3] at q; exact (show False from q).elim
    | some ds =>
      rw [e3] at q
      obtain ⟨x, vs, q1, q2, q3, q4⟩ := k1.lstO hj (slL_some e3)
      refine ⟨_, q1, ?_⟩
      refine hi.ev σ H1 Z1 ρ s1 _ k1 ?_
      dsimp only [bnd] at q
      match e4 : fi ρ s1, q with
      | none, q => exact (show False from q).elim
      | some (.error y, s'), q => exact fun cls dd H' Z' => q cls dd σ H' Z'
      | some (.ok dy, s2), q =>
        intro v2 H2 Z2 x2 k2 z2
        try dsimp only at q
        cases e5 : asI dy with
        | none => rw [e5] at q; exact (show False from q).elim
        | some n =>
          rw [e5] at q
          obtain rfl := asI_some e5
          try dsimp only at q
          cases e6 : ixN ds.length n with
          | none => rw [e6] at q; exact (show False from q).elim
          | some jj =>
            rw [e6] at q
            obtain ⟨x', vs', r1, r2, r3, r4⟩ := k2.lstO hj (slL_some e3)
            rw [q1] at r1
            cases r1
            refine ⟨x, vs', n, jj, rfl, z2.bz.int_, r2, by rw [r4.1]; exact e6, ?_⟩
            have g2 := k2.growU (o := .lst (vs'.set jj v1)) hj (slL_some e3) q1
            exact q σ _ Z2 (((k.toBs.grow x1).trans (k1.toBs.grow x2)).trans g2) (k2.lstU hj (slL_some e3) q1 (by rw [List.length_set]; exact r3) (r4.set jj (Fz.grow (k1.toBs.grow x2) z1)))
end
end DL

namespace DL
open PySem L2 PySem.Spec PyProof.Rows

section
variable {S : Type} {X : Cx} {F : Fc S} {Z Z' Z1 Z2 : Addr → Prop} {H H' H1 H2 Hs : Hp} {σ σ' : L2.St} {ρ : Env} {own own1 own2 own' oL : List Nat} {s s' : S} {p : Addr} {o : HO} {v v' : V} {d d' : D} {m m' m1 m2 m3 : Mo} {W : WX} {Q : VK} {k : Nat} {fr : Bool} {D0 : Ends}
variable {a b c e : Expr} {ta tb tc te : TE} {fa fb fc fe : Env → M S D} {pos pos' : Pos} {es : List Expr} {t : TA} {f : Env → M S (List D)} {i j l : Nat}

/-! ### several at once -/
def aft : Mo → List Nat → Nat → List Nat
  | .fr, own, i => i :: less own i
  | _, own, i => less own i
theorem Vz.ext (f : Bs F Z H s) (e : Ext F Z H Z' H') (z : Vz m F own σ ρ Hs Z H v d) : Vz m F own σ ρ Hs Z' H' v d := by
  cases m with
  | fz => exact Fz.grow (f.grow e) z
  | bz => exact Bz.ext f e z
  | fr =>
    obtain ⟨a, h1, h2, h3, h4, h5, h6, h7⟩ := z
    have hs := h5.there
    refine ⟨a, h1, fun q => ?_, h3, h4, h5.grow (f.grow e) ?_, h6, h7⟩
    · rcases e.zn a q with q | q | q
      · exact h2 q
      · exact hs q
      · exact h3 q
    · cases q : H a with
      | none => exact absurd q hs
      | some o => exact e.h a o q h3
theorem Ok.setV (hm : m ≠ .bz) (k : Ok F own Z H σ ρ s) (z : Vz m F own σ ρ Hs Z H v d) : Ok F (aft m own i) Z H (σ.set i (some v)) (ρ.set i (some d)) s := by
  cases m with
  | fz => exact k.set z
  | bz => exact absurd rfl hm
  | fr => exact k.setO z
theorem Vz.after (z : Vz m F own σ ρ Hs Z H v d) (h : m1 = .fr → m = .fr → v' ≠ v) : Vz m F (aft m1 own i) (σ.set i (some v')) (ρ.set i (some d')) Hs Z H v d := by
  cases m with
  | fz => exact z
  | bz => exact z
  | fr =>
    obtain ⟨a, rfl, h2, h3, h4, h5, h6, h7⟩ := z
    refine ⟨a, rfl, h2, h3, h4, h5, h6, fun l d1 q1 q2 q3 => ?_⟩
    by_cases e : l = i
    · subst e
      by_cases hl : l < σ.length
      · rw [set_at hl] at q3
        cases q3
        cases m1 with
        | fz => exact (mem_less.mp q1).2 rfl
        | bz => exact (mem_less.mp q1).2 rfl
        | fr => exact h rfl rfl rfl
      · rw [List.getElem?_eq_none (by rw [List.length_set]; omega)] at q3
        cases q3
    · rw [List.getElem?_set_ne (Ne.symm e)] at q2 q3
      refine h7 l d1 ?_ q2 q3
      cases m1 with
      | fz => exact (mem_less.mp q1).1
      | bz => exact (mem_less.mp q1).1
      | fr =>
        rcases List.mem_cons.mp q1 with q | q
        · exact absurd q e
        · exact (mem_less.mp q).1
/-- what was new is not what is new later -/
theorem Vz.apart (z1 : Vz .fr F own σ ρ Hs Z1 H1 v d) (z2 : Vz .fr F own σ ρ H1 Z2 H2 v' d') : v ≠ v' := by
  obtain ⟨a, rfl, h2, h3, h4, h5, h6, h7⟩ := z2
  intro e
  subst e
  obtain ⟨b, q1, _, _, _, q5, _⟩ := z1
  cases q1
  exact q5.there h6
def sPar (i j : Nat) (fa fb : Env → M S D) : Env → M S (Fl × Env) := fun ρ => bnd (fa ρ) fun x => bnd (fb ρ) fun y => ret (.nx, (ρ.set i (some x)).set j (some y))
theorem ev_par (n1 : m1 ≠ .bz) (n2 : m2 ≠ .bz) (ha : Ev F own W m1 ta fa) (hb : Ev F own W m2 tb fb) : EvS F own (aft m2 (aft m1 own i) j) oL W fr (tPar i j (tCons ta (tCons tb tNil))) (sPar i j fa fb) := by
  intro σ H Z ρ s D0 k q
  refine ha σ H Z ρ s _ k ?_
  dsimp only [sPar, bnd] at q
  match e1 : fa ρ s, q with
  | none, q => exact q
  | some (.error y, s'), q => exact fun cls dd H' Z' => q cls dd σ H' Z'
  | some (.ok d1, s1), q =>
    intro v1 H1 Z1 x1 k1 z1
    refine hb σ H1 Z1 ρ s1 _ k1 ?_
    dsimp only [bnd] at q
    match e2 : fb ρ s1, q with
    | none, q => exact q
    | some (.error y, s'), q => exact fun cls dd H' Z' => q cls dd σ H' Z'
    | some (.ok d2, s2), q =>
      intro v2 H2 Z2 x2 k2 z2
      have z1' := z1.ext k1.toBs x2
      have kA := k2.setV (i := i) n1 z1'
      have z2' : Vz m2 F (aft m1 own i) (σ.set i (some v1)) (ρ.set i (some d1)) H1 Z2 H2 v2 d2 := z2.after fun e e' => by subst e e'; exact z1.apart z2
      exact ⟨v1, v2, rfl, q _ H2 Z2 ((k.toBs.grow x1).trans (k1.toBs.grow x2)) (kA.setV n2 z2')⟩
theorem ds_par {x y : Str} {px py pt : Pos} {kt k2 pt2} (A : Amb X F k) (nd : X.N.Nodup) (h1 : DE X F own W m1 a ta fa) (h2 : DE X F own W m2 b tb fb) (n1 : m1 ≠ .bz := by nofun) (n2 : m2 ≠ .bz := by nofun)
    (hi : X.N[i]? = some x := by rfl) (hj : X.N[j]? = some y := by rfl) (hij : i ≠ j := by decide) (hx : X.env.scope.names.lookup x = some .local := by rfl) (hy : X.env.scope.names.lookup y = some .local := by rfl)
    (he1 : starEach [a, b] X.env = (false, eval a X.env) :: starEach [b] X.env := by rfl) (he2 : starEach [b] X.env = (false, eval b X.env) :: starEach [] X.env := by rfl)
    (hw : swappedStores [.Tuple [.Name x px, .Name y py] kt pt] (.Tuple [a, b] k2 pt2) X.env = pure (some [x, y]) := by rfl)
    (hs : swapsWithSole [.Tuple [.Name x px, .Name y py] kt pt] (.Tuple [a, b] k2 pt2) pos.line X.env = pure false := by rfl) :
    DS X F own (aft m2 (aft m1 own i) j) oL W fr (.Assign [.Tuple [.Name x px, .Name y py] kt pt] (.Tuple [a, b] k2 pt2) pos) (tPar i j (tCons ta (tCons tb tNil))) (sPar i j fa fb) :=
  ⟨ps_par A.calm nd hi hj hij hx hy (pa_cons h1.pe (pa_cons h2.pe pa_nil he2) he1) hw hs, ev_par n1 n2 h1.ev h2.ev⟩
def sPar3 (i j l : Nat) (fa fb fc : Env → M S D) : Env → M S (Fl × Env) := fun ρ => bnd (fa ρ) fun x => bnd (fb ρ) fun y => bnd (fc ρ) fun z => ret (.nx, ((ρ.set i (some x)).set j (some y)).set l (some z))
theorem ev_par3 (n1 : m1 ≠ .bz) (n2 : m2 ≠ .bz) (n3 : m3 ≠ .bz) (ha : Ev F own W m1 ta fa) (hb : Ev F own W m2 tb fb) (hc : Ev F own W m3 tc fc) : EvS F own (aft m3 (aft m2 (aft m1 own i) j) l) oL W fr (tPar3 i j l (tCons ta (tCons tb (tCons tc tNil)))) (sPar3 i j l fa fb fc) := by
  intro σ H Z ρ s D0 k q
  refine ha σ H Z ρ s _ k ?_
  dsimp only [sPar3, bnd] at q
  match e1 : fa ρ s, q with
  | none, q => exact q
  | some (.error y, s'), q => exact fun cls dd H' Z' => q cls dd σ H' Z'
  | some (.ok d1, s1), q =>
    intro v1 H1 Z1 x1 k1 z1
    refine hb σ H1 Z1 ρ s1 _ k1 ?_
    dsimp only [bnd] at q
    match e2 : fb ρ s1, q with
    | none, q => exact q
    | some (.error y, s'), q => exact fun cls dd H' Z' => q cls dd σ H' Z'
    | some (.ok d2, s2), q =>
      intro v2 H2 Z2 x2 k2 z2
      refine hc σ H2 Z2 ρ s2 _ k2 ?_
      dsimp only [bnd] at q
      match e3 : fc ρ s2, q with
      | none, q => exact q
      | some (.error y, s'), q => exact fun cls dd H' Z' => q cls dd σ H' Z'
      | some (.ok d3, s3), q =>
        intro v3 H3 Z3 x3 k3 z3
        have z1' := z1.ext k1.toBs x2
        have z1'' := z1'.ext k2.toBs x3
        have z2' := z2.ext k2.toBs x3
        have kA := k3.setV (i := i) n1 z1''
        have y2 : Vz m2 F (aft m1 own i) (σ.set i (some v1)) (ρ.set i (some d1)) H1 Z3 H3 v2 d2 := z2'.after fun e e' => by subst e e'; exact z1.apart z2
        have kB := kA.setV (i := j) n2 y2
        have y3 : Vz m3 F (aft m1 own i) (σ.set i (some v1)) (ρ.set i (some d1)) H2 Z3 H3 v3 d3 := z3.after fun e e' => by subst e e'; exact z1'.apart z3
        have y3' : Vz m3 F (aft m2 (aft m1 own i) j) ((σ.set i (some v1)).set j (some v2)) ((ρ.set i (some d1)).set j (some d2)) H2 Z3 H3 v3 d3 := y3.after fun e e' => by subst e e'; exact z2.apart z3
        exact ⟨v1, v2, v3, rfl, q _ H3 Z3 (((k.toBs.grow x1).trans (k1.toBs.grow x2)).trans (k2.toBs.grow x3)) (kB.setV n3 y3')⟩
theorem ds_par3 {x y z : Str} {px py pz pt : Pos} {kt k2 pt2} (A : Amb X F k) (nd : X.N.Nodup) (h1 : DE X F own W m1 a ta fa) (h2 : DE X F own W m2 b tb fb) (h3 : DE X F own W m3 c tc fc) (n1 : m1 ≠ .bz := by nofun) (n2 : m2 ≠ .bz := by nofun) (n3 : m3 ≠ .bz := by nofun)
    (hi : X.N[i]? = some x := by rfl) (hj : X.N[j]? = some y := by rfl) (hl : X.N[l]? = some z := by rfl) (hij : i ≠ j := by decide) (hil : i ≠ l := by decide) (hjl : j ≠ l := by decide) (hx : X.env.scope.names.lookup x = some .local := by rfl) (hy : X.env.scope.names.lookup y = some .local := by rfl) (hz : X.env.scope.names.lookup z = some .local := by rfl)
    (he1 : starEach [a, b, c] X.env = (false, eval a X.env) :: starEach [b, c] X.env := by rfl) (he2 : starEach [b, c] X.env = (false, eval b X.env) :: starEach [c] X.env := by rfl) (he3 : starEach [c] X.env = (false, eval c X.env) :: starEach [] X.env := by rfl)
    (hw : swappedStores [.Tuple [.Name x px, .Name y py, .Name z pz] kt pt] (.Tuple [a, b, c] k2 pt2) X.env = pure (some [x, y, z]) := by rfl)
    (hs : swapsWithSole [.Tuple [.Name x px, .Name y py, .Name z pz] kt pt] (.Tuple [a, b, c] k2 pt2) pos.line X.env = pure false := by rfl) :
    DS X F own (aft m3 (aft m2 (aft m1 own i) j) l) oL W fr (.Assign [.Tuple [.Name x px, .Name y py, .Name z pz] kt pt] (.Tuple [a, b, c] k2 pt2) pos) (tPar3 i j l (tCons ta (tCons tb (tCons tc tNil)))) (sPar3 i j l fa fb fc) :=
  ⟨ps_par3 A.calm nd hi hj hl hij hil hjl hx hy hz (pa_cons h1.pe (pa_cons h2.pe (pa_cons h3.pe pa_nil he3) he2) he1) hw hs, ev_par3 n1 n2 n3 h1.ev h2.ev h3.ev⟩
end
end DL

namespace DL
open PySem L2 PySem.Spec PyProof.Rows RZ

/-! ### the order of strings -/
theorem ltCps_irr : ∀ a : List Nat, ltCps a a = false
  | [] => rfl
  | x :: a => by
    show (decide (x < x) || (x == x && ltCps a a)) = false
    rw [ltCps_irr a]
    simp
theorem ltCps_eq : ∀ {a b : List Nat}, ltCps a b = false → ltCps b a = false → a = b
  | [], [], _, _ => rfl
  | [], _ :: _, h, _ => by cases (show true = false from h)
  | _ :: _, [], _, h => by cases (show true = false from h)
  | x :: a, y :: b, h1, h2 => by
    have h1 : (decide (x < y) || (x == y && ltCps a b)) = false := h1
    have h2 : (decide (y < x) || (y == x && ltCps b a)) = false := h2
    rw [Bool.or_eq_false_iff, decide_eq_false_iff_not] at h1 h2
    have e : x = y := by omega
    subst e
    rw [beq_self_eq_true, Bool.true_and] at h1 h2
    rw [ltCps_eq h1.2 h2.2]
theorem ltCps_trans : ∀ {a b c : List Nat}, ltCps b a = false → ltCps c b = false → ltCps c a = false
  | [], [], [], _, _ => rfl
  | [], [], _ :: _, _, _ => rfl
  | [], _ :: _, [], _, h => by cases (show true = false from h)
  | [], _ :: _, _ :: _, _, _ => rfl
  | _ :: _, [], _, h, _ => by cases (show true = false from h)
  | _ :: _, _ :: _, [], _, h => by cases (show true = false from h)
  | x :: a, y :: b, z :: c, h1, h2 => by
    have h1 : (decide (y < x) || (y == x && ltCps b a)) = false := h1
    have h2 : (decide (z < y) || (z == y && ltCps c b)) = false := h2
    show (decide (z < x) || (z == x && ltCps c a)) = false
    rw [Bool.or_eq_false_iff, decide_eq_false_iff_not] at h1 h2 ⊢
    refine ⟨by omega, ?_⟩
    by_cases e : z = x
    · subst e
      have e2 : z = y := by omega
      subst e2
      rw [beq_self_eq_true, Bool.true_and] at h1 h2 ⊢
      exact ltCps_trans h1.2 h2.2
    · rw [show (z == x) = false from by simpa using e]
      rfl
theorem ltCps_tot : ∀ a b : List Nat, ltCps a b = true → ltCps b a = false
  | [], [], h => by cases h
  | [], _ :: _, _ => rfl
  | _ :: _, [], h => by cases (show false = true from h)
  | x :: a, y :: b, h => by
    have h : (decide (x < y) || (x == y && ltCps a b)) = true := h
    show (decide (y < x) || (y == x && ltCps b a)) = false
    rw [Bool.or_eq_true, decide_eq_true_eq, Bool.and_eq_true, beq_iff_eq] at h
    rw [Bool.or_eq_false_iff, decide_eq_false_iff_not]
    rcases h with h | ⟨e, h⟩
    · exact ⟨by omega, by rw [show (y == x) = false from by simp; omega]; rfl⟩
    · exact ⟨by omega, by rw [ltCps_tot a b h, Bool.and_false]⟩
def leS (a b : Str) : Bool := !ltCps b.cps.toList a.cps.toList
theorem leS_trans (a b c : Str) (h1 : leS a b = true) (h2 : leS b c = true) : leS a c = true := by
  unfold leS at *
  rw [Bool.not_eq_true'] at *
  exact ltCps_trans h1 h2
theorem leS_total (a b : Str) : (leS a b || leS b a) = true := by
  unfold leS
  cases h : ltCps b.cps.toList a.cps.toList with
  | false => rfl
  | true => rw [ltCps_tot _ _ h]; rfl
theorem leS_anti {a b : Str} (h1 : leS a b = true) (h2 : leS b a = true) : a = b := by
  unfold leS at *
  rw [Bool.not_eq_true'] at *
  have := ltCps_eq h2 h1
  cases a; cases b
  simp only at this
  congr 1
  exact Array.toList_inj.mp this
def sortS (xs : List Str) : List Str := xs.mergeSort leS
theorem sortS_perm (xs : List Str) : (sortS xs).Perm xs := List.mergeSort_perm xs leS
theorem sortS_sorted (xs : List Str) : (sortS xs).Pairwise (fun a b => leS a b = true) := List.pairwise_mergeSort leS_trans leS_total xs
theorem rising_pairwise : ∀ (p : Str) (l : List Str), risingS p l = true → (p :: l).Pairwise (fun a b => leS a b = true)
  | p, [], _ => by simp
  | p, x :: r, h => by
    have h : (!ltCps x.cps.toList p.cps.toList && risingS x r) = true := h
    rw [Bool.and_eq_true] at h
    have ih := rising_pairwise x r h.2
    refine List.pairwise_cons.mpr ⟨fun y hy => ?_, ih⟩
    rcases List.mem_cons.mp hy with rfl | hy
    · exact h.1
    · exact leS_trans p x y h.1 ((List.pairwise_cons.mp ih).1 y hy)
theorem sortedS_pairwise : ∀ {l : List Str}, sortedS l = true → l.Pairwise (fun a b => leS a b = true)
  | [], _ => List.Pairwise.nil
  | x :: r, h => rising_pairwise x r h
theorem sortS_eq {xs ys : List Str} (hp : ys.Perm xs) (hs : ys.Pairwise (fun a b => leS a b = true)) : ys = sortS xs :=
  List.Perm.eq_of_pairwise (le := fun a b => leS a b = true) (fun a b _ _ h1 h2 => leS_anti h1 h2) hs (sortS_sorted xs) (hp.trans (sortS_perm xs).symm)
def sortI (xs : List Int) : List Int := xs.mergeSort fun a b => decide (a ≤ b)
theorem sortI_perm (xs : List Int) : (sortI xs).Perm xs := List.mergeSort_perm xs _
theorem sortI_sorted (xs : List Int) : (sortI xs).Pairwise (· ≤ ·) := by
  have := List.pairwise_mergeSort (le := fun a b : Int => decide (a ≤ b)) (fun a b c h1 h2 => by simp at *; omega) (fun a b => by simp; omega) xs
  exact this.imp fun h => by simpa using h
theorem sortI_eq {xs ys : List Int} (hp : ys.Perm xs) (hs : ys.Pairwise (· ≤ ·)) : ys = sortI xs :=
  List.Perm.eq_of_pairwise (le := (· ≤ ·)) (fun a b _ _ h1 h2 => by omega) hs (sortI_sorted xs) (hp.trans (sortI_perm xs).symm)

/-! ### sorted -/
def asInts : List D → Option (List Int)
  | [] => some []
  | .int i :: r => (asInts r).map (i :: ·)
  | _ => none
def strK : List (Key × D) → Option (List Str)
  | [] => some []
  | (.inr k, _) :: r => (strK r).map (k :: ·)
  | _ => none
def dSorted : D → Option D
  | .lst ds => match asInts ds with
    | some ns => some (.lst ((sortI ns).map .int))
    | none => match txts ds with
      | some xs => if xs.length < 64 then some (.lst ((sortS xs).map .str)) else none
      | none => none
  | .dic kvs => match strK kvs with
    | some ks => if ks.length < 64 then some (.lst ((sortS ks).map .str)) else none
    | none => none
  | _ => none
section
variable {S : Type} {X : Cx} {F : Fc S} {Z Z' Z1 Z2 : Addr → Prop} {H H' H1 H2 Hs : Hp} {σ σ' : L2.St} {ρ : Env} {own own1 own2 own' oL : List Nat} {s s' : S} {p : Addr} {o : HO} {v v' : V} {d d' : D} {m m' m1 m2 m3 : Mo} {W : WX} {Q : VK} {k : Nat} {fr : Bool} {D0 : Ends}
variable {a b c e : Expr} {ta tb tc te : TE} {fa fb fc fe : Env → M S D} {pos pos' ppos : Pos} {es : List Expr} {t : TA} {f : Env → M S (List D)} {i j l : Nat}
theorem ints_vals {c : Cn} : ∀ (ds : List D) (vs : List V) (ns : List Int), FzAll c Z H vs ds → asInts ds = some ns → vs = ns.map V.int ∧ ds = ns.map D.int
  | [], vs, ns, h, e => by
    simp only [asInts] at e
    cases e
    exact ⟨List.length_eq_zero_iff.mp h.1, rfl⟩
  | d :: ds, [], ns, h, e => by have := h.1; simp at this
  | d :: ds, v :: vs, ns, h, e => by
    cases d <;> simp only [asInts] at e <;> try cases e
    obtain ⟨ms, e1, rfl⟩ := Option.map_eq_some_iff.mp e
    obtain ⟨h1, h2⟩ := h.inv
    obtain ⟨q1, q2⟩ := ints_vals ds vs ms h2 e1
    cases h1
    rw [q1, q2]
    exact ⟨rfl, rfl⟩
theorem fz_ints {c : Cn} (ns : List Int) : FzAll c Z H (ns.map V.int) (ns.map D.int) := ⟨by simp, fun i v d a b => by
  rw [List.getElem?_map] at a b
  obtain ⟨n, hn, rfl⟩ := Option.map_eq_some_iff.mp a
  rw [hn] at b
  cases b
  exact .int n⟩
theorem fz_strs {c : Cn} (ns : List Str) : FzAll c Z H (ns.map V.str) (ns.map D.str) := ⟨by simp, fun i v d a b => by
  rw [List.getElem?_map] at a b
  obtain ⟨n, hn, rfl⟩ := Option.map_eq_some_iff.mp a
  rw [hn] at b
  cases b
  exact .str n⟩
theorem strK_keys : ∀ {des : List (Key × D)} {ks : List Str}, strK des = some ks → des.map (·.1) = ks.map Sum.inr
  | [], ks, h => by simp only [strK] at h; cases h; rfl
  | (.inl _, _) :: r, ks, h => by simp only [strK] at h; cases h
  | (.inr k, _) :: r, ks, h => by
    simp only [strK] at h
    obtain ⟨ms, e1, rfl⟩ := Option.map_eq_some_iff.mp h
    rw [List.map_cons, strK_keys e1]
    rfl
abbrev rSrt (K : PySem.W.Frag) : List V → Hp → VK → Prop := fun xs H Q => rSortedI K xs H Q ∨ rSortedS K xs H Q ∨ ∃ (a : Addr) (kvs : List (Key × V)) (ks : List Str), xs = [.ref a] ∧ Rd H a (.dK kvs) ∧ kvs.map (·.1) = ks.map Sum.inr ∧ ks.length < 64 ∧
    ∀ ys p, ys.Perm ks → sortedS ys = true → H p = none → Q (.ref p) (upd H p (.lst (ys.map V.str)))
theorem d_sorted : Op1 F own W .fr (fun x H Q => rSrt F.K [x] H Q) dSorted := by
  intro v x d Z H σ ρ s Q e k z q
  cases x <;> simp only [dSorted] at e <;> try cases e
  · obtain ⟨a, vs, rfl, h1, h2, h3⟩ := z.lst_
    split at e
    · rename_i ns en
      cases e
      obtain ⟨rfl, _⟩ := ints_vals _ _ _ h3 en
      refine .inl ⟨a, ns, rfl, SqL.of h1, fun ns' p hp hs n => ?_⟩
      rw [sortI_eq hp hs]
      exact q.newL k (fz_ints _) (by rw [List.length_map, (sortI_perm ns).length_eq]; simpa using h2) p n
    · split at e
      · rename_i xs en
        split at e
        · rename_i hl
          cases e
          have := txts_vals _ _ _ h3 en
          subst this
          refine .inr (.inl ⟨a, xs, rfl, SqL.of h1, hl, fun ys p hp hs n => ?_⟩)
          rw [sortS_eq hp (sortedS_pairwise hs)]
          exact q.newL k (fz_strs _) (by rw [List.length_map, (sortS_perm xs).length_eq]; simpa using h2) p n
        · cases e
      · cases e
  · split at e
    · rename_i ks en
      split at e
      · rename_i hl
        cases e
        obtain ⟨a, kvs, rfl, h1, h2, h3, h4⟩ := z.dic_
        refine .inr (.inr ⟨a, kvs, ks, rfl, .inl h1, by rw [h3]; exact strK_keys en, hl, fun ys p hp hs n => ?_⟩)
        rw [sortS_eq hp (sortedS_pairwise hs)]
        exact q.newL k (fz_strs _) (by rw [List.length_map, (sortS_perm ks).length_eq]; exact Nat.le_trans (Nat.le_of_lt hl) (by decide)) p n
      · cases e
    · cases e
theorem de_sorted (A : Amb X F k) (hg : Gl X "sorted") (hm : X.mg "sorted" = none) (ha : DE X F own W m1 e te fe) (hs : starEach [e] X.env = [(false, eval e X.env)] := by rfl) : DE X F own W .fr (.Call (.Name "sorted" ppos) [e] [] pos) (tCB (rSrt X.K) (tCons te tNil)) (o1 dSorted fe) :=
  de_b1 (cr_sortedI.or (cr_sortedS.or (call_sortedD A.calm))) (A.K ▸ d_sorted) hg hm (by decide +kernel) ha (hs := hs)

/-! ### zip -/
def iZip (fa fb : Env → M S D) : Env → M S (List D) := fun ρ => bnd (fa ρ) fun x => bnd (fb ρ) fun y => match x, y with
  | .lst xs, .lst ys => ret ((xs.zip ys).map fun z => .tup [z.1, z.2])
  | .tup xs, .tup ys => ret ((xs.zip ys).map fun z => .tup [z.1, z.2])
  | _, _ => stk
theorem zip_get {α β : Type} {xs : List α} {ys : List β} {i : Nat} {z : α × β} (h : (xs.zip ys)[i]? = some z) : xs[i]? = some z.1 ∧ ys[i]? = some z.2 := by
  rw [List.getElem?_zip_eq_some] at h
  exact h
theorem wk_zipL {q : Addr} {vs us : List V} {ds es : List D} (z1 : Z p) (h1 : H p = some (.lst vs)) (f1 : FzAll F.cn Z H vs ds) (z2 : Z q) (h2 : H q = some (.lst us)) (f2 : FzAll F.cn Z H us es) : Wk F Z H (Itz X.K p q) ((ds.zip es).map fun z => .tup [z.1, z.2]) where
  go := fun i d Z1 H1 hd _ g1 hi => by
    have a1 : H1 p = some (.lst vs) := (g1.h p z1).trans h1
    have a2 : H1 q = some (.lst us) := (g1.h q z2).trans h2
    rw [List.getElem?_map] at hi
    obtain ⟨z, hz, rfl⟩ := Option.map_eq_some_iff.mp hi
    obtain ⟨b1, b2⟩ := zip_get hz
    have l1 : i < vs.length := by rw [f1.1]; exact (List.getElem?_eq_some_iff.mp b1).1
    have l2 : i < us.length := by rw [f2.1]; exact (List.getElem?_eq_some_iff.mp b2).1
    have c1 : vs[i]? = some vs[i] := List.getElem?_eq_getElem l1
    have c2 : us[i]? = some us[i] := List.getElem?_eq_getElem l2
    refine ⟨⟨vs, us, vs[i], us[i], SqL.of a1, SqL.of a2, c1, c2⟩, fun x H' y => .inr ?_⟩
    obtain ⟨T, x1, y1, rfl, hT, rfl, r1, r2⟩ := y
    have r1 := r1 vs (SqL.of a1)
    have r2 := r2 us (SqL.of a2)
    rw [c1] at r1
    rw [c2] at r2
    cases r1
    cases r2
    exact ⟨T, [vs[i], us[i]], [z.1, z.2], rfl, hT, rfl, rfl, (by show 2 ≤ sizeLine; decide), .cons ((f1.2 i _ _ c1 b1).grow g1) (.cons ((f2.2 i _ _ c2 b2).grow g1) .nil)⟩
  stop := fun i Z1 H1 _ g1 hi => ⟨vs, us, SqL.of ((g1.h p z1).trans h1), SqL.of ((g1.h q z2).trans h2), by
    rw [List.length_map, List.length_zip] at hi
    rw [f1.1, f2.1]
    omega⟩
theorem wk_zipT {q : Addr} {vs us : List V} {ds es : List D} (hK : X.K = F.K) (h1 : TupAt F.K Z H p vs) (f1 : FzAll F.cn Z H vs ds) (h2 : TupAt F.K Z H q us) (f2 : FzAll F.cn Z H us es) : Wk F Z H (ItzT X.K p q) ((ds.zip es).map fun z => .tup [z.1, z.2]) where
  go := fun i d Z1 H1 hd _ g1 hi => by
    have a1 : SqT X.K H1 p vs := by rw [hK]; exact (h1.grow g1).sq
    have a2 : SqT X.K H1 q us := by rw [hK]; exact (h2.grow g1).sq
    rw [List.getElem?_map] at hi
    obtain ⟨z, hz, rfl⟩ := Option.map_eq_some_iff.mp hi
    obtain ⟨b1, b2⟩ := zip_get hz
    have l1 : i < vs.length := by rw [f1.1]; exact (List.getElem?_eq_some_iff.mp b1).1
    have l2 : i < us.length := by rw [f2.1]; exact (List.getElem?_eq_some_iff.mp b2).1
    have c1 : vs[i]? = some vs[i] := List.getElem?_eq_getElem l1
    have c2 : us[i]? = some us[i] := List.getElem?_eq_getElem l2
    refine ⟨⟨vs, us, vs[i], us[i], a1, a2, c1, c2⟩, fun x H' y => .inr ?_⟩
    obtain ⟨T, x1, y1, rfl, hT, rfl, r1, r2⟩ := y
    have r1 := r1 vs a1
    have r2 := r2 us a2
    rw [c1] at r1
    rw [c2] at r2
    cases r1
    cases r2
    exact ⟨T, [vs[i], us[i]], [z.1, z.2], rfl, hT, rfl, rfl, (by show 2 ≤ sizeLine; decide), .cons ((f1.2 i _ _ c1 b1).grow g1) (.cons ((f2.2 i _ _ c2 b2).grow g1) .nil)⟩
  stop := fun i Z1 H1 _ g1 hi => ⟨vs, us, by rw [hK]; exact (h1.grow g1).sq, by rw [hK]; exact (h2.grow g1).sq, by
    rw [List.length_map, List.length_zip] at hi
    rw [f1.1, f2.1]
    omega⟩
theorem di_zip {elts : List Expr} {kk : Nat} {tpos : Pos} (A : Amb X F k) (hg : Gl X "zip") (hm : X.mg "zip" = none) (x : DE X F own W .fz a ta fa) (y : DE X F own W .fz b tb fb)
    (hs : starEach [a, b] X.env = (false, eval a X.env) :: starEach [b] X.env := by rfl) (hs2 : starEach [b] X.env = (false, eval b X.env) :: starEach [] X.env := by rfl) (hpl : (backTo pos (starEach [b] X.env)).any (·.1) = false := by rfl) :
    DI X F own W (.Tuple elts kk tpos) (.Call (.Name "zip" ppos) [a, b] [] pos) (iZipA X.K (tCons ta (tCons tb tNil))) (iZip fa fb) := by
  refine ⟨pi_zipA hg hm (pa_cons x.pe (pa_cons y.pe pa_nil hs2) hs) hs hpl, fun σ H Z ρ s R k q => ?_⟩
  refine x.ev σ H Z ρ s _ k ?_
  dsimp only [iZip, bnd] at q
  match e1 : fa ρ s, q with
  | none, q => exact q
  | some (.error y, s'), q => exact q
  | some (.ok d1, s1), q =>
    intro v1 H1 Z1 x1 k1 z1
    refine y.ev σ H1 Z1 ρ s1 _ k1 ?_
    dsimp only [bnd] at q
    match e2 : fb ρ s1, q with
    | none, q => exact q
    | some (.error y, s'), q => exact q
    | some (.ok d2, s2), q =>
      intro v2 H2 Z2 x2 k2 z2
      have z1' : Fz F.cn Z2 H2 v1 d1 := Fz.grow (k1.toBs.grow x2) z1
      have z2 : Fz F.cn Z2 H2 v2 d2 := z2
      dsimp only at q
      cases d1 <;> cases d2 <;> try exact (show False from q).elim
      · cases z1' with
        | lst a1 a2 a3 a4 a5 =>
          cases z2 with
          | lst b1 b2 b3 b4 b5 => exact ⟨_, _, _, _, rfl, .inl ⟨SqL.of a2, SqL.of b2, q _ H2 Z2 (x1.trans x2) k2 (wk_zipL a1 a2 ⟨a3, a5⟩ b1 b2 ⟨b3, b5⟩)⟩⟩
      · obtain ⟨p1, vs, rfl, a1, a2, a3⟩ := Bz.tup_ (adr := F.md.adr) (.inl z1')
        obtain ⟨p2, us, rfl, b1, b2, b3⟩ := Bz.tup_ (adr := F.md.adr) (.inl z2)
        exact ⟨_, _, vs, us, rfl, .inr ⟨by rw [A.K]; exact a1.sq, by rw [A.K]; exact b1.sq, q _ H2 Z2 (x1.trans x2) k2 (wk_zipT A.K a1 a3 b1 b3)⟩⟩
/-! ### enumerate, of lists -/
def iEnu (fe : Env → M S D) : Env → M S (List D) := fun ρ => bnd (fe ρ) fun x => match x with
  | .lst ds => ret (ds.mapIdx fun i d => .tup [.int (i : Nat), d])
  | _ => stk
theorem mapIdx_get {ds : List D} {i : Nat} {d : D} (h : (ds.mapIdx fun i d => D.tup [.int (i : Nat), d])[i]? = some d) : ∃ e, ds[i]? = some e ∧ d = .tup [.int (i : Nat), e] := by
  rw [List.getElem?_mapIdx] at h
  obtain ⟨e, h1, h2⟩ := Option.map_eq_some_iff.mp h
  exact ⟨e, h1, h2.symm⟩
theorem wk_enuL {vs : List V} {ds : List D} (z : Z p) (h : H p = some (.lst vs)) (hf : FzAll F.cn Z H vs ds) : Wk F Z H (Ite X.K p) (ds.mapIdx fun i d => .tup [.int (i : Nat), d]) where
  go := fun i d Z1 H1 hd _ g1 hi => by
    have h1 : H1 p = some (.lst vs) := (g1.h p z).trans h
    obtain ⟨e, b1, rfl⟩ := mapIdx_get hi
    have hl : i < vs.length := by rw [hf.1]; exact (List.getElem?_eq_some_iff.mp b1).1
    have hv : vs[i]? = some vs[i] := List.getElem?_eq_getElem hl
    refine ⟨⟨vs, vs[i], SqL.of h1, hv⟩, fun x H' y => .inr ?_⟩
    obtain ⟨T, x1, rfl, hT, rfl, r1⟩ := y
    have r1 := r1 vs (SqL.of h1)
    rw [hv] at r1
    cases r1
    exact ⟨T, _, _, rfl, hT, rfl, rfl, (by show 2 ≤ sizeLine; decide), .cons (.int _) (.cons ((hf.2 i _ _ hv b1).grow g1) .nil)⟩
  stop := fun i Z1 H1 _ g1 hi => ⟨vs, SqL.of ((g1.h p z).trans h), by rw [List.length_mapIdx] at hi; rw [hf.1]; exact hi⟩
end
end DL

namespace DL
open PySem L2 PySem.Spec PyProof.Rows RZ

/-! ### enumerate, of tuples -/
set_option maxHeartbeats 1000000 in
theorem enu_new {v : Value} {o : Obj} {G : Heap → Prop} (B : Begins v o G) : Meets (Builtin.«enumerate.__new__» ⟨[.type "enumerate", v], []⟩) (fun _ R s => G s.heap ∧ R (.ok (.ret (.ref (s.heap.push o).objs.size)))
    { s with heap := (s.heap.push o).push { cls := .type "enumerate", data := .fields #[.none, .bool false, .ref s.heap.objs.size, rawInt 0, .none, .none] } }) := by
  refine .of_wp fun prog w A R s hh => ?_
  obtain ⟨hp, gs, ds, tk, os⟩ := s
  obtain ⟨h1, hR⟩ := hh
  have hsub := sub_enumerate
  have it : ∀ {A' : Around} {E : Value → Shared → Prop} {Q : Value → Shared → Prop}, Q (.ref hp.objs.size) ⟨hp.push o, gs, ds, tk, os⟩ → wpAny (model prog w) A' (pyIter v) Q E ⟨hp, gs, ds, tk, os⟩ := fun q => B.iter prog w _ _ ⟨hp, gs, ds, tk, os⟩ _ h1 q
  wp_walk using it
  refine wpAny_stack_any fun st => wpAny_pure ?_
  split
  · rename_i c _ _ _ _ _
    cases (c == Value.type "enumerate") <;> (wp_walk using it) <;> exact ⟨_, rfl, hR⟩
  · (wp_walk using it) <;> exact ⟨_, rfl, hR⟩
theorem enu_call {prog : Program} {w : World} {A : Around} {E : Value → Shared → Prop} {s : Shared} {v : Value} {o : Obj} {G : Heap → Prop} {Q : Value → Shared → Prop} (B : Begins v o G) (h1 : G s.heap)
    (hq : ∀ h', IsEnum h' (s.heap.objs.size + 1) s.heap.objs.size 0 .none → h'.get? s.heap.objs.size = some o → h'.objs.size = s.heap.objs.size + 2 → (∀ b u, s.heap.get? b = some u → h'.get? b = some u) → Q (.ref (s.heap.objs.size + 1)) { s with heap := h' }) :
    wpAny (model prog w) A (call (.type "enumerate") [v]) Q E s := by
  have hz : (s.heap.push o).objs.size = s.heap.objs.size + 1 := Heap.size_push ..
  refine callType_new F.called_enumerate (by decide) (F.typeCall_enumerate_1 _) (F.newCall_enumerate_1 _) (fun ob => F.args_object_init_2 ob _) F.entry_enumerate_new (enu_new B) ⟨h1, ?_⟩
  have he := Heap.get?_push_size (s.heap.push o) (o := { cls := .type "enumerate", data := .fields #[.none, .bool false, .ref s.heap.objs.size, rawInt 0, .none, .none] }) rfl
  rw [hz] at he
  show _ ∧ _
  rw [hz]
  exact ⟨⟨_, he, rfl⟩, hq _ he (Heap.get?_push_of_some _ (Heap.get?_push_size _ B.free)) (by rw [Heap.size_push, hz]) fun b u x => Heap.get?_push_of_some _ (Heap.get?_push_of_some _ x)⟩
/-- the tuple at a as it stands at each turn, each item in a new pair -/
def IteT (K : PySem.W.Frag) (a : Addr) : It :=
  ⟨fun i H => ∃ (xs : List V) (x : V), SqT K H a xs ∧ xs[i]? = some x, fun i H v H' => ∃ T x, v = .ref T ∧ H T = none ∧ H' = upd H T (.tup [.int (i : Nat), x]) ∧ ∀ xs, SqT K H a xs → xs[i]? = some x, fun i H => ∃ xs : List V, SqT K H a xs ∧ xs.length ≤ i⟩
theorem turn_enuT {P : Program} {w : World} {K : PySem.W.Frag} {elts : List Expr} {kk : Nat} {tpos : Pos} (a e it : Addr) :
    Turn P w K (.Tuple elts kk tpos) (IteT K a) [e, it] e (fun i h => (∃ old, IsEnum h e it (i : Nat) old) ∧ h.IsTupleIter it a i ∧ e ≠ it ∧ a ≠ it ∧ e ≠ a) where
  mem := List.mem_cons_self
  obj := fun i h st b hb => by
    obtain ⟨⟨old, he⟩, ⟨o, ho, _, hd⟩, _⟩ := st
    rcases List.mem_cons.mp hb with q | q
    · rw [q]; exact ⟨_, he, fun v h => by cases h⟩
    · rw [List.mem_singleton.mp q]; exact ⟨o, ho, fun v h => by rw [hd] at h; cases h⟩
  keep := fun i h h' st k => ⟨st.1.imp fun old he => k e (by simp) _ he, st.2.1.at fun o q => k it (by simp) o q, st.2.2⟩
  item := by
    rintro X rfl rfl rfl hc i pins s σ H E I hf ⟨⟨old, he⟩, hit, n1, n2, n3⟩ ⟨xs, x, hq, hx⟩
    obtain ⟨its, rv, tp, hz⟩ := I.tuple hq
    obtain ⟨u, hu, ru⟩ := rv.get hx
    have b1 : e < s.heap.objs.size := Heap.lt_size he
    have b2 : it < s.heap.objs.size := hit.elim fun _ q => Heap.lt_size q.1
    have D := Draws.tuple (prog := X.prog) (w := X.w) (A := X.A.in1) (I.ok.hd hc) it a n2 its.toArray
    have hlt : i < its.toArray.size := by rw [List.size_toArray]; exact (List.getElem?_eq_some_iff.mp hu).1
    refine wpAny_pyNext_enum_itemD D he ⟨hit, tp⟩ hlt n1 (by simp [n1, n3]) fun y h' tk hy ho hit' hT hsz hk => ?_
    obtain rfl : y = u := by
      have hy : its.toArray[i]? = some y := hy
      rw [List.getElem?_toArray, hu] at hy
      exact (Option.some.inj hy).symm
    refine ⟨_, rfl, wpAny_letOwnedTupleGo_enum (s := { s with heap := h', toks := tk + 1 }) ho fun h2 he2 sb => ?_⟩
    have hT2 := (sb.2 _ (Nat.ne_of_gt b1)).trans hT
    have I2 := I.turnedNew (t' := tk + 1) (ch := [e, it]) (h' := h2) (T := s.heap.objs.size) (ob := .tup [.int (i : Nat), x])
      (fun b ob hb q => (sb.2 b fun z => hb (by simp [z])).trans (hk b ob (fun z => hb (by simp [z])) (fun z => hb (by simp [z])) q)) hf (Nat.le_refl _)
      ⟨(by show 2 ≤ sizeLine; decide), [.int i tk, y], .cons ⟨_, rfl⟩ (.cons ru .nil), ⟨_, hT2, rfl, _, rfl⟩⟩
    refine ⟨.ref s.heap.objs.size, _, I2, rfl, ⟨_, x, rfl, I.hok.fresh (Nat.le_refl _), rfl, fun ys hy => I.tuple_inj hq hy ▸ hx⟩, ⟨⟨y, ?_⟩, hit'.1.at fun o q => (sb.2 it (Ne.symm n1)).trans q, n1, n2, n3⟩, fun b hb => ?_⟩
    · rw [show ((i + 1 : Nat) : Int) = (i : Int) + 1 by omega]
      exact he2
    · have b3 : b < s.heap.objs.size := (List.mem_cons.mp hb).elim (fun z => z ▸ b1) fun z => List.mem_singleton.mp z ▸ b2
      rw [upd_ne (Nat.ne_of_lt b3)]
      exact (hf b hb).1
  done := by
    rintro X rfl rfl rfl hc i pins s σ H E I hf ⟨⟨old, he⟩, hit, n1, n2, n3⟩ ⟨xs, hq, hx⟩
    obtain ⟨its, rv, tp, hz⟩ := I.tuple hq
    obtain ⟨f0, f1, f2, f3, f4, f5⟩ := hf it (by simp)
    have D : Draws X.prog X.w X.A.in1 it [it, a] i (fun _ _ => True) (fun j h => j = i ∧ h.IsTupleIter it a i ∧ h.IsTuple a its.toArray) := ⟨fun _ _ st => st.2.1.imp fun _ q => q.1,
      fun _ _ _ st hk => ⟨st.1, st.2.1.at fun o q => hk it (by simp) o q, st.2.2.at fun o q => hk a (by simp) o q⟩, fun j s Q E hj st _ => absurd st.1 (Nat.ne_of_lt hj),
      fun s Q E st hE => wpAny_nextOf_tuple_end (I.ok.hd hc) st.2.1 st.2.2 (by rw [List.getElem?_toArray]; exact List.getElem?_eq_none (by rw [← rv.length]; exact hx)) hE⟩
    exact wpAny_pyNext_enum_endD D he ⟨rfl, hit, tp⟩ fun h' eb => ⟨rfl, I.turned (t' := s.toks) (fun b o hb q => eb b o hb q) f0 f1 f3 f4 f5⟩
  self := fun A i s Q E st h => st.1.elim fun _ he => wpAny_pyIter_enum he h
def iEnuT (K : PySem.W.Frag) (ta : TA) : TI := fun σ H R => ta σ H fun vs H1 => ∃ a xs, vs = [.ref a] ∧ SqT K H1 a xs ∧ R (IteT K a) H1
theorem pi_enuT {X : Cx} {e : Expr} {ta : TA} {p pos tpos : Pos} {elts : List Expr} {kk : Nat} (hg : Gl X "enumerate") (hm : X.mg "enumerate" = none) (ha : PA X [e] ta) (hs : starEach [e] X.env = [(false, eval e X.env)]) : PI X (.Tuple elts kk tpos) (.Call (.Name "enumerate" p) [e] [] pos) (iEnuT X.K ta) := by
  refine ⟨fun pins s σ H R I h => Call_ (ld_blt I hg hm boot_enumerate (PyProof.Rows.callWith_type1 (thn (ha.run pos pins s σ H _ I h) fun us s1 q => ?_) hs rfl))⟩
  obtain ⟨vs, H1, I1, r1, a, xs, rfl, hq, q⟩ := q
  obtain ⟨u, rfl, ru⟩ := r1.one
  obtain rfl : u = Value.ref a := ru
  obtain ⟨its, rv, tp, _⟩ := I1.tuple hq
  have ha : a < s1.heap.objs.size := tp.elim fun _ q => Heap.lt_size q.1
  refine enu_call (begins_tuple a its.toArray) tp fun h' he hi hsz hk => wpAny_pyIter_enum he ?_
  refine ⟨_, [s1.heap.objs.size + 1, s1.heap.objs.size], _, _, H1, rfl, I1.kept (t' := s1.toks) hk, turn_enuT a (s1.heap.objs.size + 1) s1.heap.objs.size, ⟨⟨.none, he⟩, ⟨_, hi, rfl, rfl⟩, Nat.succ_ne_self _, Nat.ne_of_lt ha, Nat.ne_of_gt (Nat.lt_succ_of_lt ha)⟩, fun b hb => ?_, q⟩
  have hle : s1.heap.objs.size ≤ b := (List.mem_cons.mp hb).elim (fun z => z ▸ Nat.le_succ _) fun z => Nat.le_of_eq (List.mem_singleton.mp z).symm
  exact I1.fpOk hle (I1.hok.fresh hle)
section
variable {S : Type} {X : Cx} {F : Fc S} {Z Z' Z1 Z2 : Addr → Prop} {H H' H1 H2 Hs : Hp} {σ σ' : L2.St} {ρ : Env} {own own1 own2 own' oL : List Nat} {s s' : S} {p : Addr} {o : HO} {v v' : V} {d d' : D} {m m' m1 m2 m3 : Mo} {W : WX} {Q : VK} {k : Nat} {fr : Bool} {D0 : Ends}
variable {a b c e : Expr} {ta tb tc te : TE} {fa fb fc fe : Env → M S D} {pos pos' ppos : Pos} {es : List Expr} {t : TA} {f : Env → M S (List D)} {i j l : Nat}
theorem wk_enuT {vs : List V} {ds : List D} (hK : X.K = F.K) (h : TupAt F.K Z H p vs) (hf : FzAll F.cn Z H vs ds) : Wk F Z H (IteT X.K p) (ds.mapIdx fun i d => .tup [.int (i : Nat), d]) where
  go := fun i d Z1 H1 hd _ g1 hi => by
    have h1 : SqT X.K H1 p vs := by rw [hK]; exact (h.grow g1).sq
    obtain ⟨e, b1, rfl⟩ := mapIdx_get hi
    have hl : i < vs.length := by rw [hf.1]; exact (List.getElem?_eq_some_iff.mp b1).1
    have hv : vs[i]? = some vs[i] := List.getElem?_eq_getElem hl
    refine ⟨⟨vs, vs[i], h1, hv⟩, fun x H' y => .inr ?_⟩
    obtain ⟨T, x1, rfl, hT, rfl, r1⟩ := y
    have r1 := r1 vs h1
    rw [hv] at r1
    cases r1
    exact ⟨T, _, _, rfl, hT, rfl, rfl, (by show 2 ≤ sizeLine; decide), .cons (.int _) (.cons ((hf.2 i _ _ hv b1).grow g1) .nil)⟩
  stop := fun i Z1 H1 _ g1 hi => ⟨vs, by rw [hK]; exact (h.grow g1).sq, by rw [List.length_mapIdx] at hi; rw [hf.1]; exact hi⟩
def iEnum2 (fe : Env → M S D) : Env → M S (List D) := fun ρ => bnd (fe ρ) fun x => match x with
  | .lst ds => ret (ds.mapIdx fun i d => .tup [.int (i : Nat), d])
  | .tup ds => ret (ds.mapIdx fun i d => .tup [.int (i : Nat), d])
  | _ => stk
theorem di_enum {elts : List Expr} {kk : Nat} {tpos : Pos} (A : Amb X F k) (hg : Gl X "enumerate") (hm : X.mg "enumerate" = none) (x : DE X F own W .fz e te fe) (hs : starEach [e] X.env = [(false, eval e X.env)] := by rfl) :
    DI X F own W (.Tuple elts kk tpos) (.Call (.Name "enumerate" ppos) [e] [] pos) (wEither (iEnum X.K (tCons te tNil)) (iEnuT X.K (tCons te tNil))) (iEnum2 fe) := by
  refine ⟨pi_either (pi_enum hg hm (pa_cons x.pe pa_nil (by rw [hs]; rfl)) hs) (pi_enuT hg hm (pa_cons x.pe pa_nil (by rw [hs]; rfl)) hs), fun σ H Z ρ s R k q => ?_⟩
  dsimp only [iEnum2, bnd] at q
  match e1 : fe ρ s, q with
  | none, q => exact q.elim
  | some (.error y, s1), q => exact .inl (x.ev σ H Z ρ s _ k (by rw [e1]; exact q))
  | some (.ok d, s1), q =>
    dsimp only at q
    cases d <;> try exact (show False from q).elim
    · refine .inl (x.ev σ H Z ρ s _ k ?_)
      rw [e1]
      intro v H' Z' x' k' z
      cases z with
      | lst h1 h2 h3 h4 h5 => exact ⟨_, _, rfl, SqL.of h2, q _ H' Z' x' k' (wk_enuL h1 h2 ⟨h3, h5⟩)⟩
    · refine .inr (x.ev σ H Z ρ s _ k ?_)
      rw [e1]
      intro v H' Z' x' k' z
      obtain ⟨a, vs, rfl, h1, h2, h3⟩ := Bz.tup_ (adr := F.md.adr) (.inl z)
      exact ⟨_, _, rfl, (by rw [A.K]; exact h1.sq), q _ H' Z' x' k' (wk_enuT A.K h1 h3)⟩
end
end DL

namespace DL
open PySem L2 PySem.Spec PyProof.Rows RZ

section
variable {S : Type} {X : Cx} {F : Fc S} {Z Z' Z1 Z2 : Addr → Prop} {H H' H1 H2 Hs : Hp} {σ σ' : L2.St} {ρ : Env} {own own1 own2 own' oL : List Nat} {s s' : S} {p : Addr} {o : HO} {v v' : V} {d d' : D} {m m' m1 m2 m3 : Mo} {W : WX} {Q : VK} {k : Nat} {fr : Bool} {D0 : Ends}
variable {a b c e : Expr} {ta tb tc te tk : TE} {fa fb fc fe fk : Env → M S D} {pos pos' ppos : Pos} {es : List Expr} {t : TA} {f : Env → M S (List D)} {i j l : Nat} {tt : TT} {ft : Env → M S Bool}

/-! ### {k: v for ..} -/
def dcF (asg : D → Env → Option Env) (tst : Env → M S Bool) (fk fe : Env → M S D) (ρ : Env) : List D → List (Key × D) → M S (List (Key × D))
  | [], acc => ret acc
  | d :: ds, acc => match asg d ρ with
    | none => stk
    | some ρ1 => bnd (tst ρ1) fun b => if b = true then bnd (fk ρ1) fun x => match asK x with
        | none => stk
        | some kk => bnd (fe ρ1) fun y => dcF asg tst fk fe ρ ds (putD acc kk y)
      else dcF asg tst fk fe ρ ds acc
def mDc (fi : Env → M S (List D)) (asg : D → Env → Option Env) (tst : Env → M S Bool) (fk fe : Env → M S D) (vs : List Nat) : Env → M S D := fun ρ => bnd (fi ρ) fun ds => if ds.length ≤ sizeLine then bnd (nox (dcF asg tst fk fe (wipeD ρ vs) ds [])) fun ys => ret (.dic ys) else stk
theorem putK_len (kvs : List (Key × V)) (kk : Key) (v : V) : (putK kvs kk v).length ≤ kvs.length + 1 := by
  unfold putK
  split
  · rw [List.length_map]; omega
  · rw [List.length_append]; simp
theorem ev_dc1 {wi : TI} {g : TG} {tgs vs : List Nat} {fi : Env → M S (List D)} {asg : D → Env → Option Env} (k : Ok F own Z H σ ρ s)
    (hi : ∀ R, PostI F own W Z H σ ρ R (fi ρ s) → wi σ H R) (hg : EvG F own tgs g asg) (ht : EvT F own WN tt ft) (hk : Ev F own WN .fz tk fk) (he : Ev F own WN .fz te fe) (hv : ∀ i ∈ tgs, i ∈ vs) (q : PostE F own W .fr Z H σ ρ Q (mDc fi asg ft fk fe vs ρ s)) :
    tDc wi g tt tk te vs σ H Q := by
  refine hi _ ?_
  dsimp only [mDc, bnd] at q
  cases e1 : fi ρ s with
  | none => rw [e1] at q; exact q
  | some p1 =>
    obtain ⟨r1, s1⟩ := p1
    rw [e1] at q
    cases r1 with
    | error y => exact q
    | ok ds =>
      intro J H1 Z1 x1 k1 w1 L nL
      dsimp only at q
      by_cases hz : ds.length ≤ sizeLine
      · rw [if_pos hz] at q
        refine ⟨fun i mm H' => mm = ds.length - i ∧ i ≤ ds.length ∧ ∃ Z' s' kvs acc, Ext F Z1 H1 Z' H' ∧ Ok F own Z' H' σ ρ s' ∧ Side F own Z' H' σ ρ L ∧ H' L = some (.dK kvs) ∧ kvs.map (·.1) = acc.map (·.1) ∧ FzAll F.cn Z' H' (kvs.map (·.2)) (acc.map (·.2)) ∧ kvs.length ≤ i ∧
          (match dcF asg ft fk fe (wipeD ρ vs) (ds.drop i) acc s' with
            | some (.ok ys, s2) => PostE F own W .fr Z H σ ρ Q (ret (.dic ys) s2)
            | _ => False), ⟨ds.length, by simp, Nat.zero_le _, Z1, s1, [], [], Ext.newO nL, k1.newO nL, ⟨fun z => (k1.zd L z).1 nL, k1.toBs.nadr nL, k1.toBs.entry nL, (k1.side nL).no⟩, upd_same, rfl, FzAll.nil, Nat.zero_le _, ?_⟩, ?_⟩
        · rw [List.drop_zero]
          dsimp only [bnd, nox] at q
          match e2 : dcF asg ft fk fe (wipeD ρ vs) ds [] s1, q with
          | none, q => exact q
          | some (.error _, _), q => exact q
          | some (.ok ys, s2), q => exact q
        · rintro i mm H' ⟨rfl, hle, Z', s', kvs, acc, x', k', sd, hL, hks, hacc, hvl, q'⟩
          by_cases hlt : i < ds.length
          · have hget : ds[i]? = some ds[i] := List.getElem?_eq_getElem hlt
            have g1 : Grow Z1 H1 Z' H' := k1.toBs.grow x'
            refine .inr ⟨(w1.go i _ Z' H' (fun a z => (k'.zd a z).1) ⟨_, k'.st⟩ g1 hget).1, fun H2 => i + 1 ≤ ds.length ∧ ∃ Z2 s2 kvs2 acc2, Ext F Z1 H1 Z2 H2 ∧ Ok F own Z2 H2 σ ρ s2 ∧ Side F own Z2 H2 σ ρ L ∧ H2 L = some (.dK kvs2) ∧ kvs2.map (·.1) = acc2.map (·.1) ∧ FzAll F.cn Z2 H2 (kvs2.map (·.2)) (acc2.map (·.2)) ∧ kvs2.length ≤ i + 1 ∧
              (match dcF asg ft fk fe (wipeD ρ vs) (ds.drop (i + 1)) acc2 s2 with
                | some (.ok ys, s2) => PostE F own W .fr Z H σ ρ Q (ret (.dic ys) s2)
                | _ => False), fun H2 h2 => ⟨ds.length - (i + 1), by omega, rfl, h2⟩, fun x H2 y => ?_⟩
            obtain ⟨Z2, x2, k2, z2⟩ := w1.item g1 k' hget y
            have hL2 : H2 L = some (.dK kvs) := x2.h L _ hL sd.na
            have sd2 := sd.ext (by rw [hL]; simp) x2
            have kw := k2.wipe (vs := vs)
            rw [List.drop_eq_getElem_cons hlt] at q'
            dsimp only [dcF] at q'
            refine hg x _ (L2.wipe σ vs) H2 Z2 (wipeD ρ vs) s' _ kw z2 ?_
            cases e2 : asg ds[i] (wipeD ρ vs) with
            | none => rw [e2] at q'; exact (show False from q').elim
            | some ρ1 =>
              rw [e2] at q'
              dsimp only [bnd] at q'
              intro σ3 wp k3
              refine ⟨(wp vs hv).trans (wipe_wipe vs σ), ?_⟩
              refine ht σ3 H2 Z2 ρ1 s' _ k3 ?_
              cases e3 : ft ρ1 s' with
              | none => rw [e3] at q'; exact q'
              | some p3 =>
                obtain ⟨r3, s3⟩ := p3
                rw [e3] at q'
                cases r3 with
                | error _ => exact (show False from q').elim
                | ok b =>
                  intro H3 Z3 x3 k3'
                  have hL3 : H3 L = some (.dK kvs) := x3.h L _ hL2 sd2.na
                  have sd3 := sd2.ext (by rw [hL2]; simp) x3
                  have ko3 : Ok F own Z3 H3 σ ρ s3 := k2.carry x3 k3'.toBs
                  have hacc3 := hacc.grow ((k'.toBs.grow x2).trans (k2.toBs.grow x3))
                  dsimp only at q'
                  cases b with
                  | false =>
                    rw [if_neg Bool.false_ne_true] at q' ⊢
                    exact ⟨hlt, Z3, s3, kvs, acc, (x'.trans x2).trans x3, ko3, sd3, hL3, hks, hacc3, by omega, q'⟩
                  | true =>
                    rw [if_pos rfl] at q' ⊢
                    refine hk σ3 H3 Z3 ρ1 s3 _ k3' ?_
                    dsimp only [bnd] at q'
                    cases e4 : fk ρ1 s3 with
                    | none => rw [e4] at q'; exact q'
                    | some p4 =>
                      obtain ⟨r4, s4⟩ := p4
                      rw [e4] at q'
                      cases r4 with
                      | error _ => exact (show False from q').elim
                      | ok xd =>
                        intro xv H4 Z4 x4 k4 z4
                        have hL4 : H4 L = some (.dK kvs) := x4.h L _ hL3 sd3.na
                        have sd4 := sd3.ext (by rw [hL3]; simp) x4
                        have ko4 : Ok F own Z4 H4 σ ρ s4 := ko3.carry x4 k4.toBs
                        have hacc4 := hacc3.grow (ko3.toBs.grow x4)
                        dsimp only at q'
                        cases e5 : asK xd with
                        | none => rw [e5] at q'; exact (show False from q').elim
                        | some kk =>
                          rw [e5] at q'
                          dsimp only [bnd] at q'
                          refine he σ3 H4 Z4 ρ1 s4 _ k4 ?_
                          cases e6 : fe ρ1 s4 with
                          | none => rw [e6] at q'; exact q'
                          | some p5 =>
                            obtain ⟨r5, s5⟩ := p5
                            rw [e6] at q'
                            cases r5 with
                            | error _ => exact (show False from q').elim
                            | ok yd =>
                              intro yv H5 Z5 x5 k5 z5
                              have hL5 : H5 L = some (.dK kvs) := x5.h L _ hL4 sd4.na
                              have sd5 := sd4.ext (by rw [hL4]; simp) x5
                              have ko5 : Ok F own Z5 H5 σ ρ s5 := ko4.carry x5 k5.toBs
                              have hacc5 := hacc4.grow (ko4.toBs.grow x5)
                              have gp : Grow Z5 H5 Z5 (L2.upd H5 L (.dK (putK kvs kk yv))) := ⟨fun _ h => h, fun a z => upd_ne fun e => sd5.nz (e ▸ z)⟩
                              obtain ⟨i1, i2⟩ := put_pair (cn := F.cn) kk hks hacc5 z5
                              have hpl := putK_len kvs kk yv
                              refine ⟨kvs, kk, asK_kV e5 z4, hL5, by have := hz; omega, hlt, Z5, s5, putK kvs kk yv, putD acc kk yd, ?_, ko5.put sd5, ⟨sd5.nz, sd5.na, sd5.h0, sd5.no⟩, upd_same, i1, i2.grow gp, by omega, q'⟩
                              have xx := (((x'.trans x2).trans x3).trans x4).trans x5
                              refine ⟨xx.z, xx.zn, fun a o h n => ?_⟩
                              have ne : a ≠ L := fun e => by rw [e, nL] at h; cases h
                              rw [upd_ne ne]
                              exact xx.h a o h n
          · have e : i = ds.length := by omega
            subst e
            refine .inl ⟨w1.stop _ Z' H' ⟨_, k'.st⟩ (k1.toBs.grow x') (Nat.le_refl _), ?_⟩
            rw [List.drop_length] at q'
            have q' : PostE F own W .fr Z H σ ρ Q (ret (.dic acc) s') := q'
            exact q' (.ref L) H' Z' (x1.trans x') k' ⟨L, rfl, sd.nz, sd.na, sd.h0, ⟨kvs, hL, Nat.le_trans hvl hz, hks, hacc⟩, startFree x1 nL sd.na, sd.no⟩
      · rw [if_neg hz] at q
        exact (show False from q).elim
theorem ev_dc {wi : TI} {g : TG} {tgs vs : List Nat} {fi : Env → M S (List D)} {asg : D → Env → Option Env}
    (hi : ∀ σ H Z ρ s R, Ok F own Z H σ ρ s → PostI F own W Z H σ ρ R (fi ρ s) → wi σ H R) (hg : EvG F own tgs g asg) (ht : EvT F own WN tt ft) (hk : Ev F own WN .fz tk fk) (he : Ev F own WN .fz te fe) (hv : ∀ i ∈ tgs, i ∈ vs) :
    Ev F own W .fr (tDc wi g tt tk te vs) (mDc fi asg ft fk fe vs) := fun σ H Z ρ s Q k q => ev_dc1 k (fun R => hi σ H Z ρ s R k) hg ht hk he hv q
theorem de_dc {kx vx tg iter : Expr} {ifs : List Expr} {scope : Scope} {oc : List (Str × Nat)} {wi : TI} {g : TG} {tgs : List Nat} {fi : Env → M S (List D)} {asg : D → Env → Option Env} (A : Amb X F k) (nd : X.N.Nodup) (hi : DI X F own W tg iter wi fi) (ok : BlkOk X.N X.env.scope scope oc)
    (hg : ∀ sh Hb C cl fp, DG (Blk X scope sh Hb C cl fp) F own tgs tg g asg) (ht : ∀ sh Hb C cl fp, DTs (Blk X scope sh Hb C cl fp) F own WN ifs tt ft) (hk : ∀ sh Hb C cl fp, DE (Blk X scope sh Hb C cl fp) F own WN .fz kx tk fk) (he : ∀ sh Hb C cl fp, DE (Blk X scope sh Hb C cl fp) F own WN .fz vx te fe)
    (hv : ∀ i ∈ tgs, i ∈ oc.map (·.2) := by decide) (hs : ∀ x, foldedSetIterable iter X.env x = pure x := by intro _; rfl) :
    DE X F own W .fr (.DictComp kx vx [⟨tg, iter, ifs, 0⟩] scope pos) (tDc wi g tt tk te (oc.map (·.2))) (mDc fi asg ft fk fe (oc.map (·.2))) :=
  ⟨pe_dc A.calm nd hi.pi ok (fun s H C cl fp => (hg s H C cl fp).pg) (fun s H C cl fp => (ht s H C cl fp).pt) (fun s H C cl fp => (hk s H C cl fp).pe) (fun s H C cl fp => (he s H C cl fp).pe) hs,
    ev_dc hi.ev (hg X.s_0 X.H_0 0 [] []).ev (ht X.s_0 X.H_0 0 [] []).ev (hk X.s_0 X.H_0 0 [] []).ev (he X.s_0 X.H_0 0 [] []).ev hv⟩

/-! ### dict(..) -/
def prs : List D → Option (List (Key × D))
  | [] => some []
  | .tup [x, y] :: r => match asK x, prs r with
    | some kk, some rs => some ((kk, y) :: rs)
    | _, _ => none
  | _ => none
def dDict : D → Option D
  | .lst ds => (prs ds).map fun ps => .dic (mergeD [] ps)
  | .dic kvs => some (.dic kvs)
  | _ => none
theorem prs_vals {cn : Cn} : ∀ (ds : List D) (vs : List V) (ps : List (Key × D)), FzAll cn Z H vs ds → prs ds = some ps → ∃ (as : List Addr) (kvs : List (Key × V)), vs = as.map V.ref ∧ Paired (fun p kv => SqT cn.K H p [kV kv.1, kv.2]) as kvs ∧ kvs.map (·.1) = ps.map (·.1) ∧ FzAll cn Z H (kvs.map (·.2)) (ps.map (·.2)) ∧ kvs.length = vs.length
  | [], vs, ps, h, e => by
    simp only [prs] at e
    cases e
    obtain rfl := List.length_eq_zero_iff.mp h.1
    exact ⟨[], [], rfl, .nil, rfl, .nil, rfl⟩
  | d :: ds, [], ps, h, e => by have := h.1; simp at this
  | d :: ds, v :: vs, ps, h, e => by
    obtain ⟨h1, h2⟩ := h.inv
    unfold prs at e
    split at e
    · rename_i heq; cases heq
    · rename_i x y r heq
      cases heq
      split at e
      · rename_i kk rs a1 a2
        cases e
        obtain ⟨as, kvs, rfl, q2, q3, q4, q5⟩ := prs_vals ds vs rs h2 a2
        obtain ⟨p, us, rfl, t1, t2, t3⟩ := Bz.tup_ (adr := fun _ => False) (.inl h1)
        match us, t3 with
        | [u1, u2], t3 =>
          obtain ⟨z1, z2⟩ := t3.inv
          refine ⟨p :: as, (kk, u2) :: kvs, rfl, .cons ?_ q2, by rw [List.map_cons, List.map_cons, q3], .cons z2.inv.1 q4, by rw [List.length_cons, List.length_cons, q5]⟩
          have := t1.sq
          rw [asK_kV a1 z1] at this
          exact this
        | [], t3 => have := t3.1; simp at this
        | [_], t3 => have := t3.1; simp at this
        | _ :: _ :: _ :: _, t3 => have := t3.1; simp at this
      · cases e
    · cases e
abbrev rDic (K : PySem.W.Frag) : List V → Hp → VK → Prop := fun xs H Q => (∃ (a : Addr) (ps : List Addr) (kvs : List (Key × V)), xs = [.ref a] ∧ SqL K H a (ps.map V.ref) ∧ Paired (fun p kv => SqT K H p [kV kv.1, kv.2]) ps kvs ∧
    ∀ p, H p = none → Q (.ref p) (upd H p (.dK (mergeK [] kvs)))) ∨ ∃ (a : Addr) (kvs : List (Key × V)), xs = [.ref a] ∧ Rd H a (.dK kvs) ∧ ∀ p, H p = none → Q (.ref p) (upd H p (.dK kvs))
theorem PostE.newD {kvs : List (Key × V)} {des : List (Key × D)} (h : PostE F own W .fr Z H σ ρ Q (ret (.dic des) s)) (k : Ok F own Z H σ ρ s) (h1 : kvs.map (·.1) = des.map (·.1)) (h2 : FzAll F.cn Z H (kvs.map (·.2)) (des.map (·.2))) (hl : kvs.length ≤ sizeLine) : ∀ p, H p = none → Q (.ref p) (upd H p (.dK kvs)) := fun p n => by
  have sd := k.side n
  have g : Grow Z H Z (upd H p (.dK kvs)) := k.toBs.grow (Ext.newO n)
  exact h (.ref p) _ Z (Ext.newO n) (k.newO n) ⟨p, rfl, sd.nz, sd.na, sd.h0, ⟨kvs, upd_same, hl, h1, h2.grow g⟩, n, sd.no⟩
theorem d_dict : Op1 F own W .fr (fun x H Q => rDic F.K [x] H Q) dDict := by
  intro v x d Z H σ ρ s Q e k z q
  cases x <;> simp only [dDict] at e <;> try cases e
  · obtain ⟨a, vs, rfl, h1, h2, h3⟩ := z.lst_
    obtain ⟨ps, e1, rfl⟩ := Option.map_eq_some_iff.mp e
    obtain ⟨as, kvs, rfl, q2, q3, q4, q5⟩ := prs_vals _ _ _ h3 e1
    obtain ⟨i1, i2⟩ := merge_pair (cn := F.cn) kvs ps [] [] rfl .nil q3 q4
    refine .inl ⟨a, as, kvs, rfl, SqL.of h1, q2, q.newD k i1 i2 ?_⟩
    refine Nat.le_trans (length_mergeK kvs []) ?_
    rw [List.length_nil, Nat.zero_add, q5]
    exact h2
  · obtain ⟨a, kvs, rfl, h1, h2, h3, h4⟩ := z.dic_
    exact .inr ⟨a, kvs, rfl, .inl h1, q.newD k h3 h4 h2⟩
theorem de_dict (A : Amb X F k) (hg : Gl X "dict") (hm : X.mg "dict" = none) (ha : DE X F own W m1 e te fe) (hs : starEach [e] X.env = [(false, eval e X.env)] := by rfl) : DE X F own W .fr (.Call (.Name "dict" ppos) [e] [] pos) (tCB (rDic X.K) (tCons te tNil)) (o1 dDict fe) :=
  de_ty1 ((call_dictP A.calm).or call_dictD) (A.K ▸ d_dict) hg hm (by decide +kernel) ha (hs := hs)

/-! ### d[k] = e, d owned -/
def slD (ρ : Env) (i : Nat) : Option (List (Key × D)) := match ρ[i]? with
  | some (some (.dic ds)) => some ds
  | _ => none
theorem slD_some {i : Nat} {ds : List (Key × D)} (h : slD ρ i = some ds) : ρ[i]? = some (some (.dic ds)) := by
  unfold slD at h
  split at h
  · cases h; assumption
  · cases h
theorem Ok.dicO {i : Nat} {ds : List (Key × D)} (k : Ok F own Z H σ ρ s) (hi : i ∈ own) (hd : ρ[i]? = some (some (.dic ds))) : ∃ x kvs, σ[i]? = some (some (.ref x)) ∧ H x = some (.dK kvs) ∧ kvs.length ≤ sizeLine ∧ kvs.map (·.1) = ds.map (·.1) ∧ FzAll F.cn Z H (kvs.map (·.2)) (ds.map (·.2)) := by
  obtain ⟨x, q1, q2, q3, q4, vs, q5, q6, q7, q8⟩ := k.ow i _ hi hd
  exact ⟨x, vs, q1, q5, q6, q7, q8⟩
theorem Ok.dicU {i : Nat} {es : List (Key × D)} {x : Addr} {us : List (Key × V)} (k : Ok F own Z H σ ρ s) (hi : i ∈ own) (hd : ρ[i]? = some (some d)) (hx : σ[i]? = some (some (.ref x))) (hz : us.length ≤ sizeLine) (hk : us.map (·.1) = es.map (·.1)) (hu : FzAll F.cn Z H (us.map (·.2)) (es.map (·.2))) : Ok F own Z (L2.upd H x (.dK us)) σ (ρ.set i (some (.dic es))) s := by
  obtain ⟨x', q1, q2, _⟩ := k.ow i _ hi hd
  rw [hx] at q1
  cases q1
  exact k.upd hi hd hx ⟨us, upd_same, hz, hk, hu.grow ⟨fun _ z => z, fun b z => upd_ne fun e => q2 (e ▸ z)⟩⟩
theorem PSet.or {t u : TSet} (h : PSet X t) (h' : PSet X u) : PSet X (fun o i v H Q => t o i v H Q ∨ u o i v H Q) := fun pins s σ H o i v ov iv w Q I r1 r2 r3 q => q.elim (h pins s σ H o i v ov iv w Q I r1 r2 r3) (h' pins s σ H o i v ov iv w Q I r1 r2 r3)
def putAt (x : D) (y : D) : D → Option D
  | .lst ds => match asI y with
    | some n => (ixN ds.length n).map fun q => .lst (ds.set q x)
    | none => none
  | .dic ds => match asK y with
    | some kk => if ds.length < sizeLine then some (.dic (putD ds kk x)) else none
    | none => none
  | _ => none
def slot (ρ : Env) (i : Nat) : Option D := match ρ[i]? with
  | some (some d) => some d
  | _ => none
theorem slot_some {i : Nat} (h : slot ρ i = some d) : ρ[i]? = some (some d) := by
  unfold slot at h
  split at h
  · cases h; assumption
  · cases h
def sSt (i : Nat) (fe fi : Env → M S D) : Env → M S (Fl × Env) := fun ρ => bnd (fe ρ) fun x => match slot ρ i with
  | some c => bnd (fi ρ) fun y => match putAt x y c with
    | some c' => ret (.nx, ρ.set i (some c'))
    | none => stk
  | none => stk
theorem ds_st {i : Nat} {y : Str} {py spos : Pos} {ix : Expr} {ti : TE} {fi : Env → M S D} (A : Amb X F k) (h : DE X F own W .fz e te fe) (hi : DE X F own W .fz ix ti fi) (hj : i ∈ own := by decide) (hN : X.N[i]? = some y := by rfl) (hv : Vis X.env.scope y := by first | exact Or.inl rfl | exact Or.inr (Or.inl rfl) | exact Or.inr (Or.inr rfl)) (hd : (y == ("__debug__" : Str)) = false := by decide)
    (hcd : (y == ("__classdict__" : Str)) = false := by decide)
    (ha : ∀ v, assign (.Subscript (.Name y py) ix spos) X.env v = (do
      let ov ← holding [v] (eval (.Name y py) X.env)
      let iv ← holding [v, ov] (eval ix X.env)
      standAt spos
      holding [v, ov, iv] (setItem ov iv v)
      release [v, ov, iv] []) := by intro _; rfl)
    (hs : swapsWithSole [.Subscript (.Name y py) ix spos] e pos.line X.env = pure false := by rfl) (hw : swappedStores [.Subscript (.Name y py) ix spos] e X.env = pure none := by rfl)
    (h1 : (assignEach [.Subscript (.Name y py) ix spos] X.env).map (·.2) = [assign (.Subscript (.Name y py) ix spos) X.env] := by rfl) :
    DS X F own own oL W fr (.Assign [.Subscript (.Name y py) ix spos] e pos) (tAsg te (gSub (tVar i) ti (fun o i v H Q => rSetL o i v H Q ∨ rSetD o i v H Q))) (sSt i fe fi) := by
  refine ⟨ps_asg h.pe (pg_sub (pe_var hN hv hd hcd) hi.pe (PSet.or set_list (set_dict (by have := A.u65; omega))) ha) hs hw h1, fun σ H Z ρ s D0 k q => ?_⟩
  refine h.ev σ H Z ρ s _ k ?_
  dsimp only [sSt, bnd] at q
  match e2 : fe ρ s, q with
  | none, q => exact q
  | some (.error y, s'), q => exact fun cls dd H' Z' => q cls dd σ H' Z'
  | some (.ok dx, s1), q =>
    intro v1 H1 Z1 x1 k1 z1
    dsimp only at q
    cases e0 : slot ρ i with
    | none => rw [e0] at q; exact (show False from q).elim
    | some c =>
      rw [e0] at q
      dsimp only [bnd] at q
      have e3 := slot_some e0
      obtain ⟨x, q1, _⟩ := k1.ow i c hj e3
      refine ⟨_, q1, ?_⟩
      refine hi.ev σ H1 Z1 ρ s1 _ k1 ?_
      match e4 : fi ρ s1, q with
      | none, q => exact (show False from q).elim
      | some (.error y, s'), q => exact fun cls dd H' Z' => q cls dd σ H' Z'
      | some (.ok dy, s2), q =>
        intro v2 H2 Z2 x2 k2 z2
        dsimp only at q
        have z1' : Fz F.cn Z2 H2 v1 dx := Fz.grow (k1.toBs.grow x2) z1
        have gg := (k.toBs.grow x1).trans (k1.toBs.grow x2)
        cases e5 : putAt dx dy c with
        | none => rw [e5] at q; exact (show False from q).elim
        | some c' =>
          rw [e5] at q
          cases c <;> simp only [putAt] at e5 <;> try cases e5
          · rename_i ds
            split at e5
            · rename_i n e6
              obtain ⟨jj, e7, rfl⟩ := Option.map_eq_some_iff.mp e5
              obtain rfl := asI_some e6
              obtain ⟨x', vs', r1, r2, r3, r4⟩ := k2.lstO hj e3
              rw [q1] at r1
              cases r1
              refine .inl ⟨x, vs', n, jj, rfl, Bz.int_ (adr := F.md.adr) (.inl z2), r2, by rw [r4.1]; exact e7, ?_⟩
              exact q σ _ Z2 (gg.trans (k2.growU hj e3 q1)) (k2.lstU hj e3 q1 (by rw [List.length_set]; exact r3) (r4.set jj z1'))
            · cases e5
          · rename_i ds
            split at e5
            · rename_i kk e6
              split at e5
              · rename_i hl
                cases e5
                obtain ⟨x', kvs, r1, r2, r3, r4, r5⟩ := k2.dicO hj e3
                rw [q1] at r1
                cases r1
                have hkl : kvs.length < sizeLine := by
                  have := congrArg List.length r4
                  rw [List.length_map, List.length_map] at this
                  rw [this]; exact hl
                obtain ⟨i1, i2⟩ := put_pair (cn := F.cn) kk r4 r5 z1'
                refine .inr ⟨x, _, rfl, by rw [asK_kV e6 z2]; exact DPut.k r2 hkl, ?_⟩
                exact q σ _ Z2 (gg.trans (k2.growU hj e3 q1)) (k2.dicU hj e3 q1 (Nat.le_trans (putK_len kvs kk v1) hkl) i1 i2)
              · cases e5
            · cases e5
end
end DL

namespace DL
open PySem L2 PySem.Spec PyProof.Rows RZ

/-! ### classes -/
def ClsT (K : PySem.W.Frag) (mg : Str → Option Value) (cls : Str) (flds : List Str) : Prop := ∃ C, mg cls = some (.ref C) ∧ Cls K C ∧ ∀ f ∈ flds, NoAttr K C f
def dFld (cls f : Str) : D → Option D
  | .obj x des => if x = cls then des.lookup f else none
  | .slf x des => if x = cls then des.lookup f else none
  | _ => none
section
variable {S : Type} {X : Cx} {F : Fc S} {Z Z' Z1 Z2 : Addr → Prop} {H H' H1 H2 Hs : Hp} {σ σ' : L2.St} {ρ : Env} {own own1 own2 own' oL : List Nat} {s s' : S} {p : Addr} {o : HO} {v v' : V} {d d' : D} {m m' m1 m2 m3 : Mo} {W : WX} {Q : VK} {k : Nat} {fr : Bool} {D0 : Ends}
variable {a b c e : Expr} {ta tb tc te tk : TE} {fa fb fc fe fk : Env → M S D} {pos pos' ppos : Pos} {es : List Expr} {t : TA} {f : Env → M S (List D)} {i j l : Nat} {tt : TT} {ft : Env → M S Bool} {cls nm : Str} {flds : List Str}
theorem look_pair {cn : Cn} : ∀ {fs : List (Str × V)} {des : List (Str × D)}, fs.map (·.1) = des.map (·.1) → FzAll cn Z H (fs.map (·.2)) (des.map (·.2)) → des.lookup nm = some d → ∃ v, fs.lookup nm = some v ∧ Fz cn Z H v d
  | [], [], _, _, h => by cases h
  | [], _ :: _, h, _, _ => by simp at h
  | _ :: _, [], h, _, _ => by simp at h
  | (x, v) :: fs, (y, e) :: des, h1, h2, h3 => by
    simp only [List.map_cons, List.cons.injEq] at h1
    obtain ⟨rfl, h1⟩ := h1
    obtain ⟨z1, z2⟩ := FzAll.inv (vs := fs.map (·.2)) (ds := des.map (·.2)) h2
    rw [List.lookup_cons] at h3 ⊢
    split at h3
    · cases h3
      exact ⟨v, rfl, z1⟩
    · exact look_pair h1 z2 h3
theorem Bz.obj_ {cn : Cn} {adr : Addr → Prop} {x : Str} {des : List (Str × D)} (h : Bz cn adr Z H v (.obj x des)) : ∃ a C dx fs, v = .ref a ∧ H a = some (.ins C dx fs) ∧ cn.mg x = some (.ref C) ∧ fs.map (·.1) = des.map (·.1) ∧ FzAll cn Z H (fs.map (·.2)) (des.map (·.2)) := by
  rcases h with h | ⟨a, rfl, _, C, dx, fs, h1, h2, h3, h4⟩
  · cases h with
    | obj z1 z2 z3 z4 z5 z6 =>
      rename_i a dx C fs
      have hk : fs.map (·.1) = des.map (·.1) := by
        refine List.ext_getElem? fun n => ?_
        rw [List.getElem?_map, List.getElem?_map]
        cases q : fs[n]? with
        | none =>
          have : des[n]? = none := by rw [List.getElem?_eq_none_iff] at q ⊢; omega
          rw [this]; rfl
        | some w =>
          have hn : n < des.length := by rw [← z4]; exact (List.getElem?_eq_some_iff.mp q).1
          have e2 : des[n]? = some des[n] := List.getElem?_eq_getElem hn
          rw [e2]
          exact congrArg some (z5 n w _ q e2)
      refine ⟨a, C, dx, fs, rfl, z2, z3, hk, by rw [List.length_map, List.length_map]; exact z4, fun n w e q1 q2 => ?_⟩
      rw [List.getElem?_map] at q1 q2
      obtain ⟨w', r1, rfl⟩ := Option.map_eq_some_iff.mp q1
      obtain ⟨e', r2, rfl⟩ := Option.map_eq_some_iff.mp q2
      exact z6 n w' e' r1 r2
  · exact ⟨a, C, dx, fs, rfl, h1, h2, h3, h4⟩
theorem Bz.slf_ {cn : Cn} {adr : Addr → Prop} {x : Str} {des : List (Str × D)} (h : Bz cn adr Z H v (.slf x des)) : Bz cn adr Z H v (.obj x des) := by
  rcases h with h | ⟨a, rfl, n, h0, q⟩
  · cases h with
    | slf z1 z2 z3 z4 z5 z6 => exact .inl (.obj z1 z2 z3 z4 z5 z6)
  · exact .inr ⟨a, rfl, n, q⟩
/-- e.f, a plain attribute -/
theorem de_fld (A : Amb X F k) (T : ClsT X.K X.mg cls flds) (h : DE X F own W m e te fe) (hf : nm ∈ flds := by decide +kernel) (hb : attributeBase e nm X.env (eval e X.env) = eval e X.env := by rfl) : DE X F own W .fz (.Attribute e nm pos) (tFld X.K te nm) (o1 (dFld cls nm) fe) := by
  obtain ⟨C, hm, hC, hn⟩ := T
  refine ⟨pe_fld h.pe hb, ev_op1 (r := fun x H1 Q => ∃ a C dx fs v, x = .ref a ∧ H1 a = some (.ins C dx fs) ∧ Cls X.K C ∧ NoAttr X.K C nm ∧ fs.lookup nm = some v ∧ Q v H1) (fun v x d Z H σ ρ s Q e k z q => ?_) h.ev⟩
  have key : ∀ des, Bz F.cn F.md.adr Z H v (.obj cls des) → des.lookup nm = some d → ∃ a C dx fs u, v = .ref a ∧ H a = some (.ins C dx fs) ∧ Cls X.K C ∧ NoAttr X.K C nm ∧ fs.lookup nm = some u ∧ Q u H := fun des z e => by
    obtain ⟨a, C', dx, fs, rfl, h1, h2, h3, h4⟩ := z.obj_
    have h2 : F.mg cls = some (.ref C') := h2
    rw [← A.mg, hm] at h2
    cases h2
    obtain ⟨u, r1, r2⟩ := look_pair h3 h4 e
    exact ⟨a, C, dx, fs, u, rfl, h1, hC, hn nm hf, r1, q.val k r2⟩
  cases x <;> simp only [dFld] at e <;> try cases e
  · split at e
    · rename_i hx; subst hx; exact key _ z e
    · cases e
  · split at e
    · rename_i hx; subst hx; exact key _ z.slf_ e
    · cases e
/-! ### x.f = e, x owned -/
def putFd (f : Str) (v : D) : List (Str × D) → List (Str × D)
  | [] => [(f, v)]
  | (g, x) :: r => if g = f then (g, v) :: r else (g, x) :: putFd f v r
theorem putF_pair {cn : Cn} : ∀ {fs : List (Str × V)} {des : List (Str × D)}, fs.map (·.1) = des.map (·.1) → FzAll cn Z H (fs.map (·.2)) (des.map (·.2)) → Fz cn Z H v d → (putF nm v fs).map (·.1) = (putFd nm d des).map (·.1) ∧ FzAll cn Z H ((putF nm v fs).map (·.2)) ((putFd nm d des).map (·.2))
  | [], [], _, _, z => ⟨rfl, .cons z .nil⟩
  | [], _ :: _, h, _, _ => by simp at h
  | _ :: _, [], h, _, _ => by simp at h
  | (x, w) :: fs, (y, e) :: des, h1, h2, z => by
    simp only [List.map_cons, List.cons.injEq] at h1
    obtain ⟨rfl, h1⟩ := h1
    obtain ⟨z1, z2⟩ := FzAll.inv (vs := fs.map (·.2)) (ds := des.map (·.2)) h2
    obtain ⟨q1, q2⟩ := putF_pair h1 z2 z
    unfold putF putFd
    split
    · exact ⟨by rw [List.map_cons, List.map_cons, h1], .cons z z2⟩
    · exact ⟨by rw [List.map_cons, List.map_cons, q1], .cons z1 q2⟩
def stFld (cls f : Str) (d : D) : D → Option D
  | .obj x des => if x = cls ∧ des.length < 1000 then some (.obj x (putFd f d des)) else none
  | .slf x des => if x = cls ∧ des.length < 1000 then some (.slf x (putFd f d des)) else none
  | _ => none
def sFl (cls f : Str) (i : Nat) (fe : Env → M S D) : Env → M S (Fl × Env) := fun ρ => bnd (fe ρ) fun x => match slot ρ i with
  | none => stk
  | some c => match stFld cls f x c with
    | some c' => ret (.nx, ρ.set i (some c'))
    | none => stk
theorem ds_fld {i : Nat} {y : Str} {py : Pos} (A : Amb X F k) (T : ClsT X.K X.mg cls flds) (h : DE X F own W .fz e te fe) (hf : nm ∈ flds := by decide +kernel) (hj : i ∈ own := by decide) (hN : X.N[i]? = some y := by rfl) (hv : Vis X.env.scope y := by first | exact Or.inl rfl | exact Or.inr (Or.inl rfl) | exact Or.inr (Or.inr rfl)) (hd : (y == ("__debug__" : Str)) = false := by decide)
    (hcd : (y == ("__classdict__" : Str)) = false := by decide) (hs : swapsWith e (some (.Attribute (.Name y py) nm pos')) pos.line X.env = pure false := by rfl) :
    DS X F own own oL W fr (.Assign [.Attribute (.Name y py) nm pos'] e pos) (sFld X.K (tVar i) te nm) (sFl cls nm i fe) := by
  obtain ⟨C, hm, hC, hn⟩ := T
  refine ⟨ps_fld (pe_var hN hv hd hcd) h.pe hs, fun σ H Z ρ s D0 k q => ?_⟩
  refine h.ev σ H Z ρ s _ k ?_
  dsimp only [sFl, bnd] at q
  match e2 : fe ρ s, q with
  | none, q => exact q
  | some (.error y, s'), q => exact fun cls dd H' Z' => q cls dd σ H' Z'
  | some (.ok dx, s1), q =>
    intro v1 H1 Z1 x1 k1 z1
    dsimp only at q
    cases e0 : slot ρ i with
    | none => rw [e0] at q; exact (show False from q).elim
    | some c =>
      rw [e0] at q
      dsimp only at q
      have e3 := slot_some e0
      obtain ⟨x, q1, w1, w2, w3, w4⟩ := k1.ow i c hj e3
      refine ⟨_, q1, ?_⟩
      have gg := (k.toBs.grow x1).trans (k1.growU (o := .own 0) hj e3 q1)
      have gU : ∀ o, Grow Z1 H1 Z1 (L2.upd H1 x o) := fun o => k1.growU hj e3 q1
      cases e5 : stFld cls nm dx c with
      | none => rw [e5] at q; exact (show False from q).elim
      | some c' =>
        rw [e5] at q
        cases c <;> simp only [stFld] at e5 <;> try cases e5
        · split at e5
          · rename_i x' des hx
            cases e5
            obtain ⟨hx, hlen⟩ := hx
            obtain ⟨C', dxx, fs, r1, r2, r3, r4⟩ := w4
            have r2 : F.mg x' = some (.ref C') := r2
            rw [hx, ← A.mg, hm] at r2
            cases r2
            obtain ⟨i1, i2⟩ := putF_pair (nm := nm) r3 r4 z1
            have hl : fs.length = des.length := by have := congrArg List.length r3; simpa using this
            refine ⟨x, C, dxx, fs, rfl, r1, hC, hn nm hf, by omega, ?_⟩
            exact q σ _ Z1 ((k.toBs.grow x1).trans (gU _)) (k1.upd hj e3 q1 ⟨C, dxx, _, upd_same, (show F.mg x' = _ by rw [hx, ← A.mg]; exact hm), i1, i2.grow (gU _)⟩)
          · cases e5
        · split at e5
          · rename_i x' des hx
            cases e5
            obtain ⟨hx, hlen⟩ := hx
            obtain ⟨r0, C', dxx, fs, r1, r2, r3, r4⟩ := w4
            have r2 : F.mg x' = some (.ref C') := r2
            rw [hx, ← A.mg, hm] at r2
            cases r2
            obtain ⟨i1, i2⟩ := putF_pair (nm := nm) r3 r4 z1
            have hl : fs.length = des.length := by have := congrArg List.length r3; simpa using this
            refine ⟨x, C, dxx, fs, rfl, r1, hC, hn nm hf, by omega, ?_⟩
            exact q σ _ Z1 ((k.toBs.grow x1).trans (gU _)) (k1.upd hj e3 q1 ⟨r0, C, dxx, _, upd_same, (show F.mg x' = _ by rw [hx, ← A.mg]; exact hm), i1, i2.grow (gU _)⟩)
          · cases e5
/-! ### e.f, a property that reads an attribute -/
structure PrT (K : PySem.W.Frag) (mg : Str → Option Value) (cls f g : Str) (st : Stmt) : Prop where
  ex : ∃ C p fa fd qual, mg cls = some (.ref C) ∧ Cls K C ∧ NoAttr K C g ∧ PropOf K C f p fa ∧ Fun K f qual st fa fd
theorem de_prop {g : Str} {st : Stmt} {N : List Str} {p1 p2 p3 : Pos} (A : Amb X F k) (T : PrT X.K X.mg cls nm g st) (Sc : FnScope N ["self"] (defScope st)) (h : DE X F own W m e te fe) (hk : 2 ≤ k := by decide) (hN : N[0]? = some ("self" : Str) := by rfl) (hbd : defBody st = [.Return (some (.Attribute (.Name "self" p1) g p2)) p3] := by rfl)
    (hbind : ∀ (kV doc pm : Value) (an : Option Addr) (cdv ct : Value) (qual : Str) (us : List Value), us.length = 1 → bindArgs (PySem.W.fnOf nm qual (defArgs st) (defBody st) (defScope st) .none kV doc pm an cdv ct) ⟨us, []⟩ = pure ((["self"] : List Str).zip us))
    (hb : attributeBase e nm X.env (eval e X.env) = eval e X.env := by rfl) : DE X F own W .fz (.Attribute e nm pos) (tE F own W .fz (o1 (dFld cls g) fe)) (o1 (dFld cls g) fe) := by
  suffices hh : ∃ t, DE X F own W .fz (.Attribute e nm pos) t (o1 (dFld cls g) fe) by
    obtain ⟨t, dd⟩ := hh
    exact dd.canon
  obtain ⟨C, p, fa, fd, qual, hm, hC, hn, hp, Fn⟩ := T.ex
  have Fn' := Fn
  obtain ⟨oc, od, kV, doc, pm, an, cdv, ct, osl, rfl, lk, hcd⟩ := Fn.ex
  have G : FnOk X.prog X.w X.K X.mg X.base CX0 1 fa _ ["self"] (getSp C g) := fn_getter (k := 0) lk hcd Sc hN hbd hC hn
  have bnd1 : Binds X.K (PySem.W.fnOf nm qual (defArgs st) (defBody st) (defScope st) .none kV doc pm an cdv ct) ["self"] [] := Fn'.binds (ps := ["self"]) fun kV doc pm an cdv ct us hl => hbind kV doc pm an cdv ct qual us hl
  refine ⟨_, pe_prop h.pe hC hp G (A.rm.mono hk) bnd1 .nil (E := fun _ _ _ => False) pass0 hb, ?_⟩
  refine ev_op1 (r := fun x H1 Q => ∃ a dx fs, x = .ref a ∧ H1 a = some (.ins C dx fs) ∧ getSp C g (.ref a :: []) H1 Q (fun _ _ _ => False)) (fun v x d Z H σ ρ s Q e k z q => ?_) h.ev
  have key : ∀ des, Bz F.cn F.md.adr Z H v (.obj cls des) → des.lookup g = some d → ∃ a dx fs, v = .ref a ∧ H a = some (.ins C dx fs) ∧ getSp C g (.ref a :: []) H Q (fun _ _ _ => False) := fun des z e => by
    obtain ⟨a, C', dx, fs, rfl, h1, h2, h3, h4⟩ := z.obj_
    have h2 : F.mg cls = some (.ref C') := h2
    rw [← A.mg, hm] at h2
    cases h2
    obtain ⟨u, r1, r2⟩ := look_pair h3 h4 e
    exact ⟨a, dx, fs, rfl, h1, a, dx, fs, u, rfl, h1, r1, q.val k r2⟩
  cases x <;> simp only [dFld] at e <;> try cases e
  · split at e
    · rename_i hx; subst hx; exact key _ z e
    · cases e
  · split at e
    · rename_i hx; subst hx; exact key _ z.slf_ e
    · cases e

/-! ### C(..): a new instance -/
def Md.self (da : Addr → Prop) (p : Addr) : Md Unit := ⟨da, fun a => a = p, fun _ => False, fun _ _ => True, fun _ _ _ _ _ => trivial, fun _ _ _ _ h => h.elim⟩
def hid (H : Hp) (p : Addr) : Hp := fun b => if b = p then none else H b
/-- __init__'s promise -/
def SpI (K : PySem.W.Frag) (mg : Str → Option Value) (cls : Str) (n : Nat) (mm : List D → M Unit D) : Sp := fun vs H Q E => ∃ (da : Addr → Prop) (p C dx : Addr) (us : List V) (Z : Addr → Prop) (ds : List D), vs = .ref p :: us ∧ us.length = n ∧ H p = some (.ins C dx []) ∧ mg cls = some (.ref C) ∧ (∀ a, Z a → H a ≠ none ∧ a ≠ p) ∧ FzAll ⟨K, mg, da, fun a => a = p⟩ Z H us ds ∧
  match mm ds () with
  | some (.ok d, _) => ∀ H' Z', Bs (⟨K, mg, Md.self da p, Z, hid H p⟩ : Fc Unit) Z' H' () → ¬ Z' p → Ow ⟨K, mg, da, fun a => a = p⟩ Z' H' p d → Q .non H'
  | some (.error x, _) => ∀ cls dd H' Z', Bs (⟨K, mg, Md.self da p, Z, hid H p⟩ : Fc Unit) Z' H' () → ExcAt ⟨K, mg, da, fun a => a = p⟩ Z' H' x cls dd → E cls dd H'
  | none => False
/-- a body's function, as the new instance's -/
def runI (cls : Str) (n : Nat) (f : Env → M Unit (Fl × Env)) : List D → M Unit D := fun ds s => match f (some (.slf cls []) :: (ds.map some ++ List.replicate (n - (ds.length + 1)) none)) s with
  | some (.ok (.nx, ρ'), s') => match slot ρ' 0 with
    | some (.slf x des) => some (.ok (.slf x des), s')
    | _ => none
  | some (.error x, s') => some (.error x, s')
  | _ => none
end
section
variable {P : Program} {w : World} {K : PySem.W.Frag} {mg : Str → Option Value} {base : Heap}
theorem fn_mkI {x qual : Str} {st : Stmt} {f : Addr} {fd : FuncData} {N ps : List Str} {k : Nat} {cls self : Str} {fb : Env → M Unit (Fl × Env)} (Fn : Fun K x qual st f fd) (Sc : FnScope N (self :: ps) (defScope st))
    (hbody : ∀ (cdv : Value) (A : Around) (outer : List PySem.Env) (s : Shared) (H : Hp) (E : XK) (md : Md Unit) (Z : Addr → Prop) (H0 : Hp), 
      Amb (cxOf (L2.CX P w) P w K mg base N qual (defScope st) f cdv A outer s H E) (⟨K, mg, md, Z, H0⟩ : Fc Unit) k → Takes (cxOf (L2.CX P w) P w K mg base N qual (defScope st) f cdv A outer s H E) (fun cls d _ H' => E cls d H') →
      ∃ t, DSs (cxOf (L2.CX P w) P w K mg base N qual (defScope st) f cdv A outer s H E) (⟨K, mg, md, Z, H0⟩ : Fc Unit) [0] [0] [] (fun cls d _ H' => E cls d H') false (defBody st) t fb) :
    FnG P w K mg base (k + 1) f fd (self :: ps) (SpI K mg cls ps.length (runI cls N.length fb)) := by
  obtain ⟨oc, od, kV, doc, pm, an, cdv, ct, osl, rfl, lk, hcd⟩ := Fn.ex
  refine fnG_of lk hcd Sc (fun vs H Q E h => ?_) fun A outer s H vs Q E hgd hr hsp => ?_
  · obtain ⟨_, _, _, _, us, _, _, rfl, h, _⟩ := h
    rw [List.length_cons, h, List.length_cons]
  · obtain ⟨da, p, C, dx, us, Z, ds, rfl, hl, hp, hm, hz, hf, hq⟩ := hsp
    obtain ⟨t, dv⟩ := hbody cdv A outer s H E (Md.self da p) Z (hid H p) ⟨rfl, rfl, hr, hgd, rfl, passes_of (K := fun e s'' => L2.CX P w outer H s E e s'') rfl⟩ (takes_of rfl rfl rfl rfl)
    have hdl : ds.length = us.length := hf.1.symm
    refine ⟨t, dv.ps, dv.ev (L2.start N (.ref p :: us)) H Z (some (.slf cls []) :: (ds.map some ++ List.replicate (N.length - (ds.length + 1)) none)) () _ ?_ ?_⟩
    · refine ⟨⟨trivial, fun a z => ⟨(hz a z).1, fun q => q⟩, fun _ z => z, fun _ z => .inl z, fun a o h _ => ?_⟩, fun i d hi h => ?_, fun i d hi h => ?_, fun i j d d' a hi hj _ _ _ _ => ?_, ?_⟩
      · have h : (if a = p then none else H a) = some o := h
        split at h
        · cases h
        · exact h
      · cases i with
        | zero => exact absurd (List.mem_singleton.mpr rfl) hi
        | succ i =>
          have h : (ds.map some ++ List.replicate (N.length - (ds.length + 1)) none)[i]? = some (some d) := h
          by_cases hlt : i < ds.length
          · rw [List.getElem?_append_left (by simpa using hlt), List.getElem?_map] at h
            obtain ⟨d', h1, h2⟩ := Option.map_eq_some_iff.mp h
            cases h2
            have hv : i < us.length := by omega
            refine ⟨us[i], ?_, hf.2 i _ d (List.getElem?_eq_getElem hv) h1⟩
            unfold L2.start
            rw [List.getElem?_append_left (by simpa using hv), List.getElem?_map, List.getElem?_cons_succ, List.getElem?_eq_getElem hv]
            rfl
          · rw [List.getElem?_append_right (by simpa using hlt), List.getElem?_replicate] at h
            split at h <;> cases h
      · obtain rfl := List.mem_singleton.mp hi
        cases h
        exact ⟨p, rfl, fun z => (hz p z).2 rfl, fun q => q, if_pos rfl, rfl, C, dx, [], hp, hm, rfl, .nil⟩
      · rw [List.mem_singleton.mp hi, List.mem_singleton.mp hj]
      · unfold L2.start
        rw [List.length_cons, List.length_append, List.length_append, List.length_map, List.length_map, List.length_replicate, List.length_replicate, List.length_cons, hdl]
        omega
    · unfold runI at hq
      match e : fb (some (.slf cls []) :: (ds.map some ++ List.replicate (N.length - (ds.length + 1)) none)) (), hq with
      | none, hq => exact hq
      | some (.error x, s'), hq => exact fun cls dd σ' H' Z' => hq cls dd H' Z'
      | some (.ok (.nx, ρ'), s'), hq =>
        intro σ' H' Z' g k'
        dsimp only at hq
        cases e0 : slot ρ' 0 with
        | none => rw [e0] at hq; exact hq.elim
        | some d =>
          rw [e0] at hq
          cases d with
          | slf y des =>
            obtain ⟨a, q1, q2, q3, q4, q5⟩ := k'.ow 0 _ (List.mem_singleton.mpr rfl) (slot_some e0)
            obtain rfl : a = p := q5.1
            exact hq H' Z' k'.toBs q2 q5
          | _ => exact (show False from hq).elim
      | some (.ok (.rt d, ρ'), s'), hq => exact hq.elim
      | some (.ok (.bk, ρ'), s'), hq => exact hq.elim
      | some (.ok (.ct, ρ'), s'), hq => exact hq.elim
end
end DL

namespace DL
open PySem L2 PySem.Spec PyProof.Rows RZ

section
variable {S : Type} {X : Cx} {F : Fc S} {Z Z' Z1 Z2 : Addr → Prop} {H H' H1 H2 Hs : Hp} {σ σ' : L2.St} {ρ : Env} {own own1 own2 own' oL : List Nat} {s s' : S} {p : Addr} {o : HO} {v v' : V} {d d' : D} {m m' m1 m2 m3 : Mo} {W : WX} {Q : VK} {k : Nat} {fr : Bool} {D0 : Ends}
variable {a b c e : Expr} {ta tb tc te tk : TE} {fa fb fc fe fk : Env → M S D} {pos pos' ppos : Pos} {es : List Expr} {t : TA} {f : Env → M S (List D)} {i j l : Nat} {tt : TT} {ft : Env → M S Bool} {cls nm x : Str} {flds : List Str} {sp : Sp} {ps : List Str} {st : Stmt}
/-- a class that is made, with its __init__ -/
structure MkT (P : Program) (w : World) (K : PySem.W.Frag) (mg : Str → Option Value) (base : Heap) (x : Str) (st : Stmt) (ps : List Str) (k : Nat) (sp : Sp) : Prop where
  ex : ∃ C f fd qual, mg x = some (.ref C) ∧ Mk K C f ∧ Fun K "__init__" qual st f fd ∧ FnG P w K mg base k f fd ps sp
  bd : ∀ (kV doc pm : Value) (an : Option Addr) (cdv ct : Value) (qual : Str) (us : List Value), us.length = ps.length → bindArgs (PySem.W.fnOf "__init__" qual (defArgs st) (defBody st) (defScope st) .none kV doc pm an cdv ct) ⟨us, []⟩ = pure (ps.zip us)
def tMk (mg : Str → Option Value) (x : Str) (sp : Sp) (E : L2.St → XK) (t : TA) : TE := fun σ H Q => t σ H fun vs H1 => ∀ C y dx, mg x = some (.ref C) → H1 y = none → H1 dx = none → dx ≠ y → sp (.ref y :: vs) (upd (upd H1 dx (.own y)) y (.ins C dx [])) (fun v H2 => v = .non ∧ Q (.ref y) H2) (E σ)
theorem pe_makeG (A : Amb X F k) (tk : Takes X W) (T : MkT X.prog X.w X.K X.mg X.base x st ps j sp) (hj : j + 1 ≤ k) (hg : Gl X x) (ha : PA X (e :: es) t) (hdb : (x == ("__debug__" : Str)) = false := by decide)
    (he : starEach (e :: es) X.env = (false, eval e X.env) :: starEach es X.env := by rfl) (hpl : (backTo pos (starEach es X.env)).any (·.1) = false := by rfl) : PE X (.Call (.Name x ppos) (e :: es) [] pos) (tMk X.mg x sp (WE W) t) := by
  obtain ⟨C, fa, fd, qual, hm, M, Fn, G⟩ := T.ex
  constructor
  intro pins s σ H Q I h
  refine wpAny_Call_Name_kw (ld_glob I hg hm (PySem.W.callWith_K (h₀ := X.base) I.ok.mod.kin M.kp (thn (ha.run pos pins s σ H _ I h) ?_) he hpl) hdb)
  rintro us s1 ⟨vs, H1, I1, r, q⟩
  refine ⟨I1.kIn, ?_⟩
  have hq := q C (s1.heap.objs.size + 1) s1.heap.objs.size hm (I1.hok.fresh (Nat.le_succ _)) (I1.hok.fresh (Nat.le_refl _)) (Nat.ne_of_lt (Nat.lt_succ_self _))
  have I2 := Inv.made (C := C) I1
  have r2 : Vals (V.ref (s1.heap.objs.size + 1) :: vs) (Value.ref (s1.heap.objs.size + 1) :: us) := .cons rfl r
  have hl : (Value.ref (s1.heap.objs.size + 1) :: us).length = ps.length := by rw [← r2.length]; exact G.len _ _ _ _ hq
  have b := Fn.binds (ps := ps) (fun kV doc pm an cdv ct us hl => T.bd kV doc pm an cdv ct qual us hl) _ (Value.ref (s1.heap.objs.size + 1) :: us) I2.kIn (by rw [List.append_nil]; exact hl)
  rw [List.append_nil] at b
  have run := G.run _ X.stack _ _ ⟨Value.ref (s1.heap.objs.size + 1) :: us, []⟩ (Value.ref (s1.heap.objs.size + 1) :: us) _ _ (WE W σ) (by exact A.gd) ((A.rm.mono hj).make C us []) (I2.env0.make C us []) b r2 hq
  refine wpAny_call (make_map (f := fa) I1.kIn M.makes M.init (beq_iff_eq.mp M.fn) (codeAny_mono run fun rr s' hq' => ?_))
  cases rr with
  | error y => exact passAt tk σ pins _ _ y s' I2 hq'
  | ok fl =>
    cases fl with
    | ret u =>
      obtain ⟨v, H', I3, rv, ev, q3⟩ := I2.after hq'
      subst ev
      exact ⟨rv, ⟨V.ref (s1.heap.objs.size + 1), H', I3, rfl, q3⟩⟩
    | next => exact hq'.elim
    | brk => exact hq'.elim
    | cont => exact hq'.elim
/-- the new instance, as data -/
def asObj : D → D
  | .slf x des => .obj x des
  | d => d
def mMk (f : Env → M S (List D)) (mm : List D → M Unit D) : Env → M S D := fun ρ => bnd (f ρ) fun ds => bnd (pur (mm ds)) fun d => match d with
  | .slf x des => ret (.obj x des)
  | _ => stk
theorem post_mk {n : Nat} {mm : List D → M Unit D} {vs : List V} {ds : List D} {C y dx : Addr} (hn : vs.length = n) (hm : F.mg cls = some (.ref C)) (k : Ok F own Z H σ ρ s) (z : FzAll F.cn Z H vs ds) (hy : H y = none) (hdx : H dx = none) (hne : dx ≠ y)
    (q : PostE F own W .fr Z H σ ρ Q ((bnd (pur (mm ds)) fun d => match d with | .slf x des => ret (.obj x des) | _ => stk : M S D) s)) :
    SpI F.K F.mg cls n mm (.ref y :: vs) (upd (upd H dx (.own y)) y (.ins C dx [])) (fun v H2 => v = .non ∧ Q (.ref y) H2) (WE W σ) := by
  have hold : ∀ b o, H b = some o → upd (upd H dx (.own y)) y (.ins C dx []) b = some o := fun b o h => by
    have n1 : b ≠ y := fun e => by rw [e, hy] at h; cases h
    have n2 : b ≠ dx := fun e => by rw [e, hdx] at h; cases h
    rw [upd_ne n1, upd_ne n2]
    exact h
  have gZ : Grow Z H Z (upd (upd H dx (.own y)) y (.ins C dx [])) := ⟨fun _ h => h, fun b zb => by
    cases e : H b with
    | none => exact absurd e (k.zd b zb).1
    | some o => exact hold b o e⟩
  refine ⟨F.md.da, y, C, dx, vs, Z, ds, rfl, hn, upd_same, hm, fun b zb => ⟨by rw [gZ.h b zb]; exact (k.zd b zb).1, fun e => (k.zd b zb).1 (e ▸ hy)⟩, (z.grow gZ).sf, ?_⟩
  have bs : ∀ {Z' H'}, Bs (⟨F.K, F.mg, Md.self F.md.da y, Z, hid (upd (upd H dx (.own y)) y (.ins C dx [])) y⟩ : Fc Unit) Z' H' () → (∀ b o, H b = some o → H' b = some o) ∧ Bs F Z' H' s := fun {Z' H'} b => by
    have sm : ∀ c o, H c = some o → H' c = some o := fun c o h => b.sm c o (by
      show (if c = y then none else _) = _
      have n1 : c ≠ y := fun e => by rw [e, hy] at h; cases h
      rw [if_neg n1]
      exact hold c o h) fun q => q
    have zn' : ∀ c, Z' c → Z c ∨ H c = none := fun c h => by
      rcases b.zn c h with q | q
      · exact .inl q
      · have q : (if c = y then none else upd (upd H dx (.own y)) y (.ins C dx []) c) = none := q
        split at q
        · rename_i e; exact .inr (e ▸ hy)
        · rename_i e
          cases e2 : H c with
          | none => exact .inr rfl
          | some o => rw [hold c o e2] at q; cases q
    refine ⟨sm, ⟨F.md.frame s H H' k.st fun c hc => ?_, fun c h => ⟨(b.zd c h).1, ?_⟩, fun c h => b.z0 c (k.z0 c h), fun c h => ?_, fun c o h n => sm c o (k.sm c o h n)⟩⟩
    · cases q : H c with
      | none => exact absurd q (F.md.dom s H c k.st hc)
      | some o => exact sm c o q
    · rcases zn' c h with q | q
      · exact (k.zd c q).2
      · exact k.toBs.nadr q
    · rcases zn' c h with q | q
      · exact k.zn c q
      · exact .inr (k.toBs.entry q)
  have ext : ∀ {Z' H'}, Bs (⟨F.K, F.mg, Md.self F.md.da y, Z, hid (upd (upd H dx (.own y)) y (.ins C dx [])) y⟩ : Fc Unit) Z' H' () → Ext F Z H Z' H' := fun {Z' H'} b => by
    refine ⟨b.z0, fun c h => ?_, fun c o h _ => (bs b).1 c o h⟩
    rcases b.zn c h with q | q
    · exact .inl q
    · have q : (if c = y then none else upd (upd H dx (.own y)) y (.ins C dx []) c) = none := q
      split at q
      · rename_i e; exact .inr (.inl (e ▸ hy))
      · cases e2 : H c with
        | none => exact .inr (.inl rfl)
        | some o => rw [hold c o e2] at q; cases q
  unfold bnd pur at q
  match e : mm ds (), q with
  | none, q => exact q
  | some (.error y, s'), q => exact fun cls dd H' Z' b x => q cls dd H' Z' (bs b).2 x.sf
  | some (.ok d, s'), q =>
    intro H' Z' b nz ow
    refine ⟨rfl, ?_⟩
    cases d with
    | slf x' des =>
      obtain ⟨_, C', dx', fs, h1, h2, h3, h4⟩ := ow
      have xx := ext b
      have k' := k.carry xx (bs b).2
      exact q (.ref y) H' Z' xx k' ⟨y, rfl, nz, k.toBs.nadr hy, k.toBs.entry hy, ⟨C', dx', fs, h1, h2, h3, h4.sf⟩, hy, (k.side hy).no⟩
    | _ => exact (show False from q).elim
theorem de_make {n : Nat} {mm : List D → M Unit D} (A : Amb X F k) (tk : Takes X W) (T : MkT X.prog X.w X.K X.mg X.base x st ps j (SpI X.K X.mg x n mm)) (hj : j + 1 ≤ k) (ha : DA X F own W (e :: es) t f) (hc : Cnt f n) (hg : Gl X x := by rfl) (hdb : (x == ("__debug__" : Str)) = false := by decide)
    (he : starEach (e :: es) X.env = (false, eval e X.env) :: starEach es X.env := by rfl) (hpl : (backTo pos (starEach es X.env)).any (·.1) = false := by rfl) : DE X F own W .fr (.Call (.Name x ppos) (e :: es) [] pos) (tMk X.mg x (SpI X.K X.mg x n mm) (WE W) t) (mMk f mm) := by
  refine ⟨pe_makeG A tk T hj hg ha.pa hdb he hpl, ?_⟩
  rw [A.K, A.mg]
  exact ev_cnt (g := fun _ ds => bnd (pur (mm ds)) fun d => match d with | .slf x des => ret (.obj x des) | _ => stk) (K := fun vs σ H1 Q => ∀ C y dx, F.mg x = some (.ref C) → H1 y = none → H1 dx = none → dx ≠ y → SpI F.K F.mg x n mm (.ref y :: vs) (upd (upd H1 dx (.own y)) y (.ins C dx [])) (fun v H2 => v = .non ∧ Q (.ref y) H2) (WE W σ)) ha.ev hc
    fun vs ds Z H σ ρ s Q hl k z q C y dx hm hy hdx hne => post_mk (by rw [z.1]; exact hl) hm k z hy hdx hne q
end
end DL
namespace DL
open PySem L2 PySem.Spec PyProof.Rows
/-! ### classes by the written part -/
def AllNo (K : PySem.W.Frag) (C : Addr) : List Str → Prop
  | [] => True
  | f :: r => PySem.W.findIn K (.ref C) f = some none ∧ AllNo K C r
theorem AllNo.all {K : PySem.W.Frag} {C : Addr} : ∀ {fs : List Str}, AllNo K C fs → ∀ f ∈ fs, NoAttr K C f
  | _ :: _, h, f, hf => (List.mem_cons.mp hf).elim (fun e => e ▸ h.1) fun e => AllNo.all h.2 f e
section
variable {K : PySem.W.Frag} {h : Heap} {mg : Str → Option Value} {cls f g : Str} {C p fa : Addr} {flds : List Str} {st : Stmt} {oc : Value} {od an : Option Addr} {osl : Array (Option Value)} {kV doc pm cdv ct : Value} {rest : List Value}
theorem txt_cls (X : K.In h) (G : h.Ns mainGlobals mg) (a : PySem.W.nsIn K mainGlobals cls = some (some (.ref C))) (h1 : PySem.W.plainGet K C Str.empty = true) (h2 : PySem.W.hasDictIn K C = true) (h3 : PySem.W.plainOver K C = true) (h4 : PySem.W.findIn K (.ref C) "__setattr__" = some (some (.builtin "object.__setattr__")))
    (h5 : AllNo K C flds) : ClsT K mg cls flds := ⟨C, PySem.W.mg_of X G a, ⟨h1, h2, h3, h4⟩, h5.all⟩
theorem txt_prop {qual : Str} (X : K.In h) (G : h.Ns mainGlobals mg) (a : PySem.W.nsIn K mainGlobals cls = some (some (.ref C))) (h1 : PySem.W.plainGet K C Str.empty = true) (h2 : PySem.W.hasDictIn K C = true) (h3 : PySem.W.plainOver K C = true) (h4 : PySem.W.findIn K (.ref C) "__setattr__" = some (some (.builtin "object.__setattr__")))
    (h5 : PySem.W.findIn K (.ref C) g = some none) (h6 : PySem.W.findIn K (.ref C) f = some (some (.ref p))) (h7 : PySem.W.specialIn K (.ref p) "__get__" = some (some (.builtin "property.__get__"))) (h8 : PySem.W.takesIn K (.ref p) = some true) (h9 : PySem.W.recIn K p "property" = some (.ref fa :: rest))
    (l : K.lookup fa = some ⟨oc, od, .func (PySem.W.fnOf f qual (defArgs st) (defBody st) (defScope st) .none kV doc pm an cdv ct), osl⟩) (c : PySem.W.codeIn K cdv qual = true) (k : PySem.W.keepIn K (.ref fa) = true) : PrT K mg cls f g st :=
  ⟨C, p, fa, _, qual, PySem.W.mg_of X G a, ⟨h1, h2, h3, h4⟩, h5, ⟨h6, h7, h8, ⟨rest, h9⟩⟩, fun_mk l c k⟩
theorem txt_init {qual : Str} (X : K.In h) (G : h.Ns mainGlobals mg) (a : PySem.W.nsIn K mainGlobals cls = some (some (.ref C))) (h1 : PySem.W.makesIn K C = true) (h2 : PySem.W.findIn K (.ref C) "__init__" = some (some (.ref fa))) (h3 : PySem.W.isFn K (.ref fa) = true) (h4 : PySem.W.keepIn K (.ref C) = true)
    (l : K.lookup fa = some ⟨oc, od, .func (PySem.W.fnOf "__init__" qual (defArgs st) (defBody st) (defScope st) .none kV doc pm an cdv ct), osl⟩) (c : PySem.W.codeIn K cdv qual = true) (k : PySem.W.keepIn K (.ref fa) = true) :
    ∃ C f fd, mg cls = some (.ref C) ∧ Mk K C f ∧ Fun K "__init__" qual st f fd := ⟨C, fa, _, PySem.W.mg_of X G a, ⟨h1, h2, h3, h4⟩, fun_mk l c k⟩
end
end DL

namespace DL
open PySem L2 PySem.Spec PyProof.Rows RZ

section
variable {S : Type} {X : Cx} {F : Fc S} {Z Z' Z1 Z2 : Addr → Prop} {H H' H1 H2 Hs : Hp} {σ σ' : L2.St} {ρ : Env} {own own1 own2 own' oL : List Nat} {s s' : S} {p : Addr} {o : HO} {v v' : V} {d d' : D} {m m' m1 m2 m3 : Mo} {W : WX} {Q : VK} {k : Nat} {fr : Bool} {D0 : Ends}
variable {a b c e : Expr} {ta tb tc te tk : TE} {fa fb fc fe fk : Env → M S D} {pos pos' ppos : Pos} {es : List Expr} {t : TA} {f : Env → M S (List D)} {i j l : Nat} {tt : TT} {ft : Env → M S Bool} {x y z : Str}
/-! ### a, b = e, e' where the pair is made -/
theorem ev_parT (n1 : m1 ≠ .bz) (n2 : m2 ≠ .bz) (ha : Ev F own W m1 ta fa) (hb : Ev F own W m2 tb fb) : EvS F own (aft m2 (aft m1 own i) j) oL W fr (tAsg (tTup (tCons ta (tCons tb tNil))) (gTup F.K 2 (gCons (gName i) (gCons (gName j) gNil)))) (sPar i j fa fb) := by
  intro σ H Z ρ s D0 k q
  refine ha σ H Z ρ s _ k ?_
  dsimp only [sPar, bnd] at q
  match e1 : fa ρ s, q with
  | none, q => exact q
  | some (.error y, s'), q => exact fun cls dd H' Z' => q cls dd σ H' Z'
  | some (.ok d1, s1), q =>
    intro v1 H1 Z1 x1 k1 z1
    refine hb σ H1 Z1 ρ s1 _ k1 ?_
    dsimp only [bnd] at q
    match e2 : fb ρ s1, q with
    | none, q => exact q
    | some (.error y, s'), q => exact fun cls dd H' Z' => q cls dd σ H' Z'
    | some (.ok d2, s2), q =>
      intro v2 H2 Z2 x2 k2 z2
      refine ⟨(by show 2 ≤ sizeLine; decide), fun pp np => ?_⟩
      have x3 : Ext F Z2 H2 Z2 (upd H2 pp (.tup [v1, v2])) := Ext.newO np
      have k3 := k2.newO (o := .tup [v1, v2]) np
      have z1' := (z1.ext k1.toBs x2).ext k2.toBs x3
      have z2' := z2.ext k2.toBs x3
      have kA := k3.setV (i := i) n1 z1'
      have z2'' : Vz m2 F (aft m1 own i) (σ.set i (some v1)) (ρ.set i (some d1)) H1 Z2 (upd H2 pp (.tup [v1, v2])) v2 d2 := z2'.after fun e e' => by subst e e'; exact z1.apart z2
      exact ⟨pp, [v1, v2], rfl, .inl (.inl upd_same), rfl, v1, [v2], rfl, v2, [], rfl, rfl, q _ _ Z2 (((k.toBs.grow x1).trans (k1.toBs.grow x2)).trans (k2.toBs.grow x3)) (kA.setV n2 z2'')⟩
theorem ds_parT {px py pt : Pos} {kt k2 pt2} (A : Amb X F k) (nd : X.N.Nodup) (h1 : DE X F own W m1 a ta fa) (h2 : DE X F own W m2 b tb fb) (n1 : m1 ≠ .bz := by nofun) (n2 : m2 ≠ .bz := by nofun)
    (hi : X.N[i]? = some x := by rfl) (hj : X.N[j]? = some y := by rfl) (hx : Loc X.env.scope x := by first | exact Or.inl rfl | exact Or.inr rfl) (hy : Loc X.env.scope y := by first | exact Or.inl rfl | exact Or.inr rfl)
    (fx : X.fn x = true ∨ X.env.scope.names.lookup x = some .local := by first | exact .inl rfl | exact .inr rfl) (fy : X.fn y = true ∨ X.env.scope.names.lookup y = some .local := by first | exact .inl rfl | exact .inr rfl)
    (he1 : starEach [a, b] X.env = (false, eval a X.env) :: starEach [b] X.env := by rfl) (he2 : starEach [b] X.env = (false, eval b X.env) :: starEach [] X.env := by rfl)
    (g1 : (assignEach [.Name x px, .Name y py] X.env).map (·.2) = assign (.Name x px) X.env :: (assignEach [.Name y py] X.env).map (·.2) := by rfl) (g2 : (assignEach [.Name y py] X.env).map (·.2) = assign (.Name y py) X.env :: (assignEach [] X.env).map (·.2) := by rfl)
    (hn : (assignEach [.Name x px, .Name y py] X.env).length = 2 := by rfl) (hst : (assignEach [.Name x px, .Name y py] X.env).findIdx? (·.1) = none := by rfl)
    (hw : swappedStores [.Tuple [.Name x px, .Name y py] kt pt] (.Tuple [a, b] k2 pt2) X.env = pure none := by rfl)
    (hs : swapsWithSole [.Tuple [.Name x px, .Name y py] kt pt] (.Tuple [a, b] k2 pt2) pos.line X.env = pure false := by rfl)
    (h0 : (assignEach [.Tuple [.Name x px, .Name y py] kt pt] X.env).map (·.2) = [assign (.Tuple [.Name x px, .Name y py] kt pt) X.env] := by rfl) :
    DS X F own (aft m2 (aft m1 own i) j) oL W fr (.Assign [.Tuple [.Name x px, .Name y py] kt pt] (.Tuple [a, b] k2 pt2) pos) (tAsg (tTup (tCons ta (tCons tb tNil))) (gTup F.K 2 (gCons (gName i) (gCons (gName j) gNil)))) (sPar i j fa fb) :=
  ⟨ps_asg (pe_tup (pa_cons h1.pe (pa_cons h2.pe pa_nil he2) he1)) (A.K ▸ pg_tup A.calm (pgs_cons (pg_name nd hi hx fx) (pgs_cons (pg_name nd hj hy fy) pgs_nil g2) g1) hn hst) hs hw h0, ev_parT n1 n2 h1.ev h2.ev⟩
theorem ev_parT3 (n1 : m1 ≠ .bz) (n2 : m2 ≠ .bz) (n3 : m3 ≠ .bz) (ha : Ev F own W m1 ta fa) (hb : Ev F own W m2 tb fb) (hc : Ev F own W m3 tc fc) : EvS F own (aft m3 (aft m2 (aft m1 own i) j) l) oL W fr (tAsg (tTup (tCons ta (tCons tb (tCons tc tNil)))) (gTup F.K 3 (gCons (gName i) (gCons (gName j) (gCons (gName l) gNil))))) (sPar3 i j l fa fb fc) := by
  intro σ H Z ρ s D0 k q
  refine ha σ H Z ρ s _ k ?_
  dsimp only [sPar3, bnd] at q
  match e1 : fa ρ s, q with
  | none, q => exact q
  | some (.error y, s'), q => exact fun cls dd H' Z' => q cls dd σ H' Z'
  | some (.ok d1, s1), q =>
    intro v1 H1 Z1 x1 k1 z1
    refine hb σ H1 Z1 ρ s1 _ k1 ?_
    dsimp only [bnd] at q
    match e2 : fb ρ s1, q with
    | none, q => exact q
    | some (.error y, s'), q => exact fun cls dd H' Z' => q cls dd σ H' Z'
    | some (.ok d2, s2), q =>
      intro v2 H2 Z2 x2 k2 z2
      refine hc σ H2 Z2 ρ s2 _ k2 ?_
      dsimp only [bnd] at q
      match e3 : fc ρ s2, q with
      | none, q => exact q
      | some (.error y, s'), q => exact fun cls dd H' Z' => q cls dd σ H' Z'
      | some (.ok d3, s3), q =>
        intro v3 H3 Z3 x3 k3 z3
        refine ⟨(by show 3 ≤ sizeLine; decide), fun pp np => ?_⟩
        have x4 : Ext F Z3 H3 Z3 (upd H3 pp (.tup [v1, v2, v3])) := Ext.newO np
        have k4 := k3.newO (o := .tup [v1, v2, v3]) np
        have z1' := z1.ext k1.toBs x2
        have z1'' := (z1'.ext k2.toBs x3).ext k3.toBs x4
        have z2' := (z2.ext k2.toBs x3).ext k3.toBs x4
        have z3' := z3.ext k3.toBs x4
        have kA := k4.setV (i := i) n1 z1''
        have y2 : Vz m2 F (aft m1 own i) (σ.set i (some v1)) (ρ.set i (some d1)) H1 Z3 (upd H3 pp (.tup [v1, v2, v3])) v2 d2 := z2'.after fun e e' => by subst e e'; exact z1.apart z2
        have kB := kA.setV (i := j) n2 y2
        have y3 : Vz m3 F (aft m1 own i) (σ.set i (some v1)) (ρ.set i (some d1)) H2 Z3 (upd H3 pp (.tup [v1, v2, v3])) v3 d3 := z3'.after fun e e' => by subst e e'; exact z1'.apart z3
        have y3' : Vz m3 F (aft m2 (aft m1 own i) j) ((σ.set i (some v1)).set j (some v2)) ((ρ.set i (some d1)).set j (some d2)) H2 Z3 (upd H3 pp (.tup [v1, v2, v3])) v3 d3 := y3.after fun e e' => by subst e e'; exact z2.apart z3
        exact ⟨pp, [v1, v2, v3], rfl, .inl (.inl upd_same), rfl, v1, [v2, v3], rfl, v2, [v3], rfl, v3, [], rfl, rfl, q _ _ Z3 ((((k.toBs.grow x1).trans (k1.toBs.grow x2)).trans (k2.toBs.grow x3)).trans (k3.toBs.grow x4)) (kB.setV n3 y3')⟩
theorem ds_parT3 {px py pz pt : Pos} {kt k2 pt2} (A : Amb X F k) (nd : X.N.Nodup) (h1 : DE X F own W m1 a ta fa) (h2 : DE X F own W m2 b tb fb) (h3 : DE X F own W m3 c tc fc) (n1 : m1 ≠ .bz := by nofun) (n2 : m2 ≠ .bz := by nofun) (n3 : m3 ≠ .bz := by nofun)
    (hi : X.N[i]? = some x := by rfl) (hj : X.N[j]? = some y := by rfl) (hl : X.N[l]? = some z := by rfl) (hx : Loc X.env.scope x := by first | exact Or.inl rfl | exact Or.inr rfl) (hy : Loc X.env.scope y := by first | exact Or.inl rfl | exact Or.inr rfl) (hz : Loc X.env.scope z := by first | exact Or.inl rfl | exact Or.inr rfl)
    (fx : X.fn x = true ∨ X.env.scope.names.lookup x = some .local := by first | exact .inl rfl | exact .inr rfl) (fy : X.fn y = true ∨ X.env.scope.names.lookup y = some .local := by first | exact .inl rfl | exact .inr rfl) (fz : X.fn z = true ∨ X.env.scope.names.lookup z = some .local := by first | exact .inl rfl | exact .inr rfl)
    (he1 : starEach [a, b, c] X.env = (false, eval a X.env) :: starEach [b, c] X.env := by rfl) (he2 : starEach [b, c] X.env = (false, eval b X.env) :: starEach [c] X.env := by rfl) (he3 : starEach [c] X.env = (false, eval c X.env) :: starEach [] X.env := by rfl)
    (g1 : (assignEach [.Name x px, .Name y py, .Name z pz] X.env).map (·.2) = assign (.Name x px) X.env :: (assignEach [.Name y py, .Name z pz] X.env).map (·.2) := by rfl) (g2 : (assignEach [.Name y py, .Name z pz] X.env).map (·.2) = assign (.Name y py) X.env :: (assignEach [.Name z pz] X.env).map (·.2) := by rfl) (g3 : (assignEach [.Name z pz] X.env).map (·.2) = assign (.Name z pz) X.env :: (assignEach [] X.env).map (·.2) := by rfl)
    (hn : (assignEach [.Name x px, .Name y py, .Name z pz] X.env).length = 3 := by rfl) (hst : (assignEach [.Name x px, .Name y py, .Name z pz] X.env).findIdx? (·.1) = none := by rfl)
    (hw : swappedStores [.Tuple [.Name x px, .Name y py, .Name z pz] kt pt] (.Tuple [a, b, c] k2 pt2) X.env = pure none := by rfl)
    (hs : swapsWithSole [.Tuple [.Name x px, .Name y py, .Name z pz] kt pt] (.Tuple [a, b, c] k2 pt2) pos.line X.env = pure false := by rfl)
    (h0 : (assignEach [.Tuple [.Name x px, .Name y py, .Name z pz] kt pt] X.env).map (·.2) = [assign (.Tuple [.Name x px, .Name y py, .Name z pz] kt pt) X.env] := by rfl) :
    DS X F own (aft m3 (aft m2 (aft m1 own i) j) l) oL W fr (.Assign [.Tuple [.Name x px, .Name y py, .Name z pz] kt pt] (.Tuple [a, b, c] k2 pt2) pos) (tAsg (tTup (tCons ta (tCons tb (tCons tc tNil)))) (gTup F.K 3 (gCons (gName i) (gCons (gName j) (gCons (gName l) gNil))))) (sPar3 i j l fa fb fc) :=
  ⟨ps_asg (pe_tup (pa_cons h1.pe (pa_cons h2.pe (pa_cons h3.pe pa_nil he3) he2) he1)) (A.K ▸ pg_tup A.calm (pgs_cons (pg_name nd hi hx fx) (pgs_cons (pg_name nd hj hy fy) (pgs_cons (pg_name nd hl hz fz) pgs_nil g3) g2) g1) hn hst) hs hw h0, ev_parT3 n1 n2 n3 h1.ev h2.ev h3.ev⟩
end
end DL
namespace DL
open PySem L2 PySem.Spec PyProof.Rows
/-- a tuple of the module's own -/
theorem txt_tup2 {K : PySem.W.Frag} {h : Heap} {mg : Str → Option Value} {x : Str} {a : Addr} {c1 : Value} {od : Option Addr} {osl : Array (Option Value)} {n : Nat} {u1 u2 : Value} {v1 v2 : V} {d1 d2 : D} (X : K.In h) (G : h.Ns mainGlobals mg) (r1 : RelV v1 u1) (r2 : RelV v2 u2) (z1 : ∀ (c : Cn) Z H, c.K = K → Fz c Z H v1 d1) (z2 : ∀ (c : Cn) Z H, c.K = K → Fz c Z H v2 d2)
    (e : PySem.W.nsIn K mainGlobals x = some (some (.ref a))) (l : K.lookup a = some ⟨.type "tuple", od, .seq #[u1, u2] n, osl⟩) : CstD K mg x (.tup [d1, d2]) := by
  refine ⟨.ref a, _, PySem.W.mg_of X G e, rfl, fun c Z H hc => .tup (vs := [v1, v2]) (.inr fun H' => .inr ⟨_, _, n, by rw [hc]; exact l, rfl, rfl, by show 2 ≤ sizeLine; decide, .cons r1 (.cons r2 .nil)⟩) rfl (by show 2 ≤ sizeLine; decide) fun i v d q1 q2 => ?_⟩
  match i, q1, q2 with
  | 0, q1, q2 => cases q1; cases q2; exact z1 c Z H hc
  | 1, q1, q2 => cases q1; cases q2; exact z2 c Z H hc
end DL

namespace DL
open PySem L2 PySem.Spec PyProof.Rows PySem.PyData

/-! ### repr of small data -/
def RpN (k n : Nat) (d : D) : Prop := ∃ x, toPyR d = some x ∧ x.showable = true ∧ x.hasDict = false ∧ x.depth ≤ k ∧ x.shown.length ≤ n
theorem RpN.mono {k k' n n' : Nat} {d : D} (h : RpN k n d) (hk : k ≤ k') (hn : n ≤ n') : RpN k' n' d := by
  obtain ⟨x, h1, h2, h3, h4, h5⟩ := h
  exact ⟨x, h1, h2, h3, Nat.le_trans h4 hk, Nat.le_trans h5 hn⟩
theorem rp_non {k : Nat} : RpN k 16 .non := ⟨_, rfl, rfl, rfl, Nat.zero_le _, by decide⟩
theorem rp_bl {k : Nat} (b : Bool) : RpN k 16 (.bl b) := ⟨_, rfl, rfl, rfl, Nat.zero_le _, by cases b <;> decide⟩
theorem rp_int {k : Nat} {i : Int} (h : i.natAbs < 10 ^ 12) : RpN k 16 (.int i) := by
  refine ⟨.int i, rfl, ?_, rfl, Nat.zero_le _, ?_⟩
  · show decide (i.natAbs.log2 < 1920) = true
    rw [decide_eq_true_eq]
    by_cases h0 : i.natAbs = 0
    · rw [h0]; decide
    · exact (Nat.log2_lt h0).mpr (Nat.lt_trans h (by decide))
  · show (Str.ofString (toString i)).length ≤ 16
    have := int_text_length_le10 (a := i) (k := 12) (by decide) h
    rw [PySem.ofString_length]
    omega
theorem rp_str {k m : Nat} {x : Str} (hl : x.length ≤ m) (hc : ∀ c ∈ x.cps.toList, c < 16 ^ 8) : RpN k (10 * m + 2) (.str x) :=
  ⟨.str x, rfl, rfl, rfl, Nat.zero_le _, Nat.le_trans (StrLaws.reprText_len x hc) (by omega)⟩
theorem rp_all {k n : Nat} : ∀ {ds : List D}, (∀ d ∈ ds, RpN k n d) → ∃ xs, toPyRs ds = some xs ∧ showableAll xs = true ∧ hasDictAll xs = false ∧ depthAll xs ≤ k ∧ ((shownAll xs).map (·.length)).sum ≤ ds.length * n ∧ (shownAll xs).length = ds.length
  | [], _ => ⟨[], rfl, rfl, rfl, Nat.zero_le _, by simp [shownAll], rfl⟩
  | d :: ds, h => by
    obtain ⟨x, a1, a2, a3, a4, a5⟩ := h d List.mem_cons_self
    obtain ⟨xs, b1, b2, b3, b4, b5, b6⟩ := rp_all fun e he => h e (List.mem_cons_of_mem _ he)
    refine ⟨x :: xs, ?_, ?_, ?_, Nat.max_le.mpr ⟨a4, b4⟩, ?_, ?_⟩
    · simp only [toPyRs]; rw [a1, b1]
    · simp only [showableAll, a2, b2, Bool.and_self]
    · simp only [hasDictAll, a3, b3, Bool.or_self]
    · simp only [shownAll, List.map_cons, List.sum_cons, List.length_cons, Nat.add_mul]; omega
    · simp only [shownAll, List.length_cons, b6]
theorem rp_lst {k n m : Nat} {ds : List D} (h : ∀ d ∈ ds, RpN k n d) (hm : ds.length ≤ m) : RpN (k + 1) (m * (n + 2) + 3) (.lst ds) := by
  obtain ⟨xs, b1, b2, b3, b4, b5, b6⟩ := rp_all h
  refine ⟨.list xs, ?_, b2, b3, Nat.succ_le_succ b4, ?_⟩
  · simp only [toPyR]; rw [b1]
  · refine Nat.le_trans (PySem.listText_len_le (shownAll xs)) ?_
    rw [b6]
    have h1 : ds.length * n ≤ m * n := Nat.mul_le_mul_right _ hm
    rw [Nat.mul_add]
    omega
theorem rp_tup {k n m : Nat} {ds : List D} (h : ∀ d ∈ ds, RpN k n d) (hm : ds.length ≤ m) : RpN (k + 1) (m * (n + 2) + 3) (.tup ds) := by
  obtain ⟨xs, b1, b2, b3, b4, b5, b6⟩ := rp_all h
  refine ⟨.tuple xs, ?_, b2, b3, Nat.succ_le_succ b4, ?_⟩
  · simp only [toPyR]; rw [b1]
  · refine Nat.le_trans (PySem.tupleText_len_le (shownAll xs)) ?_
    rw [b6]
    have h1 : ds.length * n ≤ m * n := Nat.mul_le_mul_right _ hm
    rw [Nat.mul_add]
    omega
theorem RpN.repr {k n : Nat} {d : D} (h : RpN k n d) (hk : k ≤ 64 := by decide) (hn : n ≤ 1000000 := by decide) : ∃ x, dRepr d = some (.str x) := by
  obtain ⟨x, h1, h2, h3, h4, h5⟩ := h
  refine ⟨x.shown, ?_⟩
  unfold dRepr
  rw [h1]
  dsimp only
  rw [if_pos]
  unfold reprOk
  rw [h2, h3, decide_eq_true (Nat.le_trans h4 hk), decide_eq_true (Nat.le_trans h5 (Nat.le_trans hn (by decide)))]
  rfl

/-! ### names -/
def lett : Str := "abcdefghijklmnopqrstuvwxyz"
def nmOk (x : Str) : Bool := decide (1 ≤ x.length) && decide (x.length ≤ 8) && x.cps.toList.all fun c => decide (c ∈ lett.cps.toList)
theorem nmOk_iff {x : Str} : nmOk x = true ↔ 1 ≤ x.length ∧ x.length ≤ 8 ∧ ∀ c ∈ x.cps.toList, c ∈ lett.cps.toList := by
  unfold nmOk
  simp only [Bool.and_eq_true, decide_eq_true_eq, List.all_eq_true, and_assoc]
theorem lett_lt : ∀ c ∈ lett.cps.toList, c < 123 := by decide +kernel
theorem nm_lt {x : Str} (h : nmOk x = true) : ∀ c ∈ x.cps.toList, c < 123 := fun c hc => lett_lt c ((nmOk_iff.mp h).2.2 c hc)
theorem strOk_of {x : Str} (h : ∀ c ∈ x.cps.toList, c < 123) : strOk x = true := by
  unfold strOk
  rw [Array.all_eq_true']
  intro c hc
  have := h c (by simpa using hc)
  simp only [decide_eq_true_eq]
  omega
theorem nm_ok {x : Str} (h : nmOk x = true) : strOk x = true := strOk_of (nm_lt h)
theorem nm_ne {x : Str} (h : nmOk x = true) : x ≠ "" := by
  rintro rfl
  have := (nmOk_iff.mp h).1
  cases (show (1 : Nat) ≤ 0 from this)
theorem nm_plain {n : Nat} {x : Str} (h : nmOk x = true) : PlainN n (.str x) := plain_str (nm_ok h)
theorem nm_rp {k : Nat} {x : Str} (h : nmOk x = true) : RpN k 82 (.str x) := rp_str (m := 8) (nmOk_iff.mp h).2.1 fun c hc => Nat.lt_trans (nm_lt h c hc) (by decide)

/-! ### pigeons -/
theorem nodup_sub_len {α : Type} [DecidableEq α] : ∀ {xs ys : List α}, xs.Nodup → (∀ x ∈ xs, x ∈ ys) → xs.length ≤ ys.length
  | [], _, _, _ => Nat.zero_le _
  | x :: xs, ys, h, hs => by
    rw [List.nodup_cons] at h
    have hx := hs x List.mem_cons_self
    have := nodup_sub_len (xs := xs) (ys := ys.erase x) h.2 fun y hy => (List.mem_erase_of_ne (fun e => h.1 (by subst e; exact hy))).mpr (hs y (List.mem_cons_of_mem _ hy))
    rw [List.length_erase_of_mem hx] at this
    have hp : 0 < ys.length := List.length_pos_of_mem hx
    simp only [List.length_cons]
    omega
theorem fresh_of {α : Type} [DecidableEq α] {xs ys : List α} (h : xs.Nodup) (hl : ys.length < xs.length) : ∃ x ∈ xs, x ∉ ys := by
  refine Classical.byContradiction fun hn => ?_
  have : ∀ x ∈ xs, x ∈ ys := fun x hx => Classical.byContradiction fun q => hn ⟨x, hx, q⟩
  have := nodup_sub_len h this
  omega

/-! ### signed lines, demands, offsets, problems -/
structure Sg where
  n : Str
  s : Int
deriving DecidableEq
def Sg.d (a : Sg) : D := .tup [.str a.n, .int a.s]
def org : Sg := ⟨"", 1⟩
def SgOk (xs : List Str) (a : Sg) : Prop := a = org ∨ (a.n ∈ xs ∧ (a.s = 1 ∨ a.s = -1))
def Sg.img (a : Sg) : Sg := if a = org then a else ⟨a.n, -a.s⟩
structure Dm where
  a : Sg
  b : Sg
  lo : Int
  hi : Int
deriving DecidableEq
def Dm.d (m : Dm) : D := .tup [m.a.d, m.b.d, .int m.lo, .int m.hi]
def DmOk (P : Int) (xs : List Str) (m : Dm) : Prop := SgOk xs m.a ∧ SgOk xs m.b ∧ m.a ≠ m.b ∧ m.lo ≤ m.hi ∧ m.hi < m.lo + P
def Dm.img (m : Dm) : Dm := ⟨m.b.img, m.a.img, m.lo, m.hi⟩
structure Crew (xs : List Str) : Prop where
  le : xs.length ≤ 8
  nd : xs.Nodup
  ok : ∀ x ∈ xs, nmOk x = true
  up : xs.Pairwise (fun a b => leS a b = true)
def namesD (xs : List Str) : D := .tup (xs.map .str)
theorem SgOk.str {xs : List Str} (hx : Crew xs) {a : Sg} (h : SgOk xs a) : strOk a.n = true := by
  rcases h with rfl | ⟨h, _⟩
  · decide +kernel
  · exact nm_ok (hx.ok _ h)
theorem SgOk.plain {n : Nat} {xs : List Str} (hx : Crew xs) {a : Sg} (h : SgOk xs a) : PlainN (n + 1) a.d := plain_tup fun d hd => by
  simp only [List.mem_cons, List.not_mem_nil, or_false] at hd
  rcases hd with rfl | rfl
  · exact plain_str (h.str hx)
  · exact plain_int _
theorem Sg.d_inj {a b : Sg} : a.d = b.d ↔ a = b := by
  cases a; cases b
  simp [Sg.d]
theorem Dm.d_inj {a b : Dm} : a.d = b.d ↔ a = b := by
  cases a; cases b
  simp only [Dm.d, D.tup.injEq, List.cons.injEq, Sg.d_inj, D.int.injEq, and_true, Dm.mk.injEq]
theorem SgOk.img {xs : List Str} {a : Sg} (h : SgOk xs a) : SgOk xs a.img := by
  unfold Sg.img
  split
  · exact h
  · rcases h with h | ⟨h1, h2⟩
    · exact absurd h (by assumption)
    · exact .inr ⟨h1, by dsimp only; omega⟩
theorem Sg.img_img {xs : List Str} (hx : Crew xs) {a : Sg} (h : SgOk xs a) : a.img.img = a := by
  unfold Sg.img
  by_cases e : a = org
  · rw [if_pos e, if_pos e]
  · rw [if_neg e]
    have : (⟨a.n, -a.s⟩ : Sg) ≠ org := fun q => by
      rcases h with h | ⟨h1, h2⟩
      · exact e h
      · exact nm_ne (hx.ok _ h1) (congrArg Sg.n q)
    rw [if_neg this, Int.neg_neg]
theorem Dm.img_img {xs : List Str} (hx : Crew xs) {P : Int} {m : Dm} (h : DmOk P xs m) : m.img.img = m := by
  unfold Dm.img
  rw [Sg.img_img hx h.1, Sg.img_img hx h.2.1]
theorem DmOk.img {xs : List Str} (hx : Crew xs) {P : Int} {m : Dm} (h : DmOk P xs m) : DmOk P xs m.img := by
  obtain ⟨h1, h2, h3, h4, h5⟩ := h
  refine ⟨h2.img, h1.img, fun e => h3 ?_, h4, h5⟩
  have := congrArg Sg.img (show m.b.img = m.a.img from e)
  rw [Sg.img_img hx h1, Sg.img_img hx h2] at this
  exact this.symm
theorem DmOk.plain {n : Nat} {xs : List Str} (hx : Crew xs) {P : Int} {m : Dm} (h : DmOk P xs m) : PlainN (n + 2) m.d := plain_tup fun d hd => by
  simp only [List.mem_cons, List.not_mem_nil, or_false] at hd
  rcases hd with rfl | rfl | rfl | rfl
  · exact h.1.plain hx
  · exact h.2.1.plain hx
  · exact plain_int _
  · exact plain_int _
theorem SgOk.rp {k : Nat} {xs : List Str} (hx : Crew xs) {a : Sg} (h : SgOk xs a) : RpN (k + 1) 200 a.d := by
  refine (rp_tup (ds := [.str a.n, .int a.s]) (n := 82) (m := 2) (fun d hd => ?_) (Nat.le_refl 2)).mono (Nat.le_refl _) (by decide)
  simp only [List.mem_cons, List.not_mem_nil, or_false] at hd
  rcases h with rfl | ⟨h1, h2⟩
  · rcases hd with rfl | rfl
    · exact (rp_str (m := 0) (x := org.n) (by decide) (by decide +kernel)).mono (Nat.le_refl _) (by decide)
    · exact (rp_int (i := org.s) (by decide)).mono (Nat.le_refl _) (by decide)
  · rcases hd with rfl | rfl
    · exact nm_rp (hx.ok _ h1)
    · refine (rp_int (i := a.s) ?_).mono (Nat.le_refl _) (by decide)
      rcases h2 with h2 | h2 <;> rw [h2] <;> decide
theorem DmOk.rp {k : Nat} {xs : List Str} (hx : Crew xs) {P : Int} {m : Dm} (h : DmOk P xs m) (h1 : m.lo.natAbs < 10 ^ 12) (h2 : m.hi.natAbs < 10 ^ 12) : RpN (k + 2) 1000 m.d := by
  refine (rp_tup (ds := [m.a.d, m.b.d, .int m.lo, .int m.hi]) (n := 200) (m := 4) (fun d hd => ?_) (Nat.le_refl 4)).mono (Nat.le_refl _) (by decide)
  simp only [List.mem_cons, List.not_mem_nil, or_false] at hd
  rcases hd with rfl | rfl | rfl | rfl
  · exact h.1.rp hx
  · exact h.2.1.rp hx
  · exact (rp_int h1).mono (Nat.le_refl _) (by decide)
  · exact (rp_int h2).mono (Nat.le_refl _) (by decide)
/-! offsets -/
def offD (os : List (Str × Int)) : D := .dic (os.map fun p => (.inr p.1, .int p.2))
def look (os : List (Str × Int)) (x : Str) : Int := ((os.find? fun p => decide (p.1 = x)).map (·.2)).getD 0
structure OffOk (P : Int) (xs : List Str) (os : List (Str × Int)) : Prop where
  pm : (os.map (·.1)).Perm xs
  rg : ∀ p ∈ os, 0 ≤ p.2 ∧ p.2 < P
theorem off_find (os : List (Str × Int)) (x : Str) : ((os.map fun p => ((.inr p.1 : Key), D.int p.2)).find? fun kv => decide (kv.1 = .inr x)) = (os.find? fun p => decide (p.1 = x)).map fun p => (.inr p.1, .int p.2) := by
  induction os with
  | nil => rfl
  | cons p os ih =>
    rw [List.map_cons, List.find?_cons, List.find?_cons, ih]
    by_cases h : p.1 = x
    · simp [h]
    · have h2 : ¬ ((Sum.inr p.1 : Key) = Sum.inr x) := fun e => h (Sum.inr.inj e)
      simp only [decide_eq_false h, decide_eq_false h2]
theorem find_mem {os : List (Str × Int)} {x : Str} (h : x ∈ os.map (·.1)) : ∃ p ∈ os, (os.find? fun p => decide (p.1 = x)) = some p ∧ p.1 = x := by
  cases e : os.find? fun p => decide (p.1 = x) with
  | none =>
    obtain ⟨p, hp, rfl⟩ := List.mem_map.mp h
    have := List.find?_eq_none.mp e p hp
    simp at this
  | some p =>
    have h1 := List.find?_some e
    exact ⟨p, List.mem_of_find?_eq_some e, rfl, by simpa using h1⟩
theorem off_get {os : List (Str × Int)} {x : Str} (h : x ∈ os.map (·.1)) : dSubs (offD os) (.str x) = some (.int (look os x)) := by
  show (((os.map fun p => ((.inr p.1 : Key), D.int p.2)).find? fun kv => decide (kv.1 = .inr x)).map (·.2)) = _
  obtain ⟨p, hp, e, _⟩ := find_mem h
  rw [off_find, e]
  unfold look
  rw [e]
  rfl
theorem off_in {os : List (Str × Int)} {x : Str} (h : x ∈ os.map (·.1)) : dInB (.str x) (offD os) = some true := by
  show some (((os.map fun p => ((.inr p.1 : Key), D.int p.2)).find? fun kv => decide (kv.1 = .inr x)).isSome) = _
  obtain ⟨p, hp, e, _⟩ := find_mem h
  rw [off_find, e]
  rfl
theorem OffOk.look {P : Int} {xs : List Str} {os : List (Str × Int)} (h : OffOk P xs os) {x : Str} (hx : x ∈ xs) : 0 ≤ DL.look os x ∧ DL.look os x < P := by
  obtain ⟨p, hp, e, _⟩ := find_mem (h.pm.mem_iff.mpr hx)
  unfold DL.look
  rw [e]
  exact h.rg p hp
def valS (os : List (Str × Int)) (a : Sg) : Int := if a = org then 0 else a.s * look os a.n
def heldB (P : Int) (os : List (Str × Int)) (m : Dm) : Bool := decide ((valS os m.b - valS os m.a - m.lo) % P ≤ m.hi - m.lo)
def brk (P : Int) (os : List (Str × Int)) (ms : List Dm) : List D := (ms.zipIdx.filter fun p => !heldB P os p.1).map fun p => D.int (p.2 : Nat)
theorem val_img {xs : List Str} (hx : Crew xs) {os : List (Str × Int)} {a : Sg} (h : SgOk xs a) : valS os a.img = - valS os a := by
  unfold valS Sg.img
  by_cases e : a = org
  · rw [if_pos e, if_pos e]; rfl
  · rw [if_neg e]
    have : (⟨a.n, -a.s⟩ : Sg) ≠ org := fun q => by
      rcases h with h | ⟨h1, h2⟩
      · exact e h
      · exact nm_ne (hx.ok _ h1) (congrArg Sg.n q)
    rw [if_neg this, if_neg e, Int.neg_mul]
theorem held_img {P : Int} {xs : List Str} (hx : Crew xs) {os : List (Str × Int)} {m : Dm} (h : DmOk P xs m) : heldB P os m.img = heldB P os m := by
  unfold heldB Dm.img
  dsimp only
  rw [val_img hx h.1, val_img hx h.2.1]
  congr 3
  omega
def probD (P : Int) (xs : List Str) (ms : List Dm) : D := .obj "Problem" [("p_period", .int P), ("p_lines", namesD xs), ("p_demands", .tup (ms.map Dm.d))]
/-- an integer of the span, one by one -/
theorem held_span {P g lo hi : Int} (hP : 0 < P) : (g - lo) % P ≤ hi - lo ↔ ∃ k, lo ≤ k ∧ k ≤ hi ∧ (g - k) % P = 0 := by
  constructor
  · intro h
    refine ⟨lo + (g - lo) % P, ?_, by omega, ?_⟩
    · have := Int.emod_nonneg (g - lo) (show P ≠ 0 by omega); omega
    · rw [show g - (lo + (g - lo) % P) = (g - lo) - (g - lo) % P by omega]
      exact Int.emod_eq_zero_of_dvd (Int.dvd_self_sub_emod)
  · rintro ⟨k, h1, h2, h3⟩
    have : (g - lo) % P = (k - lo) % P := by
      rw [show g - lo = (g - k) + (k - lo) by omega, Int.add_emod, h3, Int.zero_add, Int.emod_emod_of_dvd _ (Int.dvd_refl P)]
    rw [this]
    have h4 : (k - lo) % P ≤ k - lo := by
      have h5 := Int.mul_ediv_add_emod (k - lo) P
      have h6 : 0 ≤ (k - lo) / P := Int.ediv_nonneg (by omega) (by omega)
      have h7 : 0 ≤ P * ((k - lo) / P) := Int.mul_nonneg (by omega) h6
      omega
    omega
theorem sat_pure {A : Type} {m : M Unit A} {x : A} (h : Sat m fun a => a = x) : m = ret x := by
  funext s
  obtain ⟨a, s', e, rfl⟩ := h s
  exact e
end DL

namespace DL
open PySem L2 PySem.Spec PyProof.Rows
/-! ### mirrors at an environment -/
section
variable {S : Type}
theorem sSeq_ap (f g : Env → M S (Fl × Env)) (ρ : Env) : (sSeq f g ρ : M S (Fl × Env)) = (bnd (f ρ) fun x => match x.1 with
  | .nx => g x.2
  | _ => ret x) := rfl
theorem sIf_ap (f : Env → M S Bool) (g h : Env → M S (Fl × Env)) (ρ : Env) : (sIf f g h ρ : M S (Fl × Env)) = (bnd (f ρ) fun b => if b = true then g ρ else h ρ) := rfl
theorem sSet_ap (i : Nat) (fe : Env → M S D) (ρ : Env) : (sSet i fe ρ : M S (Fl × Env)) = (bnd (fe ρ) fun d => ret (.nx, ρ.set i (some d))) := rfl
theorem sRet_ap (fe : Env → M S D) (ρ : Env) : (sRet fe ρ : M S (Fl × Env)) = (bnd (fe ρ) fun d => ret (.rt d, ρ)) := rfl
theorem sNx_ap  (ρ : Env) : (sNx  ρ : M S (Fl × Env)) = (ret (.nx, ρ)) := rfl
theorem sRetN_ap  (ρ : Env) : (sRetN  ρ : M S (Fl × Env)) = (ret (.rt .non, ρ)) := rfl
theorem sBk_ap  (ρ : Env) : (sBk  ρ : M S (Fl × Env)) = (ret (.bk, ρ)) := rfl
theorem sCt_ap  (ρ : Env) : (sCt  ρ : M S (Fl × Env)) = (ret (.ct, ρ)) := rfl
theorem sExp_ap (fe : Env → M S D) (ρ : Env) : (sExp fe ρ : M S (Fl × Env)) = (bnd (fe ρ) fun _ => ret (.nx, ρ)) := rfl
theorem sAsg_ap (fe : Env → M S D) (g : D → Env → Option Env) (ρ : Env) : (sAsg fe g ρ : M S (Fl × Env)) = (bnd (fe ρ) fun d => match g d ρ with
  | some ρ' => ret (.nx, ρ')
  | none => stk) := rfl
theorem sPar_ap (i j : Nat) (fa fb : Env → M S D) (ρ : Env) : (sPar i j fa fb ρ : M S (Fl × Env)) = (bnd (fa ρ) fun x => bnd (fb ρ) fun y => ret (.nx, (ρ.set i (some x)).set j (some y))) := rfl
theorem sPar3_ap (i j l : Nat) (fa fb fc : Env → M S D) (ρ : Env) : (sPar3 i j l fa fb fc ρ : M S (Fl × Env)) = (bnd (fa ρ) fun x => bnd (fb ρ) fun y => bnd (fc ρ) fun z => ret (.nx, ((ρ.set i (some x)).set j (some y)).set l (some z))) := rfl
theorem sApp_ap (i : Nat) (fx : Env → M S (D × Env)) (ρ : Env) : (sApp i fx ρ : M S (Fl × Env)) = (match slL ρ i with
  | none => stk
  | some _ => bnd (fx ρ) fun x => match slL x.2 i with
    | none => stk
    | some ds => if ds.length < sizeLine then ret (.nx, x.2.set i (some (.lst (ds ++ [x.1])))) else stk) := rfl
theorem sSetX_ap (i : Nat) (fx : Env → M S (D × Env)) (ρ : Env) : (sSetX i fx ρ : M S (Fl × Env)) = (bnd (fx ρ) fun x => ret (.nx, x.2.set i (some x.1))) := rfl
theorem sExpX_ap (fx : Env → M S (D × Env)) (ρ : Env) : (sExpX fx ρ : M S (Fl × Env)) = (bnd (fx ρ) fun x => ret (.nx, x.2)) := rfl
theorem sIxs_ap (i : Nat) (fe fi : Env → M S D) (ρ : Env) : (sIxs i fe fi ρ : M S (Fl × Env)) = (bnd (fe ρ) fun x => match slL ρ i with
  | none => stk
  | some ds => bnd (fi ρ) fun y => match asI y with
    | none => stk
    | some n => match ixN ds.length n with
      | none => stk
      | some q => ret (.nx, ρ.set i (some (.lst (ds.set q x))))) := rfl
theorem sSt_ap (i : Nat) (fe fi : Env → M S D) (ρ : Env) : (sSt i fe fi ρ : M S (Fl × Env)) = (bnd (fe ρ) fun x => match slot ρ i with
  | some c => bnd (fi ρ) fun y => match putAt x y c with
    | some c' => ret (.nx, ρ.set i (some c'))
    | none => stk
  | none => stk) := rfl
theorem sFl_ap (cls f : Str) (i : Nat) (fe : Env → M S D) (ρ : Env) : (sFl cls f i fe ρ : M S (Fl × Env)) = (bnd (fe ρ) fun x => match slot ρ i with
  | none => stk
  | some c => match stFld cls f x c with
    | some c' => ret (.nx, ρ.set i (some c'))
    | none => stk) := rfl
theorem sStk_ap  (ρ : Env) : (sStk  ρ : M S (Fl × Env)) = (stk) := rfl
theorem sWh_ap (c : Env → M S Bool) (body : Env → M S (Fl × Env)) (ρ : Env) : (sWh c body ρ : M S (Fl × Env)) = (whF c body fuel ρ) := rfl
theorem sFor_ap (fi : Env → M S (List D)) (asg : D → Env → Option Env) (body : Env → M S (Fl × Env)) (ρ : Env) : (sFor fi asg body ρ : M S (Fl × Env)) = (bnd (fi ρ) fun ds => forF asg body ds ρ) := rfl
theorem mLst_ap (f : Env → M S (List D)) (ρ : Env) : (mLst f ρ : M S D) = (bnd (f ρ) fun ds => ret (.lst ds)) := rfl
theorem mTup_ap (f : Env → M S (List D)) (ρ : Env) : (mTup f ρ : M S D) = (bnd (f ρ) fun ds => ret (.tup ds)) := rfl
theorem mDnew_ap  (ρ : Env) : (mDnew  ρ : M S D) = (ret (.dic [])) := rfl
theorem mDisp_ap (f : Env → M S (List (Key × D))) (ρ : Env) : (mDisp f ρ : M S D) = (bnd (f ρ) fun ds => ret (.dic (mergeD [] ds))) := rfl
theorem ppCons_ap (fa fb : Env → M S D) (fr : Env → M S (List (Key × D))) (ρ : Env) : (ppCons fa fb fr ρ : M S (List (Key × D))) = (bnd (fa ρ) fun x => match asK x with
  | none => stk
  | some kk => bnd (fb ρ) fun y => bnd (fr ρ) fun r => ret ((kk, y) :: r)) := rfl
theorem ppNil_ap  (ρ : Env) : (ppNil  ρ : M S (List (Key × D))) = (ret []) := rfl
theorem o1_ap (g : D → Option D) (fa : Env → M S D) (ρ : Env) : (o1 g fa ρ : M S D) = (bnd (fa ρ) fun x => lft (g x)) := rfl
theorem o2_ap (g : D → D → Option D) (fa fb : Env → M S D) (ρ : Env) : (o2 g fa fb ρ : M S D) = (bnd (fa ρ) fun x => bnd (fb ρ) fun y => lft (g x y)) := rfl
theorem vr_ap (i : Nat) (ρ : Env) : (vr i ρ : M S D) = (match ρ[i]? with
  | some (some d) => ret d
  | _ => stk) := rfl
theorem cst_ap (d : D) (ρ : Env) : (cst d ρ : M S D) = (ret d) := rfl
theorem mCal_ap (f : Env → M S (List D)) (mm : List D → M S D) (ρ : Env) : (mCal f mm ρ : M S D) = (bnd (f ρ) mm) := rfl
theorem mCalP_ap (f : Env → M S (List D)) (mm : List D → M Unit D) (ρ : Env) : (mCalP f mm ρ : M S D) = (bnd (f ρ) fun ds => pur (mm ds)) := rfl
theorem mCalKP_ap (pm : List Nat) (f : Env → M S (List D)) (mm : List D → M Unit D) (ρ : Env) : (mCalKP pm f mm ρ : M S D) = (bnd (f ρ) fun ds => pur (mm (pick pm ds))) := rfl
theorem aCons_ap (fa : Env → M S D) (fr : Env → M S (List D)) (ρ : Env) : (aCons fa fr ρ : M S (List D)) = (bnd (fa ρ) fun x => bnd (fr ρ) fun xs => ret (x :: xs)) := rfl
theorem aNil_ap  (ρ : Env) : (aNil  ρ : M S (List D)) = (ret []) := rfl
theorem anV_ap (fa fb : Env → M S D) (ρ : Env) : (anV fa fb ρ : M S D) = (bnd (fa ρ) fun x => match dTru x with
  | some true => fb ρ
  | some false => ret x
  | none => stk) := rfl
theorem orV_ap (fa fb : Env → M S D) (ρ : Env) : (orV fa fb ρ : M S D) = (bnd (fa ρ) fun x => match dTru x with
  | some true => ret x
  | some false => fb ρ
  | none => stk) := rfl
theorem ntV_ap (fa : Env → M S D) (ρ : Env) : (ntV fa ρ : M S D) = (bnd (fa ρ) fun x => match dTru x with
  | some b => ret (.bl (!b))
  | none => stk) := rfl
theorem tsb_ap (f : Env → M S D) (ρ : Env) : (tsb f ρ : M S Bool) = (bnd (f ρ) fun x => lft (asB x)) := rfl
theorem tru_ap (f : Env → M S D) (ρ : Env) : (tru f ρ : M S Bool) = (bnd (f ρ) fun x => lft (dTru x)) := rfl
theorem nt_ap (f : Env → M S Bool) (ρ : Env) : (nt f ρ : M S Bool) = (bnd (f ρ) fun b => ret (!b)) := rfl
theorem an_ap (f g : Env → M S Bool) (ρ : Env) : (an f g ρ : M S Bool) = (bnd (f ρ) fun b => if b = true then g ρ else ret false) := rfl
theorem orr_ap (f g : Env → M S Bool) (ρ : Env) : (orr f g ρ : M S Bool) = (bnd (f ρ) fun b => if b = true then ret true else g ρ) := rfl
theorem ife_ap (f : Env → M S Bool) (fa fb : Env → M S D) (ρ : Env) : (ife f fa fb ρ : M S D) = (bnd (f ρ) fun b => if b = true then fa ρ else fb ρ) := rfl
theorem chn_ap (g g' : D → D → Option D) (fa fb fc : Env → M S D) (ρ : Env) : (chn g g' fa fb fc ρ : M S D) = (bnd (fa ρ) fun x => bnd (fb ρ) fun y => match (g x y).bind asB with
  | some true => bnd (fc ρ) fun z => lft (g' y z)
  | some false => ret (.bl false)
  | none => stk) := rfl
theorem joi_ap (fa fe : Env → M S D) (ρ : Env) : (joi fa fe ρ : M S D) = (bnd (fa ρ) fun x => match asS x with
  | some a => bnd (fe ρ) fun y => lft (dJoin (.str a) y)
  | none => stk) := rfl
theorem slc_ap (g : D → Option Int → Option Int → Option D) (fe : Env → M S D) (fl fh : Env → M S (Option Int)) (ρ : Env) : (slc g fe fl fh ρ : M S D) = (bnd (fe ρ) fun x => bnd (fl ρ) fun l => bnd (fh ρ) fun h => lft (g x l h)) := rfl
theorem pNone_ap  (ρ : Env) : (pNone  ρ : M S (Option Int)) = (ret none) := rfl
theorem pSome_ap (fe : Env → M S D) (ρ : Env) : (pSome fe ρ : M S (Option Int)) = (bnd (fe ρ) fun x => match asI x with
  | some i => ret (some i)
  | none => stk) := rfl
theorem xOf_ap (fe : Env → M S D) (ρ : Env) : (xOf fe ρ : M S (D × Env)) = (bnd (fe ρ) fun d => ret (d, ρ)) := rfl
theorem xPop_ap (j : Nat) (fe : Env → M S D) (ρ : Env) : (xPop j fe ρ : M S (D × Env)) = (match slL ρ j with
  | none => stk
  | some ds => bnd (fe ρ) fun x => match asI x with
    | none => stk
    | some n => match ixN ds.length n with
      | none => stk
      | some q => match ds[q]? with
        | none => stk
        | some y => ret (y, ρ.set j (some (.lst (ds.eraseIdx q))))) := rfl
theorem iSeq_ap (fe : Env → M S D) (ρ : Env) : (iSeq fe ρ : M S (List D)) = (bnd (fe ρ) fun x => match x with
  | .lst ds => ret ds
  | .tup ds => ret ds
  | .str x => ret (x.cps.toList.map fun c => .str ⟨#[c]⟩)
  | _ => stk) := rfl
theorem iRg1_ap (fe : Env → M S D) (ρ : Env) : (iRg1 fe ρ : M S (List D)) = (bnd (fe ρ) fun x => match asI x with
  | some n => if -(2 ^ 62) ≤ n ∧ n < 2 ^ 62 then ret (rng 0 n) else stk
  | none => stk) := rfl
theorem iRg2_ap (fa fb : Env → M S D) (ρ : Env) : (iRg2 fa fb ρ : M S (List D)) = (bnd (fa ρ) fun x => bnd (fb ρ) fun y => match asI x, asI y with
  | some i, some j => if -(2 ^ 62) ≤ i ∧ i < 2 ^ 62 ∧ -(2 ^ 62) ≤ j ∧ j < 2 ^ 62 then ret (rng i j) else stk
  | _, _ => stk) := rfl
theorem iEnum2_ap (fe : Env → M S D) (ρ : Env) : (iEnum2 fe ρ : M S (List D)) = (bnd (fe ρ) fun x => match x with
  | .lst ds => ret (ds.mapIdx fun i d => .tup [.int (i : Nat), d])
  | .tup ds => ret (ds.mapIdx fun i d => .tup [.int (i : Nat), d])
  | _ => stk) := rfl
theorem iZip_ap (fa fb : Env → M S D) (ρ : Env) : (iZip fa fb ρ : M S (List D)) = (bnd (fa ρ) fun x => bnd (fb ρ) fun y => match x, y with
  | .lst xs, .lst ys => ret ((xs.zip ys).map fun z => .tup [z.1, z.2])
  | .tup xs, .tup ys => ret ((xs.zip ys).map fun z => .tup [z.1, z.2])
  | _, _ => stk) := rfl
theorem mMk_ap (f : Env → M S (List D)) (mm : List D → M Unit D) (ρ : Env) : (mMk f mm ρ : M S D) = (bnd (f ρ) fun ds => bnd (pur (mm ds)) fun d => match d with
  | .slf x des => ret (.obj x des)
  | _ => stk) := rfl
theorem mStk_ap  (ρ : Env) : (mStk  ρ : M S D) = (stk) := rfl
theorem yes_ap  (ρ : Env) : (yes  ρ : M S Bool) = (ret true) := rfl
theorem gSet_ap (i : Nat) (d : D) (ρ : Env) : gSet i d ρ = some (ρ.set i (some d)) := rfl
theorem gTupD_ap (n : Nat) (gs : List D → Env → Option Env) (d : D) (ρ : Env) : gTupD n gs d ρ = (match asT d with
  | some ds => if ds.length = n then gs ds ρ else none
  | none => none) := rfl
theorem gsNil_ap (ρ : Env) : gsNil [] ρ = some ρ := rfl
theorem gsCons_ap (g : D → Env → Option Env) (gs : List D → Env → Option Env) (d : D) (ds : List D) (ρ : Env) : gsCons g gs (d :: ds) ρ = (match g d ρ with
  | some ρ1 => gs ds ρ1
  | none => none) := by
  unfold gsCons
  rfl
theorem mCmp_ap (fi : Env → M S (List D)) (asg : D → Env → Option Env) (tst : Env → M S Bool) (fe : Env → M S D) (vs : List Nat) (ρ : Env) : mCmp fi asg tst fe vs ρ = bnd (fi ρ) fun ds => if ds.length ≤ sizeLine then bnd (nox (cmpF asg tst fe (wipeD ρ vs) ds)) fun ys => ret (.lst ys) else stk := rfl
theorem mDc_ap (fi : Env → M S (List D)) (asg : D → Env → Option Env) (tst : Env → M S Bool) (fk fe : Env → M S D) (vs : List Nat) (ρ : Env) : mDc fi asg tst fk fe vs ρ = bnd (fi ρ) fun ds => if ds.length ≤ sizeLine then bnd (nox (dcF asg tst fk fe (wipeD ρ vs) ds [])) fun ys => ret (.dic ys) else stk := rfl
theorem atI_0 {α : Type} (a : α) (r : List α) : atI (a :: r) 0 = some a := by
  unfold atI ixN
  rw [if_pos (by decide), if_pos (by simp only [List.length_cons]; omega)]
  rfl
theorem atI_1 {α : Type} (a b : α) (r : List α) : atI (a :: b :: r) 1 = some b := by
  unfold atI ixN
  rw [if_pos (by decide), if_pos (by simp only [List.length_cons]; omega)]
  rfl
theorem atI_2 {α : Type} (a b c : α) (r : List α) : atI (a :: b :: c :: r) 2 = some c := by
  unfold atI ixN
  rw [if_pos (by decide), if_pos (by simp only [List.length_cons]; omega)]
  rfl
theorem atI_3 {α : Type} (a b c d : α) (r : List α) : atI (a :: b :: c :: d :: r) 3 = some d := by
  unfold atI ixN
  rw [if_pos (by decide), if_pos (by simp only [List.length_cons]; omega)]
  rfl
theorem subsT (ds : List D) (i : Int) : dSubs (.tup ds) (.int i) = atI ds i := rfl
theorem subsL (ds : List D) (i : Int) : dSubs (.lst ds) (.int i) = atI ds i := rfl
theorem isi_str (x : Str) : dIsi (.str x) (.ty "str") = some (.bl true) := rfl
theorem isi_tup (x : List D) : dIsi (.tup x) (.ty "tuple") = some (.bl true) := rfl
theorem isi_dic (x : List (Key × D)) : dIsi (.dic x) (.ty "dict") = some (.bl true) := rfl
theorem isi_int (x : Int) : dIsi (.int x) (.ty "int") = some (.bl true) := rfl
theorem isi_intb (x : Int) : dIsi (.int x) (.ty "bool") = some (.bl false) := rfl
theorem isi_lst2 (x : List D) : dIsi (.lst x) (.tup [.ty "list", .ty "tuple"]) = some (.bl true) := rfl
theorem isi_tup2 (x : List D) : dIsi (.tup x) (.tup [.ty "list", .ty "tuple"]) = some (.bl true) := rfl
theorem dList_l (ds : List D) : dList (.lst ds) = some (.lst ds) := rfl
theorem dList_t (ds : List D) : dList (.tup ds) = some (.lst ds) := rfl
theorem dTuple_l (ds : List D) : dTuple (.lst ds) = some (.tup ds) := rfl
theorem dTuple_t (ds : List D) : dTuple (.tup ds) = some (.tup ds) := rfl
theorem dLen_l (ds : List D) : dLen (.lst ds) = some (.int ds.length) := rfl
theorem dLen_t (ds : List D) : dLen (.tup ds) = some (.int ds.length) := rfl
theorem dLen_d (ds : List (Key × D)) : dLen (.dic ds) = some (.int ds.length) := rfl
theorem dLen_s (ns : List Int) : dLen (.scr ns) = some (.int ns.length) := rfl
theorem dAdd_i (i j : Int) : dAdd (.int i) (.int j) = some (.int (i + j)) := rfl
theorem dNe_int (i j : Int) : dNe (.int i) (.int j) = some (.bl (!decide (i = j))) := by
  have : (i == j) = decide (i = j) := by rw [Bool.eq_iff_iff]; simp
  exact congrArg (fun b => some (D.bl !b)) this
theorem dMod_pos {i j : Int} (h : 0 < j) : dMod (.int i) (.int j) = some (.int (i % j)) := if_pos h
theorem dMul_sm {i j : Int} (h : i.natAbs < 1000000) : dMulS (.int i) (.int j) = some (.int (i * j)) := by
  show (if okMul i j = true then some (D.int (i * j)) else none) = _
  rw [if_pos]
  unfold okMul
  rw [decide_eq_true_eq]
  exact .inl ⟨by omega, by omega⟩
theorem forF_nil (asg : D → Env → Option Env) (body : Env → M S (Fl × Env)) (ρ : Env) : forF asg body [] ρ = ret (.nx, ρ) := rfl
theorem if_tt {α : Type} (a b : α) : (if (true : Bool) = true then a else b) = a := rfl
theorem if_ff {α : Type} (a b : α) : (if (false : Bool) = true then a else b) = b := rfl

end
end DL

namespace DL
open PySem L2 PySem.Spec PyProof.Rows

/-! ### methods of frozen instances, static methods -/
/-- a class whose attributes are read as usual -/
structure ClsRd (K : PySem.W.Frag) (C : Addr) (mc : Value) : Prop where
  rd : PySem.W.readsIn K C mc = true
  ga : PySem.W.specialIn K (.ref C) "__getattribute__" = some (some (.builtin "type.__getattribute__"))
/-- a method of a class, by its mirror -/
structure CalM (P : Program) (w : World) (K : PySem.W.Frag) (mg : Str → Option Value) (base : Heap) (cls m : Str) (st : Stmt) (ps : List Str) (k : Nat) (sp : Sp) : Prop where
  ex : ∃ C f fd qual, mg cls = some (.ref C) ∧ Cls K C ∧ Meth K C m f ∧ Fun K m qual st f fd ∧ FnG P w K mg base k f fd ps sp
  bd : ∀ (qual : Str) (kV doc pm : Value) (an : Option Addr) (cdv ct : Value) (us : List Value), us.length = ps.length → bindArgs (PySem.W.fnOf m qual (defArgs st) (defBody st) (defScope st) .none kV doc pm an cdv ct) ⟨us, []⟩ = pure (ps.zip us)
/-- a static method of a class -/
structure CalS (P : Program) (w : World) (K : PySem.W.Frag) (mg : Str → Option Value) (base : Heap) (cls m : Str) (st : Stmt) (ps : List Str) (k : Nat) (sp : Sp) : Prop where
  ex : ∃ C mc p f fd qual rest, mg cls = some (.ref C) ∧ ClsRd K C mc ∧ PySem.W.findCls K (.ref C) mc m = some (.get (.builtin "staticmethod.__get__") (.ref p) .none (.ref C)) ∧ PySem.W.recIn K p "staticmethod" = some (.ref f :: rest) ∧ Fun K m qual st f fd ∧ FnG P w K mg base k f fd ps sp
  bd : ∀ (qual : Str) (kV doc pm : Value) (an : Option Addr) (cdv ct : Value) (us : List Value), us.length = ps.length → bindArgs (PySem.W.fnOf m qual (defArgs st) (defBody st) (defScope st) .none kV doc pm an cdv ct) ⟨us, []⟩ = pure (ps.zip us)
section
variable {S : Type} {X : Cx} {F : Fc S} {Z Z' Z1 Z2 : Addr → Prop} {H H' H1 H2 : Hp} {σ σ' : L2.St} {ρ : Env} {own own1 own2 own' oL : List Nat} {s s' : S} {p : Addr} {o : HO} {v : V} {d : D} {m m' m1 m2 m3 : Mo} {W : WX} {Q : VK} {k : Nat} {fr : Bool} {D0 : Ends}
variable {a b c e oe : Expr} {ta tb tc te : TE} {fa fb fc fe : Env → M S D} {pos pos' ppos apos : Pos} {es : List Expr} {t : TA} {f : Env → M S (List D)} {cls nm : Str} {sp : Sp} {st : Stmt} {ps : List Str} {j : Nat} {pl : Sem Bool}
def tMet (mg : Str → Option Value) (cls nm : Str) (sp : Sp) (W : WX) (ta : TE) (t : TA) : TE := fun σ H Q => ta σ H fun x H1 => ∃ a C dx fs, x = .ref a ∧ mg cls = some (.ref C) ∧ H1 a = some (.ins C dx fs) ∧ fs.lookup nm = none ∧
  t σ H1 fun vs H2 => sp (.ref a :: vs) H2 Q (WE W σ)
theorem fn_ends (A : Amb X F k) (tk : Takes X W) {fa : Addr} {fd : FuncData} (G : FnG X.prog X.w X.K X.mg X.base j fa fd ps sp) (hj : j ≤ k) {pins : List (Addr × Obj)} {s1 : Shared} {H1 : Hp} {ap : List Value} {kw : List (Str × Value)} {us : List Value} {vs : List V}
    (I1 : Inv X pins σ H1 s1) (b : BindsTo s1 fd ⟨ap, kw⟩ (ps.zip us)) (r : Vals vs us) (q : sp vs H1 Q (WE W σ)) : wpAny (model X.prog X.w) X.A (call (.ref fa) ap kw) (EP X pins σ Q) X.xe s1 := by
  refine wpAny_call (codeAny_mono (G.run X.A X.stack s1 H1 ⟨ap, kw⟩ us vs Q (WE W σ) A.gd (A.rm.mono hj) I1.env0 b r q) ?_)
  intro r s' hq
  cases r with
  | error y => exact passAt tk σ pins H1 s1 y s' I1 hq
  | ok fl =>
    cases fl with
    | ret u => exact I1.after hq
    | next => exact hq.elim
    | brk => exact hq.elim
    | cont => exact hq.elim
theorem pe_methG (A : Amb X F k) (tk : Takes X W) (T : CalM X.prog X.w X.K X.mg X.base cls nm st ps j sp) (hj : j ≤ k) (he : PE X oe ta) (ha : PA X (e :: es) t)
    (hst : starEach (e :: es) X.env = (false, eval e X.env) :: starEach es X.env := by rfl) (hpl : (backTo pos (starEach es X.env)).any (·.1) = false := by rfl)
    (ht : eval (.Call (.Attribute oe nm apos) (e :: es) [] pos) X.env = (do
      let ov ← eval oe X.env
      standAt apos.atName
      let (f, first) ← holding [ov] (getMethod ov nm pl)
      callWith pos f first (backTo pos (starEach (e :: es) X.env)) (backToKw pos (keywordEach [] X.env))) := by rfl) :
    PE X (.Call (.Attribute oe nm apos) (e :: es) [] pos) (tMet X.mg cls nm sp W ta t) := by
  obtain ⟨C, g, fd, qual, hmg, hC, hM, Fn, G⟩ := T.ex
  refine ⟨fun pins s σ H Q I h => ?_⟩
  refine PySem.W.methodCall_KW (pl := pl) (thn (he.run pins s σ H _ I h) fun u s1 ⟨x, H1, I1, rx, a, C', dx, fs, ex, hm', ea, l, q⟩ => ?_) ht
  rw [hmg] at hm'
  cases hm'
  subst ex
  obtain rfl : u = Value.ref a := rx
  refine getmeth_ok I1 ea hC hM l ?_
  refine PySem.W.callWith_K (first := [.ref a]) (h₀ := X.base) I.ok.mod.kin hM.kp (thn (ha.run pos pins s1 σ H1 _ I1 q) fun us s2 ⟨vs, H2, I2, r, q2⟩ => ⟨I2.kIn, ?_⟩) hst hpl
  have rr : Vals (.ref a :: vs) (.ref a :: us) := .cons rfl r
  have hl : (Value.ref a :: us).length = ps.length := by rw [← rr.length]; exact G.len _ _ _ _ q2
  have b := Fn.binds (ps := ps) (T.bd qual) s2 (.ref a :: us) I2.kIn (by rw [List.append_nil]; exact hl)
  rw [List.append_nil] at b
  exact fn_ends A tk G hj I2 b rr q2
theorem pe_methG0 (A : Amb X F k) (tk : Takes X W) (T : CalM X.prog X.w X.K X.mg X.base cls nm st ps j sp) (hj : j ≤ k) (he : PE X oe ta)
    (ht : eval (.Call (.Attribute oe nm apos) [] [] pos) X.env = (do
      let ov ← eval oe X.env
      standAt apos.atName
      let (f, first) ← holding [ov] (getMethod ov nm pl)
      callWith pos f first (backTo pos (starEach [] X.env)) (backToKw pos (keywordEach [] X.env))) := by rfl) :
    PE X (.Call (.Attribute oe nm apos) [] [] pos) (tMet X.mg cls nm sp W ta tNil) := by
  obtain ⟨C, g, fd, qual, hmg, hC, hM, Fn, G⟩ := T.ex
  refine ⟨fun pins s σ H Q I h => ?_⟩
  refine PySem.W.methodCall_KW (pl := pl) (thn (he.run pins s σ H _ I h) fun u s1 ⟨x, H1, I1, rx, a, C', dx, fs, ex, hm', ea, l, q⟩ => ?_) ht
  rw [hmg] at hm'
  cases hm'
  subst ex
  obtain rfl : u = Value.ref a := rx
  refine getmeth_ok I1 ea hC hM l ?_
  refine PySem.W.callWith_K0 (first := [.ref a]) I1.kIn hM.kp ?_
  have rr : Vals [.ref a] [.ref a] := .cons rfl .nil
  have hl : [Value.ref a].length = ps.length := by rw [← rr.length]; exact G.len _ _ _ _ q
  have b := Fn.binds (ps := ps) (T.bd qual) s1 [.ref a] I1.kIn (by rw [List.append_nil]; exact hl)
  rw [List.append_nil] at b
  exact fn_ends A tk G hj I1 b rr q
def tMetK (mg : Str → Option Value) (cls nm : Str) (sp : Sp) (n : Nat) (pm : List Nat) (W : WX) (ta : TE) (t : TA) : TE := fun σ H Q => ta σ H fun x H1 => ∃ a C dx fs, x = .ref a ∧ mg cls = some (.ref C) ∧ H1 a = some (.ins C dx fs) ∧ fs.lookup nm = none ∧
  t σ H1 fun vs H2 => vs.length = n ∧ sp (.ref a :: pick pm vs) H2 Q (WE W σ)
theorem pe_methGK {kws : List Keyword} {ks : List Str} {pm : List Nat} {n : Nat} (A : Amb X F k) (tk : Takes X W) (T : CalM X.prog X.w X.K X.mg X.base cls nm st ps j sp) (hj : j ≤ k) (he : PE X oe ta) (ha : PK X kws t)
    (kb : ∀ (qual : Str) (kV doc pmv : Value) (an : Option Addr) (cdv ct : Value) (u0 : Value) (us : List Value), us.length = n → bindArgs (PySem.W.fnOf nm qual (defArgs st) (defBody st) (defScope st) .none kV doc pmv an cdv ct) ⟨[u0], ks.zip us⟩ = pure (ps.zip (u0 :: pick pm us)))
    (hall : (backToKw pos (keywordEach kws X.env)).all (·.1.isSome) = true := by rfl) (hks : (backToKw pos (keywordEach kws X.env)).filterMap (·.1) = ks := by rfl)
    (hpl : ((backTo pos (starEach [] X.env)).any (·.1) || (backToKw pos (keywordEach kws X.env)).any (·.1.isNone)) = false := by rfl)
    (ht : eval (.Call (.Attribute oe nm apos) [] kws pos) X.env = (do
      let ov ← eval oe X.env
      standAt apos.atName
      let (f, first) ← holding [ov] (getMethod ov nm pl)
      callWith pos f first (backTo pos (starEach [] X.env)) (backToKw pos (keywordEach kws X.env))) := by rfl) :
    PE X (.Call (.Attribute oe nm apos) [] kws pos) (tMetK X.mg cls nm sp n pm W ta t) := by
  obtain ⟨C, g, fd, qual, hmg, hC, hM, Fn, G⟩ := T.ex
  refine ⟨fun pins s σ H Q I h => ?_⟩
  refine PySem.W.methodCall_KW (pl := pl) (thn (he.run pins s σ H _ I h) fun u s1 ⟨x, H1, I1, rx, a, C', dx, fs, ex, hm', ea, l, q⟩ => ?_) ht
  rw [hmg] at hm'
  cases hm'
  subst ex
  obtain rfl : u = Value.ref a := rx
  refine getmeth_ok I1 ea hC hM l ?_
  refine PySem.W.callWith_KW0 (first := [.ref a]) (h₀ := X.base) I.ok.mod.kin hM.kp hall (thn (ha.run pos pins s1 σ H1 _ I1 q) ?_) hpl
  rintro us s2 ⟨vs, H2, I2, r, hvl, q2⟩
  refine ⟨I2.kIn, ?_⟩
  rw [hks]
  have hl : us.length = n := by rw [← r.length]; exact hvl
  obtain ⟨oc, od, kV, doc, pmv, an, cdv, ct, osl, rfl, lk, hcd⟩ := Fn.ex
  have rr : Vals (.ref a :: pick pm vs) (.ref a :: pick pm us) := .cons rfl (pick_vals r)
  exact fn_ends A tk G hj I2 (.of_eq (kb qual kV doc pmv an cdv ct (.ref a) us hl)) rr q2
/-- the mirror of a method's call -/
def isObj (cls nm : Str) : D → Bool
  | .obj c des => decide (c = cls) && (des.lookup nm).isNone
  | _ => false
def mMet (cls nm : Str) (fo : Env → M S D) (f : Env → M S (List D)) (mm : List D → M Unit D) : Env → M S D := fun ρ => bnd (fo ρ) fun x => if isObj cls nm x = true then bnd (f ρ) fun ds => pur (mm (x :: ds)) else stk
theorem isObj_at (A : Amb X F k) (hi : isObj cls nm d = true) (z : Fz F.cn Z H v d) : ∃ a C dx fs, v = .ref a ∧ X.mg cls = some (.ref C) ∧ H a = some (.ins C dx fs) ∧ fs.lookup nm = none := by
  cases d <;> simp only [isObj] at hi <;> try cases hi
  rename_i c des
  simp only [Bool.and_eq_true, decide_eq_true_eq] at hi
  obtain ⟨rfl, hn⟩ := hi
  obtain ⟨a, C, dx, fs, rfl, h1, h2, h3, h4⟩ := Bz.obj_ (adr := F.md.adr) (.inl z)
  refine ⟨a, C, dx, fs, rfl, by rw [A.mg]; exact h2, h1, ?_⟩
  have : ∀ {fs : List (Str × V)} {des : List (Str × D)}, fs.map (·.1) = des.map (·.1) → (des.lookup nm).isNone = true → fs.lookup nm = none := by
    intro fs
    induction fs with
    | nil => intros; rfl
    | cons q fs ih =>
      intro des hk hn
      cases des with
      | nil => simp at hk
      | cons r des =>
        simp only [List.map_cons, List.cons.injEq] at hk
        rw [List.lookup_cons] at hn ⊢
        rw [hk.1]
        split
        · rename_i e
          rw [e] at hn
          simp at hn
        · rename_i e
          rw [e] at hn
          exact ih hk.2 hn
  exact this h3 hn
theorem ev_met {n : Nat} {mm : List D → M Unit D} (A : Amb X F k) (ha : Ev F own W .fz ta fa) (hb : EvA F own W t f) (hc : Cnt f n) : Ev F own W (if fr then .fr else .fz) (tMet X.mg cls nm (SpD X.K X.mg Pure (n + 1) fr mm) W ta t) (mMet cls nm fa f mm) := by
  rw [A.K]
  refine Ev.bind (g := fun ρ x => if isObj cls nm x = true then bnd (f ρ) fun ds => pur (mm (x :: ds)) else stk) (K := fun v σ H1 Q => ∃ a C dx fs, v = .ref a ∧ X.mg cls = some (.ref C) ∧ H1 a = some (.ins C dx fs) ∧ fs.lookup nm = none ∧ t σ H1 fun vs H2 => SpD F.K X.mg Pure (n + 1) fr mm (.ref a :: vs) H2 Q (WE W σ)) ha fun v d Hs Z H σ ρ s Q k1 z q => ?_
  have z : Fz F.cn Z H v d := z
  by_cases hi : isObj cls nm d = true
  · rw [if_pos hi] at q
    obtain ⟨a, C, dx, fs, rfl, h2, h1, h3⟩ := isObj_at A hi z
    refine ⟨a, C, dx, fs, rfl, h2, h1, h3, ?_⟩
    refine hb σ H Z ρ s _ k1 ?_
    dsimp only [bnd] at q
    match e : f ρ s, q with
    | none, q => exact q
    | some (.error y, s'), q => exact q
    | some (.ok ds, s'), q =>
      intro vs H' Z' x k' z'
      rw [A.mg]
      exact post_callP (by rw [List.length_cons, z'.1, hc _ _ _ _ e]) k' (.cons (z.grow (k1.toBs.grow x)) z') (q.from x)
  · rw [if_neg hi] at q
    exact (show False from q).elim
theorem de_meth {n : Nat} {mm : List D → M Unit D} (A : Amb X F k) (tk : Takes X W) (T : CalM X.prog X.w X.K X.mg X.base cls nm st ps j (SpD X.K X.mg Pure (n + 1) fr mm)) (hj : j ≤ k) (ho : DE X F own W .fz oe ta fa) (ha : DA X F own W (e :: es) t f) (hc : Cnt f n)
    (hst : starEach (e :: es) X.env = (false, eval e X.env) :: starEach es X.env := by rfl) (hpl : (backTo pos (starEach es X.env)).any (·.1) = false := by rfl)
    (ht : eval (.Call (.Attribute oe nm apos) (e :: es) [] pos) X.env = (do
      let ov ← eval oe X.env
      standAt apos.atName
      let (f, first) ← holding [ov] (getMethod ov nm pl)
      callWith pos f first (backTo pos (starEach (e :: es) X.env)) (backToKw pos (keywordEach [] X.env))) := by rfl) :
    DE X F own W (if fr then .fr else .fz) (.Call (.Attribute oe nm apos) (e :: es) [] pos) (tMet X.mg cls nm (SpD X.K X.mg Pure (n + 1) fr mm) W ta t) (mMet cls nm fa f mm) :=
  ⟨pe_methG A tk T hj ho.pe ha.pa hst hpl ht, ev_met A ho.ev ha.ev hc⟩
theorem de_meth0 {mm : List D → M Unit D} (A : Amb X F k) (tk : Takes X W) (T : CalM X.prog X.w X.K X.mg X.base cls nm st ps j (SpD X.K X.mg Pure 1 fr mm)) (hj : j ≤ k) (ho : DE X F own W .fz oe ta fa)
    (ht : eval (.Call (.Attribute oe nm apos) [] [] pos) X.env = (do
      let ov ← eval oe X.env
      standAt apos.atName
      let (f, first) ← holding [ov] (getMethod ov nm pl)
      callWith pos f first (backTo pos (starEach [] X.env)) (backToKw pos (keywordEach [] X.env))) := by rfl) :
    DE X F own W (if fr then .fr else .fz) (.Call (.Attribute oe nm apos) [] [] pos) (tMet X.mg cls nm (SpD X.K X.mg Pure 1 fr mm) W ta tNil) (mMet cls nm fa aNil mm) :=
  ⟨pe_methG0 A tk T hj ho.pe ht, ev_met (n := 0) A ho.ev (da_nil (X := X)).ev cnt_nil⟩
def mMetK (cls nm : Str) (pm : List Nat) (fo : Env → M S D) (f : Env → M S (List D)) (mm : List D → M Unit D) : Env → M S D := fun ρ => bnd (fo ρ) fun x => if isObj cls nm x = true then bnd (f ρ) fun ds => pur (mm (x :: pick pm ds)) else stk
theorem de_methK {n q : Nat} {mm : List D → M Unit D} {kws : List Keyword} {ks : List Str} {pm : List Nat} (A : Amb X F k) (tk : Takes X W) (T : CalM X.prog X.w X.K X.mg X.base cls nm st ps j (SpD X.K X.mg Pure (q + 1) fr mm)) (hj : j ≤ k) (ho : DE X F own W .fz oe ta fa) (ha : DK X F own W kws t f) (hc : Cnt f n)
    (kb : ∀ (qual : Str) (kV doc pmv : Value) (an : Option Addr) (cdv ct : Value) (u0 : Value) (us : List Value), us.length = n → bindArgs (PySem.W.fnOf nm qual (defArgs st) (defBody st) (defScope st) .none kV doc pmv an cdv ct) ⟨[u0], ks.zip us⟩ = pure (ps.zip (u0 :: pick pm us)))
    (hq : ∀ us : List V, us.length = n → (pick pm us).length = q)
    (hall : (backToKw pos (keywordEach kws X.env)).all (·.1.isSome) = true := by rfl) (hks : (backToKw pos (keywordEach kws X.env)).filterMap (·.1) = ks := by rfl)
    (hpl : ((backTo pos (starEach [] X.env)).any (·.1) || (backToKw pos (keywordEach kws X.env)).any (·.1.isNone)) = false := by rfl)
    (ht : eval (.Call (.Attribute oe nm apos) [] kws pos) X.env = (do
      let ov ← eval oe X.env
      standAt apos.atName
      let (f, first) ← holding [ov] (getMethod ov nm pl)
      callWith pos f first (backTo pos (starEach [] X.env)) (backToKw pos (keywordEach kws X.env))) := by rfl) :
    DE X F own W (if fr then .fr else .fz) (.Call (.Attribute oe nm apos) [] kws pos) (tMetK X.mg cls nm (SpD X.K X.mg Pure (q + 1) fr mm) n pm W ta t) (mMetK cls nm pm fa f mm) := by
  refine ⟨pe_methGK A tk T hj ho.pe ha.pk kb hall hks hpl ht, ?_⟩
  rw [A.K]
  refine Ev.bind (g := fun ρ x => if isObj cls nm x = true then bnd (f ρ) fun ds => pur (mm (x :: pick pm ds)) else stk) (K := fun v σ H1 Q => ∃ a C dx fs, v = .ref a ∧ X.mg cls = some (.ref C) ∧ H1 a = some (.ins C dx fs) ∧ fs.lookup nm = none ∧ t σ H1 fun vs H2 => vs.length = n ∧ SpD F.K X.mg Pure (q + 1) fr mm (.ref a :: pick pm vs) H2 Q (WE W σ)) ho.ev fun v d Hs Z H σ ρ s Q k1 z q => ?_
  have z : Fz F.cn Z H v d := z
  by_cases hi : isObj cls nm d = true
  · rw [if_pos hi] at q
    obtain ⟨a, C, dx, fs, rfl, h2, h1, h3⟩ := isObj_at A hi z
    refine ⟨a, C, dx, fs, rfl, h2, h1, h3, ?_⟩
    refine ha.ev σ H Z ρ s _ k1 ?_
    dsimp only [bnd] at q
    match e : f ρ s, q with
    | none, q => exact q
    | some (.error y, s'), q => exact q
    | some (.ok ds, s'), q =>
      intro vs H' Z' x k' z'
      have hl : vs.length = n := by rw [z'.1, hc _ _ _ _ e]
      rw [A.mg]
      exact ⟨hl, post_callP (by rw [List.length_cons, hq vs hl]) k' (.cons (z.grow (k1.toBs.grow x)) (pick_fz z')) (q.from x)⟩
  · rw [if_neg hi] at q
    exact (show False from q).elim
/-- C.m(..), m a static method -/
theorem pe_statG (A : Amb X F k) (tk : Takes X W) (T : CalS X.prog X.w X.K X.mg X.base cls nm st ps j sp) (hj : j ≤ k) (hg : Gl X cls) (ha : PA X (e :: es) t) (hdb : (cls == ("__debug__" : Str)) = false := by decide)
    (hst : starEach (e :: es) X.env = (false, eval e X.env) :: starEach es X.env := by rfl) (hpl : (backTo pos (starEach es X.env)).any (·.1) = false := by rfl)
    (ht : eval (.Call (.Attribute (.Name cls ppos) nm apos) (e :: es) [] pos) X.env = (do
      let ov ← eval (.Name cls ppos) X.env
      standAt apos.atName
      let (f, first) ← holding [ov] (getMethod ov nm pl)
      callWith pos f first (backTo pos (starEach (e :: es) X.env)) (backToKw pos (keywordEach [] X.env))) := by rfl) :
    PE X (.Call (.Attribute (.Name cls ppos) nm apos) (e :: es) [] pos) (tCallS sp (WE W) t) := by
  obtain ⟨C, mc, p, g, fd, qual, rest, hmg, hC, hM, hR, Fn, G⟩ := T.ex
  refine ⟨fun pins s σ H Q I h => ?_⟩
  refine PySem.W.methodCall_KW (pl := pl) (ld_glob I hg hmg ?_ hdb) ht
  refine PySem.W.method_cls I.kIn hC.ga ?_
  refine PySem.W.cls_bind I.kIn hC.rd hM ?_
  refine wpAny_call (PySem.W.sm_get (s := { s with toks := s.toks + 1 }) I.kIn hR (PySem.W.handed_on rfl ?_))
  have I' := I.tok (s.toks + 1)
  refine PySem.W.callWith_K (first := []) (h₀ := X.base) I.ok.mod.kin Fn.kp (thn (ha.run pos pins _ σ H _ I' h) fun us s2 ⟨vs, H2, I2, r, q2⟩ => ⟨I2.kIn, ?_⟩) hst hpl
  have hl : us.length = ps.length := by rw [← r.length]; exact G.len _ _ _ _ q2
  have b := Fn.binds (ps := ps) (T.bd qual) s2 us I2.kIn (by rw [List.append_nil]; exact hl)
  rw [List.append_nil] at b
  exact fn_ends A tk G hj I2 b r q2
theorem de_stat {n : Nat} {mm : List D → M Unit D} (A : Amb X F k) (tk : Takes X W) (T : CalS X.prog X.w X.K X.mg X.base cls nm st ps j (SpD X.K X.mg Pure n fr mm)) (hj : j ≤ k) (ha : DA X F own W (e :: es) t f) (hc : Cnt f n) (hg : Gl X cls := by rfl) (hdb : (cls == ("__debug__" : Str)) = false := by decide)
    (hst : starEach (e :: es) X.env = (false, eval e X.env) :: starEach es X.env := by rfl) (hpl : (backTo pos (starEach es X.env)).any (·.1) = false := by rfl)
    (ht : eval (.Call (.Attribute (.Name cls ppos) nm apos) (e :: es) [] pos) X.env = (do
      let ov ← eval (.Name cls ppos) X.env
      standAt apos.atName
      let (f, first) ← holding [ov] (getMethod ov nm pl)
      callWith pos f first (backTo pos (starEach (e :: es) X.env)) (backToKw pos (keywordEach [] X.env))) := by rfl) :
    DE X F own W (if fr then .fr else .fz) (.Call (.Attribute (.Name cls ppos) nm apos) (e :: es) [] pos) (tCallS (SpD X.K X.mg Pure n fr mm) (WE W) t) (mCalP f mm) := by
  refine ⟨pe_statG A tk T hj hg ha.pa hdb hst hpl ht, ?_⟩
  rw [A.K, A.mg]
  exact ev_cnt (g := fun _ ds => pur (mm ds)) (K := fun vs σ H1 Q => SpD F.K F.mg Pure n fr mm vs H1 Q (WE W σ)) ha.ev hc fun vs ds Z H σ ρ s Q hl k z q => post_callP (by rw [z.1]; exact hl) k z q
end
end DL

namespace DL
open PySem L2 PySem.Spec PyProof.Rows

/-! ### lists by kind: what holds no list but lists that begin with an int -/
def hdInt : List D → Bool
  | .int _ :: _ => true
  | _ => false
mutual
def okK : D → Bool
  | .lst ds => hdInt ds && okKs ds
  | .tup ds => okKs ds
  | .dic kvs => okKv kvs
  | .dit kvs => okKt kvs
  | .obj _ fs => okKf fs
  | .slf _ fs => okKf fs
  | .scr _ => false
  | _ => true
def okKs : List D → Bool
  | [] => true
  | d :: r => okK d && okKs r
def okKv : List (Key × D) → Bool
  | [] => true
  | (_, d) :: r => okK d && okKv r
def okKt : List (List Key × D) → Bool
  | [] => true
  | (_, d) :: r => okK d && okKt r
def okKf : List (Str × D) → Bool
  | [] => true
  | (_, d) :: r => okK d && okKf r
end
def badL : HO → Bool
  | .lst (.int _ :: _) => false
  | .lst _ => true
  | _ => false
theorem okKs_all : ∀ {ds : List D}, okKs ds = true ↔ ∀ d ∈ ds, okK d = true
  | [] => by simp [okKs]
  | d :: r => by rw [okKs, Bool.and_eq_true, okKs_all]; simp
theorem okKs_get {ds : List D} (h : okKs ds = true) {i : Nat} {d : D} (e : ds[i]? = some d) : okK d = true := okKs_all.mp h d (List.mem_of_getElem? e)
theorem okKv_get : ∀ {ds : List (Key × D)}, okKv ds = true → ∀ {i : Nat} {p : Key × D}, ds[i]? = some p → okK p.2 = true
  | [], _, i, p, e => by simp at e
  | (k, d) :: r, h, 0, p, e => by rw [okKv, Bool.and_eq_true] at h; simp at e; subst e; exact h.1
  | (k, d) :: r, h, i + 1, p, e => by rw [okKv, Bool.and_eq_true] at h; exact okKv_get h.2 (i := i) (by simpa using e)
theorem okKt_get : ∀ {ds : List (List Key × D)}, okKt ds = true → ∀ {i : Nat} {p : List Key × D}, ds[i]? = some p → okK p.2 = true
  | [], _, i, p, e => by simp at e
  | (k, d) :: r, h, 0, p, e => by rw [okKt, Bool.and_eq_true] at h; simp at e; subst e; exact h.1
  | (k, d) :: r, h, i + 1, p, e => by rw [okKt, Bool.and_eq_true] at h; exact okKt_get h.2 (i := i) (by simpa using e)
theorem okKf_get : ∀ {ds : List (Str × D)}, okKf ds = true → ∀ {i : Nat} {p : Str × D}, ds[i]? = some p → okK p.2 = true
  | [], _, i, p, e => by simp at e
  | (k, d) :: r, h, 0, p, e => by rw [okKf, Bool.and_eq_true] at h; simp at e; subst e; exact h.1
  | (k, d) :: r, h, i + 1, p, e => by rw [okKf, Bool.and_eq_true] at h; exact okKf_get h.2 (i := i) (by simpa using e)
def Zk (Z : Addr → Prop) (H : Hp) : Addr → Prop := fun a => Z a ∧ ∀ o, H a = some o → badL o = false
theorem Zk.of {Z : Addr → Prop} {H : Hp} {a : Addr} {o : HO} (z : Z a) (h : H a = some o) (hb : badL o = false) : Zk Z H a := ⟨z, fun o' e => by rw [h] at e; cases e; exact hb⟩
theorem Fz.int_inv {c : Cn} {Z : Addr → Prop} {H : Hp} {i : Int} {d : D} (h : Fz c Z H (.int i) d) : d = .int i := by cases h; rfl
theorem Fz.cut {c : Cn} {Z : Addr → Prop} {H : Hp} {v : V} {d : D} (h : Fz c Z H v d) : okK d = true → Fz c (Zk Z H) H v d := by
  induction h with
  | non => exact fun _ => .non
  | bl b => exact fun _ => .bl b
  | int i => exact fun _ => .int i
  | str x => exact fun _ => .str x
  | ty n => exact fun _ => .ty n
  | drw h => exact fun _ => .drw h
  | scr h h2 => exact fun k => by simp [okK] at k
  | @lst a vs ds h1 h2 h3 h4 hf ih =>
    intro k
    rw [okK, Bool.and_eq_true] at k
    refine .lst (.of h1 h2 ?_) h2 h3 h4 fun i v d a b => ih i v d a b (okKs_get k.2 b)
    cases ds with
    | nil => simp [hdInt] at k
    | cons d ds =>
      cases vs with
      | nil => simp at h3
      | cons v vs =>
        have z := hf 0 v d rfl rfl
        cases d <;> simp only [hdInt] at k <;> try (exact absurd k.1 (by decide))
        cases z
        rfl
  | tup h1 h2 h3 _ ih =>
    intro k
    rw [okK] at k
    refine .tup ?_ h2 h3 fun i v d a b => ih i v d a b (okKs_get k b)
    rcases h1 with ⟨z, h⟩ | h
    · exact .inl ⟨.of z h rfl, h⟩
    · exact .inr h
  | dic h1 h2 h3 h4 h5 _ ih =>
    intro k
    rw [okK] at k
    exact .dic (.of h1 h2 rfl) h2 h3 h4 h5 fun i p q a b => ih i p q a b (okKv_get k b)
  | dit h1 h2 h3 h4 h5 _ ih =>
    intro k
    rw [okK] at k
    exact .dit (.of h1 h2 rfl) h2 h3 h4 h5 fun i p q a b => ih i p q a b (okKt_get k b)
  | obj h1 h2 h3 h4 h5 _ ih =>
    intro k
    rw [okK] at k
    exact .obj (.of h1 h2 rfl) h2 h3 h4 h5 fun i p q a b => ih i p q a b (okKf_get k b)
  | slf h1 h2 h3 h4 h5 _ ih =>
    intro k
    rw [okK] at k
    exact .slf (.of h1 h2 rfl) h2 h3 h4 h5 fun i p q a b => ih i p q a b (okKf_get k b)
theorem FzAll.cutK {c : Cn} {Z : Addr → Prop} {H : Hp} {vs : List V} {ds : List D} (h : FzAll c Z H vs ds) (k : okKs ds = true) : FzAll c (Zk Z H) H vs ds :=
  ⟨h.1, fun i v d a b => (h.2 i v d a b).cut (okKs_get k b)⟩
theorem Fz.sub {c : Cn} {Z Z' : Addr → Prop} {H : Hp} {v : V} {d : D} (s : ∀ a, Z a → Z' a) (h : Fz c Z H v d) : Fz c Z' H v d := h.grow ⟨s, fun _ _ => rfl⟩
theorem FzAll.sub {c : Cn} {Z Z' : Addr → Prop} {H : Hp} {vs : List V} {ds : List D} (s : ∀ a, Z a → Z' a) (h : FzAll c Z H vs ds) : FzAll c Z' H vs ds := h.grow ⟨s, fun _ _ => rfl⟩
/-- a list that does not begin with an int -/
theorem bad_of {c : Cn} {Z : Addr → Prop} {H : Hp} {vs : List V} {ds : List D} (h : FzAll c Z H vs ds) (k : hdInt ds = false) : badL (.lst vs) = true := by
  cases vs with
  | nil => rfl
  | cons v vs =>
    cases ds with
    | nil => have := h.1; simp at this
    | cons d ds =>
      have z := h.2 0 v d rfl rfl
      cases v <;> try rfl
      rw [z.int_inv] at k
      simp [hdInt] at k
section
variable {S : Type} {X : Cx} {F : Fc S} {Z Z' Z1 Z2 : Addr → Prop} {H H' H1 H2 : Hp} {σ σ' : L2.St} {ρ : Env} {own own1 own2 own' oL : List Nat} {s s' : S} {p : Addr} {o : HO} {v : V} {d : D} {m m' m1 m2 m3 : Mo} {W : WX} {Q : VK} {k : Nat} {fr : Bool} {D0 : Ends}
variable {a b c e oe : Expr} {ta tb tc te : TE} {fa fb fc fe : Env → M S D} {pos pos' ppos apos : Pos} {es : List Expr} {t : TA} {f : Env → M S (List D)} {cls nm : Str} {sp : Sp} {st : Stmt} {ps : List Str} {j : Nat} {pl : Sem Bool}
/-- a tuple of three that ends with a list -/
def asU : D → Option (D × D × List D)
  | .tup [x, y, .lst es] => if (okK x && okK y && okKs es && !hdInt es) = true then some (x, y, es) else none
  | _ => none
theorem asU_some {x y : D} {es : List D} (h : asU d = some (x, y, es)) : d = .tup [x, y, .lst es] ∧ okK x = true ∧ okK y = true ∧ okKs es = true ∧ hdInt es = false := by
  unfold asU at h
  split at h
  · split at h
    · rename_i q
      cases h
      simp only [Bool.and_eq_true, Bool.not_eq_true'] at q
      exact ⟨rfl, q.1.1.1, q.1.1.2, q.1.2, q.2⟩
    · cases h
  · cases h
/-- a call whose answer is a tuple that ends with a new list -/
def PostU (F : Fc S) (own : List Nat) (W : WX) (Z : Addr → Prop) (H : Hp) (σ : L2.St) (ρ : Env) (Q : VK) : Option (Except Exc D × S) → Prop
  | some (.ok d, s') => match asU d with
    | some (x, y, es) => ∀ a b v1 v2 H' Z', Ext F Z H Z' H' → Ok F own Z' H' σ ρ s' → SqT F.K H' a [v1, v2, .ref b] → Fz F.cn Z' H' v1 x → Fz F.cn Z' H' v2 y → Frs F own σ ρ H Z' H' (.ref b) (.lst es) → Q (.ref a) H'
    | none => False
  | some (.error x, s') => ∀ cls dd H' Z', Bs F Z' H' s' → ExcAt F.cn Z' H' x cls dd → W cls dd σ H'
  | none => False
theorem post_thaw {mds : Md S → Prop} {n : Nat} {mm : List D → M S D} {vs : List V} {ds : List D} (hm : mds F.md) (hn : vs.length = n) (k : Ok F own Z H σ ρ s) (z : FzAll F.cn Z H vs ds) (hk : okKs ds = true) (q : PostU F own W Z H σ ρ Q (mm ds s)) : SpD F.K F.mg mds n false mm vs H Q (WE W σ) := by
  refine ⟨F.md, Zk Z H, s, ds, hm, hn, k.st, fun a h => k.zd a h.1, z.cutK hk, ?_⟩
  have bs : ∀ {Z' H' s'} (R : Addr → Prop), (∀ a, R a → H a = none) → Bs (⟨F.K, F.mg, F.md, Zk Z H, H⟩ : Fc S) Z' H' s' → Ext F Z H (fun a => (Z' a ∨ Z a) ∧ ¬ R a) H' ∧ Bs F (fun a => (Z' a ∨ Z a) ∧ ¬ R a) H' s' := fun {Z' H' s'} R hR b => by
    have old : ∀ a, Z a → ¬ R a := fun a h r => (k.zd a h).1 (hR a r)
    have hz : ∀ a, Z' a ∨ Z a → Z a ∨ H a = none := fun a h => by
      rcases h with h | h
      · rcases b.zn a h with q | q
        · exact .inl q.1
        · exact .inr q
      · exact .inl h
    refine ⟨⟨fun a h => ⟨.inr h, old a h⟩, fun a h => (hz a h.1).elim .inl fun q => .inr (.inl q), b.sm⟩, ⟨b.st, fun a h => ?_, fun a h => ⟨.inr (k.z0 a h), old a (k.z0 a h)⟩, fun a h => ?_, fun a o h n => b.sm a o (k.sm a o h n) n⟩⟩
    · rcases h.1 with q | q
      · exact b.zd a q
      · obtain ⟨h1, h2⟩ := k.zd a q
        cases e : H a with
        | none => exact absurd e h1
        | some o => exact ⟨by rw [b.sm a o e h2]; simp, h2⟩
    · rcases hz a h.1 with q | q
      · exact k.zn a q
      · exact .inr (k.toBs.entry q)
  match e : mm ds s, q with
  | none, q => exact q
  | some (.error y, s'), q => exact fun cls dd H' Z' b x => q cls dd H' _ (bs (fun _ => False) (fun _ h => h.elim) b).2 (by
      obtain ⟨C, h1, h2, h3⟩ := x
      refine ⟨C, h1, h2, h3.imp id ?_⟩
      rintro ⟨a, fs, q1, q2, q3, q4⟩
      exact ⟨a, fs, q1, q2, q3, q4.sub fun a h => ⟨.inl h, fun h => h⟩⟩)
  | some (.ok d, s'), q =>
    intro v H' Z' b r
    have r : Fz F.cn Z' H' v d := r
    dsimp only [PostU] at q
    cases eu : asU d with
    | none => rw [eu] at q; exact q.elim
    | some w =>
      obtain ⟨x, y, es⟩ := w
      rw [eu] at q
      dsimp only at q
      obtain ⟨rfl, h1, h2, h3, h4⟩ := asU_some eu
      obtain ⟨a, vs', rfl, g1, g2, g3⟩ := Bz.tup_ (adr := F.md.adr) (.inl r)
      match vs', g3, g1, g2 with
      | [v1, v2, v3], g3, g1, g2 =>
        obtain ⟨z1, g3⟩ := g3.inv
        obtain ⟨z2, g3⟩ := g3.inv
        obtain ⟨z3, _⟩ := g3.inv
        cases z3 with
        | @lst b0 us _ l1 l2 l3 l4 l5 =>
          have hus : FzAll F.cn Z' H' us es := ⟨l3, l5⟩
          have hbad := bad_of hus h4
          have nb : H b0 = none := by
            rcases b.zn b0 l1 with ⟨q1, q2⟩ | q1
            · cases e0 : H b0 with
              | none => rfl
              | some o =>
                have := b.sm b0 o e0 (k.zd b0 q1).2
                have e2 : H' b0 = some o := this
                rw [l2] at e2
                cases e2
                rw [q2 _ e0] at hbad
                cases hbad
            · exact q1
          obtain ⟨x1, b2⟩ := bs (fun a => a = b0) (fun a h => h ▸ nb) b
          have hsub : ∀ a, Zk Z' H' a → (Z' a ∨ Z a) ∧ ¬ a = b0 := fun a h => ⟨.inl h.1, fun e => by
            subst e
            rw [h.2 _ l2] at hbad
            cases hbad⟩
          refine q a b0 v1 v2 H' _ x1 (k.carry x1 b2) g1.sq ((z1.cut h1).sub hsub) ((z2.cut h2).sub hsub) ⟨b0, rfl, fun h => h.2 rfl, k.toBs.nadr nb, k.toBs.entry nb, ⟨us, l2, l4, (hus.cutK h3).sub hsub⟩, nb, fun i d' q1 q2 q3 => ?_⟩
          obtain ⟨a', r1, _, _, _, r5⟩ := k.ow i d' q1 q2
          rw [q3] at r1
          cases r1
          exact r5.there nb
      | [], g3, _, _ => have := g3.1; simp at this
      | [_], g3, _, _ => have := g3.1; simp at this
      | [_, _], g3, _, _ => have := g3.1; simp at this
      | _ :: _ :: _ :: _ :: _, g3, _, _ => have := g3.1; simp at this
/-- x, y, z = f(..), where z is a new list that is owned from then on -/
def sUnp3 (i1 i2 i3 : Nat) (f : Env → M S (List D)) (mm : List D → M S D) : Env → M S (Fl × Env) := fun ρ => bnd (f ρ) fun ds => if okKs ds = true then bnd (mm ds) fun d => match asU d with
  | some (x, y, es) => ret (.nx, ((ρ.set i1 (some x)).set i2 (some y)).set i3 (some (.lst es)))
  | none => stk
  else stk
theorem Frs.set {Hs : Hp} {i : Nat} {v' : V} {d' : D} (hl : ρ.length = σ.length) (h : Frs F own σ ρ Hs Z H v d) : Frs F (less own i) (σ.set i (some v')) (ρ.set i (some d')) Hs Z H v d := by
  obtain ⟨a, rfl, h2, h3, h4, h5, h6, h7⟩ := h
  refine ⟨a, rfl, h2, h3, h4, h5, h6, fun j dj q1 q2 => ?_⟩
  obtain ⟨q1, n1⟩ := mem_less.mp q1
  rw [List.getElem?_set_ne (Ne.symm n1)] at q2 ⊢
  exact h7 j dj q1 q2
theorem ds_unp3 {i1 i2 i3 : Nat} {x1 x2 x3 x : Str} {p1 p2 p3 tp cpos : Pos} {kt : Nat} {mds : Md S → Prop} {n : Nat} {mm : List D → M S D} (A : Amb X F k) (tk : Takes X W) (nd : X.N.Nodup) (C : Callee X.prog X.w X.K X.mg X.base x st ps j (SpD X.K X.mg mds n false mm)) (hj : j ≤ k) (hm : mds F.md) (ha : DA X F own W (e :: es) t f) (hc : Cnt f n)
    (hi1 : X.N[i1]? = some x1 := by rfl) (hi2 : X.N[i2]? = some x2 := by rfl) (hi3 : X.N[i3]? = some x3 := by rfl)
    (hx1 : Loc X.env.scope x1 := by first | exact Or.inl rfl | exact Or.inr rfl) (hx2 : Loc X.env.scope x2 := by first | exact Or.inl rfl | exact Or.inr rfl) (hx3 : Loc X.env.scope x3 := by first | exact Or.inl rfl | exact Or.inr rfl)
    (hf1 : X.fn x1 = true ∨ X.env.scope.names.lookup x1 = some .local := by first | exact .inl rfl | exact .inr rfl) (hf2 : X.fn x2 = true ∨ X.env.scope.names.lookup x2 = some .local := by first | exact .inl rfl | exact .inr rfl) (hf3 : X.fn x3 = true ∨ X.env.scope.names.lookup x3 = some .local := by first | exact .inl rfl | exact .inr rfl)
    (hg : Gl X x := by rfl) (hdb : (x == ("__debug__" : Str)) = false := by decide)
    (he : starEach (e :: es) X.env = (false, eval e X.env) :: starEach es X.env := by rfl) (hpl : (backTo cpos (starEach es X.env)).any (·.1) = false := by rfl)
    (hn : (assignEach [.Name x1 p1, .Name x2 p2, .Name x3 p3] X.env).length = 3 := by rfl) (hst : (assignEach [.Name x1 p1, .Name x2 p2, .Name x3 p3] X.env).findIdx? (·.1) = none := by rfl)
    (hs1 : (assignEach (.Name x1 p1 :: [.Name x2 p2, .Name x3 p3]) X.env).map (·.2) = assign (.Name x1 p1) X.env :: (assignEach [.Name x2 p2, .Name x3 p3] X.env).map (·.2) := by rfl)
    (hs2 : (assignEach (.Name x2 p2 :: [.Name x3 p3]) X.env).map (·.2) = assign (.Name x2 p2) X.env :: (assignEach [.Name x3 p3] X.env).map (·.2) := by rfl)
    (hs3 : (assignEach (.Name x3 p3 :: []) X.env).map (·.2) = assign (.Name x3 p3) X.env :: (assignEach [] X.env).map (·.2) := by rfl)
    (hs : swapsWithSole [.Tuple [.Name x1 p1, .Name x2 p2, .Name x3 p3] kt tp] (.Call (.Name x ppos) (e :: es) [] cpos) pos.line X.env = pure false := by rfl) (hw : swappedStores [.Tuple [.Name x1 p1, .Name x2 p2, .Name x3 p3] kt tp] (.Call (.Name x ppos) (e :: es) [] cpos) X.env = pure none := by rfl)
    (h1 : (assignEach [.Tuple [.Name x1 p1, .Name x2 p2, .Name x3 p3] kt tp] X.env).map (·.2) = [assign (.Tuple [.Name x1 p1, .Name x2 p2, .Name x3 p3] kt tp) X.env] := by rfl) :
    DS X F own (i3 :: less (less (less own i1) i2) i3) oL W fr (.Assign [.Tuple [.Name x1 p1, .Name x2 p2, .Name x3 p3] kt tp] (.Call (.Name x ppos) (e :: es) [] cpos) pos)
      (tAsg (tCallS (SpD X.K X.mg mds n false mm) (WE W) t) (gTup X.K 3 (gCons (gName i1) (gCons (gName i2) (gCons (gName i3) gNil))))) (sUnp3 i1 i2 i3 f mm) := by
  refine ⟨ps_asg (pe_callG A tk C hj hg ha.pa hdb he hpl) (pg_tup A.calm (pgs_cons (pg_name nd hi1 hx1 hf1) (pgs_cons (pg_name nd hi2 hx2 hf2) (pgs_cons (pg_name nd hi3 hx3 hf3) pgs_nil hs3) hs2) hs1) hn hst) hs hw h1, fun σ H Z ρ s D0 k0 q => ?_⟩
  refine ha.ev σ H Z ρ s _ k0 ?_
  dsimp only [sUnp3, bnd] at q
  match e1 : f ρ s, q with
  | none, q => exact q
  | some (.error y, s'), q => exact fun cls dd H' Z' => q cls dd σ H' Z'
  | some (.ok ds, s1), q =>
    intro vs H1 Z1 y1 k1 z1
    dsimp only at q
    by_cases hk : okKs ds = true
    · rw [if_pos hk] at q
      rw [A.K, A.mg]
      refine post_thaw hm (by rw [z1.1, hc _ _ _ _ e1]) k1 z1 hk ?_
      dsimp only [bnd] at q
      match e2 : mm ds s1, q with
      | none, q => exact q
      | some (.error y, s'), q => exact fun cls dd H' Z' => q cls dd σ H' Z'
      | some (.ok d, s2), q =>
        dsimp only [PostU]
        dsimp only at q
        cases eu : asU d with
        | none => rw [eu] at q; exact (show False from q).elim
        | some w =>
          obtain ⟨dx, dy, es'⟩ := w
          rw [eu] at q
          dsimp only at q ⊢
          intro a b v1 v2 H' Z' xx kk sq zx zy fz
          refine ⟨a, _, rfl, sq, rfl, v1, _, rfl, v2, _, rfl, .ref b, _, rfl, rfl, ?_⟩
          have kA := kk.set (i := i1) zx
          have kB := kA.set (i := i2) zy
          have kC := kB.setO (i := i3) ((fz.set (i := i1) (v' := v1) (d' := dx) kk.ln).set (i := i2) (v' := v2) (d' := dy) kA.ln)
          exact q _ H' Z' ((k0.toBs.grow y1).trans (k1.toBs.grow xx)) kC
    · rw [if_neg hk] at q
      exact (show False from q).elim
end
end DL

namespace DL
open PySem L2 PySem.Spec PyProof.Rows

section
variable {S : Type} {X : Cx} {F : Fc S} {Z Z' Z1 Z2 : Addr → Prop} {H H' H1 H2 : Hp} {σ σ' : L2.St} {ρ : Env} {own own1 own2 own' oL : List Nat} {s s' : S} {p : Addr} {o : HO} {v : V} {d : D} {m m' m1 m2 m3 : Mo} {W : WX} {Q : VK} {k : Nat} {fr : Bool} {D0 : Ends}
variable {a b c e oe : Expr} {ta tb tc te : TE} {fa fb fc fe : Env → M S D} {pos pos' ppos apos : Pos} {es : List Expr} {t : TA} {f : Env → M S (List D)} {cls nm : Str} {sp : Sp} {st : Stmt} {ps : List Str} {j : Nat} {pl : Sem Bool}
/-! ### xs[::-1] -/
theorem FzAll.rev {c : Cn} {vs : List V} {ds : List D} (h : FzAll c Z H vs ds) : FzAll c Z H vs.reverse ds.reverse := by
  refine ⟨by simp [h.1], fun i v d a b => ?_⟩
  have hi : i < vs.length := by have := (List.getElem?_eq_some_iff.mp a).1; simpa using this
  rw [List.getElem?_reverse hi] at a
  rw [List.getElem?_reverse (by rw [← h.1]; exact hi), ← h.1] at b
  exact h.2 _ v d a b
def dRev : D → Option D
  | .lst ds => some (.lst ds.reverse)
  | _ => none
theorem d_rev : Op1 F own W .fr (fun x H Q => ∃ a xs, x = .ref a ∧ SqL F.K H a xs ∧ ∀ p, H p = none → Q (.ref p) (upd H p (.lst xs.reverse))) dRev := by
  intro v x d Z H σ ρ s Q e k z q
  cases x <;> simp only [dRev] at e <;> try cases e
  obtain ⟨a, vs, rfl, h1, h2, h3⟩ := z.lst_
  exact ⟨a, vs, rfl, SqL.of h1, fun p n => q.newL k h3.rev (by rw [List.length_reverse]; exact h2) p n⟩
theorem de_rev {kk : Nat} {p1 p2 p3 : Pos} (A : Amb X F k) (h : DE X F own W m e te fe) : DE X F own W .fr (.Subscript e (.Slice none none (some (.UnaryOp .USub (.Constant (.int 1) kk p1) p2)) p3) pos) (tRevL X.K te) (o1 dRev fe) :=
  ⟨pe_revL h.pe, by
    rw [A.K]
    exact ev_op1 (r := fun x H Q => ∃ a xs, x = .ref a ∧ SqL F.K H a xs ∧ ∀ p, H p = none → Q (.ref p) (upd H p (.lst xs.reverse))) d_rev h.ev⟩
/-! ### list(d.items()) -/
theorem paired_len {α β : Type} {G : α → β → Prop} : ∀ {xs : List α} {ys : List β}, Paired G xs ys → xs.length = ys.length
  | _, _, .nil => rfl
  | _, _, .cons _ t => by simp [paired_len t]
def keyD : Key → D
  | .inl i => .int i
  | .inr x => .str x
theorem keyD_fz {c : Cn} (kk : Key) : Fz c Z H (kV kk) (keyD kk) := by
  cases kk with
  | inl i => exact .int i
  | inr x => exact .str x
def dItems : D → Option D
  | .dic kvs => some (.lst (kvs.map fun q => .tup [keyD q.1, q.2]))
  | _ => none
theorem d_items : Op1 F own W .fr LiI.rItemsL dItems := by
  intro v x d Z H σ ρ s Q e k z q
  cases x <;> simp only [dItems] at e <;> try cases e
  rename_i des
  obtain ⟨a, kvs, rfl, h1, h2, h3, h4⟩ := z.dic_
  refine ⟨a, kvs, rfl, h1, fun H' p ts hold np nts hp hl pr => ?_⟩
  have hlen : ts.length = kvs.length := by
    exact paired_len pr
  have pget := @LiI.paired_get
  have tup : ∀ (i : Nat) (t : Addr), ts[i]? = some t → ∃ y, kvs[i]? = some y ∧ H' t = some (.tup [kV y.1, y.2]) := fun i t ht => pget pr ht
  have ext : Ext F Z H (fun a => Z a ∨ a ∈ ts) H' := ⟨fun _ h => .inl h, fun a h => h.elim .inl fun h => .inr (.inl (nts a h)), fun a o h _ => hold a o h⟩
  have bs : Bs F (fun a => Z a ∨ a ∈ ts) H' s := by
    refine ⟨F.md.frame s H H' k.st fun b hb => ?_, fun a h => ?_, fun a h => .inl (k.z0 a h), fun a h => ?_, fun a o h n => hold a o (k.sm a o h n)⟩
    · cases e0 : H b with
      | none => exact absurd e0 (F.md.dom s H b k.st hb)
      | some o => exact hold b o e0
    · rcases h with h | h
      · obtain ⟨q1, q2⟩ := k.zd a h
        cases e0 : H a with
        | none => exact absurd e0 q1
        | some o => exact ⟨by rw [hold a o e0]; simp, q2⟩
      · obtain ⟨i, hi⟩ := List.getElem?_of_mem h
        obtain ⟨y, _, hy⟩ := tup i a hi
        exact ⟨by rw [hy]; simp, k.toBs.nadr (nts a h)⟩
    · rcases h with h | h
      · exact k.zn a h
      · exact .inr (k.toBs.entry (nts a h))
  have g := k.toBs.grow ext
  refine q (.ref p) H' _ ext (k.carry ext bs) ⟨p, rfl, fun h => ?_, k.toBs.nadr np, k.toBs.entry np, ⟨ts.map V.ref, hl, by rw [List.length_map, hlen]; exact h2, ?_⟩, np, (k.side np).no⟩
  · rcases h with h | h
    · exact (k.zd p h).1 np
    · exact hp h
  · have hk : kvs.length = des.length := by have := congrArg List.length h3; simpa using this
    refine ⟨by rw [List.length_map, List.length_map, hlen, hk], fun i v d a b => ?_⟩
    rw [List.getElem?_map] at a b
    obtain ⟨t, ht, rfl⟩ := Option.map_eq_some_iff.mp a
    obtain ⟨y, hy, rfl⟩ := Option.map_eq_some_iff.mp b
    obtain ⟨w, hw, h5⟩ := tup i t ht
    have e1 : w.1 = y.1 := pair_keys h3 i w y hw hy
    have z2 : Fz F.cn Z H w.2 y.2 := h4.snd i w y hw hy
    refine .tup (.inl ⟨.inr (List.mem_of_getElem? ht), h5⟩) rfl (by show 2 ≤ sizeLine; decide) fun jj v' d' a' b' => ?_
    match jj, a', b' with
    | 0, a', b' => simp at a' b'; subst a' b'; rw [e1]; exact keyD_fz _
    | 1, a', b' => simp at a' b'; subst a' b'; exact z2.grow g
    | n + 2, a', b' => simp at a'
theorem de_items {p cpos : Pos} (A : Amb X F k) (hg : Gl X "list") (hm : X.mg "list" = none) (h : DE X F own W m e te fe) (hbase : attributeBase e "items" X.env (eval e X.env) = eval e X.env := by rfl) (hline : (apos.endLine == cpos.line) = true := by rfl)
    (hs : starEach [.Call (.Attribute e "items" apos) [] [] cpos] X.env = (false, eval (.Call (.Attribute e "items" apos) [] [] cpos) X.env) :: starEach [] X.env := by rfl) :
    DE X F own W .fr (.Call (.Name "list" p) [.Call (.Attribute e "items" apos) [] [] cpos] [] pos) (LiI.tListItems te) (o1 dItems fe) :=
  ⟨LiI.pe_listItems A.calm h.pe hg hm (by decide +kernel) hbase hline hs, ev_op1 d_items h.ev⟩
end
end DL

namespace DL
open PySem L2 PySem.Spec PyProof.Rows PySem.PyData

/-! ### offsets: repr, order of keys -/
theorem off_rpk : ∀ {os : List (Str × Int)}, (∀ p ∈ os, nmOk p.1 = true ∧ p.2.natAbs < 10 ^ 12) → ∃ xs, toPyRk (os.map fun p => ((.inr p.1 : Key), D.int p.2)) = some xs ∧ showableKv xs = true ∧ depthKv xs ≤ 1 ∧ (xs.all fun p => flatPy p.1 && flatPy p.2) = true ∧ ((shownKv xs).map (·.length)).sum ≤ os.length * 100 ∧ (shownKv xs).length = os.length
  | [], _ => ⟨[], rfl, rfl, Nat.zero_le _, rfl, by simp [shownKv], rfl⟩
  | p :: os, h => by
    obtain ⟨h1, h2⟩ := h p List.mem_cons_self
    obtain ⟨x, a1, a2, a3, a4, a5⟩ := nm_rp (k := 0) h1
    obtain ⟨y, b1, b2, b3, b4, b5⟩ := rp_int (k := 0) h2
    obtain ⟨xs, c1, c2, c3, c4, c5, c6⟩ := off_rpk fun e he => h e (List.mem_cons_of_mem _ he)
    have e1 : x = .str p.1 := by simpa [toPyR] using a1.symm
    have e2 : y = .int p.2 := by simpa [toPyR] using b1.symm
    subst e1 e2
    refine ⟨(.str p.1, .int p.2) :: xs, ?_, ?_, ?_, ?_, ?_, ?_⟩
    · simp only [List.map_cons, toPyRk, toPyR]; rw [c1]; rfl
    · simp only [showableKv, a2, b2, c2, Bool.and_self]
    · simp only [depthKv]; exact Nat.max_le.mpr ⟨Nat.max_le.mpr ⟨Nat.le_trans a4 (by decide), Nat.le_trans b4 (by decide)⟩, c3⟩
    · rw [List.all_cons, c4]; rfl
    · simp only [shownKv, List.map_cons, List.sum_cons, List.length_cons, Nat.add_mul, strLen_append]
      have : (": " : Str).length = 2 := rfl
      omega
    · simp only [shownKv, List.length_cons, c6]
theorem off_repr {os : List (Str × Int)} (h : ∀ p ∈ os, nmOk p.1 = true ∧ p.2.natAbs < 10 ^ 12) (hl : os.length ≤ 100) : ∃ x, dRepr (offD os) = some (.str x) := by
  obtain ⟨xs, c1, c2, c3, c4, c5, c6⟩ := off_rpk h
  refine ⟨(PyData.dict xs).shown, ?_⟩
  unfold dRepr
  have : toPyR (offD os) = some (.dict xs) := by unfold offD; simp only [toPyR]; rw [c1]
  rw [this]
  dsimp only
  rw [if_pos]
  unfold reprOk
  have h1 : (PyData.dict xs).showable = true := by simp only [showable]; exact c2
  have h2 : (PyData.dict xs).depth ≤ 64 := by simp only [depth]; omega
  have h3 : (PyData.dict xs).shown.length ≤ sizeLine := by
    show (dictText (shownKv xs)).length ≤ sizeLine
    refine Nat.le_trans (PySem.dictText_len_le _) (Nat.le_trans (show _ ≤ 100000 from ?_) (by decide))
    omega
  rw [h1, decide_eq_true h2, decide_eq_true h3]
  dsimp only
  rw [c4]
  simp
theorem OffOk.repr {P : Int} (hP : P ≤ 60) {xs : List Str} (hx : Crew xs) {os : List (Str × Int)} (ho : OffOk P xs os) : ∃ x, dRepr (offD os) = some (.str x) := by
  refine off_repr (fun p hp => ⟨hx.ok _ (ho.pm.mem_iff.mp (List.mem_map_of_mem hp)), ?_⟩) ?_
  · have := ho.rg p hp
    have : p.2.natAbs < 60 := by omega
    exact Nat.lt_trans this (by decide)
  · have := ho.pm.length_eq
    rw [List.length_map] at this
    have := hx.le
    omega
theorem OffOk.nd {P : Int} {xs : List Str} (hx : Crew xs) {os : List (Str × Int)} (ho : OffOk P xs os) : (os.map (·.1)).Nodup := ho.pm.nodup_iff.mpr hx.nd
theorem look_mem {os : List (Str × Int)} (nd : (os.map (·.1)).Nodup) {p : Str × Int} (hp : p ∈ os) : look os p.1 = p.2 := by
  unfold look
  induction os with
  | nil => cases hp
  | cons q os ih =>
    rw [List.find?_cons]
    rw [List.map_cons, List.nodup_cons] at nd
    rcases List.mem_cons.mp hp with rfl | hp
    · simp
    · have : q.1 ≠ p.1 := fun e => nd.1 (e ▸ List.mem_map_of_mem hp)
      rw [decide_eq_false this]
      exact ih nd.2 hp
theorem look_perm {os os' : List (Str × Int)} (nd : (os.map (·.1)).Nodup) (h : os'.Perm os) {x : Str} (hx : x ∈ os.map (·.1)) : look os' x = look os x := by
  obtain ⟨p, hp, rfl⟩ := List.mem_map.mp hx
  rw [look_mem nd hp, look_mem ((h.map _).nodup_iff.mpr nd) (h.mem_iff.mpr hp)]
theorem OffOk.perm {P : Int} {xs : List Str} {os os' : List (Str × Int)} (ho : OffOk P xs os) (h : os'.Perm os) : OffOk P xs os' := ⟨(h.map _).trans ho.pm, fun p hp => ho.rg p (h.mem_iff.mp hp)⟩
theorem valS_look {os os' : List (Str × Int)} {xs : List Str} (h : ∀ x ∈ xs, look os' x = look os x) {a : Sg} (ha : SgOk xs a) : valS os' a = valS os a := by
  unfold valS
  by_cases e : a = org
  · rw [if_pos e, if_pos e]
  · rw [if_neg e, if_neg e, h _ (ha.resolve_left e).1]
theorem heldB_look {P : Int} {os os' : List (Str × Int)} {xs : List Str} (h : ∀ x ∈ xs, look os' x = look os x) {m : Dm} (hm : DmOk P xs m) : heldB P os' m = heldB P os m := by
  unfold heldB
  rw [valS_look h hm.1, valS_look h hm.2.1]
theorem brk_look {P : Int} {os os' : List (Str × Int)} {xs : List Str} (h : ∀ x ∈ xs, look os' x = look os x) {ms : List Dm} (hm : ∀ m ∈ ms, DmOk P xs m) : brk P os' ms = brk P os ms := by
  unfold brk
  congr 1
  apply List.filter_congr
  rintro ⟨m, i⟩ hi
  rw [heldB_look h (hm m (List.mem_of_getElem? (List.mem_zipIdx_iff_getElem?.mp hi)))]
theorem brk_perm {P : Int} {os os' : List (Str × Int)} {xs : List Str} (hx : Crew xs) (ho : OffOk P xs os) (h : os'.Perm os) {ms : List Dm} (hm : ∀ m ∈ ms, DmOk P xs m) : brk P os' ms = brk P os ms :=
  brk_look (fun x hx' => look_perm (ho.nd hx) h (ho.pm.mem_iff.mpr hx')) hm
theorem brk_ints (P : Int) (os : List (Str × Int)) (ms : List Dm) : ∃ is : List Int, brk P os ms = is.map .int := ⟨(ms.zipIdx.filter fun p => !heldB P os p.1).map fun p => ((p.2 : Nat) : Int), by unfold brk; rw [List.map_map]; rfl⟩
theorem brk_len (P : Int) (os : List (Str × Int)) (ms : List Dm) : (brk P os ms).length ≤ ms.length := by
  unfold brk
  rw [List.length_map]
  exact Nat.le_trans (List.length_filter_le _ _) (by rw [List.length_zipIdx]; exact Nat.le_refl _)
/-! ### kinds -/
theorem okKs_strs : ∀ xs : List Str, okKs (xs.map .str) = true
  | [] => rfl
  | x :: xs => by rw [List.map_cons, okKs, okKs_strs xs]; rfl
theorem okK_names (xs : List Str) : okK (namesD xs) = true := by unfold namesD; rw [okK]; exact okKs_strs xs
theorem okKs_dms : ∀ ms : List Dm, okKs (ms.map Dm.d) = true
  | [] => rfl
  | m :: ms => by rw [List.map_cons, okKs, okKs_dms ms]; rfl
theorem hd_dms : ∀ ms : List Dm, hdInt (ms.map Dm.d) = false
  | [] => rfl
  | m :: ms => rfl
theorem asU_parts (P : Int) (xs : List Str) (ms : List Dm) : asU (.tup [.int P, namesD xs, .lst (ms.map Dm.d)]) = some (.int P, namesD xs, ms.map Dm.d) := by
  unfold asU
  dsimp only
  rw [if_pos]
  rw [okK_names, okKs_dms, hd_dms]
  rfl
section
variable {S : Type}
theorem sUnp3_ap (i1 i2 i3 : Nat) (f : Env → M S (List D)) (mm : List D → M S D) (ρ : Env) : sUnp3 i1 i2 i3 f mm ρ = bnd (f ρ) fun ds => if okKs ds = true then bnd (mm ds) fun d => match asU d with
  | Option.some (x, y, es) => ret (.nx, ((ρ.set i1 (some x)).set i2 (some y)).set i3 (some (.lst es)))
  | Option.none => stk
  else stk := rfl
end
theorem items_off (os : List (Str × Int)) : dItems (offD os) = some (.lst (os.map fun p => D.tup [.str p.1, .int p.2])) := by
  unfold offD dItems
  dsimp only
  rw [List.map_map]
  rfl
end DL

namespace DL
open PySem L2 PySem.Spec PyProof.Rows

/-! ### d.update(e) -/
def rUpd : V → List V → Hp → VK → Prop := fun x vs H Q => ∃ (a b : Addr) (kvs more : List (Key × V)), x = .ref a ∧ vs = [.ref b] ∧ a ≠ b ∧ H a = some (.dK kvs) ∧ H b = some (.dK more) ∧ kvs.length + more.length ≤ sizeLine ∧ Q .non (upd H a (.dK (mergeK kvs more)))
theorem mt_upd {X : Cx} : MtR X "dict.update" rUpd := by
  intro pins s σ H x vs v us Q I rx rv h
  obtain ⟨a, b, kvs, more, rfl, rfl, hne, ea, eb, hz, q⟩ := h
  obtain rfl : v = Value.ref a := rx
  obtain ⟨u, rfl, ru⟩ := rv.one
  obtain rfl : u = Value.ref b := ru
  obtain ⟨z, hd, ws, rel, dd⟩ := dk_of I.hok ea
  obtain ⟨z2, hd2, ws2, rel2, dd2⟩ := dk_of I.hok eb
  refine call_meetsIn PySem.F.slot_dict_update dd.typeIs PySem.F.entry_dict_update (PySem.F.args_dict_update_2 _ _) (meets_dict_update (mixKind X.prog X.w) a b hne hd2) ⟨ws, ws2, dd, dd2, by rw [← rel.length, ← rel2.length]; exact hz, fun h' dd' _ hs => ?_⟩
  have he : ∃ q, h'.get? a = some q := let ⟨q, _, _, hq, _⟩ := dd'; ⟨q, hq⟩
  exact ⟨.non, _, d_write (t' := s.toks) I (by rw [ea]; exact True.intro) hs he (dk_new (Nat.le_trans (length_mergeK _ _) hz) hd (rel2.merge rel) dd'), rfl, q⟩

section
variable {S : Type} {X : Cx} {F : Fc S} {Z Z' Z1 Z2 : Addr → Prop} {H H' H1 H2 : Hp} {σ σ' : L2.St} {ρ : Env} {own own1 own2 own' oL : List Nat} {s s' : S} {p : Addr} {o : HO} {v : V} {d : D} {m m' m1 m2 m3 : Mo} {W : WX} {Q : VK} {k : Nat} {fr : Bool} {D0 : Ends}
variable {a b c e oe : Expr} {ta tb tc te tk : TE} {fa fb fc fe fk : Env → M S D} {pos pos' ppos apos cpos py : Pos} {es : List Expr} {t : TA} {f : Env → M S (List D)} {cls nm : Str} {sp : Sp} {st : Stmt} {ps : List Str} {i j : Nat} {pl : Sem Bool} {y : Str} {tt : TT} {ft : Env → M S Bool}

/-! ### x.m(e), x.m() that change an owned x -/
def sMt (kd : D → Bool) (g : D → D → Option D) (i : Nat) (fe : Env → M S D) : Env → M S (Fl × Env) := fun ρ => match slot ρ i with
  | none => stk
  | some d => if kd d = true then bnd (fe ρ) fun x => match g d x with
    | none => stk
    | some d' => ret (.nx, ρ.set i (some d')) else stk
def sMt0 (g : D → Option D) (i : Nat) : Env → M S (Fl × Env) := fun ρ => match slot ρ i with
  | none => stk
  | some d => match g d with
    | none => stk
    | some d' => ret (.nx, ρ.set i (some d'))
theorem ds_mt {T id : String} {r : V → List V → Hp → VK → Prop} {kd : D → Bool} {g : D → D → Option D} (pa : PlainAttrs T) (sl : Slot T nm id) (hty : typeOf (.builtin id) = pure (.type "method_descriptor")) (hm : MtR X id r)
    (hk : ∀ H Z x d, Ow F.cn Z H x d → kd d = true → tyV X.K T (.ref x) H)
    (hr : ∀ Z H x v d dv d' Q, Ow F.cn Z H x d → ¬ Z x → Fz F.cn Z H v dv → g d dv = some d' → ∃ o, Ow F.cn Z (upd H x o) x d' ∧ (Q .non (upd H x o) → r (.ref x) [v] H Q))
    (h : DE X F own W .fz e te fe) (hj : i ∈ own := by decide) (hN : X.N[i]? = some y := by rfl) (hv : Vis X.env.scope y := by first | exact Or.inl rfl | exact Or.inr (Or.inl rfl) | exact Or.inr (Or.inr rfl)) (hd : (y == ("__debug__" : Str)) = false := by decide)
    (hcd : (y == ("__classdict__" : Str)) = false := by decide)
    (hbase : attributeBase (.Name y py) nm X.env (eval (.Name y py) X.env) = eval (.Name y py) X.env := by rfl)
    (hfew : ((backTo cpos (starEach (e :: []) X.env)).all (fun x => !x.1) && (backToKw cpos (keywordEach [] X.env)).all (fun x => x.1.isSome)
      && decide ((e :: []).length + ([] : List Keyword).length + (if ([] : List Keyword).isEmpty then 0 else 1) < 30)) = true := by rfl)
    (hline : (apos.endLine == cpos.line) = true := by rfl) (hs : starEach (e :: []) X.env = (false, eval e X.env) :: starEach [] X.env := by rfl) (hplain : (backTo cpos (starEach [] X.env)).any (·.1) = false := by rfl)
    (hsw : swapsWith (.Call (.Attribute (.Name y py) nm apos) [e] [] cpos) none pos.line X.env = pure false := by rfl) :
    DS X F own own oL W fr (.Expr (.Call (.Attribute (.Name y py) nm apos) [e] [] cpos) pos) (tDrop (tBM X.K T r (tVar i) (tCons te tNil))) (sMt kd g i fe) := by
  refine ⟨ps_expr (pe_bm pa sl hty hm (pe_var hN hv hd hcd) (pa_cons h.pe pa_nil hs) hbase hfew hline hs hplain) hsw, fun σ H Z ρ s D0 k q => ?_⟩
  dsimp only [sMt] at q
  cases e1 : slot ρ i with
  | none => rw [e1] at q; exact (show False from q).elim
  | some d =>
    rw [e1] at q
    dsimp only at q
    by_cases hkd : kd d = true
    · rw [if_pos hkd] at q
      dsimp only [bnd] at q
      obtain ⟨x, q1, q2, q3, q4, q5⟩ := k.ow i d hj (slot_some e1)
      refine ⟨_, q1, hk H Z x d q5 hkd, ?_⟩
      refine h.ev σ H Z ρ s _ k ?_
      match e2 : fe ρ s, q with
      | none, q => exact q
      | some (.error y, s'), q => exact fun cls dd H' Z' => q cls dd σ H' Z'
      | some (.ok dx, s1), q =>
        intro v1 H1 Z1 x1 k1 z1
        dsimp only at q
        match e3 : g d dx, q with
        | none, q => exact (show False from q).elim
        | some d', q =>
          obtain ⟨x', r1, r2, r3, r4, r5⟩ := k1.ow i d hj (slot_some e1)
          rw [q1] at r1
          cases r1
          obtain ⟨o, w1, w2⟩ := hr Z1 H1 x v1 d dx d' (fun v H' => D0.nx σ H') r5 r2 z1 e3
          refine w2 ?_
          have g2 := k1.growU (o := o) hj (slot_some e1) q1
          exact q σ _ Z1 ((k.toBs.grow x1).trans g2) (k1.upd hj (slot_some e1) q1 w1)
    · rw [if_neg hkd] at q
      exact (show False from q).elim
theorem ds_mt0 {T id : String} {r : V → List V → Hp → VK → Prop} {g : D → Option D} (pa : PlainAttrs T) (sl : Slot T nm id) (hty : typeOf (.builtin id) = pure (.type "method_descriptor")) (hm : MtR X id r)
    (hr : ∀ Z H x d d' Q, Ow F.cn Z H x d → ¬ Z x → g d = some d' → tyV X.K T (.ref x) H ∧ ∃ o, Ow F.cn Z (upd H x o) x d' ∧ (Q .non (upd H x o) → r (.ref x) [] H Q))
    (hj : i ∈ own := by decide) (hN : X.N[i]? = some y := by rfl) (hv : Vis X.env.scope y := by first | exact Or.inl rfl | exact Or.inr (Or.inl rfl) | exact Or.inr (Or.inr rfl)) (hd : (y == ("__debug__" : Str)) = false := by decide)
    (hcd : (y == ("__classdict__" : Str)) = false := by decide)
    (hbase : attributeBase (.Name y py) nm X.env (eval (.Name y py) X.env) = eval (.Name y py) X.env := by rfl)
    (hline : (apos.endLine == cpos.line) = true := by rfl)
    (hsw : swapsWith (.Call (.Attribute (.Name y py) nm apos) [] [] cpos) none pos.line X.env = pure false := by rfl) :
    DS X F own own oL W fr (.Expr (.Call (.Attribute (.Name y py) nm apos) [] [] cpos) pos) (tDrop (tBM0 X.K T r (tVar i))) (sMt0 g i) := by
  refine ⟨ps_expr (pe_bm0 pa sl hty hm (pe_var hN hv hd hcd) hbase hline) hsw, fun σ H Z ρ s D0 k q => ?_⟩
  dsimp only [sMt0] at q
  cases e1 : slot ρ i with
  | none => rw [e1] at q; exact (show False from q).elim
  | some d =>
    rw [e1] at q
    dsimp only at q
    cases e2 : g d with
    | none => rw [e2] at q; exact (show False from q).elim
    | some d' =>
      rw [e2] at q
      obtain ⟨x, q1, q2, q3, q4, q5⟩ := k.ow i d hj (slot_some e1)
      obtain ⟨ty, o, w1, w2⟩ := hr Z H x d d' (fun v H' => D0.nx σ H') q5 q2 e2
      refine ⟨_, q1, ty, w2 ?_⟩
      have g2 := k.growU (o := o) hj (slot_some e1) q1
      exact q σ _ Z g2 (k.upd hj (slot_some e1) q1 w1)
theorem nz_grow (h : ¬ Z p) : Grow Z H Z (L2.upd H p o) := ⟨fun _ z => z, fun b z => upd_ne fun e => h (e ▸ z)⟩
def isLstD : D → Bool
  | .lst _ => true
  | _ => false
def isDicD : D → Bool
  | .dic _ => true
  | _ => false
theorem ty_lst (hK : X.K = F.K) : ∀ H Z x d, Ow F.cn Z H x d → isLstD d = true → tyV X.K "list" (.ref x) H := by
  intro H Z x d h hk
  cases d <;> cases hk
  obtain ⟨vs, h1, _⟩ := h
  exact .inl ⟨rfl, _, SqL.of h1⟩
theorem ty_dic : ∀ H Z x d, Ow F.cn Z H x d → isDicD d = true → tyV X.K "dict" (.ref x) H := by
  intro H Z x d h hk
  cases d <;> cases hk
  obtain ⟨vs, h1, _⟩ := h
  exact .inr (.inr (.inl ⟨rfl, .inl ⟨_, h1⟩⟩))
/-- xs.extend(e) -/
def gExt : D → D → Option D
  | .lst xs, .lst ys => if xs.length + ys.length ≤ sizeLine then some (.lst (xs ++ ys)) else none
  | _, _ => none
theorem gExt_r : ∀ Z H x v d dv d' (Q : VK), Ow F.cn Z H x d → ¬ Z x → Fz F.cn Z H v dv → gExt d dv = some d' → ∃ o, Ow F.cn Z (upd H x o) x d' ∧ (Q .non (upd H x o) → rExtend (.ref x) [v] H Q) := by
  intro Z H x v d dv d' Q h hz z e
  cases d <;> cases dv <;> simp only [gExt] at e <;> try cases e
  rename_i xs ys
  split at e
  · rename_i hl
    cases e
    obtain ⟨vs, h1, h2, h3⟩ := h
    cases z with
    | lst z1 z2 z3 z4 z5 =>
      rename_i b us
      refine ⟨.lst (vs ++ us), ⟨_, upd_same, ?_, (h3.app ⟨z3, z5⟩).grow (nz_grow hz)⟩, fun q => ⟨x, b, vs, us, rfl, rfl, h1, z2, ?_, q⟩⟩
      · rw [List.length_append, h3.1, z3]; exact hl
      · rw [h3.1, z3]; exact hl
  · cases e
theorem ds_ext (A : Amb X F k) (h : DE X F own W .fz e te fe) (hj : i ∈ own := by decide) (hN : X.N[i]? = some y := by rfl) (hv : Vis X.env.scope y := by first | exact Or.inl rfl | exact Or.inr (Or.inl rfl) | exact Or.inr (Or.inr rfl)) (hd : (y == ("__debug__" : Str)) = false := by decide)
    (hcd : (y == ("__classdict__" : Str)) = false := by decide)
    (hbase : attributeBase (.Name y py) "extend" X.env (eval (.Name y py) X.env) = eval (.Name y py) X.env := by rfl)
    (hfew : ((backTo cpos (starEach (e :: []) X.env)).all (fun x => !x.1) && (backToKw cpos (keywordEach [] X.env)).all (fun x => x.1.isSome)
      && decide ((e :: []).length + ([] : List Keyword).length + (if ([] : List Keyword).isEmpty then 0 else 1) < 30)) = true := by rfl)
    (hline : (apos.endLine == cpos.line) = true := by rfl) (hs : starEach (e :: []) X.env = (false, eval e X.env) :: starEach [] X.env := by rfl) (hplain : (backTo cpos (starEach [] X.env)).any (·.1) = false := by rfl)
    (hsw : swapsWith (.Call (.Attribute (.Name y py) "extend" apos) [e] [] cpos) none pos.line X.env = pure false := by rfl) :
    DS X F own own oL W fr (.Expr (.Call (.Attribute (.Name y py) "extend" apos) [e] [] cpos) pos) (tDrop (tBM X.K "list" rExtend (tVar i) (tCons te tNil))) (sMt isLstD gExt i fe) :=
  ds_mt PySem.F.plainAttrs_list PySem.F.slot_list_extend PySem.F.type_list_extend mt_extend (ty_lst A.K) gExt_r h hj hN hv hd hcd hbase hfew hline hs hplain hsw
/-- d.update(e) -/
def gUpd : D → D → Option D
  | .dic xs, .dic ys => if xs.length + ys.length ≤ sizeLine then some (.dic (mergeD xs ys)) else none
  | _, _ => none
theorem gUpd_r : ∀ Z H x v d dv d' (Q : VK), Ow F.cn Z H x d → ¬ Z x → Fz F.cn Z H v dv → gUpd d dv = some d' → ∃ o, Ow F.cn Z (upd H x o) x d' ∧ (Q .non (upd H x o) → rUpd (.ref x) [v] H Q) := by
  intro Z H x v d dv d' Q h hz z e
  cases d <;> cases dv <;> simp only [gUpd] at e <;> try cases e
  rename_i xs ys
  split at e
  · rename_i hl
    cases e
    obtain ⟨kvs, h1, h2, h3, h4⟩ := h
    have z0 := z
    obtain ⟨b, more, rfl, m1, m2, m3, m4⟩ := Bz.dic_ (adr := fun _ => False) (.inl z)
    have l1 : kvs.length = xs.length := by simpa using congrArg List.length h3
    have l2 : more.length = ys.length := by simpa using congrArg List.length m3
    have hb : Z b := by cases z0 with | dic z1 _ _ _ _ _ => exact z1
    obtain ⟨w1, w2⟩ := merge_pair more ys kvs xs h3 h4 m3 m4
    refine ⟨.dK (mergeK kvs more), ⟨_, upd_same, ?_, w1, w2.grow (nz_grow hz)⟩, fun q => ⟨x, b, kvs, more, rfl, rfl, fun e => hz (e ▸ hb), h1, m1, by rw [l1, l2]; exact hl, q⟩⟩
    exact Nat.le_trans (length_mergeK _ _) (by rw [l1, l2]; exact hl)
  · cases e
theorem ds_upd (h : DE X F own W .fz e te fe) (hj : i ∈ own := by decide) (hN : X.N[i]? = some y := by rfl) (hv : Vis X.env.scope y := by first | exact Or.inl rfl | exact Or.inr (Or.inl rfl) | exact Or.inr (Or.inr rfl)) (hd : (y == ("__debug__" : Str)) = false := by decide)
    (hcd : (y == ("__classdict__" : Str)) = false := by decide)
    (hbase : attributeBase (.Name y py) "update" X.env (eval (.Name y py) X.env) = eval (.Name y py) X.env := by rfl)
    (hfew : ((backTo cpos (starEach (e :: []) X.env)).all (fun x => !x.1) && (backToKw cpos (keywordEach [] X.env)).all (fun x => x.1.isSome)
      && decide ((e :: []).length + ([] : List Keyword).length + (if ([] : List Keyword).isEmpty then 0 else 1) < 30)) = true := by rfl)
    (hline : (apos.endLine == cpos.line) = true := by rfl) (hs : starEach (e :: []) X.env = (false, eval e X.env) :: starEach [] X.env := by rfl) (hplain : (backTo cpos (starEach [] X.env)).any (·.1) = false := by rfl)
    (hsw : swapsWith (.Call (.Attribute (.Name y py) "update" apos) [e] [] cpos) none pos.line X.env = pure false := by rfl) :
    DS X F own own oL W fr (.Expr (.Call (.Attribute (.Name y py) "update" apos) [e] [] cpos) pos) (tDrop (tBM X.K "dict" rUpd (tVar i) (tCons te tNil))) (sMt isDicD gUpd i fe) :=
  ds_mt PySem.F.plainAttrs_dict PySem.F.slot_dict_update PySem.F.type_dict_update mt_upd ty_dic gUpd_r h hj hN hv hd hcd hbase hfew hline hs hplain hsw
/-- d.clear() -/
def gDcl : D → Option D
  | .dic _ => some (.dic [])
  | _ => none
theorem ds_dcl (hj : i ∈ own := by decide) (hN : X.N[i]? = some y := by rfl) (hv : Vis X.env.scope y := by first | exact Or.inl rfl | exact Or.inr (Or.inl rfl) | exact Or.inr (Or.inr rfl)) (hd : (y == ("__debug__" : Str)) = false := by decide)
    (hcd : (y == ("__classdict__" : Str)) = false := by decide)
    (hbase : attributeBase (.Name y py) "clear" X.env (eval (.Name y py) X.env) = eval (.Name y py) X.env := by rfl)
    (hline : (apos.endLine == cpos.line) = true := by rfl)
    (hsw : swapsWith (.Call (.Attribute (.Name y py) "clear" apos) [] [] cpos) none pos.line X.env = pure false := by rfl) :
    DS X F own own oL W fr (.Expr (.Call (.Attribute (.Name y py) "clear" apos) [] [] cpos) pos) (tDrop (tBM0 X.K "dict" rDClear (tVar i))) (sMt0 gDcl i) :=
  ds_mt0 PySem.F.plainAttrs_dict PySem.F.slot_dict_clear PySem.F.type_dict_clear mtd_clear (fun Z H x d d' Q h hz e => by
    cases d <;> simp only [gDcl] at e <;> try cases e
    rename_i des
    have ht := ty_dic (X := X) H Z x (.dic des) h rfl
    obtain ⟨kvs, h1, h2, h3, h4⟩ := h
    exact ⟨ht, .dK [], ⟨[], upd_same, Nat.zero_le _, rfl, FzAll.nil⟩, fun q => ⟨x, kvs, rfl, rfl, h1, q⟩⟩) hj hN hv hd hcd hbase hline hsw
/-- xs.pop() -/
def xPop0 (j : Nat) : Env → M S (D × Env) := fun ρ => match slL ρ j with
  | none => stk
  | some ds => match ds[ds.length - 1]? with
    | none => stk
    | some y => ret (y, ρ.set j (some (.lst ds.dropLast)))
theorem FzAll.dropLast {c : Cn} {vs : List V} {ds : List D} (h : FzAll c Z H vs ds) : FzAll c Z H vs.dropLast ds.dropLast := by
  rw [List.dropLast_eq_take, List.dropLast_eq_take]
  refine ⟨by simp [h.1], fun i v d a b => ?_⟩
  rw [List.getElem?_take] at a b
  split at a
  · split at b
    · exact h.2 i v d a b
    · cases b
  · cases a
theorem dx_pop0 (hj : j ∈ own := by decide) (hN : X.N[j]? = some y := by rfl) (hv : Vis X.env.scope y := by first | exact Or.inl rfl | exact Or.inr (Or.inl rfl) | exact Or.inr (Or.inr rfl)) (hd : (y == ("__debug__" : Str)) = false := by decide)
    (hcd : (y == ("__classdict__" : Str)) = false := by decide)
    (hbase : attributeBase (.Name y py) "pop" X.env (eval (.Name y py) X.env) = eval (.Name y py) X.env := by rfl)
    (hline : (apos.endLine == cpos.line) = true := by rfl) :
    DX X F own W (.Call (.Attribute (.Name y py) "pop" apos) [] [] cpos) (tBM0 X.K "list" rPop (tVar j)) (xPop0 j) := by
  refine ⟨pe_bm0 PySem.F.plainAttrs_list PySem.F.slot_list_pop PySem.F.type_list_pop mt_pop (pe_var hN hv hd hcd) hbase hline, fun σ H Z ρ s Q k q => ?_⟩
  dsimp only [xPop0] at q
  cases e1 : slL ρ j with
  | none => rw [e1] at q; exact (show False from q).elim
  | some ds =>
    rw [e1] at q
    dsimp only at q
    obtain ⟨x, vs, q1, q2, q3, q4⟩ := k.lstO hj (slL_some e1)
    cases e5 : ds[ds.length - 1]? with
    | none => rw [e5] at q; exact (show False from q).elim
    | some yd =>
      rw [e5] at q
      have hl : ds.length - 1 < ds.length := (List.getElem?_eq_some_iff.mp e5).1
      have hl' : vs.length - 1 < vs.length := by rw [q4.1]; exact hl
      have e6 : ds[vs.length - 1]? = some yd := by rw [q4.1]; exact e5
      refine ⟨_, q1, .inl ⟨rfl, _, SqL.of q2⟩, x, vs, vs[vs.length - 1], rfl, rfl, q2, List.getElem?_eq_getElem hl', ?_⟩
      have z2 : Fz F.cn Z H vs[vs.length - 1] yd := q4.2 _ _ _ (List.getElem?_eq_getElem hl') e6
      have g2 := k.growU (o := .lst vs.dropLast) hj (slL_some e1) q1
      exact q _ _ Z g2 (k.lstU hj (slL_some e1) q1 (Nat.le_trans (by rw [List.length_dropLast]; omega) q3) q4.dropLast) (z2.grow g2)
end
end DL

namespace DL
open PySem L2 PySem.Spec PyProof.Rows

/-! ### for .. in d.items(), d an owned dict: it is locked meanwhile, and hidden -/
def lss (Z : Addr → Prop) (x : Addr) : Addr → Prop := fun a => Z a ∧ a ≠ x
section
variable {S : Type} {X : Cx} {F : Fc S} {Z Z' Z1 Z2 : Addr → Prop} {H H' H1 H2 : Hp} {σ σ' : L2.St} {ρ : Env} {own own1 own2 own' oL : List Nat} {s s' : S} {p x : Addr} {o : HO} {v : V} {d : D} {m m' m1 m2 m3 : Mo} {W : WX} {Q : VK} {k : Nat} {fr : Bool} {D0 : Ends}
variable {a b c e oe : Expr} {ta tb tc te tk : TE} {fa fb fc fe fk : Env → M S D} {pos pos' ppos apos cpos py : Pos} {es : List Expr} {t : TA} {f : Env → M S (List D)} {cls nm : Str} {sp : Sp} {st : Stmt} {ps : List Str} {i j : Nat} {pl : Sem Bool} {y : Str} {tt : TT} {ft : Env → M S Bool} {od : Obj} {kvs : List (Key × V)}
theorem fz_ne {u : HO} {a : Addr} {vs : List V} {o : Obj} (hd : H x = some (.frz od u)) (hu : ∀ vs, u ≠ .lst vs) (h : H a = some (.frz o (.lst vs))) : a ≠ x := fun z => by
  rw [z, hd] at h
  injection h with h
  injection h with h1 h2
  exact hu _ h2
theorem Fz.unlock {c : Cn} {u : HO} (hd : H x = some (.frz od u)) (hu : ∀ vs, u ≠ .lst vs) (h : Fz c Z H v d) : Fz c (lss Z x) (upd H x u) v d := by
  have st : ∀ {a : Addr} {o : HO}, H a = some o → (∀ p q, o ≠ .frz p q) → a ≠ x ∧ upd H x u a = some o := fun {a o} e n => by
    have ne : a ≠ x := fun z => by rw [z, hd] at e; cases e; exact n _ _ rfl
    exact ⟨ne, by rw [upd_ne ne]; exact e⟩
  induction h with
  | non => exact .non
  | bl b => exact .bl b
  | int i => exact .int i
  | str x => exact .str x
  | ty n => exact .ty n
  | drw h => exact .drw h
  | scr h h2 =>
    refine .scr ?_ h2
    rcases h with ⟨z, h⟩ | h
    · refine .inl ?_
      rcases h with h | ⟨o, h⟩
      · obtain ⟨n, e⟩ := st h (fun _ _ z => nomatch z)
        exact ⟨⟨z, n⟩, .inl e⟩
      · have ne := fz_ne hd hu h
        exact ⟨⟨z, ne⟩, .inr ⟨o, by rw [upd_ne ne]; exact h⟩⟩
    · exact .inr h
  | lst h1 h2 h3 h4 _ ih => obtain ⟨n, e⟩ := st h2 (fun _ _ z => nomatch z); exact .lst ⟨h1, n⟩ e h3 h4 ih
  | tup h1 h2 h3 _ ih =>
    refine .tup ?_ h2 h3 ih
    rcases h1 with ⟨z, h⟩ | h
    · obtain ⟨n, e⟩ := st h (fun _ _ z => nomatch z)
      exact .inl ⟨⟨z, n⟩, e⟩
    · exact .inr h
  | dic h1 h2 h3 h4 h5 _ ih => obtain ⟨n, e⟩ := st h2 (fun _ _ z => nomatch z); exact .dic ⟨h1, n⟩ e h3 h4 h5 ih
  | dit h1 h2 h3 h4 h5 _ ih => obtain ⟨n, e⟩ := st h2 (fun _ _ z => nomatch z); exact .dit ⟨h1, n⟩ e h3 h4 h5 ih
  | obj h1 h2 h3 h4 h5 _ ih => obtain ⟨n, e⟩ := st h2 (fun _ _ z => nomatch z); exact .obj ⟨h1, n⟩ e h3 h4 h5 ih
  | slf h1 h2 h3 h4 h5 _ ih => obtain ⟨n, e⟩ := st h2 (fun _ _ z => nomatch z); exact .slf ⟨h1, n⟩ e h3 h4 h5 ih
theorem FzAll.unlock {c : Cn} {u : HO} {vs : List V} {ds : List D} (hd : H x = some (.frz od u)) (hu : ∀ vs, u ≠ .lst vs) (h : FzAll c Z H vs ds) : FzAll c (lss Z x) (upd H x u) vs ds :=
  ⟨h.1, fun i v d a b => (h.2 i v d a b).unlock hd hu⟩
theorem Ow.unlock {c : Cn} {u : HO} (hd : H x = some (.frz od u)) (hu : ∀ vs, u ≠ .lst vs) (h : Ow c Z H p d) : p ≠ x ∧ Ow c (lss Z x) (upd H x u) p d := by
  have st : ∀ {a : Addr} {o : HO}, H a = some o → (∀ p q, o ≠ .frz p q) → a ≠ x ∧ upd H x u a = some o := fun {a o} e n => by
    have ne : a ≠ x := fun z => by rw [z, hd] at e; cases e; exact n _ _ rfl
    exact ⟨ne, by rw [upd_ne ne]; exact e⟩
  cases d with
  | lst ds => obtain ⟨vs, h1, h2, h3⟩ := h; obtain ⟨n, e⟩ := st h1 (fun _ _ z => nomatch z); exact ⟨n, vs, e, h2, h3.unlock hd hu⟩
  | dic des => obtain ⟨vs, h1, h2, h3, h4⟩ := h; obtain ⟨n, e⟩ := st h1 (fun _ _ z => nomatch z); exact ⟨n, vs, e, h2, h3, h4.unlock hd hu⟩
  | dit des => obtain ⟨vs, h1, h2, h3, h4⟩ := h; obtain ⟨n, e⟩ := st h1 (fun _ _ z => nomatch z); exact ⟨n, vs, e, h2, h3, h4.unlock hd hu⟩
  | obj y des => obtain ⟨C, dx, fs, h1, h2, h3, h4⟩ := h; obtain ⟨n, e⟩ := st h1 (fun _ _ z => nomatch z); exact ⟨n, C, dx, fs, e, h2, h3, h4.unlock hd hu⟩
  | slf y des => obtain ⟨h0, C, dx, fs, h1, h2, h3, h4⟩ := h; obtain ⟨n, e⟩ := st h1 (fun _ _ z => nomatch z); exact ⟨n, h0, C, dx, fs, e, h2, h3, h4.unlock hd hu⟩
  | _ => exact h.elim
/-- the owned dict of a slot is locked, and its slot is empty meanwhile -/
theorem Ok.lockO {u : HO} (k : Ok F own Z H σ ρ s) (hi : i ∈ own) (hd : ρ[i]? = some (some d)) (hx : σ[i]? = some (some (.ref x))) : Grow Z H (fun a => Z a ∨ a = x) (L2.upd H x (.frz od u)) ∧ Ok F own (fun a => Z a ∨ a = x) (L2.upd H x (.frz od u)) σ (ρ.set i none) s := by
  obtain ⟨x', q1, q2, q3, q4, q5⟩ := k.ow i d hi hd
  rw [hx] at q1
  cases q1
  have g : Grow Z H (fun a => Z a ∨ a = x) (L2.upd H x (.frz od u)) := ⟨fun _ z => .inl z, fun b z => upd_ne fun e => q2 (e ▸ z)⟩
  have b0 := k.toBs.put (o := .frz od u) q2 q3 q4
  have hno : ∀ {j : Nat} {dj : D}, (ρ.set i none)[j]? = some (some dj) → j ≠ i ∧ ρ[j]? = some (some dj) := fun {j dj} hh => by
    rcases set_get hh with ⟨rfl, e, _⟩ | ⟨hj, h3⟩
    · cases e
    · exact ⟨hj, h3⟩
  refine ⟨g, b0.freeze (by rw [upd_same]; simp) q3 q4, fun j dj h1 h2 => ?_, fun j dj h1 h2 => ?_, fun j l d1 d2 w h1 h2 h3 h4 h5 h6 => ?_, by rw [List.length_set]; exact k.ln⟩
  · obtain ⟨hj, h3⟩ := hno h2
    obtain ⟨w, r1, r2⟩ := k.fz j dj h1 h3
    exact ⟨w, r1, r2.grow g⟩
  · obtain ⟨hj, h3⟩ := hno h2
    obtain ⟨y, r1, r2, r3, r4, r5⟩ := k.ow j dj h1 h3
    have ne : y ≠ x := fun e => hj (k.sp j i dj d x h1 hi h3 hd (e ▸ r1) hx)
    exact ⟨y, r1, fun z => z.elim r2 ne, r3, r4, r5.grow g (upd_ne ne)⟩
  · exact k.sp j l d1 d2 w h1 h2 (hno h3).2 (hno h4).2 h5 h6
theorem Bs.unlock {u : HO} (f : Bs F Z H s) (f0 : ¬ F.md.adr x) (h0 : F.H0 x = none) (hd : H x = some (.frz od u)) (hz0 : ¬ F.Z0 x) : Bs F (lss Z x) (upd H x u) s where
  st := F.md.frame s H _ f.st fun b hb => upd_ne fun e => f0 (e ▸ hb)
  zd := fun a h => by rw [upd_ne h.2]; exact f.zd a h.1
  z0 := fun a h => ⟨f.z0 a h, fun e => hz0 (e ▸ h)⟩
  zn := fun a h => f.zn a h.1
  sm := fun a u h k => by
    have ne : a ≠ x := fun e => by rw [e, h0] at h; cases h
    rw [upd_ne ne]; exact f.sm a u h k
theorem post_lock {u : HO} {r : Option (Except Exc D × S)} (hu : ∀ vs, u ≠ .lst vs) (k : Ok F own Z H σ ρ s) (hi : i ∈ own) (hd : ρ[i]? = some (some d)) (hx : σ[i]? = some (some (.ref x))) (hH : H x = some u)
    (hW : ∀ y s', r ≠ some (.error y, s')) (q : PostE F own W .fr Z H σ ρ Q r) :
    PostE F own W .fr (fun a => Z a ∨ a = x) (upd H x (.frz od u)) σ (ρ.set i none) (fun v H' => H' x = some (.frz od u) ∧ Q v (upd H' x u)) r := by
  match r, q with
  | none, q => exact q
  | some (.error y, s'), q => exact absurd rfl (hW y s')
  | some (.ok dd, s'), q =>
    obtain ⟨x', q1, q2, q3, q4, q5⟩ := k.ow i d hi hd
    rw [hx] at q1
    cases q1
    intro v H' Z' xe k' z'
    obtain ⟨g, k0⟩ := k.lockO (od := od) (u := u) hi hd hx
    have hl : H' x = some (.frz od u) := xe.h x _ upd_same q3
    have hz0 : ¬ F.Z0 x := fun z => q2 (k.z0 x z)
    have bs := k'.toBs.unlock q3 q4 hl hz0
    refine ⟨hl, q v _ (lss Z' x) ⟨fun a z => ⟨xe.z a (.inl z), fun e => q2 (e ▸ z)⟩, fun a z => ?_, fun a o e n => ?_⟩ ⟨bs, fun j dj h1 h2 => ?_, fun j dj h1 h2 => ?_, k.sp, k.ln⟩ ?_⟩
    · rcases xe.zn a z.1 with (w | w) | w | w
      · exact .inl w
      · exact absurd w z.2
      · rw [upd_ne z.2] at w; exact .inr (.inl w)
      · exact .inr (.inr w)
    · by_cases ha : a = x
      · subst ha; rw [upd_same, ← hH]; exact e
      · rw [upd_ne ha]
        exact xe.h a o (by rw [upd_ne ha]; exact e) n
    · have hj : j ≠ i := fun e => h1 (e ▸ hi)
      obtain ⟨w, r1, r2⟩ := k'.fz j dj h1 (by rw [List.getElem?_set_ne (Ne.symm hj)]; exact h2)
      exact ⟨w, r1, r2.unlock hl hu⟩
    · by_cases hj : j = i
      · subst hj
        rw [hd] at h2
        cases h2
        refine ⟨x, hx, fun z => z.2 rfl, q3, q4, ?_⟩
        have gg : Grow Z H Z' H' := g.trans (k0.toBs.grow xe)
        cases d with
        | lst ds => obtain ⟨vs, h1, h2, h3⟩ := q5; rw [h1] at hH; cases hH; exact absurd rfl (hu _)
        | dic des => obtain ⟨vs, h1, h2, h3, h4⟩ := q5; rw [h1] at hH; cases hH; exact ⟨vs, upd_same, h2, h3, (h4.grow gg).unlock hl hu⟩
        | dit des => obtain ⟨vs, h1, h2, h3, h4⟩ := q5; rw [h1] at hH; cases hH; exact ⟨vs, upd_same, h2, h3, (h4.grow gg).unlock hl hu⟩
        | obj y des => obtain ⟨C, dx, fs, h1, h2, h3, h4⟩ := q5; rw [h1] at hH; cases hH; exact ⟨C, dx, fs, upd_same, h2, h3, (h4.grow gg).unlock hl hu⟩
        | slf y des => obtain ⟨h0, C, dx, fs, h1, h2, h3, h4⟩ := q5; rw [h1] at hH; cases hH; exact ⟨h0, C, dx, fs, upd_same, h2, h3, (h4.grow gg).unlock hl hu⟩
        | _ => exact q5.elim
      · obtain ⟨y, r1, r2, r3, r4, r5⟩ := k'.ow j dj h1 (by rw [List.getElem?_set_ne (Ne.symm hj)]; exact h2)
        obtain ⟨ne, r6⟩ := r5.unlock hl hu
        exact ⟨y, r1, fun z => r2 z.1, r3, r4, r6⟩
    · obtain ⟨a, rfl, w1, w2, w3, w4, w5, w6⟩ := z'
      obtain ⟨ne, w7⟩ := w4.unlock hl hu
      refine ⟨a, rfl, fun z => w1 z.1, w2, w3, w7, by rw [upd_ne ne] at w5; exact w5, fun j dj h1 h2 => ?_⟩
      by_cases hj : j = i
      · subst hj; rw [hx]; intro e; cases e; exact ne rfl
      · exact w6 j dj h1 (by rw [List.getElem?_set_ne (Ne.symm hj)]; exact h2)
def itD (kv : Key × D) : D := .tup [keyD kv.1, kv.2]
def fIts (ks : List (Key × D)) : Env → M S (List D) := fun _ => ret (ks.map itD)
theorem wk_items {des : List (Key × D)} (z : Z x) (h : H x = some (.frz od (.dK kvs))) (hk : kvs.map (·.1) = des.map (·.1)) (hf : FzAll F.cn Z H (kvs.map (·.2)) (des.map (·.2))) : Wk F Z H (Iti x od kvs) (des.map itD) where
  go := fun i d Z1 H1 hd _ g1 hi => by
    have h1 : H1 x = some (.frz od (.dK kvs)) := (g1.h x z).trans h
    rw [List.getElem?_map] at hi
    obtain ⟨kv, hkv, rfl⟩ := Option.map_eq_some_iff.mp hi
    have ll : kvs.length = des.length := by simpa using congrArg List.length hk
    have hl : i < kvs.length := by rw [ll]; exact (List.getElem?_eq_some_iff.mp hkv).1
    refine ⟨⟨h1, hl⟩, fun w H' y => .inr ?_⟩
    obtain ⟨T, kk, vv, e1, e2, e3, e4⟩ := y
    refine ⟨T, [kV kk, vv], [keyD kv.1, kv.2], e2, e3, e4, rfl, by show 2 ≤ sizeLine; decide, ?_⟩
    have ek : kk = kv.1 := pair_keys hk i (kk, vv) kv e1 hkv
    subst ek
    exact .cons (keyD_fz _) (.cons ((hf.snd i _ kv e1 hkv).grow g1) .nil)
  stop := fun i Z1 H1 _ g1 hi => ⟨(g1.h x z).trans h, by
    have ll : kvs.length = des.length := by simpa using congrArg List.length hk
    rw [List.length_map] at hi; omega⟩
theorem nox_no {A : Type} (m : M S A) (g : A → M S D) (hg : ∀ a s y s', g a s ≠ some (.error y, s')) : ∀ (s : S) y s', bnd (nox m) g s ≠ some (.error y, s') := by
  intro s y s' h
  unfold bnd nox at h
  cases e : m s with
  | none => rw [e] at h; cases h
  | some p =>
    obtain ⟨r, s1⟩ := p
    rw [e] at h
    cases r with
    | error z => cases h
    | ok a => exact hg a s1 y s' h
def mCmpI (i : Nat) (asg : D → Env → Option Env) (tst : Env → M S Bool) (fe : Env → M S D) (vs : List Nat) : Env → M S D := fun ρ => match slD ρ i with
  | none => stk
  | some ks => mCmp (fIts ks) asg tst fe vs (ρ.set i none)
def mDcI (i : Nat) (asg : D → Env → Option Env) (tst : Env → M S Bool) (fk fe : Env → M S D) (vs : List Nat) : Env → M S D := fun ρ => match slD ρ i with
  | none => stk
  | some ks => mDc (fIts ks) asg tst fk fe vs (ρ.set i none)
theorem de_lcI {elt : Expr} {elts : List Expr} {kk : Nat} {tpos : Pos} {ifs : List Expr} {scope : Scope} {oc : List (Str × Nat)} {g : TG} {tgs : List Nat} {asg : D → Env → Option Env} (A : Amb X F k) (nd : X.N.Nodup) (ok : BlkOk X.N X.env.scope scope oc)
    (hg : ∀ sh Hb C cl fp, DG (Blk X scope sh Hb C cl fp) F own tgs (.Tuple elts kk tpos) g asg) (ht : ∀ sh Hb C cl fp, DTs (Blk X scope sh Hb C cl fp) F own WN ifs tt ft) (he : ∀ sh Hb C cl fp, DE (Blk X scope sh Hb C cl fp) F own WN .fz elt te fe)
    (hj : i ∈ own := by decide) (hN : X.N[i]? = some y := by rfl) (hv1 : Vis X.env.scope y := by first | exact Or.inl rfl | exact Or.inr (Or.inl rfl) | exact Or.inr (Or.inr rfl)) (hd : (y == ("__debug__" : Str)) = false := by decide)
    (hcd : (y == ("__classdict__" : Str)) = false := by decide)
    (hbase : attributeBase (.Name y py) "items" X.env (eval (.Name y py) X.env) = eval (.Name y py) X.env := by rfl) (hline : (apos.endLine == cpos.line) = true := by rfl)
    (hv : ∀ i ∈ tgs, i ∈ oc.map (·.2) := by decide) (hs : ∀ x, foldedSetIterable (.Call (.Attribute (.Name y py) "items" apos) [] [] cpos) X.env x = pure x := by intro _; rfl) :
    DE X F own W .fr (.ListComp elt [⟨.Tuple elts kk tpos, .Call (.Attribute (.Name y py) "items" apos) [] [] cpos, ifs, 0⟩] scope pos) (tLockE (tLc (iItems (tVar i)) g tt te (oc.map (·.2)))) (mCmpI i asg ft fe (oc.map (·.2))) := by
  refine ⟨pe_lock (pe_lc A.calm nd (pi_items (pe_var hN hv1 hd hcd) hbase hline) ok (fun s H C cl fp => (hg s H C cl fp).pg) (fun s H C cl fp => (ht s H C cl fp).pt) (fun s H C cl fp => (he s H C cl fp).pe) hs), fun σ H Z ρ s Q k q => ?_⟩
  dsimp only [mCmpI] at q
  cases e1 : slD ρ i with
  | none => rw [e1] at q; exact (show False from q).elim
  | some ks =>
    rw [e1] at q
    dsimp only at q
    obtain ⟨x, kvs, q1, q2, q3, q4, q5⟩ := k.dicO hj (slD_some e1)
    refine ⟨x, .dK kvs, q2, True.intro, fun od => ?_⟩
    obtain ⟨gr, k'⟩ := k.lockO (od := od) (u := .dK kvs) hj (slD_some e1) q1
    refine ev_cmp1 (fi := fIts ks) k' (fun R h => ?_) (hg X.s_0 X.H_0 0 [] []).ev (ht X.s_0 X.H_0 0 [] []).ev (he X.s_0 X.H_0 0 [] []).ev hv (post_lock (fun _ z => nomatch z) k hj (slD_some e1) q1 q2 ?_ q)
    · exact ⟨_, q1, x, od, kvs, rfl, upd_same, h _ _ _ Ext.refl k' (wk_items (.inr rfl) upd_same q4 (q5.grow gr))⟩
    · intro y s' h
      dsimp only [mCmp, fIts] at h
      rw [bnd_ret] at h
      split at h
      · exact nox_no _ _ (fun a s y s' h => by cases h) _ _ _ h
      · cases h
theorem de_dcI {kx vx : Expr} {elts : List Expr} {kk : Nat} {tpos : Pos} {ifs : List Expr} {scope : Scope} {oc : List (Str × Nat)} {g : TG} {tgs : List Nat} {asg : D → Env → Option Env} (A : Amb X F k) (nd : X.N.Nodup) (ok : BlkOk X.N X.env.scope scope oc)
    (hg : ∀ sh Hb C cl fp, DG (Blk X scope sh Hb C cl fp) F own tgs (.Tuple elts kk tpos) g asg) (ht : ∀ sh Hb C cl fp, DTs (Blk X scope sh Hb C cl fp) F own WN ifs tt ft) (hk : ∀ sh Hb C cl fp, DE (Blk X scope sh Hb C cl fp) F own WN .fz kx tk fk) (he : ∀ sh Hb C cl fp, DE (Blk X scope sh Hb C cl fp) F own WN .fz vx te fe)
    (hj : i ∈ own := by decide) (hN : X.N[i]? = some y := by rfl) (hv1 : Vis X.env.scope y := by first | exact Or.inl rfl | exact Or.inr (Or.inl rfl) | exact Or.inr (Or.inr rfl)) (hd : (y == ("__debug__" : Str)) = false := by decide)
    (hcd : (y == ("__classdict__" : Str)) = false := by decide)
    (hbase : attributeBase (.Name y py) "items" X.env (eval (.Name y py) X.env) = eval (.Name y py) X.env := by rfl) (hline : (apos.endLine == cpos.line) = true := by rfl)
    (hv : ∀ i ∈ tgs, i ∈ oc.map (·.2) := by decide) (hs : ∀ x, foldedSetIterable (.Call (.Attribute (.Name y py) "items" apos) [] [] cpos) X.env x = pure x := by intro _; rfl) :
    DE X F own W .fr (.DictComp kx vx [⟨.Tuple elts kk tpos, .Call (.Attribute (.Name y py) "items" apos) [] [] cpos, ifs, 0⟩] scope pos) (tLockE (tDc (iItems (tVar i)) g tt tk te (oc.map (·.2)))) (mDcI i asg ft fk fe (oc.map (·.2))) := by
  refine ⟨pe_lock (pe_dc A.calm nd (pi_items (pe_var hN hv1 hd hcd) hbase hline) ok (fun s H C cl fp => (hg s H C cl fp).pg) (fun s H C cl fp => (ht s H C cl fp).pt) (fun s H C cl fp => (hk s H C cl fp).pe) (fun s H C cl fp => (he s H C cl fp).pe) hs), fun σ H Z ρ s Q k q => ?_⟩
  dsimp only [mDcI] at q
  cases e1 : slD ρ i with
  | none => rw [e1] at q; exact (show False from q).elim
  | some ks =>
    rw [e1] at q
    dsimp only at q
    obtain ⟨x, kvs, q1, q2, q3, q4, q5⟩ := k.dicO hj (slD_some e1)
    refine ⟨x, .dK kvs, q2, True.intro, fun od => ?_⟩
    obtain ⟨gr, k'⟩ := k.lockO (od := od) (u := .dK kvs) hj (slD_some e1) q1
    refine ev_dc1 (fi := fIts ks) k' (fun R h => ?_) (hg X.s_0 X.H_0 0 [] []).ev (ht X.s_0 X.H_0 0 [] []).ev (hk X.s_0 X.H_0 0 [] []).ev (he X.s_0 X.H_0 0 [] []).ev hv (post_lock (fun _ z => nomatch z) k hj (slD_some e1) q1 q2 ?_ q)
    · exact ⟨_, q1, x, od, kvs, rfl, upd_same, h _ _ _ Ext.refl k' (wk_items (.inr rfl) upd_same q4 (q5.grow gr))⟩
    · intro y s' h
      dsimp only [mDc, fIts] at h
      rw [bnd_ret] at h
      split at h
      · exact nox_no _ _ (fun a s y s' h => by cases h) _ _ _ h
      · cases h
end
end DL

namespace DL
open PySem L2 PySem.Spec PyProof.Rows
/-! ### methods by the written part -/
def MeT (K : PySem.W.Frag) (mg : Str → Option Value) (cls m : Str) (st : Stmt) : Prop := ∃ C f fd qual, mg cls = some (.ref C) ∧ Cls K C ∧ Meth K C m f ∧ Fun K m qual st f fd
def StT (K : PySem.W.Frag) (mg : Str → Option Value) (cls m : Str) (st : Stmt) : Prop := ∃ C mc p f fd qual rest, mg cls = some (.ref C) ∧ ClsRd K C mc ∧ PySem.W.findCls K (.ref C) mc m = some (.get (.builtin "staticmethod.__get__") (.ref p) .none (.ref C)) ∧ PySem.W.recIn K p "staticmethod" = some (.ref f :: rest) ∧ Fun K m qual st f fd
section
variable {K : PySem.W.Frag} {h : Heap} {mg : Str → Option Value} {cls f g : Str} {C p fa : Addr} {flds : List Str} {st : Stmt} {oc mc : Value} {od an : Option Addr} {osl : Array (Option Value)} {kV doc pm cdv ct : Value} {rest : List Value}
theorem txt_meth {qual : Str} (X : K.In h) (G : h.Ns mainGlobals mg) (a : PySem.W.nsIn K mainGlobals cls = some (some (.ref C))) (h1 : PySem.W.plainGet K C Str.empty = true) (h2 : PySem.W.hasDictIn K C = true) (h3 : PySem.W.plainOver K C = true) (h4 : PySem.W.findIn K (.ref C) "__setattr__" = some (some (.builtin "object.__setattr__")))
    (h5 : PySem.W.findIn K (.ref C) f = some (some (.ref fa))) (h6 : PySem.W.isFn K (.ref fa) = true)
    (l : K.lookup fa = some ⟨oc, od, .func (PySem.W.fnOf f qual (defArgs st) (defBody st) (defScope st) .none kV doc pm an cdv ct), osl⟩) (c : PySem.W.codeIn K cdv qual = true) (k : PySem.W.keepIn K (.ref fa) = true) : MeT K mg cls f st :=
  ⟨C, fa, _, qual, PySem.W.mg_of X G a, ⟨h1, h2, h3, h4⟩, ⟨h5, h6, k⟩, fun_mk l c k⟩
theorem txt_stat {qual : Str} (X : K.In h) (G : h.Ns mainGlobals mg) (a : PySem.W.nsIn K mainGlobals cls = some (some (.ref C))) (h0 : PySem.W.typeIn K (.ref C) = some mc) (h1 : PySem.W.readsIn K C mc = true) (h2 : PySem.W.specialIn K (.ref C) "__getattribute__" = some (some (.builtin "type.__getattribute__")))
    (h3 : PySem.W.findCls K (.ref C) mc f = some (.get (.builtin "staticmethod.__get__") (.ref p) .none (.ref C))) (h4 : PySem.W.recIn K p "staticmethod" = some (.ref fa :: rest))
    (l : K.lookup fa = some ⟨oc, od, .func (PySem.W.fnOf f qual (defArgs st) (defBody st) (defScope st) .none kV doc pm an cdv ct), osl⟩) (c : PySem.W.codeIn K cdv qual = true) (k : PySem.W.keepIn K (.ref fa) = true) : StT K mg cls f st :=
  ⟨C, mc, p, fa, _, qual, rest, PySem.W.mg_of X G a, ⟨h1, h2⟩, h3, h4, fun_mk l c k⟩
end
/-! ### y = {k: v for ..}, y a local name -/
section
variable {S : Type} {X : Cx} {F : Fc S} {σ : L2.St} {own oL : List Nat} {m : Mo} {W : WX} {k : Nat} {fr : Bool} {te tk : TE} {fe fk : Env → M S D} {pos pos' : Pos} {tt : TT} {ft : Env → M S Bool}
theorem sw_trueD {kx vx : Expr} {gs : List Comprehension} {scope : Scope} {py : Pos} {y : Str} {l : Nat} {env : PySem.Env} (hk : env.scope.kind = .function) (hy : env.scope.names.lookup y = some .local) (hl : (py.line == pos.line) = true)
    (ha : (scope.names.any fun (n, k) => n == y && (k == .local || k == .cell)) = false) : swapsWith (.DictComp kx vx gs scope pos) (some (.Name y py)) l env = pure true := by
  have k1 : env.kindOf y = some .local := hy
  have k2 : env.blockKind = .function := by unfold Env.blockKind; rw [hk]; rfl
  unfold swapsWith
  simp only [k2, k1, ha, Expr.pos, hl]
  rfl
theorem ps_setDc {i : Nat} {y : Str} {py : Pos} {kx vx tg iter : Expr} {ifs : List Expr} {scope : Scope} {oc : List (Str × Nat)} {wi : TI} {g : TG} (hc : X.calm = true) (nd : X.N.Nodup) (hy : X.N[i]? = some y) (hyl : X.env.scope.names.lookup y = some .local)
    (hsw : swapsWith (.DictComp kx vx [⟨tg, iter, ifs, 0⟩] scope pos) (some (.Name y py)) pos'.line X.env = pure true) (hi : PI X tg iter wi) (ok : BlkOk X.N X.env.scope scope oc)
    (hg : ∀ sh Hb C cl fp, PG (Blk X scope sh Hb C cl fp) tg g) (ht : ∀ sh Hb C cl fp, PTs (Blk X scope sh Hb C cl fp) ifs tt) (hk : ∀ sh Hb C cl fp, PE (Blk X scope sh Hb C cl fp) kx tk) (he : ∀ sh Hb C cl fp, PE (Blk X scope sh Hb C cl fp) vx te) (hs : ∀ x, foldedSetIterable iter X.env x = pure x) :
    PS X (.Assign [.Name y py] (.DictComp kx vx [⟨tg, iter, ifs, 0⟩] scope pos) pos') (tAsg (tDc wi g tt tk te (oc.map (·.2))) (gName i)) := by
  refine ⟨fun pn sh σ0 H0 D0 J w0 => ?_⟩
  rw [exec_Assign_Name_used _ _ _ _ hsw]
  refine wpAny_bind (wpAny_standAt (wpAny_bind ?_))
  show wpAny _ X.A (do let _ ← comprehension (.DictComp kx vx [⟨tg, iter, ifs, 0⟩] scope pos) scope X.env (firstIterPos [⟨tg, iter, ifs, 0⟩] pos) newDict false (eval iter X.env) (some (assign (.Name y py) X.env))) _ _ sh
  have w1 : tDc wi g tt tk te (oc.map (·.2)) σ0 H0 (fun x H1 => gName i x σ0 H1 D0.nx) := w0
  refine wpAny_bind (thn (dc_core (Qf := fun _ s' => SP X pn D0 .next s') hc nd J hi ok hg ht hk he hs w1 fun L C s' mm H' J' qq hn ff => ?_) fun _ s' hq => wpAny_pure (wpAny_pure hq))
  show wpAny _ _ (assign (.Name y py) X.env (.ref L)) _ _ _
  refine wpAny_assign_Name (store_ok2 (v := V.ref L) J' nd hy (.inl hyl) rfl (fun s2 J2 ⟨a, sb, ha⟩ => ?_) (.inr hyl))
  obtain ⟨g0, g1, g2, g3, g4, g5⟩ := ff
  have ne : C ≠ a := by
    rcases ha with z | z
    · rw [z]; exact g1
    · exact fun e => g4 y a z e.symm
  exact ⟨mm, hn.sameBut sb ne, fun h3 sb3 => ⟨_, H', J2.turned (t' := s2.toks) (fun b o hb e => (sb3.2 b hb).trans e) g0 g1 g3 g4 g5, qq⟩⟩
theorem ds_dc {i : Nat} {y : Str} {py : Pos} {kx vx tg iter : Expr} {ifs : List Expr} {scope : Scope} {oc : List (Str × Nat)} {wi : TI} {g : TG} {tgs : List Nat} {fi : Env → M S (List D)} {asg : D → Env → Option Env} (A : Amb X F k) (nd : X.N.Nodup)
    (hi : DI X F own W tg iter wi fi) (ok : BlkOk X.N X.env.scope scope oc)
    (hg : ∀ sh Hb C cl fp, DG (Blk X scope sh Hb C cl fp) F own tgs tg g asg) (ht : ∀ sh Hb C cl fp, DTs (Blk X scope sh Hb C cl fp) F own WN ifs tt ft) (hk : ∀ sh Hb C cl fp, DE (Blk X scope sh Hb C cl fp) F own WN .fz kx tk fk) (he : ∀ sh Hb C cl fp, DE (Blk X scope sh Hb C cl fp) F own WN .fz vx te fe)
    (hsw : swapsWith (.DictComp kx vx [⟨tg, iter, ifs, 0⟩] scope pos) (some (.Name y py)) pos'.line X.env = pure true)
    (hy : X.N[i]? = some y := by rfl) (hyl : X.env.scope.names.lookup y = some .local := by rfl)
    (hv : ∀ i ∈ tgs, i ∈ oc.map (·.2) := by decide) (hs : ∀ x, foldedSetIterable iter X.env x = pure x := by intro _; rfl) :
    DS X F own (i :: less own i) oL W fr (.Assign [.Name y py] (.DictComp kx vx [⟨tg, iter, ifs, 0⟩] scope pos) pos') (tAsg (tDc wi g tt tk te (oc.map (·.2))) (gName i)) (sSet i (mDc fi asg ft fk fe (oc.map (·.2)))) :=
  ⟨ps_setDc A.calm nd hy hyl hsw hi.pi ok (fun s H C cl fp => (hg s H C cl fp).pg) (fun s H C cl fp => (ht s H C cl fp).pt) (fun s H C cl fp => (hk s H C cl fp).pe) (fun s H C cl fp => (he s H C cl fp).pe) hs,
    EvS.bind (g := fun ρ d => ret (.nx, ρ.set i (some d))) (K := fun v σ H1 D0 => D0.nx (σ.set i (some v)) H1) (ev_dc hi.ev (hg X.s_0 X.H_0 0 [] []).ev (ht X.s_0 X.H_0 0 [] []).ev (hk X.s_0 X.H_0 0 [] []).ev (he X.s_0 X.H_0 0 [] []).ev hv) fun v d Hs Z H σ ρ s D0 k z q => q _ H Z (Grow.refl Z H) (k.setO z)⟩
end
end DL

namespace DL
open PySem L2 PySem.Spec PyProof.Rows
theorem isLstD_l (ds : List D) : isLstD (.lst ds) = true := rfl
theorem isDicD_d (ds : List (Key × D)) : isDicD (.dic ds) = true := rfl
section
variable {S : Type}
theorem sMt_ap (kd : D → Bool) (g : D → D → Option D) (i : Nat) (fe : Env → M S D) (ρ : Env) : (sMt kd g i fe ρ : M S (Fl × Env)) = (match slot ρ i with
  | none => stk
  | some d => if kd d = true then bnd (fe ρ) fun x => match g d x with
    | none => stk
    | some d' => ret (.nx, ρ.set i (some d')) else stk) := rfl
theorem sMt0_ap (g : D → Option D) (i : Nat) (ρ : Env) : (sMt0 g i ρ : M S (Fl × Env)) = (match slot ρ i with
  | none => stk
  | some d => match g d with
    | none => stk
    | some d' => ret (.nx, ρ.set i (some d'))) := rfl
theorem xPop0_ap (j : Nat) (ρ : Env) : (xPop0 j ρ : M S (D × Env)) = (match slL ρ j with
  | none => stk
  | some ds => match ds[ds.length - 1]? with
    | none => stk
    | some y => ret (y, ρ.set j (some (.lst ds.dropLast)))) := rfl
theorem mMet_ap (cls nm : Str) (fo : Env → M S D) (f : Env → M S (List D)) (mm : List D → M Unit D) (ρ : Env) : mMet cls nm fo f mm ρ = bnd (fo ρ) fun x => if isObj cls nm x = true then bnd (f ρ) fun ds => pur (mm (x :: ds)) else stk := rfl
theorem mMetK_ap (cls nm : Str) (pm : List Nat) (fo : Env → M S D) (f : Env → M S (List D)) (mm : List D → M Unit D) (ρ : Env) : mMetK cls nm pm fo f mm ρ = bnd (fo ρ) fun x => if isObj cls nm x = true then bnd (f ρ) fun ds => pur (mm (x :: pick pm ds)) else stk := rfl
theorem mCmpI_ap (i : Nat) (asg : D → Env → Option Env) (tst : Env → M S Bool) (fe : Env → M S D) (vs : List Nat) (ρ : Env) : mCmpI i asg tst fe vs ρ = (match slD ρ i with
  | none => stk
  | some ks => mCmp (fIts ks) asg tst fe vs (ρ.set i none)) := rfl
theorem mDcI_ap (i : Nat) (asg : D → Env → Option Env) (tst : Env → M S Bool) (fk fe : Env → M S D) (vs : List Nat) (ρ : Env) : mDcI i asg tst fk fe vs ρ = (match slD ρ i with
  | none => stk
  | some ks => mDc (fIts ks) asg tst fk fe vs (ρ.set i none)) := rfl
/-! ### dicts by comprehension -/
theorem dcF_map {α : Type} {asg : D → Env → Option Env} {tst : Env → M S Bool} {fk fe : Env → M S D} {ρ : Env} {f : α → D} (kf : α → Key) (g : α → D) : ∀ (l : List α) (acc : List (Key × D)), (∀ a ∈ l, ∃ ρ1 x, asg (f a) ρ = some ρ1 ∧ tst ρ1 = ret true ∧ fk ρ1 = ret x ∧ asK x = some (kf a) ∧ fe ρ1 = ret (g a)) →
    dcF asg tst fk fe ρ (l.map f) acc = ret (mergeD acc (l.map fun a => (kf a, g a)))
  | [], acc, _ => rfl
  | a :: l, acc, h => by
    obtain ⟨ρ1, x, e1, e2, e3, e4, e5⟩ := h a List.mem_cons_self
    rw [List.map_cons]
    unfold dcF
    rw [e1]
    dsimp only
    rw [e2, bnd_ret, if_pos rfl, e3, bnd_ret, e4]
    dsimp only
    rw [e5, bnd_ret, dcF_map kf g l _ fun b hb => h b (List.mem_cons_of_mem _ hb)]
    rfl
theorem mDc_all {α : Type} {fi : Env → M S (List D)} {asg : D → Env → Option Env} {fk fe : Env → M S D} {vs : List Nat} {ρ : Env} {l : List α} {f : α → D} (kf : α → Key) (g : α → D) (h1 : fi ρ = ret (l.map f)) (hl : l.length ≤ 100000)
    (h : ∀ a ∈ l, ∃ ρ1 x, asg (f a) (wipeD ρ vs) = some ρ1 ∧ fk ρ1 = ret x ∧ asK x = some (kf a) ∧ fe ρ1 = ret (g a)) : mDc fi asg yes fk fe vs ρ = ret (.dic (mergeD [] (l.map fun a => (kf a, g a)))) := by
  rw [mDc_ap, h1, bnd_ret, if_pos (by rw [List.length_map]; exact Nat.le_trans hl (by decide)), dcF_map kf g l [] fun a ha => ?_]
  · rfl
  · obtain ⟨ρ1, x, e1, e2, e3, e4⟩ := h a ha
    exact ⟨ρ1, x, e1, rfl, e2, e3, e4⟩
end
theorem merge_app : ∀ (more acc : List (Key × D)), ((acc ++ more).map (·.1)).Nodup → mergeD acc more = acc ++ more
  | [], acc, _ => by rw [List.append_nil]; rfl
  | o :: more, acc, h => by
    have hn : o.1 ∉ acc.map (·.1) := fun q => by
      rw [List.map_append, List.nodup_append] at h
      exact h.2.2 _ q _ (List.mem_map_of_mem List.mem_cons_self) rfl
    have hp : putD acc o.1 o.2 = acc ++ [o] := by
      unfold putD
      rw [if_neg]
      simp only [List.any_eq_true, decide_eq_true_eq, not_exists, not_and]
      intro x hx e
      exact hn (e ▸ List.mem_map_of_mem hx)
    show mergeD (putD acc o.1 o.2) more = _
    rw [hp, merge_app more (acc ++ [o]) (by rw [List.append_assoc]; exact h), List.append_assoc]
    rfl
/-! ### tied lines -/
inductive Con (ms : List Dm) (x : Str) : Str → Prop
  | here : Con ms x x
  | fwd {m : Dm} : m ∈ ms → Con ms x m.a.n → Con ms x m.b.n
  | bwd {m : Dm} : m ∈ ms → Con ms x m.b.n → Con ms x m.a.n
theorem Con.trans {ms : List Dm} {x y z : Str} (h : Con ms x y) (k : Con ms y z) : Con ms x z := by
  induction k with
  | here => exact h
  | fwd hm _ ih => exact .fwd hm ih
  | bwd hm _ ih => exact .bwd hm ih
theorem Con.symm {ms : List Dm} {x y : Str} (h : Con ms x y) : Con ms y x := by
  induction h with
  | here => exact .here
  | fwd hm _ ih => exact Con.trans (.bwd hm .here) ih
  | bwd hm _ ih => exact Con.trans (.fwd hm .here) ih
def univ (ms : List Dm) (x : Str) : List Str := x :: ms.flatMap fun m => [m.a.n, m.b.n]
theorem univ_len (ms : List Dm) (x : Str) : (univ ms x).length = 2 * ms.length + 1 := by
  unfold univ
  rw [List.length_cons]
  congr 1
  induction ms with
  | nil => rfl
  | cons m ms ih => rw [List.flatMap_cons, List.length_append, ih]; simp; omega
theorem Con.univ {ms : List Dm} {x y : Str} (h : Con ms x y) : y ∈ DL.univ ms x := by
  cases h with
  | here => exact List.mem_cons_self
  | fwd hm _ => exact List.mem_cons_of_mem _ (List.mem_flatMap.mpr ⟨_, hm, by simp⟩)
  | bwd hm _ => exact List.mem_cons_of_mem _ (List.mem_flatMap.mpr ⟨_, hm, by simp⟩)
/-- a set that no demand leads out of -/
def Shut (ms : List Dm) (K : List Str) : Prop := ∀ m ∈ ms, (m.a.n ∈ K → m.b.n ∈ K) ∧ (m.b.n ∈ K → m.a.n ∈ K)
theorem Con.shut {ms : List Dm} {K : List Str} (hK : Shut ms K) {x y : Str} (hx : x ∈ K) (h : Con ms x y) : y ∈ K := by
  induction h with
  | here => exact hx
  | fwd hm _ ih => exact (hK _ hm).1 ih
  | bwd hm _ ih => exact (hK _ hm).2 ih
def fdD (l : List Str) : D := .dic (l.map fun x => (.inr x, .bl true))
theorem fd_in (l : List Str) (x : Str) : dInB (.str x) (fdD l) = some (l.contains x) := by
  show some (((l.map fun y => ((.inr y : Key), D.bl true)).find? fun kv => decide (kv.1 = .inr x)).isSome) = _
  congr 1
  induction l with
  | nil => rfl
  | cons y l ih =>
    rw [List.map_cons, List.find?_cons]
    by_cases h : y = x
    · subst h; simp
    · have h2 : ¬ ((Sum.inr y : Key) = Sum.inr x) := fun e => h (Sum.inr.inj e)
      simp only [decide_eq_false h2]
      rw [ih]
      simp [Ne.symm h]
theorem fd_upd {l k : List Str} (h : (l ++ k).Nodup) (hl : l.length + k.length ≤ 100000) : gUpd (fdD l) (fdD k) = some (fdD (l ++ k)) := by
  show (if (l.map _).length + (k.map _).length ≤ sizeLine then some (D.dic (mergeD _ _)) else none) = _
  rw [if_pos (by rw [List.length_map, List.length_map]; exact Nat.le_trans hl (by decide)), merge_app]
  · unfold fdD; rw [List.map_append]
  · rw [← List.map_append, List.map_map]
    exact List.Pairwise.map _ (fun a b h e => h (Sum.inr.inj e)) h
/-! ### half a period more -/
def mvO (P : Int) (os : List (Str × Int)) (t : Str → Bool) (xs : List Str) : List (Str × Int) := xs.map fun y => (y, (look os y + P / 2 * (if t y = true then 1 else 0)) % P)
theorem look_map {f : Str → Int} : ∀ {xs : List Str} {x : Str}, x ∈ xs → look (xs.map fun y => (y, f y)) x = f x
  | y :: xs, x, h => by
    unfold look
    rw [List.map_cons, List.find?_cons]
    by_cases e : y = x
    · subst e; simp
    · simp only [decide_eq_false e]
      exact look_map ((List.mem_cons.mp h).resolve_left (Ne.symm e))
theorem mv_ok {P : Int} (hP : 0 < P) {os : List (Str × Int)} {t : Str → Bool} {xs : List Str} : OffOk P xs (mvO P os t xs) where
  pm := by unfold mvO; rw [List.map_map]; simp [Function.comp_def]
  rg := fun p hp => by
    unfold mvO at hp
    obtain ⟨y, _, rfl⟩ := List.mem_map.mp hp
    exact ⟨Int.emod_nonneg _ (by omega), Int.emod_lt_of_pos _ hP⟩
theorem val_mv {P : Int} (hP : P % 2 = 0) {os : List (Str × Int)} {t : Str → Bool} {xs : List Str} {a : Sg} (ha : SgOk xs a) (h0 : t "" = false) : ∃ q : Int, valS (mvO P os t xs) a = valS os a + a.s * (P / 2) * (if t a.n = true then 1 else 0) + P * q := by
  unfold valS
  by_cases c : a = org
  · subst c
    refine ⟨0, ?_⟩
    have : org.n = "" := rfl
    rw [if_pos rfl, if_pos rfl, this, h0]
    simp
  · rw [if_neg c, if_neg c]
    have hm : a.n ∈ xs := (ha.resolve_left c).1
    have e : look (mvO P os t xs) a.n = (look os a.n + P / 2 * (if t a.n = true then 1 else 0)) % P := look_map (f := fun y => (look os y + P / 2 * (if t y = true then 1 else 0)) % P) hm
    rw [e]
    generalize look os a.n = L
    generalize (if t a.n = true then (1 : Int) else 0) = B
    refine ⟨-(a.s * ((L + P / 2 * B) / P)), ?_⟩
    have h := Int.mul_ediv_add_emod (L + P / 2 * B) P
    have e2 : (L + P / 2 * B) % P = L + P / 2 * B - P * ((L + P / 2 * B) / P) := by omega
    rw [e2, Int.mul_sub, Int.mul_add, Int.mul_neg, ← Int.mul_assoc a.s (P / 2) B, Int.mul_left_comm a.s P]
    omega
theorem held_cong {P : Int} {os os' : List (Str × Int)} {m : Dm} {q : Int} (h : valS os' m.b - valS os' m.a = valS os m.b - valS os m.a + P * q) : heldB P os' m = heldB P os m := by
  unfold heldB
  rw [show valS os' m.b - valS os' m.a - m.lo = (valS os m.b - valS os m.a - m.lo) + P * q by omega, Int.add_mul_emod_self_left]
theorem held_mv {P : Int} (hP : P % 2 = 0) {os : List (Str × Int)} {t : Str → Bool} {xs : List Str} {m : Dm} (hm : DmOk P xs m) (h0 : t "" = false) (h1 : t m.a.n = t m.b.n) : heldB P (mvO P os t xs) m = heldB P os m := by
  obtain ⟨qa, ea⟩ := val_mv hP (os := os) hm.1 h0
  obtain ⟨qb, eb⟩ := val_mv hP (os := os) hm.2.1 h0
  rw [← h1] at eb
  by_cases c : t m.a.n = true
  · rw [if_pos c] at ea eb
    have na : m.a ≠ org := fun e => by rw [e] at c; exact absurd (c.symm.trans h0) (by decide)
    have nb : m.b ≠ org := fun e => by rw [h1, e] at c; exact absurd (c.symm.trans h0) (by decide)
    have sa := (hm.1.resolve_left na).2
    have sb := (hm.2.1.resolve_left nb).2
    obtain ⟨k, hk⟩ : ∃ k : Int, m.b.s * (P / 2) - m.a.s * (P / 2) = P * k := by
      rcases sa with sa | sa <;> rcases sb with sb | sb <;> rw [sa, sb]
      · exact ⟨0, by omega⟩
      · exact ⟨-1, by omega⟩
      · exact ⟨1, by omega⟩
      · exact ⟨0, by omega⟩
    refine held_cong (q := k + qb - qa) ?_
    rw [ea, eb, Int.mul_sub, Int.mul_add]
    omega
  · rw [if_neg c] at ea eb
    refine held_cong (q := qb - qa) ?_
    rw [ea, eb, Int.mul_sub]
    omega
theorem brk_cong {P : Int} {os os' : List (Str × Int)} {ms : List Dm} (h : ∀ m ∈ ms, heldB P os' m = heldB P os m) : brk P os' ms = brk P os ms := by
  unfold brk
  congr 1
  refine List.filter_congr fun p hp => ?_
  rw [h p.1 (List.mem_of_getElem? (List.mem_zipIdx_iff_getElem?.mp hp))]
theorem brk_con {P : Int} (hP : P % 2 = 0) {os : List (Str × Int)} {t : Str → Bool} {xs : List Str} {ms : List Dm} (hm : ∀ m ∈ ms, DmOk P xs m) {x : Str} (ht : ∀ y, y ∈ xs → (t y = true ↔ Con ms x y)) (he : t "" = false) (h0 : ¬ Con ms x "") : brk P (mvO P os t xs) ms = brk P os ms := by
  refine brk_cong fun m h => held_mv hP (hm m h) he ?_
  have key : ∀ a : Sg, SgOk xs a → (t a.n = true ↔ Con ms x a.n) := by
    intro a ha
    rcases ha with rfl | ⟨h1, _⟩
    · have : org.n = "" := rfl
      rw [this, he]
      exact ⟨fun z => absurd z Bool.false_ne_true, fun z => absurd z h0⟩
    · exact ht _ h1
  rw [Bool.eq_iff_iff, key _ (hm m h).1, key _ (hm m h).2.1]
  exact ⟨.fwd h, .bwd h⟩
/-! ### closing a set round by round -/
theorem countP_eq_imp {α : Type} {p q : α → Bool} : ∀ {l : List α}, (∀ a ∈ l, p a = true → q a = true) → l.countP p = l.countP q → ∀ a ∈ l, q a = true → p a = true
  | [], _, _, a, h, _ => by simp at h
  | b :: l, h, e, a, ha, hq => by
    have hl : ∀ a ∈ l, p a = true → q a = true := fun a ha => h a (List.mem_cons_of_mem _ ha)
    have hle : l.countP p ≤ l.countP q := List.countP_mono_left hl
    rw [List.countP_cons, List.countP_cons] at e
    by_cases cp : p b = true
    · have cq := h b List.mem_cons_self cp
      rw [if_pos cp, if_pos cq] at e
      rcases List.mem_cons.mp ha with rfl | ha
      · exact cp
      · exact countP_eq_imp hl (by omega) a ha hq
    · rw [if_neg cp] at e
      by_cases cq : q b = true
      · rw [if_pos cq] at e; omega
      · rw [if_neg cq] at e
        rcases List.mem_cons.mp ha with rfl | ha
        · exact absurd hq cq
        · exact countP_eq_imp hl (by omega) a ha hq
def actv (K : List Str) (m : Dm) : Bool := K.contains m.a.n || K.contains m.b.n
theorem actv_iff {K : List Str} {m : Dm} : actv K m = true ↔ m.a.n ∈ K ∨ m.b.n ∈ K := by simp [actv]
/-- one round -/
theorem shut_round {ms : List Dm} {K K1 : List Str} {i : Nat} (sub : ∀ y ∈ K, y ∈ K1) (both : ∀ m ∈ ms, actv K m = true → m.a.n ∈ K1 ∧ m.b.n ∈ K1) (stay : Shut ms K → ∀ y ∈ K1, y ∈ K) (h : Shut ms K ∨ i ≤ ms.countP (actv K)) : Shut ms K1 ∨ i + 1 ≤ ms.countP (actv K1) := by
  have mono : ∀ m ∈ ms, actv K m = true → actv K1 m = true := fun m _ h => actv_iff.mpr ((actv_iff.mp h).imp (sub _) (sub _))
  rcases h with h | h
  · refine .inl fun m hm => ⟨fun q => sub _ ((h m hm).1 (stay h _ q)), fun q => sub _ ((h m hm).2 (stay h _ q))⟩
  · by_cases e : ms.countP (actv K) = ms.countP (actv K1)
    · have := countP_eq_imp mono e
      exact .inl fun m hm => ⟨fun q => (both m hm (this m hm (actv_iff.mpr (.inl q)))).2, fun q => (both m hm (this m hm (actv_iff.mpr (.inr q)))).1⟩
    · have : ms.countP (actv K) ≤ ms.countP (actv K1) := List.countP_mono_left mono
      exact .inr (by omega)
theorem shut_end {ms : List Dm} {K : List Str} (h : Shut ms K ∨ ms.length + 1 ≤ ms.countP (actv K)) : Shut ms K := h.resolve_right fun q => by
  have := List.countP_le_length (p := actv K) (l := ms)
  omega
/-! ### demands that do not hold, by their places -/
theorem mem_brk {P : Int} {os : List (Str × Int)} {ms : List Dm} {k : Nat} : D.int (k : Int) ∈ brk P os ms ↔ ∃ m, ms[k]? = some m ∧ heldB P os m = false := by
  unfold brk
  rw [List.mem_map]
  constructor
  · rintro ⟨⟨m, i⟩, h, e⟩
    rw [List.mem_filter] at h
    have : i = k := by injection e with e; exact Int.ofNat.inj e
    subst this
    exact ⟨m, List.mem_zipIdx_iff_getElem?.mp h.1, by simpa using h.2⟩
  · rintro ⟨m, h, e⟩
    exact ⟨(m, k), List.mem_filter.mpr ⟨List.mem_zipIdx_iff_getElem?.mpr h, by simp [e]⟩, rfl⟩
theorem brk_map {P : Int} {os : List (Str × Int)} {ms : List Dm} {f : Dm → Dm} (h : ∀ m ∈ ms, heldB P os (f m) = heldB P os m) : brk P os (ms.map f) = brk P os ms := by
  unfold brk
  rw [List.zipIdx_map, List.filter_map, List.map_map]
  have : (List.filter ((fun p : Dm × Nat => !heldB P os p.1) ∘ Prod.map f id) ms.zipIdx) = ms.zipIdx.filter fun p => !heldB P os p.1 := List.filter_congr fun p hp => by
    show (!heldB P os (f p.1)) = _
    rw [h p.1 (List.mem_of_getElem? (List.mem_zipIdx_iff_getElem?.mp hp))]
  rw [this]
  rfl
theorem brk_set {P : Int} {os : List (Str × Int)} {ms : List Dm} {i : Nat} {m m' : Dm} (hi : ms[i]? = some m) (h : heldB P os m' = heldB P os m) : brk P os (ms.set i m') = brk P os ms := by
  have e : (ms.set i m').zipIdx = ms.zipIdx.map fun p => if p.2 = i then (m', i) else p := by
    apply List.ext_getElem?
    intro j
    rw [List.getElem?_map, List.getElem?_zipIdx, List.getElem?_zipIdx, List.getElem?_set]
    by_cases c : i = j
    · subst c
      have : i < ms.length := (List.getElem?_eq_some_iff.mp hi).1
      simp [this, hi]
    · rw [if_neg c]
      cases ms[j]? with
      | none => rfl
      | some x => simp [Ne.symm c]
  unfold brk
  rw [e, List.filter_map, List.map_map]
  have e2 : (ms.zipIdx.filter ((fun p : Dm × Nat => !heldB P os p.1) ∘ fun p => if p.2 = i then (m', i) else p)) = ms.zipIdx.filter fun p => !heldB P os p.1 := List.filter_congr fun p hp => by
    show (!heldB P os (if p.2 = i then (m', i) else p).1) = _
    by_cases c : p.2 = i
    · have hg := List.mem_zipIdx_iff_getElem?.mp (show (p.1, p.2) ∈ ms.zipIdx from hp)
      rw [c, hi] at hg
      cases hg
      rw [if_pos c, h]
    · rw [if_neg c]
  rw [e2]
  refine List.map_congr_left fun p hp => ?_
  show D.int ((if p.2 = i then (m', i) else p).2 : Nat) = _
  by_cases c : p.2 = i
  · rw [if_pos c, c]
  · rw [if_neg c]
theorem brk_app {P : Int} {os : List (Str × Int)} {ms : List Dm} {m : Dm} : brk P os (ms ++ [m]) = brk P os ms ++ (if heldB P os m = true then [] else [D.int (ms.length : Nat)]) := by
  unfold brk
  rw [List.zipIdx_append, List.filter_append, List.map_append]
  congr 1
  by_cases c : heldB P os m = true
  · simp [c]
  · simp [c]
theorem brk_lt {P : Int} {os : List (Str × Int)} {ms : List Dm} {d : D} (h : d ∈ brk P os ms) : ∃ k : Nat, k < ms.length ∧ d = .int k ∧ ∃ m, ms[k]? = some m ∧ heldB P os m = false := by
  have h0 := h
  unfold brk at h
  obtain ⟨p, hp, rfl⟩ := List.mem_map.mp h
  obtain ⟨m, h1, h2⟩ := mem_brk.mp h0
  exact ⟨p.2, (List.getElem?_eq_some_iff.mp h1).1, rfl, m, h1, h2⟩
end DL

namespace DL
open PySem L2 PySem.Spec PyProof.Rows
/-! ### equal dicts, whatever the order of their keys -/
def sameF : D → D → Bool
  | .non, .non => true
  | .bl a, .bl b => a == b
  | .int a, .int b => a == b
  | .str a, .str b => a == b
  | _, _ => false
def sameD (ks ls : List (Key × D)) : Bool := decide (ks.length = ls.length) && ks.all fun p => match ls.find? fun kv => decide (kv.1 = p.1) with
  | some q => sameF p.2 q.2
  | none => false
def dNeM : D → D → Option D
  | .dic ks, .dic ls => if sameD ks ls = true then some (.bl false) else none
  | _, _ => none
def dEqM : D → D → Option D
  | .dic ks, .dic ls => if sameD ks ls = true then some (.bl true) else none
  | _, _ => none
section
variable {S : Type} {X : Cx} {F : Fc S} {Z Z' : Addr → Prop} {H H' : Hp} {σ : L2.St} {ρ : Env} {own : List Nat} {s : S} {v : V} {d : D} {W : WX} {Q : VK} {k : Nat}
theorem sameF_v {c : Cn} {v v' : V} {d d' : D} (h : Fz c Z H v d) (h' : Fz c Z H v' d') (e : sameF d d' = true) : v' = v ∧ flatB v = true := by
  cases d <;> cases d' <;> simp only [sameF] at e <;> try cases e
  · cases h; cases h'; exact ⟨rfl, rfl⟩
  · cases h; cases h'; rw [beq_iff_eq] at e; subst e; exact ⟨rfl, rfl⟩
  · cases h; cases h'; rw [beq_iff_eq] at e; subst e; exact ⟨rfl, rfl⟩
  · cases h; cases h'; rw [beq_iff_eq] at e; subst e; exact ⟨rfl, rfl⟩
theorem sameD_v {c : Cn} {ks ls : List (Key × D)} {kv lv : List (Key × V)} (hk : kv.map (·.1) = ks.map (·.1)) (hf : FzAll c Z H (kv.map (·.2)) (ks.map (·.2))) (hl : lv.map (·.1) = ls.map (·.1)) (hg : FzAll c Z H (lv.map (·.2)) (ls.map (·.2))) (e : sameD ks ls = true) :
    kv.length = lv.length ∧ ∀ p ∈ kv, valV lv p.1 = some p.2 ∧ flatB p.2 = true := by
  unfold sameD at e
  rw [Bool.and_eq_true, decide_eq_true_eq, List.all_eq_true] at e
  have l1 : kv.length = ks.length := by simpa using congrArg List.length hk
  have l2 : lv.length = ls.length := by simpa using congrArg List.length hl
  refine ⟨by omega, fun p hp => ?_⟩
  obtain ⟨i, hi⟩ := List.getElem?_of_mem hp
  have hlt : i < ks.length := by rw [← l1]; exact (List.getElem?_eq_some_iff.mp hi).1
  have hq : ks[i]? = some ks[i] := List.getElem?_eq_getElem hlt
  have ek : p.1 = ks[i].1 := pair_keys hk i p ks[i] hi hq
  have hz := hf.snd i p ks[i] hi hq
  have e2 := e.2 ks[i] (List.getElem_mem _)
  cases ef : ls.find? fun kv => decide (kv.1 = ks[i].1) with
  | none => rw [ef] at e2; cases e2
  | some q =>
    rw [ef] at e2
    dsimp only at e2
    obtain ⟨v', h1, h2⟩ := find_val hl hg ks[i].1 (d := q.2) (by rw [ef]; rfl)
    obtain ⟨rfl, h3⟩ := sameF_v hz h2 e2
    rw [ek]
    exact ⟨h1, h3⟩
theorem d_neM : Op2 F own W .fz rNeDA dNeM := by
  intro v u x y d Z H σ ρ s Q hg k z1 z2 q
  cases x <;> cases y <;> simp only [dNeM] at hg <;> try cases hg
  rename_i ks ls
  split at hg
  · rename_i e
    cases hg
    obtain ⟨a, kv, rfl, h1, h2, h3, h4⟩ := z1.dic_
    obtain ⟨b, lv, rfl, g1, g2, g3, g4⟩ := z2.dic_
    obtain ⟨w1, w2⟩ := sameD_v h3 h4 g3 g4 e
    exact ⟨a, b, kv, lv, rfl, rfl, h1, g1, w1, w2, q _ H Z Ext.refl k (.bl false)⟩
  · cases hg
theorem d_eqM : Op2 F own W .fz rEqDA dEqM := by
  intro v u x y d Z H σ ρ s Q hg k z1 z2 q
  cases x <;> cases y <;> simp only [dEqM] at hg <;> try cases hg
  rename_i ks ls
  split at hg
  · rename_i e
    cases hg
    obtain ⟨a, kv, rfl, h1, h2, h3, h4⟩ := z1.dic_
    obtain ⟨b, lv, rfl, g1, g2, g3, g4⟩ := z2.dic_
    obtain ⟨w1, w2⟩ := sameD_v h3 h4 g3 g4 e
    exact ⟨a, b, kv, lv, rfl, rfl, h1, g1, w1, w2, q _ H Z Ext.refl k (.bl true)⟩
  · cases hg
theorem op_neM (A : Amb X F k) : OpR X (compareOp .NotEq) rNeDA := op_ne_dictA (by have := A.u65; omega)
theorem op_eqM (A : Amb X F k) : OpR X (compareOp .Eq) rEqDA := op_eq_dictA (by have := A.u65; omega)
end
/-! ### list(d), d a dict -/
def dKeys : D → Option D
  | .dic ks => some (.lst (ks.map fun kv => keyD kv.1))
  | _ => none
section
variable {S : Type} {X : Cx} {F : Fc S} {own : List Nat} {m1 : Mo} {W : WX} {k : Nat} {e : Expr} {te : TE} {fe : Env → M S D} {pos p : Pos}
def rLsD : List V → Hp → VK → Prop := fun xs H Q => ∃ (a : Addr) (kvs : List (Key × V)), xs = [.ref a] ∧ Rd H a (.dK kvs) ∧ ∀ p, H p = none → Q (.ref p) (upd H p (.lst (kvs.map fun kv => kV kv.1)))
theorem d_keys : Op1 F own W .fr (fun x H Q => rLsD [x] H Q) dKeys := by
  intro v x d Z H σ ρ s Q hg k z q
  cases x <;> simp only [dKeys] at hg <;> try cases hg
  rename_i ks
  obtain ⟨a, kvs, rfl, h1, h2, h3, h4⟩ := z.dic_
  refine ⟨a, kvs, rfl, .inl h1, q.newL k ⟨?_, fun i v d a b => ?_⟩ (by rw [List.length_map]; exact h2)⟩
  · rw [List.length_map, List.length_map]; simpa using congrArg List.length h3
  · rw [List.getElem?_map] at a b
    obtain ⟨x, hx, rfl⟩ := Option.map_eq_some_iff.mp a
    obtain ⟨y, hy, rfl⟩ := Option.map_eq_some_iff.mp b
    rw [pair_keys h3 i x y hx hy]
    exact keyD_fz _
theorem de_keys (A : Amb X F k) (hg : Gl X "list") (hm : X.mg "list" = none) (ha : DE X F own W m1 e te fe) (hs : starEach [e] X.env = [(false, eval e X.env)] := by rfl) : DE X F own W .fr (.Call (.Name "list" p) [e] [] pos) (tCB rLsD (tCons te tNil)) (o1 dKeys fe) :=
  de_ty1 (call_listD A.calm) d_keys hg hm (by decide +kernel) ha (hs := hs)
end
/-! ### offsets compared -/
theorem same_off {os os' : List (Str × Int)} (hl : os.length = os'.length) (h : ∀ p ∈ os, p.1 ∈ os'.map (·.1) ∧ look os' p.1 = p.2) : dNeM (offD os) (offD os') = some (.bl false) := by
  show (if sameD _ _ = true then _ else _) = _
  rw [if_pos]
  unfold sameD
  rw [Bool.and_eq_true, decide_eq_true_eq, List.all_eq_true]
  refine ⟨by simpa using hl, fun p hp => ?_⟩
  obtain ⟨o, ho, rfl⟩ := List.mem_map.mp hp
  obtain ⟨h1, h2⟩ := h o ho
  obtain ⟨q, hq, e1, e2⟩ := find_mem h1
  dsimp only
  rw [off_find, e1]
  unfold look at h2
  rw [e1] at h2
  show (o.2 == q.2) = true
  rw [beq_iff_eq]
  exact h2.symm
/-! ### classes by marks -/
def clsF (f : Str → Str) (m : Dm) : Str → Str := fun y => if f y = f m.b.n then f m.a.n else f y
theorem cls_step {f : Str → Str} {pre : List Dm} {m : Dm} (h : ∀ y z, f y = f z ↔ Con pre y z) : ∀ y z, clsF f m y = clsF f m z ↔ Con (pre ++ [m]) y z := by
  have up : ∀ {y z}, Con pre y z → Con (pre ++ [m]) y z := fun h => by
    induction h with
    | here => exact .here
    | fwd hm _ ih => exact .fwd (List.mem_append_left _ hm) ih
    | bwd hm _ ih => exact .bwd (List.mem_append_left _ hm) ih
  have ab : Con (pre ++ [m]) m.a.n m.b.n := .fwd (List.mem_append_right _ List.mem_cons_self) .here
  intro y z
  constructor
  · intro e
    unfold clsF at e
    by_cases c1 : f y = f m.b.n
    · rw [if_pos c1] at e
      have y1 := up ((h _ _).mp c1)
      by_cases c2 : f z = f m.b.n
      · exact y1.trans (up ((h _ _).mp c2)).symm
      · rw [if_neg c2] at e
        exact y1.trans (ab.symm.trans (up ((h _ _).mp e)))
    · rw [if_neg c1] at e
      by_cases c2 : f z = f m.b.n
      · rw [if_pos c2] at e
        exact (up ((h _ _).mp e)).trans (ab.trans (up ((h _ _).mp c2)).symm)
      · rw [if_neg c2] at e
        exact up ((h _ _).mp e)
  · intro k
    have both : ∀ k ∈ pre ++ [m], clsF f m k.a.n = clsF f m k.b.n := by
      intro k hk
      rcases List.mem_append.mp hk with hk | hk
      · have : f k.a.n = f k.b.n := (h _ _).mpr (.fwd hk .here)
        unfold clsF
        rw [this]
      · rw [List.mem_singleton.mp hk]
        unfold clsF
        rw [if_pos rfl]
        split <;> rfl
    induction k with
    | here => rfl
    | fwd hm _ ih => exact ih.trans (both _ hm)
    | bwd hm _ ih => exact ih.trans (both _ hm).symm
theorem cls_all : ∀ (ms pre : List Dm) (f : Str → Str), (∀ y z, f y = f z ↔ Con pre y z) → ∀ y z, ms.foldl clsF f y = ms.foldl clsF f z ↔ Con (pre ++ ms) y z
  | [], pre, f, h => by rw [List.append_nil]; exact h
  | m :: ms, pre, f, h => by
    have := cls_all ms (pre ++ [m]) (clsF f m) (cls_step h)
    rw [List.append_assoc] at this
    exact this
theorem cls_con (ms : List Dm) (y z : Str) : ms.foldl clsF id y = ms.foldl clsF id z ↔ Con ms y z := by
  refine cls_all ms [] id (fun y z => ⟨fun e => ?_, fun h => ?_⟩) y z
  · obtain rfl : y = z := e
    exact .here
  · induction h with
    | here => rfl
    | fwd hm _ _ => cases hm
    | bwd hm _ _ => cases hm
def mrkD (L : List Str) (f : Str → Str) : D := .dic (L.map fun y => (.inr y, .str (f y)))
theorem mrk_get {L : List Str} {f : Str → Str} {x : Str} (h : x ∈ L) : dSubs (mrkD L f) (.str x) = some (.str (f x)) := by
  show (((L.map fun y => ((.inr y : Key), D.str (f y))).find? fun kv => decide (kv.1 = .inr x)).map (·.2)) = _
  induction L with
  | nil => cases h
  | cons y L ih =>
    rw [List.map_cons, List.find?_cons]
    by_cases e : y = x
    · subst e; simp
    · have h2 : ¬ ((Sum.inr y : Key) = Sum.inr x) := fun e' => e (Sum.inr.inj e')
      simp only [decide_eq_false h2]
      exact ih ((List.mem_cons.mp h).resolve_left (Ne.symm e))
theorem mrk_keys (L : List Str) (f : Str → Str) : dKeys (mrkD L f) = some (.lst (L.map .str)) := by
  show some (D.lst ((L.map fun y => ((.inr y : Key), D.str (f y))).map fun kv => keyD kv.1)) = _
  rw [List.map_map]
  rfl
theorem mrk_put {L : List Str} {f : Str → Str} {x v : Str} (h : x ∈ L) (hl : L.length ≤ 1000) : putAt (.str v) (.str x) (mrkD L f) = some (mrkD L fun y => if y = x then v else f y) := by
  have e : putD (L.map fun y => ((.inr y : Key), D.str (f y))) (.inr x) (.str v) = L.map fun y => ((.inr y : Key), D.str (if y = x then v else f y)) := by
    unfold putD
    rw [if_pos (by rw [List.any_map]; exact List.any_eq_true.mpr ⟨x, h, by simp⟩), List.map_map]
    refine List.map_congr_left fun y _ => ?_
    show (if (Sum.inr y : Key) = Sum.inr x then _ else _) = _
    by_cases e : y = x
    · subst e; rw [if_pos rfl, if_pos rfl]
    · rw [if_neg (fun e' => e (Sum.inr.inj e')), if_neg e]
  have : putAt (.str v) (.str x) (mrkD L f) = some (.dic (putD (L.map fun y => ((.inr y : Key), D.str (f y))) (.inr x) (.str v))) := by
    show (if (L.map fun y => ((.inr y : Key), D.str (f y))).length < sizeLine then some (D.dic (putD _ _ _)) else none) = _
    rw [if_pos (by rw [List.length_map]; exact Nat.lt_of_le_of_lt hl (by decide))]
  rw [this, e]
  rfl
end DL

namespace DL
open PySem L2 PySem.Spec PyProof.Rows

/-! ### draws that are kept in a dict of four -/
structure BgS where
  great : List Int
  cells : List Int
  rest : Int
  turn : Int
  ne : cells ≠ []
def bgKv (g c : Addr) (s : BgS) : List (Key × V) := [(.inr "great", .ref g), (.inr "cells", .ref c), (.inr "rest", .int s.rest), (.inr "turn", .int s.turn)]
def Md.bg (a g c : Addr) (cs : List Int) : Md BgS where
  da := fun b => b = a
  sf := fun _ => False
  adr := fun b => b = a ∨ b = g ∨ b = c
  ok := fun s H => s.cells = cs ∧ (a ≠ g ∧ a ≠ c ∧ g ≠ c) ∧ H a = some (.dK (bgKv g c s)) ∧ H g = some (.lst (s.great.map V.int)) ∧ H c = some (.lst (cs.map V.int)) ∧ s.great.length ≤ sizeLine
  frame := fun s H H' h k => ⟨h.1, h.2.1, (k a (.inl rfl)).trans h.2.2.1, (k g (.inr (.inl rfl))).trans h.2.2.2.1, (k c (.inr (.inr rfl))).trans h.2.2.2.2.1, h.2.2.2.2.2⟩
  dom := fun s H b h hb => by
    rcases hb with rfl | rfl | rfl
    · rw [h.2.2.1]; simp
    · rw [h.2.2.2.1]; simp
    · rw [h.2.2.2.2.1]; simp
def Begun : Md BgS → Prop := fun md => ∃ a g c cs, md = Md.bg a g c cs
section
variable {X : Cx} {F : Fc BgS} {Z Z' Z1 Z2 : Addr → Prop} {H H' H1 H2 : Hp} {σ σ' : L2.St} {ρ : Env} {own own' oL : List Nat} {s s' : BgS} {p : Addr} {o : HO} {v : V} {d : D} {m m' m1 m2 m3 : Mo} {W : WX} {Q : VK} {k : Nat} {fr : Bool} {D0 : Ends}
variable {a b c e : Expr} {ta tb tc te : TE} {fa fb fc fe : Env → M BgS D} {pos pos' p1 p2 p3 p4 apos cpos : Pos} {i j l : Nat} {x : Str}
theorem Ok.md (k : Ok F own Z H σ ρ s) (h : F.md.ok s' H') (n : ∀ b, ¬ F.md.adr b → H' b = H b) : Ext F Z H Z H' ∧ Ok F own Z H' σ ρ s' := by
  have x : Ext F Z H Z H' := ⟨fun _ z => z, fun _ z => .inl z, fun a o e na => by rw [n a na]; exact e⟩
  exact ⟨x, k.carry x ⟨h, fun a z => ⟨by rw [n a (k.zd a z).2]; exact (k.zd a z).1, (k.zd a z).2⟩, k.z0, k.zn, fun a o e na => by rw [n a na]; exact k.sm a o e na⟩⟩
def isDrw (ρ : Env) (i : Nat) : Bool := match ρ[i]? with
  | some (some .drw) => true
  | _ => false
theorem isDrw_some (h : isDrw ρ i = true) : ρ[i]? = some (some .drw) := by
  unfold isDrw at h
  split at h
  · assumption
  · cases h
theorem Ok.drwAt (k : Ok F own Z H σ ρ s) (hmd : Begun F.md) (hi : i ∉ own) (h : isDrw ρ i = true) : ∃ a g c, F.md = Md.bg a g c s.cells ∧ σ[i]? = some (some (.ref a)) := by
  obtain ⟨v, q1, q2⟩ := k.fz i .drw hi (isDrw_some h)
  obtain ⟨a, g, c, cs, e⟩ := hmd
  cases q2 with
  | drw z =>
    have z' : F.md.da _ := z
    rw [e] at z'
    have st := k.st
    rw [e] at st
    obtain rfl := st.1
    exact ⟨a, g, c, e, by rw [q1]; exact congrArg (fun b => some (some (V.ref b))) z'⟩
def bgK : Bool → Str
  | true => "rest"
  | false => "turn"
def BgS.get (s : BgS) : Bool → Int
  | true => s.rest
  | false => s.turn
def BgS.put (s : BgS) : Bool → Int → BgS
  | true, r => { s with rest := r }
  | false, r => { s with turn := r }
theorem bg_val {g c : Addr} {s : BgS} (b : Bool) : valV (bgKv g c s) (.inr (bgK b)) = some (.int (s.get b)) := by cases b <;> rfl
theorem bg_great {g c : Addr} {s : BgS} : valV (bgKv g c s) (.inr "great") = some (.ref g) := rfl
theorem bg_cells {g c : Addr} {s : BgS} : valV (bgKv g c s) (.inr "cells") = some (.ref c) := rfl
theorem bg_put {g c : Addr} {s : BgS} (b : Bool) (r : Int) : putK (bgKv g c s) (.inr (bgK b)) (.int r) = bgKv g c (s.put b r) := by cases b <;> rfl
/-- d['rest'], d['turn'] -/
def sGet (b : Bool) (i : Nat) : Env → M BgS D := fun ρ => if isDrw ρ i = true then fun s => some (.ok (.int (s.get b)), s) else stk
theorem de_sget (b : Bool) (A : Amb X F k) (hmd : Begun F.md) (hi : i ∉ own := by decide) (hN : X.N[i]? = some x := by rfl) (hv : Vis X.env.scope x := by first | exact Or.inl rfl | exact Or.inr (Or.inl rfl) | exact Or.inr (Or.inr rfl)) (hd : (x == ("__debug__" : Str)) = false := by decide)
    (hcd : (x == ("__classdict__" : Str)) = false := by decide) : DE X F own W .fz (.Subscript (.Name x p1) (.Constant (.str (bgK b)) j p2) pos) (tDGet (tVar i) (tC (.str (bgK b)))) (sGet b i) := by
  refine ⟨pe_dget (by have := A.u65; omega) (pe_var hN hv hd hcd) pe_str (fun _ _ => rfl), fun σ H Z ρ s Q k q => ?_⟩
  dsimp only [sGet] at q
  by_cases h : isDrw ρ i = true
  · rw [if_pos h] at q
    obtain ⟨a, g, c, e, h1⟩ := k.drwAt hmd hi h
    have st := k.st
    rw [e] at st
    exact ⟨_, h1, a, .int (s.get b), rfl, by rw [← bg_val (g := g) (c := c) b]; exact DGet.k (k := .inr (bgK b)) st.2.2.1, q _ H Z Ext.refl k (.int _)⟩
  · rw [if_neg h] at q
    exact (show False from q).elim
/-- d['great'] != [] -/
def sHas (i : Nat) : Env → M BgS Bool := fun ρ => if isDrw ρ i = true then fun s => some (.ok (!s.great.isEmpty), s) else stk
theorem dt_great (A : Amb X F k) (hmd : Begun F.md) (hi : i ∉ own := by decide) (hN : X.N[i]? = some x := by rfl) (hv : Vis X.env.scope x := by first | exact Or.inl rfl | exact Or.inr (Or.inl rfl) | exact Or.inr (Or.inr rfl)) (hd : (x == ("__debug__" : Str)) = false := by decide)
    (hcd : (x == ("__classdict__" : Str)) = false := by decide) : DT X F own W (.Compare (.Subscript (.Name x p1) (.Constant (.str "great") j p2) p3) [.NotEq] [.List [] p4] pos) (tTest (tOp (rNeX X.K) (tDGet (tVar i) (tC (.str "great"))) (tLst tNil))) (sHas i) := by
  refine ⟨pt_cmpR (op_neX A) (pe_dget (by have := A.u65; omega) (pe_var hN hv hd hcd) pe_str (fun _ _ => rfl)) (pe_lst pa_nil) (nomark _), fun σ H Z ρ s Q k q => ?_⟩
  dsimp only [sHas] at q
  by_cases h : isDrw ρ i = true
  · rw [if_pos h] at q
    obtain ⟨a, g, c, e, h1⟩ := k.drwAt hmd hi h
    have st := k.st
    rw [e] at st
    obtain ⟨_, _, w1, w2, w3, w4⟩ := st
    refine ⟨_, h1, a, .ref g, rfl, by rw [← bg_great (g := g) (c := c) (s := s)]; exact DGet.k (k := .inr "great") w1, Nat.zero_le _, fun p np => ?_⟩
    have hg : upd H p (.lst []) g = some (.lst (s.great.map V.int)) := by rw [upd_ne (fun z => by rw [z, np] at w2; cases w2)]; exact w2
    have o1 : Ow F.cn Z (upd H p (.lst [])) g (.lst (s.great.map .int)) := ⟨_, hg, by rw [List.length_map]; exact w4, fz_ints _⟩
    have o2 : Ow F.cn Z (upd H p (.lst [])) p (.lst []) := ⟨_, upd_same, Nat.zero_le _, .nil⟩
    have pl : ∀ is : List Int, Plain (.lst (is.map .int)) := fun is => (plain_lst (n := 0) fun d hd => by
      obtain ⟨y, _, rfl⟩ := List.mem_map.mp hd
      exact plain_int y).plain
    obtain ⟨r, er, hr⟩ := eq_plain (pl s.great) (pl [])
    rcases dEqB_some er with ⟨_, _, z, _⟩ | ⟨x1, x2, y1, y2, y3, y4, y5⟩
    · cases z
    have d1 := o1.dp x1 y1
    have d2 := o2.dp x2 y2
    have hK : X.K = F.cn.K := A.K
    refine .inl ⟨x1, x2, by rw [hK]; exact d1, by rw [hK]; exact d2, y3, y4, !PyData.eqv x1 x2, rfl, ?_⟩
    have hb : (!PyData.eqv x1 x2) = !s.great.isEmpty := by
      rw [← y5]
      congr 1
      rw [Bool.eq_iff_iff, hr]
      cases s.great with
      | nil => simp
      | cons y ys => simp
    rw [hb]
    obtain ⟨xx, kk⟩ : Ext F Z H Z (upd H p (.lst [])) ∧ Ok F own Z (upd H p (.lst [])) σ ρ s := ⟨Ext.newO np, k.newO np⟩
    exact q _ Z xx kk
  · rw [if_neg h] at q
    exact (show False from q).elim
/-- d['great'].pop(0) -/
def sPop (i : Nat) : Env → M BgS D := fun ρ => if isDrw ρ i = true then fun s => match s.great with
  | [] => none
  | y :: r => some (.ok (.int y), { s with great := r }) else stk
theorem de_pop0 (A : Amb X F k) (hmd : Begun F.md) (hi : i ∉ own := by decide) (hN : X.N[i]? = some x := by rfl) (hv : Vis X.env.scope x := by first | exact Or.inl rfl | exact Or.inr (Or.inl rfl) | exact Or.inr (Or.inr rfl)) (hd : (x == ("__debug__" : Str)) = false := by decide)
    (hcd : (x == ("__classdict__" : Str)) = false := by decide)
    (hbase : attributeBase (.Subscript (.Name x p1) (.Constant (.str "great") j p2) p3) "pop" X.env (eval (.Subscript (.Name x p1) (.Constant (.str "great") j p2) p3) X.env) = eval (.Subscript (.Name x p1) (.Constant (.str "great") j p2) p3) X.env := by rfl)
    (hfew : ((backTo cpos (starEach ((.Constant (.int 0) l p4) :: []) X.env)).all (fun x => !x.1) && (backToKw cpos (keywordEach [] X.env)).all (fun x => x.1.isSome)
      && decide (((.Constant (.int 0) l p4 : Expr) :: []).length + ([] : List Keyword).length + (if ([] : List Keyword).isEmpty then 0 else 1) < 30)) = true := by rfl)
    (hline : (apos.endLine == cpos.line) = true := by rfl) (hs : starEach ((.Constant (.int 0) l p4) :: []) X.env = (false, eval (.Constant (.int 0) l p4) X.env) :: starEach [] X.env := by rfl) (hplain : (backTo cpos (starEach [] X.env)).any (·.1) = false := by rfl) :
    DE X F own W .fz (.Call (.Attribute (.Subscript (.Name x p1) (.Constant (.str "great") j p2) p3) "pop" apos) [.Constant (.int 0) l p4] [] cpos) (tBM X.K "list" rPopAt (tDGet (tVar i) (tC (.str "great"))) (tCons (tC (.int 0)) tNil)) (sPop i) := by
  refine ⟨pe_bm PySem.F.plainAttrs_list PySem.F.slot_list_pop PySem.F.type_list_pop mt_popAt (pe_dget (by have := A.u65; omega) (pe_var hN hv hd hcd) pe_str (fun _ _ => rfl)) (pa_cons pe_int pa_nil hs) hbase hfew hline hs hplain, fun σ H Z ρ s Q k q => ?_⟩
  dsimp only [sPop] at q
  by_cases h : isDrw ρ i = true
  · rw [if_pos h] at q
    obtain ⟨a, g, c, e, h1⟩ := k.drwAt hmd hi h
    have st := k.st
    rw [e] at st
    obtain ⟨w0, wn, w1, w2, w3, w4⟩ := st
    cases eg : s.great with
    | nil => rw [eg] at q; exact (show False from q).elim
    | cons y r =>
      rw [eg] at q w2
      refine ⟨_, h1, a, .ref g, rfl, by rw [← bg_great (g := g) (c := c) (s := s)]; exact DGet.k (k := .inr "great") w1, .inl ⟨rfl, _, SqL.of w2⟩, g, _, 0, 0, .int y, rfl, rfl, w2, by decide, by decide, ?_, rfl, ?_⟩
      · show seqIndex? 0 ((y :: r).map V.int).length = some 0
        unfold seqIndex?
        simp
      · have hmd2 : F.md.ok { s with great := r } (upd H g (.lst (r.map V.int))) := by
          rw [e]
          refine ⟨rfl, wn, by rw [upd_ne wn.1]; exact w1, upd_same, by rw [upd_ne (Ne.symm wn.2.2)]; exact w3, ?_⟩
          rw [eg] at w4
          exact Nat.le_of_succ_le w4
        obtain ⟨xx, kk⟩ := k.md hmd2 (fun b nb => upd_ne fun z => nb (by rw [e]; exact .inr (.inl z)))
        exact q _ _ Z xx kk (.int y)
  · rw [if_neg h] at q
    exact (show False from q).elim
/-- d['rest'] = e, d['turn'] = e -/
def sPutB (b : Bool) (i : Nat) (fe : Env → M BgS D) : Env → M BgS (Fl × Env) := fun ρ => bnd (fe ρ) fun x => match asI x with
  | none => stk
  | some r => if isDrw ρ i = true then fun s => some (.ok (.nx, ρ), s.put b r) else stk
theorem ds_sput (b : Bool) {spos : Pos} (A : Amb X F k) (hmd : Begun F.md) (h : DE X F own W .fz e te fe) (hi : i ∉ own := by decide) (hN : X.N[i]? = some x := by rfl) (hv : Vis X.env.scope x := by first | exact Or.inl rfl | exact Or.inr (Or.inl rfl) | exact Or.inr (Or.inr rfl)) (hd : (x == ("__debug__" : Str)) = false := by decide)
    (hcd : (x == ("__classdict__" : Str)) = false := by decide)
    (ha : ∀ v, assign (.Subscript (.Name x p1) (.Constant (.str (bgK b)) j p2) spos) X.env v = (do
      let ov ← holding [v] (eval (.Name x p1) X.env)
      let iv ← holding [v, ov] (eval (.Constant (.str (bgK b)) j p2) X.env)
      standAt spos
      holding [v, ov, iv] (setItem ov iv v)
      release [v, ov, iv] []) := by intro _; rfl)
    (hs : swapsWithSole [.Subscript (.Name x p1) (.Constant (.str (bgK b)) j p2) spos] e pos.line X.env = pure false := by rfl) (hw : swappedStores [.Subscript (.Name x p1) (.Constant (.str (bgK b)) j p2) spos] e X.env = pure none := by rfl)
    (h1 : (assignEach [.Subscript (.Name x p1) (.Constant (.str (bgK b)) j p2) spos] X.env).map (·.2) = [assign (.Subscript (.Name x p1) (.Constant (.str (bgK b)) j p2) spos) X.env] := by rfl) :
    DS X F own own oL W fr (.Assign [.Subscript (.Name x p1) (.Constant (.str (bgK b)) j p2) spos] e pos) (tAsg te (gSub (tVar i) (tC (.str (bgK b))) rSetD)) (sPutB b i fe) := by
  refine ⟨ps_asg h.pe (pg_sub (pe_var hN hv hd hcd) pe_str (set_dict (by have := A.u65; omega)) ha) hs hw h1, fun σ H Z ρ s D0 k q => ?_⟩
  refine h.ev σ H Z ρ s _ k ?_
  dsimp only [sPutB, bnd] at q
  match e2 : fe ρ s, q with
  | none, q => exact q
  | some (.error y, s'), q => exact fun cls dd H' Z' => q cls dd σ H' Z'
  | some (.ok dx, s1), q =>
    intro v1 H1 Z1 x1 k1 z1
    dsimp only at q
    cases e3 : asI dx with
    | none => rw [e3] at q; exact (show False from q).elim
    | some r =>
      rw [e3] at q
      obtain rfl := asI_some e3
      dsimp only at q
      by_cases hdw : isDrw ρ i = true
      · rw [if_pos hdw] at q
        obtain ⟨a, g, c, em, hx⟩ := k1.drwAt hmd hi hdw
        have st := k1.st
        rw [em] at st
        obtain ⟨w0, wn, w1, w2, w3, w4⟩ := st
        obtain rfl : v1 = .int r := Bz.int_ (adr := F.md.adr) (.inl z1)
        refine ⟨_, hx, a, _, rfl, DPut.k (k := .inr (bgK b)) w1 (by show 4 < sizeLine; decide), ?_⟩
        rw [bg_put]
        have hmd2 : F.md.ok (s1.put b r) (upd H1 a (.dK (bgKv g c (s1.put b r)))) := by
          rw [em]
          refine ⟨by cases b <;> rfl, wn, upd_same, by rw [upd_ne (Ne.symm wn.1)]; cases b <;> exact w2, by rw [upd_ne (Ne.symm wn.2.1)]; exact w3, by cases b <;> exact w4⟩
        obtain ⟨xx, kk⟩ := k1.md hmd2 (fun b nb => upd_ne fun z => nb (by rw [em]; exact .inl z))
        exact q σ _ Z1 ((k.toBs.grow x1).trans (k1.toBs.grow xx)) kk
      · rw [if_neg hdw] at q
        exact (show False from q).elim
/-- for .. in d['cells'] -/
def iCells (i : Nat) : Env → M BgS (List D) := fun ρ => if isDrw ρ i = true then fun s => some (.ok (s.cells.map .int), s) else stk
theorem di_cells {tg : Expr} (A : Amb X F k) (hmd : Begun F.md) (hi : i ∉ own := by decide) (hN : X.N[i]? = some x := by rfl) (hv : Vis X.env.scope x := by first | exact Or.inl rfl | exact Or.inr (Or.inl rfl) | exact Or.inr (Or.inr rfl)) (hd : (x == ("__debug__" : Str)) = false := by decide)
    (hcd : (x == ("__classdict__" : Str)) = false := by decide) : DI X F own W tg (.Subscript (.Name x p1) (.Constant (.str "cells") j p2) pos) (iList X.K (tDGet (tVar i) (tC (.str "cells")))) (iCells i) := by
  refine ⟨pi_list (pe_dget (by have := A.u65; omega) (pe_var hN hv hd hcd) pe_str (fun _ _ => rfl)), fun σ H Z ρ s R k q => ?_⟩
  dsimp only [iCells] at q
  by_cases h : isDrw ρ i = true
  · rw [if_pos h] at q
    obtain ⟨a, g, c, e, h1⟩ := k.drwAt hmd hi h
    have st := k.st
    rw [e] at st
    obtain ⟨w0, wn, w1, w2, w3, w4⟩ := st
    refine ⟨_, h1, a, .ref c, rfl, by rw [← bg_cells (g := g) (c := c) (s := s)]; exact DGet.k (k := .inr "cells") w1, c, rfl, ⟨_, SqL.of w3⟩, q _ H Z Ext.refl k ⟨fun n d Z1 H1 _ hs g1 hn => ?_, fun n Z1 H1 hs g1 hn => ?_⟩⟩
    · obtain ⟨s1, hs⟩ := hs
      rw [e] at hs
      have hc := hs.2.2.2.2.1
      rw [List.getElem?_map] at hn
      obtain ⟨y, hy, rfl⟩ := Option.map_eq_some_iff.mp hn
      have hv : (s.cells.map V.int)[n]? = some (.int y) := by rw [List.getElem?_map, hy]; rfl
      refine ⟨⟨_, _, SqL.of hc, hv⟩, fun w H' z => .inl ⟨z.1, ?_⟩⟩
      have := z.2 _ (SqL.of hc)
      rw [hv] at this
      cases this
      exact .int y
    · obtain ⟨s1, hs⟩ := hs
      rw [e] at hs
      exact ⟨_, SqL.of hs.2.2.2.2.1, by rw [List.length_map] at hn ⊢; exact hn⟩
  · rw [if_neg h] at q
    exact (show False from q).elim
end
/-! ### for .. in script -/
section
variable {S : Type} {X : Cx} {F : Fc S} {Z : Addr → Prop} {H : Hp} {own : List Nat} {W : WX} {k : Nat} {e : Expr} {te : TE} {fe : Env → M S D} {p : Addr}
def iScr (fe : Env → M S D) : Env → M S (List D) := fun ρ => bnd (fe ρ) fun x => match x with
  | .scr ns => ret (ns.map .int)
  | _ => stk
theorem wk_scr {ns : List Int} (hK : X.K = F.K) (h : ScrAt F.K Z H p (ns.map V.int)) : Wk F Z H (Itl X.K p) (ns.map .int) where
  go := fun i d Z1 H1 hd _ g1 hi => by
    have h1 : SqL X.K H1 p (ns.map V.int) := by rw [hK]; exact (h.grow g1).sq
    rw [List.getElem?_map] at hi
    obtain ⟨y, hy, rfl⟩ := Option.map_eq_some_iff.mp hi
    have hv : (ns.map V.int)[i]? = some (.int y) := by rw [List.getElem?_map, hy]; rfl
    refine ⟨⟨_, _, h1, hv⟩, fun x H' z => .inl ⟨z.1, ?_⟩⟩
    have := z.2 _ h1
    rw [hv] at this
    cases this
    exact .int y
  stop := fun i Z1 H1 _ g1 hi => ⟨_, by rw [hK]; exact (h.grow g1).sq, by rw [List.length_map] at hi ⊢; exact hi⟩
theorem di_scr {tg : Expr} (A : Amb X F k) (x : DE X F own W .fz e te fe) : DI X F own W tg e (iList X.K te) (iScr fe) := by
  refine ⟨pi_list x.pe, fun σ H Z ρ s R k q => ?_⟩
  dsimp only [iScr, bnd] at q
  refine x.ev σ H Z ρ s _ k ?_
  match e1 : fe ρ s, q with
  | none, q => exact q.elim
  | some (.error y, s1), q => exact q
  | some (.ok d, s1), q =>
    intro v H' Z' x' k' z
    dsimp only at q
    cases d <;> try exact (show False from q).elim
    obtain ⟨a, rfl, h1, h2⟩ := Bz.scr_ (adr := F.md.adr) (.inl z)
    exact ⟨a, rfl, ⟨_, by rw [A.K]; exact h1.sq⟩, q _ H' Z' x' k' (wk_scr A.K h1)⟩
end
end DL

namespace DL
open PySem L2 PySem.Spec PyProof.Rows
/-! ### an owned thing lent to a call whose answer is flat -/
section
variable {S : Type} {X : Cx} {F : Fc S} {Z Z' : Addr → Prop} {H H' : Hp} {σ : L2.St} {ρ : Env} {own : List Nat} {s s' : S} {v : V} {d : D} {m1 m2 : Mo} {W : WX} {Q : VK} {k : Nat} {a b e : Expr} {t ta tb te : TE} {f fa fb fe : Env → M S D} {pos p : Pos}
def flt (f : Env → M S D) : Env → M S D := fun ρ => bnd (f ρ) fun d => if flatD d = true then ret d else stk
theorem Fz.flat {c : Cn} (h : Fz c Z H v d) (hf : flatD d = true) : Fz c Z' H' v d := by
  cases d <;> simp only [flatD] at hf <;> try cases hf
  · cases h; exact .non
  · cases h; exact .bl _
  · cases h; exact .int _
  · cases h; exact .str _
theorem Ev.lend (h : Ev F [] W .fz t f) : Ev F own W .fz t (flt f) := by
  intro σ H Z ρ s Q k q
  obtain ⟨g, k0⟩ := k.drop (own2 := []) (by simp)
  refine h σ H _ ρ s Q k0 ?_
  dsimp only [flt, bnd] at q
  match e1 : f ρ s, q with
  | none, q => exact q
  | some (.error y, s1), q => exact q
  | some (.ok dd, s1), q =>
    intro v H' Z' x k' z
    dsimp only at q
    by_cases hf : flatD dd = true
    · rw [if_pos hf] at q
      have xx : Ext F Z H Z H' := ⟨fun _ h => h, fun _ h => .inl h, x.h⟩
      have bs : Bs F Z H' s1 := ⟨k'.st, fun a za => ⟨by
        obtain ⟨h1, h2⟩ := k.zd a za
        cases q1 : H a with
        | none => exact absurd q1 h1
        | some o => rw [x.h a o q1 h2]; simp, (k.zd a za).2⟩, k.z0, k.zn, k'.sm⟩
      exact q v H' Z xx (k.carry xx bs) (Fz.flat z hf)
    · rw [if_neg hf] at q
      exact (show False from q).elim
theorem de_lend (h : DE X F [] W .fz e t f) : DE X F own W .fz e t (flt f) := ⟨h.pe, h.ev.lend⟩
/-! ### sum(..), (..) * n -/
def dSum : D → Option D
  | .lst ds => (asInts ds).map fun ns => .int ns.sum
  | _ => none
theorem d_sum : Op1 F own W .fz (fun x H Q => rSum F.K [x] H Q) dSum := by
  intro v x d Z H σ ρ s Q hg k z q
  cases x <;> simp only [dSum] at hg <;> try cases hg
  rename_i ds
  obtain ⟨ns, e1, rfl⟩ := Option.map_eq_some_iff.mp hg
  obtain ⟨a, vs, rfl, h1, h2, h3⟩ := z.lst_
  obtain ⟨rfl, _⟩ := ints_vals ds vs ns h3 e1
  exact ⟨a, ns, rfl, SqL.of h1, q _ H Z Ext.refl k (.int _)⟩
theorem de_sum (A : Amb X F k) (hg : Gl X "sum") (hm : X.mg "sum" = none) (ha : DE X F own W m1 e te fe) (hs : starEach [e] X.env = [(false, eval e X.env)] := by rfl) : DE X F own W .fz (.Call (.Name "sum" p) [e] [] pos) (tCB (rSum X.K) (tCons te tNil)) (o1 dSum fe) :=
  de_b1 (cr_sum A.calm) (by rw [A.K]; exact d_sum) hg hm (by decide +kernel) ha (hs := hs)
def dMulT : D → D → Option D
  | .tup ds, .int n => if ds ≠ [] ∧ 2 ≤ n ∧ n ≤ 1000 ∧ ds.length ≤ 1000 then some (.tup (List.replicate n.toNat ds).flatten) else none
  | _, _ => none
theorem FzAll.rep {c : Cn} {vs : List V} {ds : List D} (h : FzAll c Z H vs ds) : ∀ n : Nat, FzAll c Z H (List.replicate n vs).flatten (List.replicate n ds).flatten
  | 0 => .nil
  | n + 1 => by rw [List.replicate_succ, List.replicate_succ, List.flatten_cons, List.flatten_cons]; exact h.app (FzAll.rep h n)
theorem len_rep {α : Type} (xs : List α) : ∀ n : Nat, (List.replicate n xs).flatten.length = n * xs.length
  | 0 => by simp
  | n + 1 => by rw [List.replicate_succ, List.flatten_cons, List.length_append, len_rep xs n, Nat.succ_mul]; omega
theorem d_mulT : Op2 F own W .fz (rRepT F.K) dMulT := by
  intro v u x y d Z H σ ρ s Q hg k z1 z2 q
  cases x <;> cases y <;> simp only [dMulT] at hg <;> try cases hg
  rename_i ds n
  split at hg
  · rename_i h
    cases hg
    obtain ⟨a, vs, rfl, h1, h2, h3⟩ := z1.tup_
    obtain rfl := z2.int_
    have hl : vs.length = ds.length := h3.1
    refine ⟨a, n, vs, rfl, rfl, h1.sq, fun e => h.1 (nil_of h3 e), h.2.1, h.2.2.1, by omega, q.newT k (h3.rep _) ?_⟩
    rw [len_rep]
    exact Nat.le_trans (Nat.mul_le_mul (show n.toNat ≤ 1000 by omega) (show vs.length ≤ 1000 by omega)) (by decide)
  · cases hg
theorem de_mulT (A : Amb X F k) (ha : DE X F own W m1 a ta fa) (hb : DE X F own W m2 b tb fb) : DE X F own W .fz (.BinOp a .Mult b pos) (tOp (rRepT X.K) ta tb) (o2 dMulT fa fb) := de_op op_repT (by rw [A.K]; exact d_mulT) ha hb
end
/-! ### a tuple of texts of the module's own -/
theorem txt_tups {K : PySem.W.Frag} {h : Heap} {mg : Str → Option Value} {x : Str} {a : Addr} {od : Option Addr} {osl : Array (Option Value)} {n : Nat} {us : Array Value} (X : K.In h) (G : h.Ns mainGlobals mg) (xs : List Str) (hl : xs.length ≤ 1000)
    (e : PySem.W.nsIn K mainGlobals x = some (some (.ref a))) (l : K.lookup a = some ⟨.type "tuple", od, .seq us n, osl⟩) (r : Vals (xs.map V.str) us.toList) : CstD K mg x (.tup (xs.map .str)) := by
  have hl2 : (xs.map V.str).length ≤ sizeLine := by rw [List.length_map]; exact Nat.le_trans hl (by decide)
  refine ⟨.ref a, _, PySem.W.mg_of X G e, rfl, fun c Z H hc => .tup (vs := xs.map V.str) (.inr fun H' => .inr ⟨_, _, n, by rw [hc]; exact l, rfl, rfl, ?_, r⟩) (by simp) hl2 fun i v d q1 q2 => ?_⟩
  · rw [← Array.length_toList, ← r.length]; exact hl2
  · rw [List.getElem?_map] at q1 q2
    obtain ⟨y, hy, rfl⟩ := Option.map_eq_some_iff.mp q1
    rw [hy] at q2
    cases q2
    exact .str y
/-! ### the beginning of the draws -/
section
variable {P : Program} {w : World} {K : PySem.W.Frag} {mg : Str → Option Value} {base : Heap}
def bgDic (gs cs : List Int) : D := .dic [(.inr "great", .lst (gs.map .int)), (.inr "cells", .lst (cs.map .int)), (.inr "rest", .int 0), (.inr "turn", .int 0)]
theorem law_mkB {x qual : Str} {st s1 : Stmt} {rest : List Stmt} {f : Addr} {fd : FuncData} {N : List Str} {sc : Str} {k : Nat} {fb : Env → M BgS (Fl × Env)} {mst : List D → M Unit D} (F : Fun K x qual st f fd) (Sc : FnScope N [sc] (defScope st))
    (hb : defBody st = s1 :: rest) (hN : 2 ≤ N.length)
    (hst : ∀ ns : List Int, ns.length ≤ 63 → ∃ gs cs : List Int, cs ≠ [] ∧ gs ≠ cs ∧ gs.length ≤ 63 ∧ mst [.scr ns] () = some (.ok (bgDic gs cs), ()))
    (h1 : ∀ (cdv : Value) (A : Around) (outer : List PySem.Env) (s : Shared) (H : Hp) (E : XK), Amb (cxOf (L2.CX P w) P w K mg base N qual (defScope st) f cdv A outer s H E) (⟨K, mg, Md.unit, fun _ => False, H⟩ : Fc Unit) k →
      Takes (cxOf (L2.CX P w) P w K mg base N qual (defScope st) f cdv A outer s H E) (fun cls d _ H' => E cls d H') →
      PS (cxOf (L2.CX P w) P w K mg base N qual (defScope st) f cdv A outer s H E) s1 (tAsg (tCallS (SpD K mg Pure 1 true mst) (WE fun cls d _ H' => E cls d H') (tCons (tVar 0) tNil)) (gName 1)))
    (h2 : ∀ (cdv : Value) (A : Around) (outer : List PySem.Env) (s : Shared) (H : Hp) (E : XK) (md : Md BgS) (Z0 : Addr → Prop) (H0 : Hp), Begun md → Amb (cxOf (L2.CX P w) P w K mg base N qual (defScope st) f cdv A outer s H E) (⟨K, mg, md, Z0, H0⟩ : Fc BgS) k →
      Takes (cxOf (L2.CX P w) P w K mg base N qual (defScope st) f cdv A outer s H E) (fun cls d _ H' => E cls d H') →
      ∃ t, DSs (cxOf (L2.CX P w) P w K mg base N qual (defScope st) f cdv A outer s H E) (⟨K, mg, md, Z0, H0⟩ : Fc BgS) [] [] [] (fun cls d _ H' => E cls d H') false rest t fb)
    (hm : ∀ (ns : List Int) (s : BgS), ns.length ≤ 63 → ∃ ρ' s', fb (some (.scr ns) :: some .drw :: List.replicate (N.length - 2) none) s = some (.ok (.rt (.bl true), ρ'), s')) :
    FnG P w K mg base (k + 1) f fd [sc] (spLaw K) := by
  obtain ⟨oc, od, kV', doc, pm, an, cdv, ct, osl, rfl, lk, hcd⟩ := F.ex
  refine fnG_of lk hcd Sc (fun vs H Q E h => ?_) fun A outer s H vs Q E hgd hr hsp => ?_
  · obtain ⟨a, ns, rfl, _⟩ := h; rfl
  obtain ⟨a, ns, rfl, hS, hO, hl, hQ⟩ := hsp
  have am : ∀ {S : Type} (md : Md S) Z0 H0, Amb (cxOf (L2.CX P w) P w K mg base N qual (defScope st) f cdv A outer s H E) (⟨K, mg, md, Z0, H0⟩ : Fc S) k := fun md Z0 H0 => ⟨rfl, rfl, hr, hgd, rfl, passes_of (K := fun e s'' => L2.CX P w outer H s E e s'') rfl⟩
  have tk : Takes (cxOf (L2.CX P w) P w K mg base N qual (defScope st) f cdv A outer s H E) (fun cls d _ H' => E cls d H') := takes_of rfl rfl rfl rfl
  refine ⟨tSeq (tAsg (tCallS (SpD K mg Pure 1 true mst) (WE fun cls d _ H' => E cls d H') (tCons (tVar 0) tNil)) (gName 1)) (tSS Begun K mg (fun cls d _ H' => E cls d H') fb), ?_, ?_⟩
  · rw [hb]
    exact pss_cons (h1 cdv A outer s H E (am _ _ _) tk) (pss_tSS fun md Z0 H0 hmd => h2 cdv A outer s H E md Z0 H0 hmd (am _ _ _) tk)
  have hst0 : L2.start N [.ref a] = some (.ref a) :: none :: List.replicate (N.length - 2) none := by
    unfold L2.start
    obtain ⟨n, e⟩ : ∃ n, N.length = n + 2 := ⟨N.length - 2, by omega⟩
    rw [e]
    show _ :: List.replicate (n + 2 - 1) none = _
    rw [show n + 2 - 1 = n + 1 by omega, List.replicate_succ]
    simp
  rw [hst0]
  obtain ⟨Z, hz, hsc⟩ := scr_at hS
  obtain ⟨gs, cs, hcs, hgc, hgl, hst⟩ := hst ns hl
  refine ⟨.ref a, rfl, ?_⟩
  refine ⟨Md.pure fun _ => False, Z, (), [.scr ns], ⟨_, rfl⟩, rfl, trivial, fun b z => ⟨hz b z, fun q => q⟩, .cons (.scr hsc hl) .nil, ?_⟩
  rw [hst]
  intro v H' Z' bs r
  obtain ⟨p, rfl, np, _, hp0, kvs, hp, hvl, hks, hvf⟩ := r
  have hp0 : H p = none := hp0
  obtain ⟨g, c, rfl, zg, eg, zc, ec⟩ : ∃ g c, kvs = [(.inr "great", .ref g), (.inr "cells", .ref c), (.inr "rest", .int 0), (.inr "turn", .int 0)] ∧ Z' g ∧ H' g = some (.lst (gs.map V.int)) ∧ Z' c ∧ H' c = some (.lst (cs.map V.int)) := by
    match kvs, hks with
    | [k0, k1, k2, k3], hks =>
      obtain ⟨k0, v0⟩ := k0
      obtain ⟨k1, v1⟩ := k1
      obtain ⟨k2, v2⟩ := k2
      obtain ⟨k3, v3⟩ := k3
      simp only [List.map_cons, List.map_nil, List.cons.injEq, and_true] at hks
      obtain ⟨rfl, rfl, rfl, rfl⟩ := hks
      have q0 := hvf.2 0 v0 _ rfl rfl
      have q1 := hvf.2 1 v1 _ rfl rfl
      have q2 := hvf.2 2 v2 (.int 0) rfl rfl
      have q3 := hvf.2 3 v3 (.int 0) rfl rfl
      cases q2
      cases q3
      cases q0 with
      | lst z1 z2 z3 z4 z5 =>
        cases q1 with
        | lst y1 y2 y3 y4 y5 =>
          obtain rfl := int_vs ⟨z3, z5⟩
          obtain rfl := int_vs ⟨y3, y5⟩
          exact ⟨_, _, rfl, z1, z2, y1, y2⟩
  have hold : ∀ b o, H b = some o → H' b = some o := fun b o h => bs.sm b o h fun q => q
  have new : ∀ b us, Z' b → H' b = some (.lst us) → H b = none := fun b us hzb hb => by
    rcases bs.zn b hzb with z | z
    · rcases hO b with q | ⟨ob, xs, q⟩
      · exact q
      · have := hold b _ q
        rw [hb] at this
        cases this
    · exact z
  have hgn := new g _ zg eg
  have hcn := new c _ zc ec
  have hne : g ≠ c := fun e => hgc (by
    rw [e, ec] at eg
    have h := HO.lst.inj (Option.some.inj eg)
    have := congrArg (List.map fun v => match v with | V.int i => i | _ => 0) h
    rw [List.map_map, List.map_map] at this
    simpa [Function.comp_def] using this.symm)
  have hpg : p ≠ g := fun e => np (e ▸ zg)
  have hpc : p ≠ c := fun e => np (e ▸ zc)
  have hzH : ∀ b, Z b → H' b = H b := fun b z => by
    cases q : H b with
    | none => exact absurd q (hz b z)
    | some o => exact hold b o q
  have hok : (Md.bg p g c cs).ok ⟨gs, cs, 0, 0, hcs⟩ H' := ⟨rfl, ⟨hpg, hpc, hne⟩, hp, eg, ec, Nat.le_trans hgl (by decide)⟩
  obtain ⟨ρ', s', e⟩ := hm ns ⟨gs, cs, 0, 0, hcs⟩ hl
  refine ⟨Md.bg p g c cs, Z, H', Z, some (.scr ns) :: some .drw :: List.replicate (N.length - 2) none, ⟨gs, cs, 0, 0, hcs⟩, ⟨p, g, c, cs, rfl⟩, ?_, ?_⟩
  · refine ⟨⟨hok, fun b z => ⟨by rw [hzH b z]; exact hz b z, ?_⟩, fun _ z => z, fun _ z => .inl z, fun _ _ h _ => h⟩, fun i d _ h => ?_, fun i d h _ => by simp at h, fun i j d d' a h => by simp at h, by simp⟩
    · rintro (rfl | rfl | rfl)
      · exact hz _ z hp0
      · exact hz _ z hgn
      · exact hz _ z hcn
    · match i, h with
      | 0, h =>
        cases h
        exact ⟨.ref a, rfl, .scr (hsc.grow ⟨fun _ z => z, hzH⟩) hl⟩
      | 1, h =>
        cases h
        exact ⟨.ref p, rfl, .drw rfl⟩
      | i + 2, h =>
        rw [show (some (D.scr ns) :: some D.drw :: List.replicate (N.length - 2) none)[i + 2]? = (List.replicate (N.length - 2) (none : Option D))[i]? from rfl, List.getElem?_replicate] at h
        split at h <;> cases h
  · rw [e]
    intro v H2 Z2 b2 r2
    cases (show Fz _ Z2 H2 v (.bl true) from r2)
    exact hQ H2
end
end DL

namespace DL
open PySem L2 PySem.Spec PyProof.Rows
/-! ### the beginning of the draws, by its mirror -/
def bgB : Env → M Unit (Fl × Env) := sSeq (sSet 1 (mCmp (iScr (vr 0)) (gSet 2) (tsb (o2 dGe (vr 2) (o2 dPow (cst (.int 10)) (cst (.int 18))))) (vr 2) [2]))
    (sRet (mDisp (ppCons (cst (.str "great")) (vr 1) (ppCons (cst (.str "cells")) (o2 dCat (mCmp (iScr (vr 0)) (gSet 2) (yes) (o2 dMod (o1 dInt (vr 2)) (cst (.int 2147483629))) [2]) (mLst (aCons (cst (.int 77)) (aNil)))) (ppCons (cst (.str "rest")) (cst (.int 0)) (ppCons (cst (.str "turn")) (cst (.int 0)) (ppNil)))))))
theorem cmp_scr {S : Type} {tst : Env → M S Bool} {fe : Env → M S D} {ρ : Env} {ns : List Int} {i j : Nat} (p : Int → Bool) (g : Int → Int) (h0 : ρ[j]? = some (some (.scr ns))) (hl : ns.length ≤ 63)
    (h : ∀ n ∈ ns, tst ((wipeD ρ [i]).set i (some (.int n))) = ret (p n) ∧ fe ((wipeD ρ [i]).set i (some (.int n))) = ret (.int (g n))) : mCmp (iScr (vr j)) (gSet i) tst fe [i] ρ = ret (.lst (((ns.filter p).map g).map .int)) := by
  have e1 : iScr (vr j) ρ = (ret (ns.map .int) : M S (List D)) := by
    show bnd (vr j ρ) _ = _
    rw [vr_ap, h0]
    rfl
  rw [mCmp_ap, e1, bnd_ret, if_pos (by rw [List.length_map]; exact Nat.le_trans hl (by decide)), cmpF_eq (p := fun d => match d with | .int n => p n | _ => false) (g := fun d => match d with | .int n => .int (g n) | _ => .non)]
  · simp only [nox_ret, bnd_ret]
    congr 2
    rw [List.filter_map, List.map_map, List.map_map]
    rfl
  · intro d hd
    obtain ⟨n, hn, rfl⟩ := List.mem_map.mp hd
    exact ⟨_, rfl, (h n hn).1, fun _ => (h n hn).2⟩
theorem bg_ok (ns : List Int) (hl : ns.length ≤ 63) : ∃ gs cs : List Int, cs ≠ [] ∧ gs ≠ cs ∧ gs.length ≤ 63 ∧ runB 3 bgB [.scr ns] () = some (.ok (bgDic gs cs), ()) := by
  refine ⟨(ns.filter fun n => decide ((10 : Int) ^ 18 ≤ n)).map id, (ns.filter fun _ => true).map (fun n => n % 2147483629) ++ [77], by simp, fun e => ?_, ?_, ?_⟩
  · have h77 : (77 : Int) ∈ (ns.filter fun n => decide ((10 : Int) ^ 18 ≤ n)).map id := by rw [e]; simp
    rw [List.map_id, List.mem_filter, decide_eq_true_eq] at h77
    exact absurd h77.2 (by decide)
  · rw [List.length_map]; exact Nat.le_trans (List.length_filter_le _ _) hl
  · have e1 : (mCmp (iScr (vr 0)) (gSet 2) (tsb (o2 dGe (vr 2) (o2 dPow (cst (.int 10)) (cst (.int 18))))) (vr 2) [2] : Env → M Unit D) [some (.scr ns), none, none] = ret (.lst (((ns.filter fun n => decide ((10 : Int) ^ 18 ≤ n)).map id).map .int)) := by
      refine cmp_scr (fun n => decide ((10 : Int) ^ 18 ≤ n)) id rfl hl fun n _ => ⟨?_, ?_⟩
      · have ep : dPow (.int 10) (.int 18) = some (.int ((10 : Int) ^ 18)) := rfl
        simp -implicitDefEqProofs only [wipeD, sSeq_ap, sIf_ap, sSet_ap, sRet_ap, sNx_ap, sRetN_ap, sBk_ap, sCt_ap, sExp_ap, sAsg_ap, sPar_ap, sPar3_ap, sApp_ap, sSetX_ap, sExpX_ap, sIxs_ap, sSt_ap, sFl_ap, sStk_ap, sFor_ap, mLst_ap, mTup_ap, mDnew_ap, mDisp_ap, ppCons_ap, ppNil_ap, o1_ap, o2_ap, vr_ap, cst_ap, mCal_ap, mCalP_ap, mCalKP_ap, aCons_ap, aNil_ap, anV_ap, orV_ap, ntV_ap, tsb_ap, tru_ap, nt_ap, an_ap, orr_ap, ife_ap, chn_ap, joi_ap, slc_ap, pNone_ap, pSome_ap, xOf_ap, xPop_ap, iSeq_ap, iRg1_ap, iRg2_ap, iEnum2_ap, iZip_ap, mMk_ap, yes_ap, gSet_ap, gTupD_ap, gsNil_ap, gsCons_ap, pick, asB, asS, asI, asT, slL, slot, dTru, dInt, dSub, dNeg, dLe, dLt, dGt, dGe, dMin2, dAbs, dList_l, dList_t, dTuple_l, dTuple_t, dLen_l, dLen_t, dLen_d, dLen_s, dAdd_i, subsT, subsL, atI_0, atI_1, atI_2, atI_3, isi_str, isi_tup, isi_dic, isi_int, isi_intb, isi_lst2, isi_tup2, dEq_int, dNe_int, if_tt, if_ff, Bool.not_true, Bool.not_false, Option.bind_some, List.map_cons, List.map_nil, List.cons_append, List.nil_append, List.length_cons, List.length_nil, List.getElem?_cons_succ, List.getElem?_cons_zero, List.set_cons_zero, List.set_cons_succ, List.filterMap_cons, List.filterMap_nil, bnd_ret, lft_some, lft_none, pur_ret, bnd_assoc, bnd_stk, List.replicate_succ, List.replicate_zero, Nat.reduceAdd, Nat.reduceSub, Nat.reduceEqDiff, if_true, if_false, eq_self, Int.cast_ofNat_Int, decide_true, decide_false, Int.reduceEq, Int.reduceLE, Int.reduceLT, Int.reduceNeg, Int.reduceAdd, Int.reduceSub, sUnp3_ap, sMt_ap, sMt0_ap, xPop0_ap, mMet_ap, mMetK_ap, isLstD_l, isDicD_d, ep]
      · simp -implicitDefEqProofs only [wipeD, sSeq_ap, sIf_ap, sSet_ap, sRet_ap, sNx_ap, sRetN_ap, sBk_ap, sCt_ap, sExp_ap, sAsg_ap, sPar_ap, sPar3_ap, sApp_ap, sSetX_ap, sExpX_ap, sIxs_ap, sSt_ap, sFl_ap, sStk_ap, sFor_ap, mLst_ap, mTup_ap, mDnew_ap, mDisp_ap, ppCons_ap, ppNil_ap, o1_ap, o2_ap, vr_ap, cst_ap, mCal_ap, mCalP_ap, mCalKP_ap, aCons_ap, aNil_ap, anV_ap, orV_ap, ntV_ap, tsb_ap, tru_ap, nt_ap, an_ap, orr_ap, ife_ap, chn_ap, joi_ap, slc_ap, pNone_ap, pSome_ap, xOf_ap, xPop_ap, iSeq_ap, iRg1_ap, iRg2_ap, iEnum2_ap, iZip_ap, mMk_ap, yes_ap, gSet_ap, gTupD_ap, gsNil_ap, gsCons_ap, pick, asB, asS, asI, asT, slL, slot, dTru, dInt, dSub, dNeg, dLe, dLt, dGt, dGe, dMin2, dAbs, dList_l, dList_t, dTuple_l, dTuple_t, dLen_l, dLen_t, dLen_d, dLen_s, dAdd_i, subsT, subsL, atI_0, atI_1, atI_2, atI_3, isi_str, isi_tup, isi_dic, isi_int, isi_intb, isi_lst2, isi_tup2, dEq_int, dNe_int, if_tt, if_ff, Bool.not_true, Bool.not_false, Option.bind_some, List.map_cons, List.map_nil, List.cons_append, List.nil_append, List.length_cons, List.length_nil, List.getElem?_cons_succ, List.getElem?_cons_zero, List.set_cons_zero, List.set_cons_succ, List.filterMap_cons, List.filterMap_nil, bnd_ret, lft_some, lft_none, pur_ret, bnd_assoc, bnd_stk, List.replicate_succ, List.replicate_zero, Nat.reduceAdd, Nat.reduceSub, Nat.reduceEqDiff, if_true, if_false, eq_self, Int.cast_ofNat_Int, decide_true, decide_false, Int.reduceEq, Int.reduceLE, Int.reduceLT, Int.reduceNeg, Int.reduceAdd, Int.reduceSub, sUnp3_ap, sMt_ap, sMt0_ap, xPop0_ap, mMet_ap, mMetK_ap, isLstD_l, isDicD_d, id]
    generalize (ns.filter fun n => decide ((10 : Int) ^ 18 ≤ n)).map id = gs at *
    have e2 : (mCmp (iScr (vr 0)) (gSet 2) (yes) (o2 dMod (o1 dInt (vr 2)) (cst (.int 2147483629))) [2] : Env → M Unit D) [some (.scr ns), some (.lst (gs.map .int)), none] = ret (.lst (((ns.filter fun _ => true).map (fun n => n % 2147483629)).map .int)) := by
      refine cmp_scr (fun _ => true) (fun n => n % 2147483629) rfl hl fun n _ => ⟨rfl, ?_⟩
      simp -implicitDefEqProofs only [wipeD, sSeq_ap, sIf_ap, sSet_ap, sRet_ap, sNx_ap, sRetN_ap, sBk_ap, sCt_ap, sExp_ap, sAsg_ap, sPar_ap, sPar3_ap, sApp_ap, sSetX_ap, sExpX_ap, sIxs_ap, sSt_ap, sFl_ap, sStk_ap, sFor_ap, mLst_ap, mTup_ap, mDnew_ap, mDisp_ap, ppCons_ap, ppNil_ap, o1_ap, o2_ap, vr_ap, cst_ap, mCal_ap, mCalP_ap, mCalKP_ap, aCons_ap, aNil_ap, anV_ap, orV_ap, ntV_ap, tsb_ap, tru_ap, nt_ap, an_ap, orr_ap, ife_ap, chn_ap, joi_ap, slc_ap, pNone_ap, pSome_ap, xOf_ap, xPop_ap, iSeq_ap, iRg1_ap, iRg2_ap, iEnum2_ap, iZip_ap, mMk_ap, yes_ap, gSet_ap, gTupD_ap, gsNil_ap, gsCons_ap, pick, asB, asS, asI, asT, slL, slot, dTru, dInt, dSub, dNeg, dLe, dLt, dGt, dGe, dMin2, dAbs, dList_l, dList_t, dTuple_l, dTuple_t, dLen_l, dLen_t, dLen_d, dLen_s, dAdd_i, subsT, subsL, atI_0, atI_1, atI_2, atI_3, isi_str, isi_tup, isi_dic, isi_int, isi_intb, isi_lst2, isi_tup2, dEq_int, dNe_int, if_tt, if_ff, Bool.not_true, Bool.not_false, Option.bind_some, List.map_cons, List.map_nil, List.cons_append, List.nil_append, List.length_cons, List.length_nil, List.getElem?_cons_succ, List.getElem?_cons_zero, List.set_cons_zero, List.set_cons_succ, List.filterMap_cons, List.filterMap_nil, bnd_ret, lft_some, lft_none, pur_ret, bnd_assoc, bnd_stk, List.replicate_succ, List.replicate_zero, Nat.reduceAdd, Nat.reduceSub, Nat.reduceEqDiff, if_true, if_false, eq_self, Int.cast_ofNat_Int, decide_true, decide_false, Int.reduceEq, Int.reduceLE, Int.reduceLT, Int.reduceNeg, Int.reduceAdd, Int.reduceSub, sUnp3_ap, sMt_ap, sMt0_ap, xPop0_ap, mMet_ap, mMetK_ap, isLstD_l, isDicD_d, dMod_pos (show (0 : Int) < 2147483629 by decide)]
    have hlen : ((ns.filter fun _ => true).map (fun n => n % 2147483629)).length ≤ 63 := by rw [List.length_map]; exact Nat.le_trans (List.length_filter_le _ _) hl
    generalize (ns.filter fun _ => true).map (fun n => n % 2147483629) = cs at *
    have e3 : dCat (.lst (cs.map .int)) (.lst [.int 77]) = some (.lst ((cs ++ [77]).map .int)) := by
      show (if (cs.map D.int).length + 1 ≤ sizeLine then _ else _) = _
      rw [if_pos (by rw [List.length_map]; exact Nat.le_trans (show cs.length + 1 ≤ 64 by omega) (by decide)), List.map_append]
      rfl
    have ak : ∀ y : Str, asK (.str y) = some (.inr y) := fun _ => rfl
    have e4 : ∀ a b : D, D.dic (mergeD [] [(.inr "great", a), (.inr "cells", b), (.inr "rest", .int 0), (.inr "turn", .int 0)]) = .dic [(.inr "great", a), (.inr "cells", b), (.inr "rest", .int 0), (.inr "turn", .int 0)] := fun a b => by
      have nd : ([.inr "great", .inr "cells", .inr "rest", .inr "turn"] : List Key).Nodup := by decide
      exact congrArg D.dic (merge_app [(.inr "great", a), (.inr "cells", b), (.inr "rest", .int 0), (.inr "turn", .int 0)] [] nd)
    rw [runB_eq]
    simp -implicitDefEqProofs only [sSeq_ap, sIf_ap, sSet_ap, sRet_ap, sNx_ap, sRetN_ap, sBk_ap, sCt_ap, sExp_ap, sAsg_ap, sPar_ap, sPar3_ap, sApp_ap, sSetX_ap, sExpX_ap, sIxs_ap, sSt_ap, sFl_ap, sStk_ap, sFor_ap, mLst_ap, mTup_ap, mDnew_ap, mDisp_ap, ppCons_ap, ppNil_ap, o1_ap, o2_ap, vr_ap, cst_ap, mCal_ap, mCalP_ap, mCalKP_ap, aCons_ap, aNil_ap, anV_ap, orV_ap, ntV_ap, tsb_ap, tru_ap, nt_ap, an_ap, orr_ap, ife_ap, chn_ap, joi_ap, slc_ap, pNone_ap, pSome_ap, xOf_ap, xPop_ap, iSeq_ap, iRg1_ap, iRg2_ap, iEnum2_ap, iZip_ap, mMk_ap, yes_ap, gSet_ap, gTupD_ap, gsNil_ap, gsCons_ap, pick, asB, asS, asI, asT, slL, slot, dTru, dInt, dSub, dNeg, dLe, dLt, dGt, dGe, dMin2, dAbs, dList_l, dList_t, dTuple_l, dTuple_t, dLen_l, dLen_t, dLen_d, dLen_s, dAdd_i, subsT, subsL, atI_0, atI_1, atI_2, atI_3, isi_str, isi_tup, isi_dic, isi_int, isi_intb, isi_lst2, isi_tup2, dEq_int, dNe_int, if_tt, if_ff, Bool.not_true, Bool.not_false, Option.bind_some, List.map_cons, List.map_nil, List.cons_append, List.nil_append, List.length_cons, List.length_nil, List.getElem?_cons_succ, List.getElem?_cons_zero, List.set_cons_zero, List.set_cons_succ, List.filterMap_cons, List.filterMap_nil, bnd_ret, lft_some, lft_none, pur_ret, bnd_assoc, bnd_stk, List.replicate_succ, List.replicate_zero, Nat.reduceAdd, Nat.reduceSub, Nat.reduceEqDiff, if_true, if_false, eq_self, Int.cast_ofNat_Int, decide_true, decide_false, Int.reduceEq, Int.reduceLE, Int.reduceLT, Int.reduceNeg, Int.reduceAdd, Int.reduceSub, sUnp3_ap, sMt_ap, sMt0_ap, xPop0_ap, mMet_ap, mMetK_ap, isLstD_l, isDicD_d, bgB, e1, e2, e3, ak, e4]
    rfl
/-! ### draws, by their mirrors -/
def mixB : Env → M BgS (Fl × Env) := sSeq (sSet 1 (o2 dAdd (sGet false 0) (cst (.int 1))))
    (sSeq (sPutB false 0 (vr 1))
    (sSeq (sSet 2 (cst (.int 0)))
    (sSeq (sFor (iSeq (mLst (aCons (cst (.int 2147483629)) (aCons (cst (.int 2147483587)) (aCons (cst (.int 2147483579)) (aCons (cst (.int 2147483563)) (aNil))))))) (gSet 3) (sSeq (sSet 4 (o2 dAdd (o2 dMulS (cst (.int 104729)) (vr 1)) (o2 dDiv (vr 3) (cst (.int 7)))))
    (sSeq (sFor (iCells 0) (gSet 5) (sSet 4 (o2 dMod (o1 dInt (o2 dAdd (o2 dAdd (o2 dMulS (vr 4) (cst (.int 48271))) (vr 5)) (vr 1))) (vr 3))))
    (sSet 2 (o2 dAdd (o2 dMulS (vr 2) (cst (.int 2147483647))) (o2 dMod (o1 dInt (o2 dPow (vr 4) (cst (.int 5)))) (vr 3)))))))
    (sRet (vr 2)))))
def takeB : Env → M BgS (Fl × Env) := sSeq (sIf (tsb (o2 dEq (sGet true 0) (cst (.int 0)))) (sPutB true 0 (ife (sHas 0) (sPop 0) (mCal (aCons (vr 0) (aNil)) (runB 6 mixB)))) (sNx))
    (sSeq (sSet 2 (o2 dMod (o1 dInt (sGet true 0)) (vr 1)))
    (sSeq (sPutB true 0 (o2 dDiv (o1 dInt (sGet true 0)) (vr 1)))
    (sRet (vr 2))))
theorem sat_sget {b : Bool} {i : Nat} {ρ : Env} (h : isDrw ρ i = true) : Sat (sGet b i ρ) fun d => ∃ r : Int, d = .int r := fun s => by
  unfold sGet
  rw [if_pos h]
  exact ⟨_, s, rfl, _, rfl⟩
theorem sat_sput {b : Bool} {i : Nat} {fe : Env → M BgS D} {ρ : Env} (h : isDrw ρ i = true) (hf : Sat (fe ρ) fun d => ∃ r : Int, d = .int r) : Sat (sPutB b i fe ρ) fun z => z.1 = .nx ∧ z.2 = ρ := by
  refine sat_bnd hf ?_
  rintro _ ⟨r, rfl⟩
  intro s
  dsimp only [asI]
  rw [if_pos h]
  exact ⟨_, _, rfl, rfl, rfl⟩
theorem sat_cells {i : Nat} {ρ : Env} (h : isDrw ρ i = true) : Sat (iCells i ρ) fun ds => ∃ cs : List Int, cs ≠ [] ∧ ds = cs.map .int := fun s => by
  unfold iCells
  rw [if_pos h]
  exact ⟨_, s, rfl, s.cells, s.ne, rfl⟩
theorem sat_has {i : Nat} {ρ : Env} {f : Env → M BgS D} (h : isDrw ρ i = true) (hf : Sat (f ρ) fun d => ∃ r : Int, d = .int r) : Sat (ife (sHas i) (sPop i) f ρ) fun d => ∃ r : Int, d = .int r := fun s => by
  rw [ife_ap]
  unfold sHas sPop
  rw [if_pos h, if_pos h]
  dsimp only [bnd]
  cases e : s.great with
  | nil => simpa using hf s
  | cons y r => exact ⟨.int y, { s with great := r }, by simp [e], y, rfl⟩
theorem mul_r {i j : Int} (h : j.natAbs < 2 ^ 63) : dMulS (.int i) (.int j) = some (.int (i * j)) := by
  show (if okMul i j = true then _ else _) = _
  rw [if_pos]
  unfold okMul
  refine decide_eq_true (.inr ⟨?_, ?_⟩) <;> omega
theorem div_s {i j : Int} (h : 0 < j ∧ j < 1073741824) : dDiv (.int i) (.int j) = some (.int (i / j)) := if_pos h
theorem pow_5 {i : Int} (h : i.natAbs < 2 ^ 64) : dPow (.int i) (.int 5) = some (.int (i ^ 5)) := if_pos ⟨by decide, by decide, h⟩
theorem sat_seqB {S : Type} {f g : Env → M S (Fl × Env)} {ρ : Env} {Q : Fl × Env → Prop} (Pz : Env → Prop) (h : Sat (f ρ) fun z => z.1 = .nx ∧ Pz z.2) (k : ∀ ρ', Pz ρ' → Sat (g ρ') Q) : Sat (sSeq f g ρ) Q := by
  rw [sSeq_ap]
  refine sat_bnd h ?_
  rintro ⟨fl, ρ'⟩ ⟨rfl, hp⟩
  exact k ρ' hp
theorem sat_mixed : Sat (runB 6 mixB [.drw]) fun d => ∃ r : Int, d = .int r := by
  rw [runB_eq]
  refine sat_bnd (P := fun z => ∃ r : Int, z.1 = .rt (.int r)) ?_ ?_
  · unfold mixB
    refine sat_seqB (fun ρ => ∃ t : Int, ρ = [some .drw, some (.int t), none, none, none, none]) ?_ ?_
    · try simp -implicitDefEqProofs only [sSeq_ap, sIf_ap, sSet_ap, sRet_ap, sNx_ap, sRetN_ap, sBk_ap, sCt_ap, sExp_ap, sAsg_ap, sPar_ap, sPar3_ap, sApp_ap, sSetX_ap, sExpX_ap, sIxs_ap, sSt_ap, sFl_ap, sStk_ap, sFor_ap, mLst_ap, mTup_ap, mDnew_ap, mDisp_ap, ppCons_ap, ppNil_ap, o1_ap, o2_ap, vr_ap, cst_ap, mCal_ap, mCalP_ap, mCalKP_ap, aCons_ap, aNil_ap, anV_ap, orV_ap, ntV_ap, tsb_ap, tru_ap, nt_ap, an_ap, orr_ap, ife_ap, chn_ap, joi_ap, slc_ap, pNone_ap, pSome_ap, xOf_ap, xPop_ap, iSeq_ap, iRg1_ap, iRg2_ap, iEnum2_ap, iZip_ap, mMk_ap, yes_ap, gSet_ap, gTupD_ap, gsNil_ap, gsCons_ap, pick, asB, asS, asI, asT, slL, slot, dTru, dInt, dSub, dNeg, dLe, dLt, dGt, dGe, dMin2, dAbs, dList_l, dList_t, dTuple_l, dTuple_t, dLen_l, dLen_t, dLen_d, dLen_s, dAdd_i, subsT, subsL, atI_0, atI_1, atI_2, atI_3, isi_str, isi_tup, isi_dic, isi_int, isi_intb, isi_lst2, isi_tup2, dEq_int, dNe_int, if_tt, if_ff, Bool.not_true, Bool.not_false, Option.bind_some, List.map_cons, List.map_nil, List.cons_append, List.nil_append, List.length_cons, List.length_nil, List.getElem?_cons_succ, List.getElem?_cons_zero, List.set_cons_zero, List.set_cons_succ, List.filterMap_cons, List.filterMap_nil, bnd_ret, lft_some, lft_none, pur_ret, bnd_assoc, bnd_stk, List.replicate_succ, List.replicate_zero, Nat.reduceAdd, Nat.reduceSub, Nat.reduceEqDiff, if_true, if_false, eq_self, Int.cast_ofNat_Int, decide_true, decide_false, Int.reduceEq, Int.reduceLE, Int.reduceLT, Int.reduceNeg, Int.reduceAdd, Int.reduceSub, sUnp3_ap, sMt_ap, sMt0_ap, xPop0_ap, mMet_ap, mMetK_ap, isLstD_l, isDicD_d]
      refine sat_bnd (sat_sget rfl) ?_
      rintro _ ⟨t, rfl⟩
      try simp -implicitDefEqProofs only [sSeq_ap, sIf_ap, sSet_ap, sRet_ap, sNx_ap, sRetN_ap, sBk_ap, sCt_ap, sExp_ap, sAsg_ap, sPar_ap, sPar3_ap, sApp_ap, sSetX_ap, sExpX_ap, sIxs_ap, sSt_ap, sFl_ap, sStk_ap, sFor_ap, mLst_ap, mTup_ap, mDnew_ap, mDisp_ap, ppCons_ap, ppNil_ap, o1_ap, o2_ap, vr_ap, cst_ap, mCal_ap, mCalP_ap, mCalKP_ap, aCons_ap, aNil_ap, anV_ap, orV_ap, ntV_ap, tsb_ap, tru_ap, nt_ap, an_ap, orr_ap, ife_ap, chn_ap, joi_ap, slc_ap, pNone_ap, pSome_ap, xOf_ap, xPop_ap, iSeq_ap, iRg1_ap, iRg2_ap, iEnum2_ap, iZip_ap, mMk_ap, yes_ap, gSet_ap, gTupD_ap, gsNil_ap, gsCons_ap, pick, asB, asS, asI, asT, slL, slot, dTru, dInt, dSub, dNeg, dLe, dLt, dGt, dGe, dMin2, dAbs, dList_l, dList_t, dTuple_l, dTuple_t, dLen_l, dLen_t, dLen_d, dLen_s, dAdd_i, subsT, subsL, atI_0, atI_1, atI_2, atI_3, isi_str, isi_tup, isi_dic, isi_int, isi_intb, isi_lst2, isi_tup2, dEq_int, dNe_int, if_tt, if_ff, Bool.not_true, Bool.not_false, Option.bind_some, List.map_cons, List.map_nil, List.cons_append, List.nil_append, List.length_cons, List.length_nil, List.getElem?_cons_succ, List.getElem?_cons_zero, List.set_cons_zero, List.set_cons_succ, List.filterMap_cons, List.filterMap_nil, bnd_ret, lft_some, lft_none, pur_ret, bnd_assoc, bnd_stk, List.replicate_succ, List.replicate_zero, Nat.reduceAdd, Nat.reduceSub, Nat.reduceEqDiff, if_true, if_false, eq_self, Int.cast_ofNat_Int, decide_true, decide_false, Int.reduceEq, Int.reduceLE, Int.reduceLT, Int.reduceNeg, Int.reduceAdd, Int.reduceSub, sUnp3_ap, sMt_ap, sMt0_ap, xPop0_ap, mMet_ap, mMetK_ap, isLstD_l, isDicD_d]
      exact sat_ret ⟨rfl, _, rfl⟩
    rintro _ ⟨t, rfl⟩
    refine sat_seqB (fun ρ => ρ = [some .drw, some (.int t), none, none, none, none]) ((sat_sput rfl (by try simp -implicitDefEqProofs only [sSeq_ap, sIf_ap, sSet_ap, sRet_ap, sNx_ap, sRetN_ap, sBk_ap, sCt_ap, sExp_ap, sAsg_ap, sPar_ap, sPar3_ap, sApp_ap, sSetX_ap, sExpX_ap, sIxs_ap, sSt_ap, sFl_ap, sStk_ap, sFor_ap, mLst_ap, mTup_ap, mDnew_ap, mDisp_ap, ppCons_ap, ppNil_ap, o1_ap, o2_ap, vr_ap, cst_ap, mCal_ap, mCalP_ap, mCalKP_ap, aCons_ap, aNil_ap, anV_ap, orV_ap, ntV_ap, tsb_ap, tru_ap, nt_ap, an_ap, orr_ap, ife_ap, chn_ap, joi_ap, slc_ap, pNone_ap, pSome_ap, xOf_ap, xPop_ap, iSeq_ap, iRg1_ap, iRg2_ap, iEnum2_ap, iZip_ap, mMk_ap, yes_ap, gSet_ap, gTupD_ap, gsNil_ap, gsCons_ap, pick, asB, asS, asI, asT, slL, slot, dTru, dInt, dSub, dNeg, dLe, dLt, dGt, dGe, dMin2, dAbs, dList_l, dList_t, dTuple_l, dTuple_t, dLen_l, dLen_t, dLen_d, dLen_s, dAdd_i, subsT, subsL, atI_0, atI_1, atI_2, atI_3, isi_str, isi_tup, isi_dic, isi_int, isi_intb, isi_lst2, isi_tup2, dEq_int, dNe_int, if_tt, if_ff, Bool.not_true, Bool.not_false, Option.bind_some, List.map_cons, List.map_nil, List.cons_append, List.nil_append, List.length_cons, List.length_nil, List.getElem?_cons_succ, List.getElem?_cons_zero, List.set_cons_zero, List.set_cons_succ, List.filterMap_cons, List.filterMap_nil, bnd_ret, lft_some, lft_none, pur_ret, bnd_assoc, bnd_stk, List.replicate_succ, List.replicate_zero, Nat.reduceAdd, Nat.reduceSub, Nat.reduceEqDiff, if_true, if_false, eq_self, Int.cast_ofNat_Int, decide_true, decide_false, Int.reduceEq, Int.reduceLE, Int.reduceLT, Int.reduceNeg, Int.reduceAdd, Int.reduceSub, sUnp3_ap, sMt_ap, sMt0_ap, xPop0_ap, mMet_ap, mMetK_ap, isLstD_l, isDicD_d]; exact sat_ret ⟨_, rfl⟩))) ?_
    rintro _ rfl
    refine sat_seqB (fun ρ => ρ = [some .drw, some (.int t), some (.int 0), none, none, none]) (by try simp -implicitDefEqProofs only [sSeq_ap, sIf_ap, sSet_ap, sRet_ap, sNx_ap, sRetN_ap, sBk_ap, sCt_ap, sExp_ap, sAsg_ap, sPar_ap, sPar3_ap, sApp_ap, sSetX_ap, sExpX_ap, sIxs_ap, sSt_ap, sFl_ap, sStk_ap, sFor_ap, mLst_ap, mTup_ap, mDnew_ap, mDisp_ap, ppCons_ap, ppNil_ap, o1_ap, o2_ap, vr_ap, cst_ap, mCal_ap, mCalP_ap, mCalKP_ap, aCons_ap, aNil_ap, anV_ap, orV_ap, ntV_ap, tsb_ap, tru_ap, nt_ap, an_ap, orr_ap, ife_ap, chn_ap, joi_ap, slc_ap, pNone_ap, pSome_ap, xOf_ap, xPop_ap, iSeq_ap, iRg1_ap, iRg2_ap, iEnum2_ap, iZip_ap, mMk_ap, yes_ap, gSet_ap, gTupD_ap, gsNil_ap, gsCons_ap, pick, asB, asS, asI, asT, slL, slot, dTru, dInt, dSub, dNeg, dLe, dLt, dGt, dGe, dMin2, dAbs, dList_l, dList_t, dTuple_l, dTuple_t, dLen_l, dLen_t, dLen_d, dLen_s, dAdd_i, subsT, subsL, atI_0, atI_1, atI_2, atI_3, isi_str, isi_tup, isi_dic, isi_int, isi_intb, isi_lst2, isi_tup2, dEq_int, dNe_int, if_tt, if_ff, Bool.not_true, Bool.not_false, Option.bind_some, List.map_cons, List.map_nil, List.cons_append, List.nil_append, List.length_cons, List.length_nil, List.getElem?_cons_succ, List.getElem?_cons_zero, List.set_cons_zero, List.set_cons_succ, List.filterMap_cons, List.filterMap_nil, bnd_ret, lft_some, lft_none, pur_ret, bnd_assoc, bnd_stk, List.replicate_succ, List.replicate_zero, Nat.reduceAdd, Nat.reduceSub, Nat.reduceEqDiff, if_true, if_false, eq_self, Int.cast_ofNat_Int, decide_true, decide_false, Int.reduceEq, Int.reduceLE, Int.reduceLT, Int.reduceNeg, Int.reduceAdd, Int.reduceSub, sUnp3_ap, sMt_ap, sMt0_ap, xPop0_ap, mMet_ap, mMetK_ap, isLstD_l, isDicD_d]; exact sat_ret ⟨rfl, rfl⟩) ?_
    rintro _ rfl
    refine sat_seqB (fun ρ => ∃ (f : Int) (a3 a4 a5 : Option D), ρ = [some .drw, some (.int t), some (.int f), a3, a4, a5]) ?_ ?_
    · rw [sFor_ap]
      try simp -implicitDefEqProofs only [sSeq_ap, sIf_ap, sSet_ap, sRet_ap, sNx_ap, sRetN_ap, sBk_ap, sCt_ap, sExp_ap, sAsg_ap, sPar_ap, sPar3_ap, sApp_ap, sSetX_ap, sExpX_ap, sIxs_ap, sSt_ap, sFl_ap, sStk_ap, sFor_ap, mLst_ap, mTup_ap, mDnew_ap, mDisp_ap, ppCons_ap, ppNil_ap, o1_ap, o2_ap, vr_ap, cst_ap, mCal_ap, mCalP_ap, mCalKP_ap, aCons_ap, aNil_ap, anV_ap, orV_ap, ntV_ap, tsb_ap, tru_ap, nt_ap, an_ap, orr_ap, ife_ap, chn_ap, joi_ap, slc_ap, pNone_ap, pSome_ap, xOf_ap, xPop_ap, iSeq_ap, iRg1_ap, iRg2_ap, iEnum2_ap, iZip_ap, mMk_ap, yes_ap, gSet_ap, gTupD_ap, gsNil_ap, gsCons_ap, pick, asB, asS, asI, asT, slL, slot, dTru, dInt, dSub, dNeg, dLe, dLt, dGt, dGe, dMin2, dAbs, dList_l, dList_t, dTuple_l, dTuple_t, dLen_l, dLen_t, dLen_d, dLen_s, dAdd_i, subsT, subsL, atI_0, atI_1, atI_2, atI_3, isi_str, isi_tup, isi_dic, isi_int, isi_intb, isi_lst2, isi_tup2, dEq_int, dNe_int, if_tt, if_ff, Bool.not_true, Bool.not_false, Option.bind_some, List.map_cons, List.map_nil, List.cons_append, List.nil_append, List.length_cons, List.length_nil, List.getElem?_cons_succ, List.getElem?_cons_zero, List.set_cons_zero, List.set_cons_succ, List.filterMap_cons, List.filterMap_nil, bnd_ret, lft_some, lft_none, pur_ret, bnd_assoc, bnd_stk, List.replicate_succ, List.replicate_zero, Nat.reduceAdd, Nat.reduceSub, Nat.reduceEqDiff, if_true, if_false, eq_self, Int.cast_ofNat_Int, decide_true, decide_false, Int.reduceEq, Int.reduceLE, Int.reduceLT, Int.reduceNeg, Int.reduceAdd, Int.reduceSub, sUnp3_ap, sMt_ap, sMt0_ap, xPop0_ap, mMet_ap, mMetK_ap, isLstD_l, isDicD_d]
      refine (sat_for (I := fun _ ρ => ∃ (f : Int) (a3 a4 a5 : Option D), ρ = [some .drw, some (.int t), some (.int f), a3, a4, a5]) (R := fun _ => False) (i := 0) ⟨0, none, none, none, rfl⟩ ?_).mono ?_
      · rintro j d ρ hj _ ⟨f, a3, a4, a5, rfl⟩
        obtain ⟨p, rfl, hp⟩ : ∃ p : Int, d = .int p ∧ 1000 < p ∧ p < 2147483648 := by
          have hd := List.mem_of_getElem? hj
          simp only [List.mem_cons, List.not_mem_nil, or_false] at hd
          rcases hd with rfl | rfl | rfl | rfl <;> exact ⟨_, rfl, by decide⟩
        refine ⟨_, rfl, ?_⟩
        refine sat_seqB (fun ρ => ∃ b : Int, ρ = [some .drw, some (.int t), some (.int f), some (.int p), some (.int b), a5]) ?_ ?_
        · simp -implicitDefEqProofs only [sSeq_ap, sIf_ap, sSet_ap, sRet_ap, sNx_ap, sRetN_ap, sBk_ap, sCt_ap, sExp_ap, sAsg_ap, sPar_ap, sPar3_ap, sApp_ap, sSetX_ap, sExpX_ap, sIxs_ap, sSt_ap, sFl_ap, sStk_ap, sFor_ap, mLst_ap, mTup_ap, mDnew_ap, mDisp_ap, ppCons_ap, ppNil_ap, o1_ap, o2_ap, vr_ap, cst_ap, mCal_ap, mCalP_ap, mCalKP_ap, aCons_ap, aNil_ap, anV_ap, orV_ap, ntV_ap, tsb_ap, tru_ap, nt_ap, an_ap, orr_ap, ife_ap, chn_ap, joi_ap, slc_ap, pNone_ap, pSome_ap, xOf_ap, xPop_ap, iSeq_ap, iRg1_ap, iRg2_ap, iEnum2_ap, iZip_ap, mMk_ap, yes_ap, gSet_ap, gTupD_ap, gsNil_ap, gsCons_ap, pick, asB, asS, asI, asT, slL, slot, dTru, dInt, dSub, dNeg, dLe, dLt, dGt, dGe, dMin2, dAbs, dList_l, dList_t, dTuple_l, dTuple_t, dLen_l, dLen_t, dLen_d, dLen_s, dAdd_i, subsT, subsL, atI_0, atI_1, atI_2, atI_3, isi_str, isi_tup, isi_dic, isi_int, isi_intb, isi_lst2, isi_tup2, dEq_int, dNe_int, if_tt, if_ff, Bool.not_true, Bool.not_false, Option.bind_some, List.map_cons, List.map_nil, List.cons_append, List.nil_append, List.length_cons, List.length_nil, List.getElem?_cons_succ, List.getElem?_cons_zero, List.set_cons_zero, List.set_cons_succ, List.filterMap_cons, List.filterMap_nil, bnd_ret, lft_some, lft_none, pur_ret, bnd_assoc, bnd_stk, List.replicate_succ, List.replicate_zero, Nat.reduceAdd, Nat.reduceSub, Nat.reduceEqDiff, if_true, if_false, eq_self, Int.cast_ofNat_Int, decide_true, decide_false, Int.reduceEq, Int.reduceLE, Int.reduceLT, Int.reduceNeg, Int.reduceAdd, Int.reduceSub, sUnp3_ap, sMt_ap, sMt0_ap, xPop0_ap, mMet_ap, mMetK_ap, isLstD_l, isDicD_d, dMul_sm (show (104729 : Int).natAbs < 1000000 by decide), div_s (show (0 : Int) < 7 ∧ (7 : Int) < 1073741824 by decide)]
          exact sat_ret ⟨rfl, _, rfl⟩
        rintro _ ⟨b, rfl⟩
        refine sat_seqB (fun ρ => ∃ (b : Int) (a5 : Option D), 0 ≤ b ∧ b < p ∧ ρ = [some .drw, some (.int t), some (.int f), some (.int p), some (.int b), a5]) ?_ ?_
        · rw [sFor_ap]
          refine sat_bnd (sat_cells rfl) ?_
          rintro _ ⟨cs, hcs, rfl⟩
          refine (sat_for (I := fun j ρ => ∃ (b : Int) (a5 : Option D), (0 < j → 0 ≤ b ∧ b < p) ∧ ρ = [some .drw, some (.int t), some (.int f), some (.int p), some (.int b), a5]) (R := fun _ => False) (i := 0) ⟨b, a5, by omega, rfl⟩ ?_).mono ?_
          · rintro j2 d2 ρ hj2 _ ⟨b, a5, _, rfl⟩
            obtain ⟨c, _, rfl⟩ := List.mem_map.mp (List.mem_of_getElem? hj2)
            refine ⟨_, rfl, ?_⟩
            simp -implicitDefEqProofs only [sSeq_ap, sIf_ap, sSet_ap, sRet_ap, sNx_ap, sRetN_ap, sBk_ap, sCt_ap, sExp_ap, sAsg_ap, sPar_ap, sPar3_ap, sApp_ap, sSetX_ap, sExpX_ap, sIxs_ap, sSt_ap, sFl_ap, sStk_ap, sFor_ap, mLst_ap, mTup_ap, mDnew_ap, mDisp_ap, ppCons_ap, ppNil_ap, o1_ap, o2_ap, vr_ap, cst_ap, mCal_ap, mCalP_ap, mCalKP_ap, aCons_ap, aNil_ap, anV_ap, orV_ap, ntV_ap, tsb_ap, tru_ap, nt_ap, an_ap, orr_ap, ife_ap, chn_ap, joi_ap, slc_ap, pNone_ap, pSome_ap, xOf_ap, xPop_ap, iSeq_ap, iRg1_ap, iRg2_ap, iEnum2_ap, iZip_ap, mMk_ap, yes_ap, gSet_ap, gTupD_ap, gsNil_ap, gsCons_ap, pick, asB, asS, asI, asT, slL, slot, dTru, dInt, dSub, dNeg, dLe, dLt, dGt, dGe, dMin2, dAbs, dList_l, dList_t, dTuple_l, dTuple_t, dLen_l, dLen_t, dLen_d, dLen_s, dAdd_i, subsT, subsL, atI_0, atI_1, atI_2, atI_3, isi_str, isi_tup, isi_dic, isi_int, isi_intb, isi_lst2, isi_tup2, dEq_int, dNe_int, if_tt, if_ff, Bool.not_true, Bool.not_false, Option.bind_some, List.map_cons, List.map_nil, List.cons_append, List.nil_append, List.length_cons, List.length_nil, List.getElem?_cons_succ, List.getElem?_cons_zero, List.set_cons_zero, List.set_cons_succ, List.filterMap_cons, List.filterMap_nil, bnd_ret, lft_some, lft_none, pur_ret, bnd_assoc, bnd_stk, List.replicate_succ, List.replicate_zero, Nat.reduceAdd, Nat.reduceSub, Nat.reduceEqDiff, if_true, if_false, eq_self, Int.cast_ofNat_Int, decide_true, decide_false, Int.reduceEq, Int.reduceLE, Int.reduceLT, Int.reduceNeg, Int.reduceAdd, Int.reduceSub, sUnp3_ap, sMt_ap, sMt0_ap, xPop0_ap, mMet_ap, mMetK_ap, isLstD_l, isDicD_d, mul_r (show (48271 : Int).natAbs < 2 ^ 63 by decide), dMod_pos (show (0 : Int) < p by omega)]
            exact sat_ret (.inl ⟨.inl rfl, _, _, fun _ => ⟨Int.emod_nonneg _ (by omega), Int.emod_lt_of_pos _ (by omega)⟩, rfl⟩)
          · rintro ⟨fl, ρ⟩ (⟨rfl, b, a5, hb, rfl⟩ | ⟨_, _, h⟩)
            · have : 0 < 0 + (cs.map D.int).length := by rw [List.length_map]; have := List.length_pos_iff.mpr hcs; omega
              exact ⟨rfl, b, a5, (hb this).1, (hb this).2, rfl⟩
            · exact h.elim
        rintro _ ⟨b, a5, hb0, hb1, rfl⟩
        simp -implicitDefEqProofs only [sSeq_ap, sIf_ap, sSet_ap, sRet_ap, sNx_ap, sRetN_ap, sBk_ap, sCt_ap, sExp_ap, sAsg_ap, sPar_ap, sPar3_ap, sApp_ap, sSetX_ap, sExpX_ap, sIxs_ap, sSt_ap, sFl_ap, sStk_ap, sFor_ap, mLst_ap, mTup_ap, mDnew_ap, mDisp_ap, ppCons_ap, ppNil_ap, o1_ap, o2_ap, vr_ap, cst_ap, mCal_ap, mCalP_ap, mCalKP_ap, aCons_ap, aNil_ap, anV_ap, orV_ap, ntV_ap, tsb_ap, tru_ap, nt_ap, an_ap, orr_ap, ife_ap, chn_ap, joi_ap, slc_ap, pNone_ap, pSome_ap, xOf_ap, xPop_ap, iSeq_ap, iRg1_ap, iRg2_ap, iEnum2_ap, iZip_ap, mMk_ap, yes_ap, gSet_ap, gTupD_ap, gsNil_ap, gsCons_ap, pick, asB, asS, asI, asT, slL, slot, dTru, dInt, dSub, dNeg, dLe, dLt, dGt, dGe, dMin2, dAbs, dList_l, dList_t, dTuple_l, dTuple_t, dLen_l, dLen_t, dLen_d, dLen_s, dAdd_i, subsT, subsL, atI_0, atI_1, atI_2, atI_3, isi_str, isi_tup, isi_dic, isi_int, isi_intb, isi_lst2, isi_tup2, dEq_int, dNe_int, if_tt, if_ff, Bool.not_true, Bool.not_false, Option.bind_some, List.map_cons, List.map_nil, List.cons_append, List.nil_append, List.length_cons, List.length_nil, List.getElem?_cons_succ, List.getElem?_cons_zero, List.set_cons_zero, List.set_cons_succ, List.filterMap_cons, List.filterMap_nil, bnd_ret, lft_some, lft_none, pur_ret, bnd_assoc, bnd_stk, List.replicate_succ, List.replicate_zero, Nat.reduceAdd, Nat.reduceSub, Nat.reduceEqDiff, if_true, if_false, eq_self, Int.cast_ofNat_Int, decide_true, decide_false, Int.reduceEq, Int.reduceLE, Int.reduceLT, Int.reduceNeg, Int.reduceAdd, Int.reduceSub, sUnp3_ap, sMt_ap, sMt0_ap, xPop0_ap, mMet_ap, mMetK_ap, isLstD_l, isDicD_d, mul_r (show (2147483647 : Int).natAbs < 2 ^ 63 by decide), pow_5 (show b.natAbs < 2 ^ 64 by omega), dMod_pos (show (0 : Int) < p by omega)]
        exact sat_ret (.inl ⟨.inl rfl, _, _, _, _, rfl⟩)
      · rintro ⟨fl, ρ⟩ (⟨rfl, h⟩ | ⟨_, _, h⟩)
        · exact ⟨rfl, h⟩
        · exact h.elim
    rintro _ ⟨f, a3, a4, a5, rfl⟩
    try simp -implicitDefEqProofs only [sSeq_ap, sIf_ap, sSet_ap, sRet_ap, sNx_ap, sRetN_ap, sBk_ap, sCt_ap, sExp_ap, sAsg_ap, sPar_ap, sPar3_ap, sApp_ap, sSetX_ap, sExpX_ap, sIxs_ap, sSt_ap, sFl_ap, sStk_ap, sFor_ap, mLst_ap, mTup_ap, mDnew_ap, mDisp_ap, ppCons_ap, ppNil_ap, o1_ap, o2_ap, vr_ap, cst_ap, mCal_ap, mCalP_ap, mCalKP_ap, aCons_ap, aNil_ap, anV_ap, orV_ap, ntV_ap, tsb_ap, tru_ap, nt_ap, an_ap, orr_ap, ife_ap, chn_ap, joi_ap, slc_ap, pNone_ap, pSome_ap, xOf_ap, xPop_ap, iSeq_ap, iRg1_ap, iRg2_ap, iEnum2_ap, iZip_ap, mMk_ap, yes_ap, gSet_ap, gTupD_ap, gsNil_ap, gsCons_ap, pick, asB, asS, asI, asT, slL, slot, dTru, dInt, dSub, dNeg, dLe, dLt, dGt, dGe, dMin2, dAbs, dList_l, dList_t, dTuple_l, dTuple_t, dLen_l, dLen_t, dLen_d, dLen_s, dAdd_i, subsT, subsL, atI_0, atI_1, atI_2, atI_3, isi_str, isi_tup, isi_dic, isi_int, isi_intb, isi_lst2, isi_tup2, dEq_int, dNe_int, if_tt, if_ff, Bool.not_true, Bool.not_false, Option.bind_some, List.map_cons, List.map_nil, List.cons_append, List.nil_append, List.length_cons, List.length_nil, List.getElem?_cons_succ, List.getElem?_cons_zero, List.set_cons_zero, List.set_cons_succ, List.filterMap_cons, List.filterMap_nil, bnd_ret, lft_some, lft_none, pur_ret, bnd_assoc, bnd_stk, List.replicate_succ, List.replicate_zero, Nat.reduceAdd, Nat.reduceSub, Nat.reduceEqDiff, if_true, if_false, eq_self, Int.cast_ofNat_Int, decide_true, decide_false, Int.reduceEq, Int.reduceLE, Int.reduceLT, Int.reduceNeg, Int.reduceAdd, Int.reduceSub, sUnp3_ap, sMt_ap, sMt0_ap, xPop0_ap, mMet_ap, mMetK_ap, isLstD_l, isDicD_d]
    exact sat_ret ⟨f, rfl⟩
  · rintro ⟨fl, ρ⟩ ⟨r, h⟩
    obtain rfl : fl = .rt (.int r) := h
    exact sat_ret ⟨r, rfl⟩
theorem sat_take {n : Int} (h0 : 0 < n) (h1 : n < 1000000) {Q : D → Prop} (hQ : ∀ r : Int, 0 ≤ r → r < n → Q (.int r)) : Sat (runB 3 takeB [.drw, .int n]) Q := by
  rw [runB_eq]
  refine sat_bnd (P := fun z => ∃ r : Int, z.1 = .rt (.int r) ∧ 0 ≤ r ∧ r < n) ?_ ?_
  · unfold takeB
    refine sat_seqB (fun ρ => ρ = [some .drw, some (.int n), none]) ?_ ?_
    · try simp -implicitDefEqProofs only [sSeq_ap, sIf_ap, sSet_ap, sRet_ap, sNx_ap, sRetN_ap, sBk_ap, sCt_ap, sExp_ap, sAsg_ap, sPar_ap, sPar3_ap, sApp_ap, sSetX_ap, sExpX_ap, sIxs_ap, sSt_ap, sFl_ap, sStk_ap, sFor_ap, mLst_ap, mTup_ap, mDnew_ap, mDisp_ap, ppCons_ap, ppNil_ap, o1_ap, o2_ap, vr_ap, cst_ap, mCal_ap, mCalP_ap, mCalKP_ap, aCons_ap, aNil_ap, anV_ap, orV_ap, ntV_ap, tsb_ap, tru_ap, nt_ap, an_ap, orr_ap, ife_ap, chn_ap, joi_ap, slc_ap, pNone_ap, pSome_ap, xOf_ap, xPop_ap, iSeq_ap, iRg1_ap, iRg2_ap, iEnum2_ap, iZip_ap, mMk_ap, yes_ap, gSet_ap, gTupD_ap, gsNil_ap, gsCons_ap, pick, asB, asS, asI, asT, slL, slot, dTru, dInt, dSub, dNeg, dLe, dLt, dGt, dGe, dMin2, dAbs, dList_l, dList_t, dTuple_l, dTuple_t, dLen_l, dLen_t, dLen_d, dLen_s, dAdd_i, subsT, subsL, atI_0, atI_1, atI_2, atI_3, isi_str, isi_tup, isi_dic, isi_int, isi_intb, isi_lst2, isi_tup2, dEq_int, dNe_int, if_tt, if_ff, Bool.not_true, Bool.not_false, Option.bind_some, List.map_cons, List.map_nil, List.cons_append, List.nil_append, List.length_cons, List.length_nil, List.getElem?_cons_succ, List.getElem?_cons_zero, List.set_cons_zero, List.set_cons_succ, List.filterMap_cons, List.filterMap_nil, bnd_ret, lft_some, lft_none, pur_ret, bnd_assoc, bnd_stk, List.replicate_succ, List.replicate_zero, Nat.reduceAdd, Nat.reduceSub, Nat.reduceEqDiff, if_true, if_false, eq_self, Int.cast_ofNat_Int, decide_true, decide_false, Int.reduceEq, Int.reduceLE, Int.reduceLT, Int.reduceNeg, Int.reduceAdd, Int.reduceSub, sUnp3_ap, sMt_ap, sMt0_ap, xPop0_ap, mMet_ap, mMetK_ap, isLstD_l, isDicD_d]
      refine sat_bnd (sat_sget rfl) ?_
      rintro _ ⟨t, rfl⟩
      try simp -implicitDefEqProofs only [sSeq_ap, sIf_ap, sSet_ap, sRet_ap, sNx_ap, sRetN_ap, sBk_ap, sCt_ap, sExp_ap, sAsg_ap, sPar_ap, sPar3_ap, sApp_ap, sSetX_ap, sExpX_ap, sIxs_ap, sSt_ap, sFl_ap, sStk_ap, sFor_ap, mLst_ap, mTup_ap, mDnew_ap, mDisp_ap, ppCons_ap, ppNil_ap, o1_ap, o2_ap, vr_ap, cst_ap, mCal_ap, mCalP_ap, mCalKP_ap, aCons_ap, aNil_ap, anV_ap, orV_ap, ntV_ap, tsb_ap, tru_ap, nt_ap, an_ap, orr_ap, ife_ap, chn_ap, joi_ap, slc_ap, pNone_ap, pSome_ap, xOf_ap, xPop_ap, iSeq_ap, iRg1_ap, iRg2_ap, iEnum2_ap, iZip_ap, mMk_ap, yes_ap, gSet_ap, gTupD_ap, gsNil_ap, gsCons_ap, pick, asB, asS, asI, asT, slL, slot, dTru, dInt, dSub, dNeg, dLe, dLt, dGt, dGe, dMin2, dAbs, dList_l, dList_t, dTuple_l, dTuple_t, dLen_l, dLen_t, dLen_d, dLen_s, dAdd_i, subsT, subsL, atI_0, atI_1, atI_2, atI_3, isi_str, isi_tup, isi_dic, isi_int, isi_intb, isi_lst2, isi_tup2, dEq_int, dNe_int, if_tt, if_ff, Bool.not_true, Bool.not_false, Option.bind_some, List.map_cons, List.map_nil, List.cons_append, List.nil_append, List.length_cons, List.length_nil, List.getElem?_cons_succ, List.getElem?_cons_zero, List.set_cons_zero, List.set_cons_succ, List.filterMap_cons, List.filterMap_nil, bnd_ret, lft_some, lft_none, pur_ret, bnd_assoc, bnd_stk, List.replicate_succ, List.replicate_zero, Nat.reduceAdd, Nat.reduceSub, Nat.reduceEqDiff, if_true, if_false, eq_self, Int.cast_ofNat_Int, decide_true, decide_false, Int.reduceEq, Int.reduceLE, Int.reduceLT, Int.reduceNeg, Int.reduceAdd, Int.reduceSub, sUnp3_ap, sMt_ap, sMt0_ap, xPop0_ap, mMet_ap, mMetK_ap, isLstD_l, isDicD_d]
      by_cases c : t = 0
      · have c' : decide (t = 0) = true := decide_eq_true c
        simp -implicitDefEqProofs only [sSeq_ap, sIf_ap, sSet_ap, sRet_ap, sNx_ap, sRetN_ap, sBk_ap, sCt_ap, sExp_ap, sAsg_ap, sPar_ap, sPar3_ap, sApp_ap, sSetX_ap, sExpX_ap, sIxs_ap, sSt_ap, sFl_ap, sStk_ap, sFor_ap, mLst_ap, mTup_ap, mDnew_ap, mDisp_ap, ppCons_ap, ppNil_ap, o1_ap, o2_ap, vr_ap, cst_ap, mCal_ap, mCalP_ap, mCalKP_ap, aCons_ap, aNil_ap, anV_ap, orV_ap, ntV_ap, tsb_ap, tru_ap, nt_ap, an_ap, orr_ap, ife_ap, chn_ap, joi_ap, slc_ap, pNone_ap, pSome_ap, xOf_ap, xPop_ap, iSeq_ap, iRg1_ap, iRg2_ap, iEnum2_ap, iZip_ap, mMk_ap, yes_ap, gSet_ap, gTupD_ap, gsNil_ap, gsCons_ap, pick, asB, asS, asI, asT, slL, slot, dTru, dInt, dSub, dNeg, dLe, dLt, dGt, dGe, dMin2, dAbs, dList_l, dList_t, dTuple_l, dTuple_t, dLen_l, dLen_t, dLen_d, dLen_s, dAdd_i, subsT, subsL, atI_0, atI_1, atI_2, atI_3, isi_str, isi_tup, isi_dic, isi_int, isi_intb, isi_lst2, isi_tup2, dEq_int, dNe_int, if_tt, if_ff, Bool.not_true, Bool.not_false, Option.bind_some, List.map_cons, List.map_nil, List.cons_append, List.nil_append, List.length_cons, List.length_nil, List.getElem?_cons_succ, List.getElem?_cons_zero, List.set_cons_zero, List.set_cons_succ, List.filterMap_cons, List.filterMap_nil, bnd_ret, lft_some, lft_none, pur_ret, bnd_assoc, bnd_stk, List.replicate_succ, List.replicate_zero, Nat.reduceAdd, Nat.reduceSub, Nat.reduceEqDiff, if_true, if_false, eq_self, Int.cast_ofNat_Int, decide_true, decide_false, Int.reduceEq, Int.reduceLE, Int.reduceLT, Int.reduceNeg, Int.reduceAdd, Int.reduceSub, sUnp3_ap, sMt_ap, sMt0_ap, xPop0_ap, mMet_ap, mMetK_ap, isLstD_l, isDicD_d, c']
        refine sat_sput rfl (sat_has rfl ?_)
        try simp -implicitDefEqProofs only [sSeq_ap, sIf_ap, sSet_ap, sRet_ap, sNx_ap, sRetN_ap, sBk_ap, sCt_ap, sExp_ap, sAsg_ap, sPar_ap, sPar3_ap, sApp_ap, sSetX_ap, sExpX_ap, sIxs_ap, sSt_ap, sFl_ap, sStk_ap, sFor_ap, mLst_ap, mTup_ap, mDnew_ap, mDisp_ap, ppCons_ap, ppNil_ap, o1_ap, o2_ap, vr_ap, cst_ap, mCal_ap, mCalP_ap, mCalKP_ap, aCons_ap, aNil_ap, anV_ap, orV_ap, ntV_ap, tsb_ap, tru_ap, nt_ap, an_ap, orr_ap, ife_ap, chn_ap, joi_ap, slc_ap, pNone_ap, pSome_ap, xOf_ap, xPop_ap, iSeq_ap, iRg1_ap, iRg2_ap, iEnum2_ap, iZip_ap, mMk_ap, yes_ap, gSet_ap, gTupD_ap, gsNil_ap, gsCons_ap, pick, asB, asS, asI, asT, slL, slot, dTru, dInt, dSub, dNeg, dLe, dLt, dGt, dGe, dMin2, dAbs, dList_l, dList_t, dTuple_l, dTuple_t, dLen_l, dLen_t, dLen_d, dLen_s, dAdd_i, subsT, subsL, atI_0, atI_1, atI_2, atI_3, isi_str, isi_tup, isi_dic, isi_int, isi_intb, isi_lst2, isi_tup2, dEq_int, dNe_int, if_tt, if_ff, Bool.not_true, Bool.not_false, Option.bind_some, List.map_cons, List.map_nil, List.cons_append, List.nil_append, List.length_cons, List.length_nil, List.getElem?_cons_succ, List.getElem?_cons_zero, List.set_cons_zero, List.set_cons_succ, List.filterMap_cons, List.filterMap_nil, bnd_ret, lft_some, lft_none, pur_ret, bnd_assoc, bnd_stk, List.replicate_succ, List.replicate_zero, Nat.reduceAdd, Nat.reduceSub, Nat.reduceEqDiff, if_true, if_false, eq_self, Int.cast_ofNat_Int, decide_true, decide_false, Int.reduceEq, Int.reduceLE, Int.reduceLT, Int.reduceNeg, Int.reduceAdd, Int.reduceSub, sUnp3_ap, sMt_ap, sMt0_ap, xPop0_ap, mMet_ap, mMetK_ap, isLstD_l, isDicD_d]
        exact sat_mixed
      · have c' : decide (t = 0) = false := decide_eq_false c
        simp -implicitDefEqProofs only [sSeq_ap, sIf_ap, sSet_ap, sRet_ap, sNx_ap, sRetN_ap, sBk_ap, sCt_ap, sExp_ap, sAsg_ap, sPar_ap, sPar3_ap, sApp_ap, sSetX_ap, sExpX_ap, sIxs_ap, sSt_ap, sFl_ap, sStk_ap, sFor_ap, mLst_ap, mTup_ap, mDnew_ap, mDisp_ap, ppCons_ap, ppNil_ap, o1_ap, o2_ap, vr_ap, cst_ap, mCal_ap, mCalP_ap, mCalKP_ap, aCons_ap, aNil_ap, anV_ap, orV_ap, ntV_ap, tsb_ap, tru_ap, nt_ap, an_ap, orr_ap, ife_ap, chn_ap, joi_ap, slc_ap, pNone_ap, pSome_ap, xOf_ap, xPop_ap, iSeq_ap, iRg1_ap, iRg2_ap, iEnum2_ap, iZip_ap, mMk_ap, yes_ap, gSet_ap, gTupD_ap, gsNil_ap, gsCons_ap, pick, asB, asS, asI, asT, slL, slot, dTru, dInt, dSub, dNeg, dLe, dLt, dGt, dGe, dMin2, dAbs, dList_l, dList_t, dTuple_l, dTuple_t, dLen_l, dLen_t, dLen_d, dLen_s, dAdd_i, subsT, subsL, atI_0, atI_1, atI_2, atI_3, isi_str, isi_tup, isi_dic, isi_int, isi_intb, isi_lst2, isi_tup2, dEq_int, dNe_int, if_tt, if_ff, Bool.not_true, Bool.not_false, Option.bind_some, List.map_cons, List.map_nil, List.cons_append, List.nil_append, List.length_cons, List.length_nil, List.getElem?_cons_succ, List.getElem?_cons_zero, List.set_cons_zero, List.set_cons_succ, List.filterMap_cons, List.filterMap_nil, bnd_ret, lft_some, lft_none, pur_ret, bnd_assoc, bnd_stk, List.replicate_succ, List.replicate_zero, Nat.reduceAdd, Nat.reduceSub, Nat.reduceEqDiff, if_true, if_false, eq_self, Int.cast_ofNat_Int, decide_true, decide_false, Int.reduceEq, Int.reduceLE, Int.reduceLT, Int.reduceNeg, Int.reduceAdd, Int.reduceSub, sUnp3_ap, sMt_ap, sMt0_ap, xPop0_ap, mMet_ap, mMetK_ap, isLstD_l, isDicD_d, c']
        exact sat_ret ⟨rfl, rfl⟩
    rintro _ rfl
    refine sat_seqB (fun ρ => ∃ r : Int, 0 ≤ r ∧ r < n ∧ ρ = [some .drw, some (.int n), some (.int r)]) ?_ ?_
    · try simp -implicitDefEqProofs only [sSeq_ap, sIf_ap, sSet_ap, sRet_ap, sNx_ap, sRetN_ap, sBk_ap, sCt_ap, sExp_ap, sAsg_ap, sPar_ap, sPar3_ap, sApp_ap, sSetX_ap, sExpX_ap, sIxs_ap, sSt_ap, sFl_ap, sStk_ap, sFor_ap, mLst_ap, mTup_ap, mDnew_ap, mDisp_ap, ppCons_ap, ppNil_ap, o1_ap, o2_ap, vr_ap, cst_ap, mCal_ap, mCalP_ap, mCalKP_ap, aCons_ap, aNil_ap, anV_ap, orV_ap, ntV_ap, tsb_ap, tru_ap, nt_ap, an_ap, orr_ap, ife_ap, chn_ap, joi_ap, slc_ap, pNone_ap, pSome_ap, xOf_ap, xPop_ap, iSeq_ap, iRg1_ap, iRg2_ap, iEnum2_ap, iZip_ap, mMk_ap, yes_ap, gSet_ap, gTupD_ap, gsNil_ap, gsCons_ap, pick, asB, asS, asI, asT, slL, slot, dTru, dInt, dSub, dNeg, dLe, dLt, dGt, dGe, dMin2, dAbs, dList_l, dList_t, dTuple_l, dTuple_t, dLen_l, dLen_t, dLen_d, dLen_s, dAdd_i, subsT, subsL, atI_0, atI_1, atI_2, atI_3, isi_str, isi_tup, isi_dic, isi_int, isi_intb, isi_lst2, isi_tup2, dEq_int, dNe_int, if_tt, if_ff, Bool.not_true, Bool.not_false, Option.bind_some, List.map_cons, List.map_nil, List.cons_append, List.nil_append, List.length_cons, List.length_nil, List.getElem?_cons_succ, List.getElem?_cons_zero, List.set_cons_zero, List.set_cons_succ, List.filterMap_cons, List.filterMap_nil, bnd_ret, lft_some, lft_none, pur_ret, bnd_assoc, bnd_stk, List.replicate_succ, List.replicate_zero, Nat.reduceAdd, Nat.reduceSub, Nat.reduceEqDiff, if_true, if_false, eq_self, Int.cast_ofNat_Int, decide_true, decide_false, Int.reduceEq, Int.reduceLE, Int.reduceLT, Int.reduceNeg, Int.reduceAdd, Int.reduceSub, sUnp3_ap, sMt_ap, sMt0_ap, xPop0_ap, mMet_ap, mMetK_ap, isLstD_l, isDicD_d]
      refine sat_bnd (sat_sget rfl) ?_
      rintro _ ⟨t, rfl⟩
      simp -implicitDefEqProofs only [sSeq_ap, sIf_ap, sSet_ap, sRet_ap, sNx_ap, sRetN_ap, sBk_ap, sCt_ap, sExp_ap, sAsg_ap, sPar_ap, sPar3_ap, sApp_ap, sSetX_ap, sExpX_ap, sIxs_ap, sSt_ap, sFl_ap, sStk_ap, sFor_ap, mLst_ap, mTup_ap, mDnew_ap, mDisp_ap, ppCons_ap, ppNil_ap, o1_ap, o2_ap, vr_ap, cst_ap, mCal_ap, mCalP_ap, mCalKP_ap, aCons_ap, aNil_ap, anV_ap, orV_ap, ntV_ap, tsb_ap, tru_ap, nt_ap, an_ap, orr_ap, ife_ap, chn_ap, joi_ap, slc_ap, pNone_ap, pSome_ap, xOf_ap, xPop_ap, iSeq_ap, iRg1_ap, iRg2_ap, iEnum2_ap, iZip_ap, mMk_ap, yes_ap, gSet_ap, gTupD_ap, gsNil_ap, gsCons_ap, pick, asB, asS, asI, asT, slL, slot, dTru, dInt, dSub, dNeg, dLe, dLt, dGt, dGe, dMin2, dAbs, dList_l, dList_t, dTuple_l, dTuple_t, dLen_l, dLen_t, dLen_d, dLen_s, dAdd_i, subsT, subsL, atI_0, atI_1, atI_2, atI_3, isi_str, isi_tup, isi_dic, isi_int, isi_intb, isi_lst2, isi_tup2, dEq_int, dNe_int, if_tt, if_ff, Bool.not_true, Bool.not_false, Option.bind_some, List.map_cons, List.map_nil, List.cons_append, List.nil_append, List.length_cons, List.length_nil, List.getElem?_cons_succ, List.getElem?_cons_zero, List.set_cons_zero, List.set_cons_succ, List.filterMap_cons, List.filterMap_nil, bnd_ret, lft_some, lft_none, pur_ret, bnd_assoc, bnd_stk, List.replicate_succ, List.replicate_zero, Nat.reduceAdd, Nat.reduceSub, Nat.reduceEqDiff, if_true, if_false, eq_self, Int.cast_ofNat_Int, decide_true, decide_false, Int.reduceEq, Int.reduceLE, Int.reduceLT, Int.reduceNeg, Int.reduceAdd, Int.reduceSub, sUnp3_ap, sMt_ap, sMt0_ap, xPop0_ap, mMet_ap, mMetK_ap, isLstD_l, isDicD_d, dMod_pos h0]
      exact sat_ret ⟨rfl, _, Int.emod_nonneg _ (by omega), Int.emod_lt_of_pos _ h0, rfl⟩
    rintro _ ⟨r, r0, r1, rfl⟩
    refine sat_seqB (fun ρ => ρ = [some .drw, some (.int n), some (.int r)]) (sat_sput rfl ?_) ?_
    · try simp -implicitDefEqProofs only [sSeq_ap, sIf_ap, sSet_ap, sRet_ap, sNx_ap, sRetN_ap, sBk_ap, sCt_ap, sExp_ap, sAsg_ap, sPar_ap, sPar3_ap, sApp_ap, sSetX_ap, sExpX_ap, sIxs_ap, sSt_ap, sFl_ap, sStk_ap, sFor_ap, mLst_ap, mTup_ap, mDnew_ap, mDisp_ap, ppCons_ap, ppNil_ap, o1_ap, o2_ap, vr_ap, cst_ap, mCal_ap, mCalP_ap, mCalKP_ap, aCons_ap, aNil_ap, anV_ap, orV_ap, ntV_ap, tsb_ap, tru_ap, nt_ap, an_ap, orr_ap, ife_ap, chn_ap, joi_ap, slc_ap, pNone_ap, pSome_ap, xOf_ap, xPop_ap, iSeq_ap, iRg1_ap, iRg2_ap, iEnum2_ap, iZip_ap, mMk_ap, yes_ap, gSet_ap, gTupD_ap, gsNil_ap, gsCons_ap, pick, asB, asS, asI, asT, slL, slot, dTru, dInt, dSub, dNeg, dLe, dLt, dGt, dGe, dMin2, dAbs, dList_l, dList_t, dTuple_l, dTuple_t, dLen_l, dLen_t, dLen_d, dLen_s, dAdd_i, subsT, subsL, atI_0, atI_1, atI_2, atI_3, isi_str, isi_tup, isi_dic, isi_int, isi_intb, isi_lst2, isi_tup2, dEq_int, dNe_int, if_tt, if_ff, Bool.not_true, Bool.not_false, Option.bind_some, List.map_cons, List.map_nil, List.cons_append, List.nil_append, List.length_cons, List.length_nil, List.getElem?_cons_succ, List.getElem?_cons_zero, List.set_cons_zero, List.set_cons_succ, List.filterMap_cons, List.filterMap_nil, bnd_ret, lft_some, lft_none, pur_ret, bnd_assoc, bnd_stk, List.replicate_succ, List.replicate_zero, Nat.reduceAdd, Nat.reduceSub, Nat.reduceEqDiff, if_true, if_false, eq_self, Int.cast_ofNat_Int, decide_true, decide_false, Int.reduceEq, Int.reduceLE, Int.reduceLT, Int.reduceNeg, Int.reduceAdd, Int.reduceSub, sUnp3_ap, sMt_ap, sMt0_ap, xPop0_ap, mMet_ap, mMetK_ap, isLstD_l, isDicD_d]
      refine sat_bnd (sat_sget rfl) ?_
      rintro _ ⟨t, rfl⟩
      simp -implicitDefEqProofs only [sSeq_ap, sIf_ap, sSet_ap, sRet_ap, sNx_ap, sRetN_ap, sBk_ap, sCt_ap, sExp_ap, sAsg_ap, sPar_ap, sPar3_ap, sApp_ap, sSetX_ap, sExpX_ap, sIxs_ap, sSt_ap, sFl_ap, sStk_ap, sFor_ap, mLst_ap, mTup_ap, mDnew_ap, mDisp_ap, ppCons_ap, ppNil_ap, o1_ap, o2_ap, vr_ap, cst_ap, mCal_ap, mCalP_ap, mCalKP_ap, aCons_ap, aNil_ap, anV_ap, orV_ap, ntV_ap, tsb_ap, tru_ap, nt_ap, an_ap, orr_ap, ife_ap, chn_ap, joi_ap, slc_ap, pNone_ap, pSome_ap, xOf_ap, xPop_ap, iSeq_ap, iRg1_ap, iRg2_ap, iEnum2_ap, iZip_ap, mMk_ap, yes_ap, gSet_ap, gTupD_ap, gsNil_ap, gsCons_ap, pick, asB, asS, asI, asT, slL, slot, dTru, dInt, dSub, dNeg, dLe, dLt, dGt, dGe, dMin2, dAbs, dList_l, dList_t, dTuple_l, dTuple_t, dLen_l, dLen_t, dLen_d, dLen_s, dAdd_i, subsT, subsL, atI_0, atI_1, atI_2, atI_3, isi_str, isi_tup, isi_dic, isi_int, isi_intb, isi_lst2, isi_tup2, dEq_int, dNe_int, if_tt, if_ff, Bool.not_true, Bool.not_false, Option.bind_some, List.map_cons, List.map_nil, List.cons_append, List.nil_append, List.length_cons, List.length_nil, List.getElem?_cons_succ, List.getElem?_cons_zero, List.set_cons_zero, List.set_cons_succ, List.filterMap_cons, List.filterMap_nil, bnd_ret, lft_some, lft_none, pur_ret, bnd_assoc, bnd_stk, List.replicate_succ, List.replicate_zero, Nat.reduceAdd, Nat.reduceSub, Nat.reduceEqDiff, if_true, if_false, eq_self, Int.cast_ofNat_Int, decide_true, decide_false, Int.reduceEq, Int.reduceLE, Int.reduceLT, Int.reduceNeg, Int.reduceAdd, Int.reduceSub, sUnp3_ap, sMt_ap, sMt0_ap, xPop0_ap, mMet_ap, mMetK_ap, isLstD_l, isDicD_d, div_s (show 0 < n ∧ n < 1073741824 by omega)]
      exact sat_ret ⟨_, rfl⟩
    rintro _ rfl
    try simp -implicitDefEqProofs only [sSeq_ap, sIf_ap, sSet_ap, sRet_ap, sNx_ap, sRetN_ap, sBk_ap, sCt_ap, sExp_ap, sAsg_ap, sPar_ap, sPar3_ap, sApp_ap, sSetX_ap, sExpX_ap, sIxs_ap, sSt_ap, sFl_ap, sStk_ap, sFor_ap, mLst_ap, mTup_ap, mDnew_ap, mDisp_ap, ppCons_ap, ppNil_ap, o1_ap, o2_ap, vr_ap, cst_ap, mCal_ap, mCalP_ap, mCalKP_ap, aCons_ap, aNil_ap, anV_ap, orV_ap, ntV_ap, tsb_ap, tru_ap, nt_ap, an_ap, orr_ap, ife_ap, chn_ap, joi_ap, slc_ap, pNone_ap, pSome_ap, xOf_ap, xPop_ap, iSeq_ap, iRg1_ap, iRg2_ap, iEnum2_ap, iZip_ap, mMk_ap, yes_ap, gSet_ap, gTupD_ap, gsNil_ap, gsCons_ap, pick, asB, asS, asI, asT, slL, slot, dTru, dInt, dSub, dNeg, dLe, dLt, dGt, dGe, dMin2, dAbs, dList_l, dList_t, dTuple_l, dTuple_t, dLen_l, dLen_t, dLen_d, dLen_s, dAdd_i, subsT, subsL, atI_0, atI_1, atI_2, atI_3, isi_str, isi_tup, isi_dic, isi_int, isi_intb, isi_lst2, isi_tup2, dEq_int, dNe_int, if_tt, if_ff, Bool.not_true, Bool.not_false, Option.bind_some, List.map_cons, List.map_nil, List.cons_append, List.nil_append, List.length_cons, List.length_nil, List.getElem?_cons_succ, List.getElem?_cons_zero, List.set_cons_zero, List.set_cons_succ, List.filterMap_cons, List.filterMap_nil, bnd_ret, lft_some, lft_none, pur_ret, bnd_assoc, bnd_stk, List.replicate_succ, List.replicate_zero, Nat.reduceAdd, Nat.reduceSub, Nat.reduceEqDiff, if_true, if_false, eq_self, Int.cast_ofNat_Int, decide_true, decide_false, Int.reduceEq, Int.reduceLE, Int.reduceLT, Int.reduceNeg, Int.reduceAdd, Int.reduceSub, sUnp3_ap, sMt_ap, sMt0_ap, xPop0_ap, mMet_ap, mMetK_ap, isLstD_l, isDicD_d]
    exact sat_ret ⟨r, rfl, r0, r1⟩
  · rintro ⟨fl, ρ⟩ ⟨r, h, r0, r1⟩
    obtain rfl : fl = .rt (.int r) := h
    exact sat_ret (hQ r r0 r1)
/-! ### picks -/
def pkT : Env → M BgS (Fl × Env) := sRet (o2 dSubs (vr 1) (mCal (aCons (vr 0) (aCons (o1 dLen (vr 1)) (aNil))) (runB 3 takeB)))
theorem pickT_lst {xs : List D} (h0 : 0 < xs.length) (h1 : xs.length < 1000000) : Sat (runB 2 pkT [.drw, .lst xs]) fun d => d ∈ xs := by
  rw [runB_eq]
  simp -implicitDefEqProofs only [sSeq_ap, sIf_ap, sSet_ap, sRet_ap, sNx_ap, sRetN_ap, sBk_ap, sCt_ap, sExp_ap, sAsg_ap, sPar_ap, sPar3_ap, sApp_ap, sSetX_ap, sExpX_ap, sIxs_ap, sSt_ap, sFl_ap, sStk_ap, sFor_ap, mLst_ap, mTup_ap, mDnew_ap, mDisp_ap, ppCons_ap, ppNil_ap, o1_ap, o2_ap, vr_ap, cst_ap, mCal_ap, mCalP_ap, mCalKP_ap, aCons_ap, aNil_ap, anV_ap, orV_ap, ntV_ap, tsb_ap, tru_ap, nt_ap, an_ap, orr_ap, ife_ap, chn_ap, joi_ap, slc_ap, pNone_ap, pSome_ap, xOf_ap, xPop_ap, iSeq_ap, iRg1_ap, iRg2_ap, iEnum2_ap, iZip_ap, mMk_ap, yes_ap, gSet_ap, gTupD_ap, gsNil_ap, gsCons_ap, pick, asB, asS, asI, asT, slL, slot, dTru, dInt, dSub, dNeg, dLe, dLt, dGt, dGe, dMin2, dAbs, dList_l, dList_t, dTuple_l, dTuple_t, dLen_l, dLen_t, dLen_d, dLen_s, dAdd_i, subsT, subsL, atI_0, atI_1, atI_2, atI_3, isi_str, isi_tup, isi_dic, isi_int, isi_intb, isi_lst2, isi_tup2, dEq_int, dNe_int, if_tt, if_ff, Bool.not_true, Bool.not_false, Option.bind_some, List.map_cons, List.map_nil, List.cons_append, List.nil_append, List.length_cons, List.length_nil, List.getElem?_cons_succ, List.getElem?_cons_zero, List.set_cons_zero, List.set_cons_succ, List.filterMap_cons, List.filterMap_nil, bnd_ret, lft_some, lft_none, pur_ret, bnd_assoc, bnd_stk, List.replicate_succ, List.replicate_zero, Nat.reduceAdd, Nat.reduceSub, Nat.reduceEqDiff, if_true, if_false, eq_self, Int.cast_ofNat_Int, decide_true, decide_false, Int.reduceEq, Int.reduceLE, Int.reduceLT, Int.reduceNeg, Int.reduceAdd, Int.reduceSub, sUnp3_ap, sMt_ap, sMt0_ap, xPop0_ap, mMet_ap, mMetK_ap, isLstD_l, isDicD_d, pkT]
  refine sat_bnd (sat_take (n := xs.length) (by omega) (by omega) (Q := fun y => ∃ r : Int, y = .int r ∧ 0 ≤ r ∧ r < xs.length) fun r a b => ⟨r, rfl, a, b⟩) ?_
  rintro _ ⟨r, rfl, r0, r1⟩
  obtain ⟨d, e, hd⟩ := atI_get r0 r1
  simp -implicitDefEqProofs only [sSeq_ap, sIf_ap, sSet_ap, sRet_ap, sNx_ap, sRetN_ap, sBk_ap, sCt_ap, sExp_ap, sAsg_ap, sPar_ap, sPar3_ap, sApp_ap, sSetX_ap, sExpX_ap, sIxs_ap, sSt_ap, sFl_ap, sStk_ap, sFor_ap, mLst_ap, mTup_ap, mDnew_ap, mDisp_ap, ppCons_ap, ppNil_ap, o1_ap, o2_ap, vr_ap, cst_ap, mCal_ap, mCalP_ap, mCalKP_ap, aCons_ap, aNil_ap, anV_ap, orV_ap, ntV_ap, tsb_ap, tru_ap, nt_ap, an_ap, orr_ap, ife_ap, chn_ap, joi_ap, slc_ap, pNone_ap, pSome_ap, xOf_ap, xPop_ap, iSeq_ap, iRg1_ap, iRg2_ap, iEnum2_ap, iZip_ap, mMk_ap, yes_ap, gSet_ap, gTupD_ap, gsNil_ap, gsCons_ap, pick, asB, asS, asI, asT, slL, slot, dTru, dInt, dSub, dNeg, dLe, dLt, dGt, dGe, dMin2, dAbs, dList_l, dList_t, dTuple_l, dTuple_t, dLen_l, dLen_t, dLen_d, dLen_s, dAdd_i, subsT, subsL, atI_0, atI_1, atI_2, atI_3, isi_str, isi_tup, isi_dic, isi_int, isi_intb, isi_lst2, isi_tup2, dEq_int, dNe_int, if_tt, if_ff, Bool.not_true, Bool.not_false, Option.bind_some, List.map_cons, List.map_nil, List.cons_append, List.nil_append, List.length_cons, List.length_nil, List.getElem?_cons_succ, List.getElem?_cons_zero, List.set_cons_zero, List.set_cons_succ, List.filterMap_cons, List.filterMap_nil, bnd_ret, lft_some, lft_none, pur_ret, bnd_assoc, bnd_stk, List.replicate_succ, List.replicate_zero, Nat.reduceAdd, Nat.reduceSub, Nat.reduceEqDiff, if_true, if_false, eq_self, Int.cast_ofNat_Int, decide_true, decide_false, Int.reduceEq, Int.reduceLE, Int.reduceLT, Int.reduceNeg, Int.reduceAdd, Int.reduceSub, sUnp3_ap, sMt_ap, sMt0_ap, xPop0_ap, mMet_ap, mMetK_ap, isLstD_l, isDicD_d, e]
  exact sat_ret hd
theorem pickT_tup {xs : List D} (h0 : 0 < xs.length) (h1 : xs.length < 1000000) : Sat (runB 2 pkT [.drw, .tup xs]) fun d => d ∈ xs := by
  rw [runB_eq]
  simp -implicitDefEqProofs only [sSeq_ap, sIf_ap, sSet_ap, sRet_ap, sNx_ap, sRetN_ap, sBk_ap, sCt_ap, sExp_ap, sAsg_ap, sPar_ap, sPar3_ap, sApp_ap, sSetX_ap, sExpX_ap, sIxs_ap, sSt_ap, sFl_ap, sStk_ap, sFor_ap, mLst_ap, mTup_ap, mDnew_ap, mDisp_ap, ppCons_ap, ppNil_ap, o1_ap, o2_ap, vr_ap, cst_ap, mCal_ap, mCalP_ap, mCalKP_ap, aCons_ap, aNil_ap, anV_ap, orV_ap, ntV_ap, tsb_ap, tru_ap, nt_ap, an_ap, orr_ap, ife_ap, chn_ap, joi_ap, slc_ap, pNone_ap, pSome_ap, xOf_ap, xPop_ap, iSeq_ap, iRg1_ap, iRg2_ap, iEnum2_ap, iZip_ap, mMk_ap, yes_ap, gSet_ap, gTupD_ap, gsNil_ap, gsCons_ap, pick, asB, asS, asI, asT, slL, slot, dTru, dInt, dSub, dNeg, dLe, dLt, dGt, dGe, dMin2, dAbs, dList_l, dList_t, dTuple_l, dTuple_t, dLen_l, dLen_t, dLen_d, dLen_s, dAdd_i, subsT, subsL, atI_0, atI_1, atI_2, atI_3, isi_str, isi_tup, isi_dic, isi_int, isi_intb, isi_lst2, isi_tup2, dEq_int, dNe_int, if_tt, if_ff, Bool.not_true, Bool.not_false, Option.bind_some, List.map_cons, List.map_nil, List.cons_append, List.nil_append, List.length_cons, List.length_nil, List.getElem?_cons_succ, List.getElem?_cons_zero, List.set_cons_zero, List.set_cons_succ, List.filterMap_cons, List.filterMap_nil, bnd_ret, lft_some, lft_none, pur_ret, bnd_assoc, bnd_stk, List.replicate_succ, List.replicate_zero, Nat.reduceAdd, Nat.reduceSub, Nat.reduceEqDiff, if_true, if_false, eq_self, Int.cast_ofNat_Int, decide_true, decide_false, Int.reduceEq, Int.reduceLE, Int.reduceLT, Int.reduceNeg, Int.reduceAdd, Int.reduceSub, sUnp3_ap, sMt_ap, sMt0_ap, xPop0_ap, mMet_ap, mMetK_ap, isLstD_l, isDicD_d, pkT]
  refine sat_bnd (sat_take (n := xs.length) (by omega) (by omega) (Q := fun y => ∃ r : Int, y = .int r ∧ 0 ≤ r ∧ r < xs.length) fun r a b => ⟨r, rfl, a, b⟩) ?_
  rintro _ ⟨r, rfl, r0, r1⟩
  obtain ⟨d, e, hd⟩ := atI_get r0 r1
  simp -implicitDefEqProofs only [sSeq_ap, sIf_ap, sSet_ap, sRet_ap, sNx_ap, sRetN_ap, sBk_ap, sCt_ap, sExp_ap, sAsg_ap, sPar_ap, sPar3_ap, sApp_ap, sSetX_ap, sExpX_ap, sIxs_ap, sSt_ap, sFl_ap, sStk_ap, sFor_ap, mLst_ap, mTup_ap, mDnew_ap, mDisp_ap, ppCons_ap, ppNil_ap, o1_ap, o2_ap, vr_ap, cst_ap, mCal_ap, mCalP_ap, mCalKP_ap, aCons_ap, aNil_ap, anV_ap, orV_ap, ntV_ap, tsb_ap, tru_ap, nt_ap, an_ap, orr_ap, ife_ap, chn_ap, joi_ap, slc_ap, pNone_ap, pSome_ap, xOf_ap, xPop_ap, iSeq_ap, iRg1_ap, iRg2_ap, iEnum2_ap, iZip_ap, mMk_ap, yes_ap, gSet_ap, gTupD_ap, gsNil_ap, gsCons_ap, pick, asB, asS, asI, asT, slL, slot, dTru, dInt, dSub, dNeg, dLe, dLt, dGt, dGe, dMin2, dAbs, dList_l, dList_t, dTuple_l, dTuple_t, dLen_l, dLen_t, dLen_d, dLen_s, dAdd_i, subsT, subsL, atI_0, atI_1, atI_2, atI_3, isi_str, isi_tup, isi_dic, isi_int, isi_intb, isi_lst2, isi_tup2, dEq_int, dNe_int, if_tt, if_ff, Bool.not_true, Bool.not_false, Option.bind_some, List.map_cons, List.map_nil, List.cons_append, List.nil_append, List.length_cons, List.length_nil, List.getElem?_cons_succ, List.getElem?_cons_zero, List.set_cons_zero, List.set_cons_succ, List.filterMap_cons, List.filterMap_nil, bnd_ret, lft_some, lft_none, pur_ret, bnd_assoc, bnd_stk, List.replicate_succ, List.replicate_zero, Nat.reduceAdd, Nat.reduceSub, Nat.reduceEqDiff, if_true, if_false, eq_self, Int.cast_ofNat_Int, decide_true, decide_false, Int.reduceEq, Int.reduceLE, Int.reduceLT, Int.reduceNeg, Int.reduceAdd, Int.reduceSub, sUnp3_ap, sMt_ap, sMt0_ap, xPop0_ap, mMet_ap, mMetK_ap, isLstD_l, isDicD_d, e]
  exact sat_ret hd
theorem pickT_str {x : Str} (h0 : 0 < x.length) (h1 : x.length < 1000000) : Sat (runB 2 pkT [.drw, .str x]) fun d => ∃ c ∈ x.cps.toList, d = .str ⟨#[c]⟩ := by
  have hz : x.length ≤ sizeLine := Nat.le_trans (Nat.le_of_lt h1) (by decide)
  have hx : x.length = x.cps.toList.length := by rw [Array.length_toList]; rfl
  have el : dLen (.str x) = some (.int x.length) := by
    show (if x.length ≤ sizeLine then _ else _) = _
    rw [if_pos hz]
  rw [runB_eq]
  simp -implicitDefEqProofs only [sSeq_ap, sIf_ap, sSet_ap, sRet_ap, sNx_ap, sRetN_ap, sBk_ap, sCt_ap, sExp_ap, sAsg_ap, sPar_ap, sPar3_ap, sApp_ap, sSetX_ap, sExpX_ap, sIxs_ap, sSt_ap, sFl_ap, sStk_ap, sFor_ap, mLst_ap, mTup_ap, mDnew_ap, mDisp_ap, ppCons_ap, ppNil_ap, o1_ap, o2_ap, vr_ap, cst_ap, mCal_ap, mCalP_ap, mCalKP_ap, aCons_ap, aNil_ap, anV_ap, orV_ap, ntV_ap, tsb_ap, tru_ap, nt_ap, an_ap, orr_ap, ife_ap, chn_ap, joi_ap, slc_ap, pNone_ap, pSome_ap, xOf_ap, xPop_ap, iSeq_ap, iRg1_ap, iRg2_ap, iEnum2_ap, iZip_ap, mMk_ap, yes_ap, gSet_ap, gTupD_ap, gsNil_ap, gsCons_ap, pick, asB, asS, asI, asT, slL, slot, dTru, dInt, dSub, dNeg, dLe, dLt, dGt, dGe, dMin2, dAbs, dList_l, dList_t, dTuple_l, dTuple_t, dLen_l, dLen_t, dLen_d, dLen_s, dAdd_i, subsT, subsL, atI_0, atI_1, atI_2, atI_3, isi_str, isi_tup, isi_dic, isi_int, isi_intb, isi_lst2, isi_tup2, dEq_int, dNe_int, if_tt, if_ff, Bool.not_true, Bool.not_false, Option.bind_some, List.map_cons, List.map_nil, List.cons_append, List.nil_append, List.length_cons, List.length_nil, List.getElem?_cons_succ, List.getElem?_cons_zero, List.set_cons_zero, List.set_cons_succ, List.filterMap_cons, List.filterMap_nil, bnd_ret, lft_some, lft_none, pur_ret, bnd_assoc, bnd_stk, List.replicate_succ, List.replicate_zero, Nat.reduceAdd, Nat.reduceSub, Nat.reduceEqDiff, if_true, if_false, eq_self, Int.cast_ofNat_Int, decide_true, decide_false, Int.reduceEq, Int.reduceLE, Int.reduceLT, Int.reduceNeg, Int.reduceAdd, Int.reduceSub, sUnp3_ap, sMt_ap, sMt0_ap, xPop0_ap, mMet_ap, mMetK_ap, isLstD_l, isDicD_d, pkT, el]
  refine sat_bnd (sat_take (n := x.length) (by omega) (by omega) (Q := fun y => ∃ r : Int, y = .int r ∧ 0 ≤ r ∧ r < x.length) fun r a b => ⟨r, rfl, a, b⟩) ?_
  rintro _ ⟨r, rfl, r0, r1⟩
  obtain ⟨c, e, hc⟩ := atI_get (xs := x.cps.toList) r0 (by rw [← hx]; exact r1)
  have e2 : dSubs (.str x) (.int r) = some (.str ⟨#[c]⟩) := by
    show (if x.length ≤ sizeLine then _ else _) = _
    rw [if_pos hz, e]
    rfl
  simp -implicitDefEqProofs only [sSeq_ap, sIf_ap, sSet_ap, sRet_ap, sNx_ap, sRetN_ap, sBk_ap, sCt_ap, sExp_ap, sAsg_ap, sPar_ap, sPar3_ap, sApp_ap, sSetX_ap, sExpX_ap, sIxs_ap, sSt_ap, sFl_ap, sStk_ap, sFor_ap, mLst_ap, mTup_ap, mDnew_ap, mDisp_ap, ppCons_ap, ppNil_ap, o1_ap, o2_ap, vr_ap, cst_ap, mCal_ap, mCalP_ap, mCalKP_ap, aCons_ap, aNil_ap, anV_ap, orV_ap, ntV_ap, tsb_ap, tru_ap, nt_ap, an_ap, orr_ap, ife_ap, chn_ap, joi_ap, slc_ap, pNone_ap, pSome_ap, xOf_ap, xPop_ap, iSeq_ap, iRg1_ap, iRg2_ap, iEnum2_ap, iZip_ap, mMk_ap, yes_ap, gSet_ap, gTupD_ap, gsNil_ap, gsCons_ap, pick, asB, asS, asI, asT, slL, slot, dTru, dInt, dSub, dNeg, dLe, dLt, dGt, dGe, dMin2, dAbs, dList_l, dList_t, dTuple_l, dTuple_t, dLen_l, dLen_t, dLen_d, dLen_s, dAdd_i, subsT, subsL, atI_0, atI_1, atI_2, atI_3, isi_str, isi_tup, isi_dic, isi_int, isi_intb, isi_lst2, isi_tup2, dEq_int, dNe_int, if_tt, if_ff, Bool.not_true, Bool.not_false, Option.bind_some, List.map_cons, List.map_nil, List.cons_append, List.nil_append, List.length_cons, List.length_nil, List.getElem?_cons_succ, List.getElem?_cons_zero, List.set_cons_zero, List.set_cons_succ, List.filterMap_cons, List.filterMap_nil, bnd_ret, lft_some, lft_none, pur_ret, bnd_assoc, bnd_stk, List.replicate_succ, List.replicate_zero, Nat.reduceAdd, Nat.reduceSub, Nat.reduceEqDiff, if_true, if_false, eq_self, Int.cast_ofNat_Int, decide_true, decide_false, Int.reduceEq, Int.reduceLE, Int.reduceLT, Int.reduceNeg, Int.reduceAdd, Int.reduceSub, sUnp3_ap, sMt_ap, sMt0_ap, xPop0_ap, mMet_ap, mMetK_ap, isLstD_l, isDicD_d, e2]
  exact sat_ret ⟨c, hc, rfl⟩
end DL

namespace DL
open PySem L2 PySem.Spec PyProof.Rows
/-! ### steps and walks -/
inductive Wy where
  | on | back | image | far
deriving DecidableEq
def Wy.s : Wy → Str
  | .on => "on"
  | .back => "back"
  | .image => "image"
  | .far => "far"
/-- where a step begins and ends, and its span, written as a demand -/
def Wy.st : Wy → Dm → Dm
  | .on, m => m
  | .back, m => ⟨m.b, m.a, -m.hi, -m.lo⟩
  | .image, m => ⟨m.b.img, m.a.img, m.lo, m.hi⟩
  | .far, m => ⟨m.a.img, m.b.img, -m.hi, -m.lo⟩
def Wy.con : Wy → Wy
  | .on => .back
  | .back => .on
  | .image => .far
  | .far => .image
theorem Wy.con_st (w : Wy) (m : Dm) : w.con.st m = ⟨(w.st m).b, (w.st m).a, -(w.st m).hi, -(w.st m).lo⟩ := by
  cases w <;> simp [Wy.con, Wy.st]
theorem Wy.st_ok {xs : List Str} {P : Int} {m : Dm} (w : Wy) (h : DmOk P xs m) : SgOk xs (w.st m).a ∧ SgOk xs (w.st m).b := by
  obtain ⟨h1, h2, _⟩ := h
  cases w
  · exact ⟨h1, h2⟩
  · exact ⟨h2, h1⟩
  · exact ⟨h2.img, h1.img⟩
  · exact ⟨h1.img, h2.img⟩
theorem Wy.str_ok (w : Wy) : PyData.strOk w.s = true := by cases w <;> decide +kernel
def stepD (p : Nat × Wy) : D := .tup [.int (p.1 : Nat), .str p.2.s]
def walkD (W : List (Nat × Wy)) : D := .tup (W.map stepD)
theorem step_plain {n : Nat} (p : Nat × Wy) : PlainN (n + 1) (stepD p) := plain_tup fun d hd => by
  simp only [List.mem_cons, List.not_mem_nil, or_false] at hd
  rcases hd with rfl | rfl
  · exact plain_int _
  · exact plain_str p.2.str_ok
theorem walk_plain {n : Nat} (W : List (Nat × Wy)) : PlainN (n + 2) (walkD W) := plain_tup fun d hd => by
  obtain ⟨p, _, rfl⟩ := List.mem_map.mp hd
  exact step_plain p
/-- a walk's steps, written as demands -/
def stOf (ms : List Dm) (p : Nat × Wy) : Dm := p.2.st (ms.getD p.1 ⟨org, org, 0, 0⟩)
def Chain (ms : List Dm) : List (Nat × Wy) → Prop
  | [] => True
  | [_] => True
  | p :: q :: r => (stOf ms p).b = (stOf ms q).a ∧ Chain ms (q :: r)
structure WalkOk (ms : List Dm) (W : List (Nat × Wy)) : Prop where
  ne : W ≠ []
  ix : ∀ p ∈ W, p.1 < ms.length
  ch : Chain ms W
theorem stOf_at {ms : List Dm} {i : Nat} {m : Dm} {w : Wy} (h : ms[i]? = some m) : stOf ms (i, w) = w.st m := by
  unfold stOf
  rw [List.getD_eq_getElem?_getD, h]
  rfl
theorem Chain.at {ms : List Dm} : ∀ {W : List (Nat × Wy)} {j : Nat} {p q : Nat × Wy}, Chain ms W → W[j]? = some p → W[j + 1]? = some q → (stOf ms p).b = (stOf ms q).a
  | [], j, p, q, _, h, _ => by simp at h
  | [x], j, p, q, _, _, h => by simp at h
  | x :: y :: r, 0, p, q, h, h1, h2 => by simp at h1 h2; subst h1; subst h2; exact h.1
  | x :: y :: r, j + 1, p, q, h, h1, h2 => Chain.at (W := y :: r) h.2 (by simpa using h1) (by simpa using h2)
def sumLo (ms : List Dm) (W : List (Nat × Wy)) : Int := (W.map fun p => (stOf ms p).lo).sum
def sumHi (ms : List Dm) (W : List (Nat × Wy)) : Int := (W.map fun p => (stOf ms p).hi).sum
def spanD (ms : List Dm) (W : List (Nat × Wy)) (h : W ≠ []) : D := .tup [(stOf ms (W.head h)).a.d, (stOf ms (W.getLast h)).b.d, .int (sumLo ms W), .int (sumHi ms W)]
theorem asInts_map : ∀ is : List Int, asInts (is.map .int) = some is
  | [] => rfl
  | i :: is => by
    show (asInts (is.map .int)).map (i :: ·) = _
    rw [asInts_map is]
    rfl
theorem sum_ints (is : List Int) : dSum (.lst (is.map .int)) = some (.int is.sum) := by
  show (asInts (is.map .int)).map _ = _
  rw [asInts_map]
  rfl
end DL

namespace Law
open PySem L2 DL
def top (i : Nat) : Stmt := PySem.Challenge.pw_evenback_k12_steps_and_their_contraries.main.body.getD i (.Pass ⟨0, 0, 0, 0⟩)
-- printed by gen.py
abbrev s_is_name : Stmt := top 14
abbrev N_is_name : List Str := ["thing", "sign"]
theorem sc_is_name : FnScope N_is_name ["thing"] (defScope s_is_name) := ⟨rfl, rfl, rfl, by decide +kernel, rfl, by decide +kernel, by decide +kernel⟩
abbrev s_is_integer : Stmt := top 15
abbrev N_is_integer : List Str := ["thing"]
theorem sc_is_integer : FnScope N_is_integer ["thing"] (defScope s_is_integer) := ⟨rfl, rfl, rfl, by decide +kernel, rfl, by decide +kernel, by decide +kernel⟩
abbrev s_is_between : Stmt := top 16
abbrev N_is_between : List Str := ["thing", "low", "high"]
theorem sc_is_between : FnScope N_is_between ["thing", "low", "high"] (defScope s_is_between) := ⟨rfl, rfl, rfl, by decide +kernel, rfl, by decide +kernel, by decide +kernel⟩
abbrev s_is_period : Stmt := top 17
abbrev N_is_period : List Str := ["thing"]
theorem sc_is_period : FnScope N_is_period ["thing"] (defScope s_is_period) := ⟨rfl, rfl, rfl, by decide +kernel, rfl, by decide +kernel, by decide +kernel⟩
abbrev s_are_names : Stmt := top 18
abbrev N_are_names : List Str := ["thing", "most", "one"]
theorem sc_are_names : FnScope N_are_names ["thing", "most"] (defScope s_are_names) := ⟨rfl, rfl, rfl, by decide +kernel, rfl, by decide +kernel, by decide +kernel⟩
abbrev s_is_signed : Stmt := top 19
abbrev N_is_signed : List Str := ["thing", "lines"]
theorem sc_is_signed : FnScope N_is_signed ["thing", "lines"] (defScope s_is_signed) := ⟨rfl, rfl, rfl, by decide +kernel, rfl, by decide +kernel, by decide +kernel⟩
abbrev s_is_demand : Stmt := top 20
abbrev N_is_demand : List Str := ["period", "lines", "thing"]
theorem sc_is_demand : FnScope N_is_demand ["period", "lines", "thing"] (defScope s_is_demand) := ⟨rfl, rfl, rfl, by decide +kernel, rfl, by decide +kernel, by decide +kernel⟩
abbrev s_image_of : Stmt := top 21
abbrev N_image_of : List Str := ["signed"]
theorem sc_image_of : FnScope N_image_of ["signed"] (defScope s_image_of) := ⟨rfl, rfl, rfl, by decide +kernel, rfl, by decide +kernel, by decide +kernel⟩
abbrev s_Problem_init : Stmt := inClass (top 22) 0
abbrev N_Problem_init : List Str := ["self", "period", "lines", "demands", "index", "demand"]
theorem sc_Problem_init : FnScope N_Problem_init ["self", "period", "lines", "demands"] (defScope s_Problem_init) := ⟨rfl, rfl, rfl, by decide +kernel, rfl, by decide +kernel, by decide +kernel⟩
abbrev s_is_step : Stmt := top 25
abbrev N_is_step : List Str := ["problem", "thing", "index"]
theorem sc_is_step : FnScope N_is_step ["problem", "thing"] (defScope s_is_step) := ⟨rfl, rfl, rfl, by decide +kernel, rfl, by decide +kernel, by decide +kernel⟩
abbrev s_step_of : Stmt := top 26
abbrev N_step_of : List Str := ["problem", "step", "index", "way", "start", "end", "low", "high"]
theorem sc_step_of : FnScope N_step_of ["problem", "step"] (defScope s_step_of) := ⟨rfl, rfl, rfl, by decide +kernel, rfl, by decide +kernel, by decide +kernel⟩
abbrev s_first_bad_step : Stmt := top 27
abbrev N_first_bad_step : List Str := ["problem", "walk", "here", "at", "step", "begin", "end", "low", "high"]
theorem sc_first_bad_step : FnScope N_first_bad_step ["problem", "walk"] (defScope s_first_bad_step) := ⟨rfl, rfl, rfl, by decide +kernel, rfl, by decide +kernel, by decide +kernel⟩
abbrev s_span_of : Stmt := top 28
abbrev N_span_of : List Str := ["problem", "walk", "parts", "step", "part"]
theorem sc_span_of : FnScope N_span_of ["problem", "walk"] (defScope s_span_of) := ⟨rfl, rfl, rfl, by decide +kernel, rfl, by decide +kernel, by decide +kernel⟩
abbrev s_led : Stmt := top 29
abbrev N_led : List Str := ["problem", "walk", "at"]
theorem sc_led : FnScope N_led ["problem", "walk"] (defScope s_led) := ⟨rfl, rfl, rfl, by decide +kernel, rfl, by decide +kernel, by decide +kernel⟩
abbrev s_law_begun : Stmt := top 31
abbrev N_law_begun : List Str := ["_law_script", "_law_great", "_law_cell"]
theorem sc_law_begun : FnScope N_law_begun ["_law_script"] (defScope s_law_begun) := ⟨rfl, rfl, rfl, by decide +kernel, rfl, by decide +kernel, by decide +kernel⟩
abbrev s_law_mixed : Stmt := top 32
abbrev N_law_mixed : List Str := ["_law_draw", "_law_turn", "_law_found", "_law_prime", "_law_blend", "_law_cell"]
theorem sc_law_mixed : FnScope N_law_mixed ["_law_draw"] (defScope s_law_mixed) := ⟨rfl, rfl, rfl, by decide +kernel, rfl, by decide +kernel, by decide +kernel⟩
abbrev s_law_take : Stmt := top 33
abbrev N_law_take : List Str := ["_law_draw", "_law_many", "_law_found"]
theorem sc_law_take : FnScope N_law_take ["_law_draw", "_law_many"] (defScope s_law_take) := ⟨rfl, rfl, rfl, by decide +kernel, rfl, by decide +kernel, by decide +kernel⟩
abbrev s_law_pick : Stmt := top 34
abbrev N_law_pick : List Str := ["_law_draw", "_law_some"]
theorem sc_law_pick : FnScope N_law_pick ["_law_draw", "_law_some"] (defScope s_law_pick) := ⟨rfl, rfl, rfl, by decide +kernel, rfl, by decide +kernel, by decide +kernel⟩
abbrev s_law_word : Stmt := top 35
abbrev N_law_word : List Str := ["_law_draw", "_law_used", "_law_letters", "_law_word_here", "_law_some", "_law_turn", "_law_letter", "_law_one"]
theorem sc_law_word : FnScope N_law_word ["_law_draw", "_law_used"] (defScope s_law_word) := ⟨rfl, rfl, rfl, by decide +kernel, rfl, by decide +kernel, by decide +kernel⟩
abbrev s_law_words : Stmt := top 36
abbrev N_law_words : List Str := ["_law_draw", "_law_many", "_law_found", "_law_turn"]
theorem sc_law_words : FnScope N_law_words ["_law_draw", "_law_many"] (defScope s_law_words) := ⟨rfl, rfl, rfl, by decide +kernel, rfl, by decide +kernel, by decide +kernel⟩
abbrev s_law_signed : Stmt := top 37
abbrev N_law_signed : List Str := ["_law_draw", "_law_lines"]
theorem sc_law_signed : FnScope N_law_signed ["_law_draw", "_law_lines"] (defScope s_law_signed) := ⟨rfl, rfl, rfl, by decide +kernel, rfl, by decide +kernel, by decide +kernel⟩
abbrev s_law_row : Stmt := top 38
abbrev N_law_row : List Str := ["_law_draw", "_law_period", "_law_lines", "_law_start", "_law_others", "_law_end", "_law_low", "_law_line", "_law_one"]
theorem sc_law_row : FnScope N_law_row ["_law_draw", "_law_period", "_law_lines"] (defScope s_law_row) := ⟨rfl, rfl, rfl, by decide +kernel, rfl, by decide +kernel, by decide +kernel⟩
abbrev s_law_case : Stmt := top 39
abbrev N_law_case : List Str := ["_law_draw", "_law_lines", "_law_rows", "_law_case_here", "_law_many", "_law_turn"]
theorem sc_law_case : FnScope N_law_case ["_law_draw", "_law_lines", "_law_rows"] (defScope s_law_case) := ⟨rfl, rfl, rfl, by decide +kernel, rfl, by decide +kernel, by decide +kernel⟩
abbrev s_law_problem : Stmt := top 40
abbrev N_law_problem : List Str := ["_law_case_here"]
theorem sc_law_problem : FnScope N_law_problem ["_law_case_here"] (defScope s_law_problem) := ⟨rfl, rfl, rfl, by decide +kernel, rfl, by decide +kernel, by decide +kernel⟩
abbrev s_law_other_side : Stmt := top 41
abbrev N_law_other_side : List Str := ["_law_signed_here"]
theorem sc_law_other_side : FnScope N_law_other_side ["_law_signed_here"] (defScope s_law_other_side) := ⟨rfl, rfl, rfl, by decide +kernel, rfl, by decide +kernel, by decide +kernel⟩
abbrev s_law_due : Stmt := top 42
abbrev N_law_due : List Str := ["_law_case_here", "_law_index", "_law_way", "_law_start", "_law_end", "_law_low", "_law_high"]
theorem sc_law_due : FnScope N_law_due ["_law_case_here", "_law_index", "_law_way"] (defScope s_law_due) := ⟨rfl, rfl, rfl, by decide +kernel, rfl, by decide +kernel, by decide +kernel⟩
abbrev s_law : Stmt := top 43
abbrev N_law : List Str := ["_law_script", "_law_draw", "_law_turn", "_law_case_here", "_law_made", "_law_index", "_law_low", "_law_high", "_law_way", "_law_other", "_law_due_here", "_law_heard"]
theorem sc_law : FnScope N_law ["_law_script"] (defScope s_law) := ⟨rfl, rfl, rfl, by decide +kernel, rfl, by decide +kernel, by decide +kernel⟩
abbrev s_Problem_demands : Stmt := inClass (top 22) 4
theorem sc_Problem_demands : FnScope ["self"] ["self"] (defScope s_Problem_demands) := ⟨rfl, rfl, rfl, by decide +kernel, rfl, by decide +kernel, by decide +kernel⟩
structure Txt (K : PySem.W.Frag) (mg : Str → Option Value) : Prop where
  f_is_name : ∃ f fd, mg "is_name" = some (.ref f) ∧ Fun K "is_name" "is_name" s_is_name f fd
  f_is_integer : ∃ f fd, mg "is_integer" = some (.ref f) ∧ Fun K "is_integer" "is_integer" s_is_integer f fd
  f_is_between : ∃ f fd, mg "is_between" = some (.ref f) ∧ Fun K "is_between" "is_between" s_is_between f fd
  f_is_period : ∃ f fd, mg "is_period" = some (.ref f) ∧ Fun K "is_period" "is_period" s_is_period f fd
  f_are_names : ∃ f fd, mg "are_names" = some (.ref f) ∧ Fun K "are_names" "are_names" s_are_names f fd
  f_is_signed : ∃ f fd, mg "is_signed" = some (.ref f) ∧ Fun K "is_signed" "is_signed" s_is_signed f fd
  f_is_demand : ∃ f fd, mg "is_demand" = some (.ref f) ∧ Fun K "is_demand" "is_demand" s_is_demand f fd
  f_image_of : ∃ f fd, mg "image_of" = some (.ref f) ∧ Fun K "image_of" "image_of" s_image_of f fd
  i_Problem : ∃ C f fd, mg "Problem" = some (.ref C) ∧ Mk K C f ∧ Fun K "__init__" "Problem.__init__" s_Problem_init f fd
  f_is_step : ∃ f fd, mg "is_step" = some (.ref f) ∧ Fun K "is_step" "is_step" s_is_step f fd
  f_step_of : ∃ f fd, mg "step_of" = some (.ref f) ∧ Fun K "step_of" "step_of" s_step_of f fd
  f_first_bad_step : ∃ f fd, mg "first_bad_step" = some (.ref f) ∧ Fun K "first_bad_step" "first_bad_step" s_first_bad_step f fd
  f_span_of : ∃ f fd, mg "span_of" = some (.ref f) ∧ Fun K "span_of" "span_of" s_span_of f fd
  f_led : ∃ f fd, mg "led" = some (.ref f) ∧ Fun K "led" "led" s_led f fd
  f_law_begun : ∃ f fd, mg "_law_begun" = some (.ref f) ∧ Fun K "_law_begun" "_law_begun" s_law_begun f fd
  f_law_mixed : ∃ f fd, mg "_law_mixed" = some (.ref f) ∧ Fun K "_law_mixed" "_law_mixed" s_law_mixed f fd
  f_law_take : ∃ f fd, mg "_law_take" = some (.ref f) ∧ Fun K "_law_take" "_law_take" s_law_take f fd
  f_law_pick : ∃ f fd, mg "_law_pick" = some (.ref f) ∧ Fun K "_law_pick" "_law_pick" s_law_pick f fd
  f_law_word : ∃ f fd, mg "_law_word" = some (.ref f) ∧ Fun K "_law_word" "_law_word" s_law_word f fd
  f_law_words : ∃ f fd, mg "_law_words" = some (.ref f) ∧ Fun K "_law_words" "_law_words" s_law_words f fd
  f_law_signed : ∃ f fd, mg "_law_signed" = some (.ref f) ∧ Fun K "_law_signed" "_law_signed" s_law_signed f fd
  f_law_row : ∃ f fd, mg "_law_row" = some (.ref f) ∧ Fun K "_law_row" "_law_row" s_law_row f fd
  f_law_case : ∃ f fd, mg "_law_case" = some (.ref f) ∧ Fun K "_law_case" "_law_case" s_law_case f fd
  f_law_problem : ∃ f fd, mg "_law_problem" = some (.ref f) ∧ Fun K "_law_problem" "_law_problem" s_law_problem f fd
  f_law_other_side : ∃ f fd, mg "_law_other_side" = some (.ref f) ∧ Fun K "_law_other_side" "_law_other_side" s_law_other_side f fd
  f_law_due : ∃ f fd, mg "_law_due" = some (.ref f) ∧ Fun K "_law_due" "_law_due" s_law_due f fd
  f_law : ∃ f fd, mg "law" = some (.ref f) ∧ Fun K "law" "law" s_law f fd
  k_Problem : ClsT K mg "Problem" ["p_period", "p_lines", "p_demands"]
  p_Problem_demands : PrT K mg "Problem" "demands" "p_demands" s_Problem_demands
  c_GREATEST_PERIOD : CstD K mg "GREATEST_PERIOD" (.int 60)
  c_LEAST_PERIOD : CstD K mg "LEAST_PERIOD" (.int 4)
  c_LETTERS : CstD K mg "LETTERS" (.str "abcdefghijklmnopqrstuvwxyz")
  c_MOST_DEMANDS : CstD K mg "MOST_DEMANDS" (.int 80)
  c_MOST_LETTERS : CstD K mg "MOST_LETTERS" (.int 8)
  c_MOST_LINES : CstD K mg "MOST_LINES" (.int 8)
  c_ORIGIN : CstD K mg "ORIGIN" (.tup [(.str ""), (.int 1)])
  c_WAYS : CstD K mg "WAYS" (.tup [(.str "on"), (.str "back"), (.str "image"), (.str "far")])
  b_abs : mg "abs" = none
  b_all : mg "all" = none
  b_bool : mg "bool" = none
  b_enumerate : mg "enumerate" = none
  b_int : mg "int" = none
  b_isinstance : mg "isinstance" = none
  b_len : mg "len" = none
  b_list : mg "list" = none
  b_min : mg "min" = none
  b_range : mg "range" = none
  b_repr : mg "repr" = none
  b_sorted : mg "sorted" = none
  b_str : mg "str" = none
  b_sum : mg "sum" = none
  b_tuple : mg "tuple" = none
section
variable {P : Program} {w : World} {K : PySem.W.Frag} {mg : Str → Option Value} {base : Heap}


def b_is_name : DL.Env → M Unit (Fl × DL.Env) := sSeq (sIf (orr (nt (tru (o2 dIsi (vr 0) (cst (.ty "str"))))) (nt (tsb (chn dLe dLe (cst (.int 1)) (o1 dLen (vr 0)) (cst (.int 8)))))) (sRet (cst (.bl false))) (sNx))
    (sRet (o1 dAll (mCmp (iSeq (vr 0)) (gSet 1) (yes) (o2 dIn (vr 1) (cst (.str "abcdefghijklmnopqrstuvwxyz"))) [1])))
def m_is_name : List D → M Unit D := runB 2 b_is_name
theorem cal_is_name (T : Txt K mg) : Callee P w K mg base "is_name" s_is_name ["thing"] 1 (SpD K mg Pure 1 false m_is_name) := by
  obtain ⟨f, fd, hf, F⟩ := T.f_is_name
  exact ⟨⟨f, fd, hf, F, fn_mk (k := 0) F sc_is_name (fun h => by cases h) fun cdv A outer s H E md Z hmd AM tk => ⟨_,
    (dss_cons (ds_if (own' := []) (DW.dt (dw_or (dt_not (dt_tru AM (de_isi AM (by rfl) T.b_isinstance (de_var (i := 0)) (de_bty (by rfl) T.b_str (by decide +kernel))))) (dw_or1 (dt_not (dt_chain c_le c_le d_le d_le (de_int) (de_len AM (by rfl) T.b_len (de_var (i := 0))) (de_const AM T.c_MOST_LETTERS)))))) (dss_one (ds_ret (de_bl))) (dss_nil))
      (dss_one (ds_ret (de_all AM (by rfl) T.b_all (de_lc AM sc_is_name.nd (oc := [("sign", 1)]) (di_seq AM (de_var (i := 0))) (blkOk_by (own := [("sign", 1)]) (N := N_is_name) (sc := defScope s_is_name) (by decide +kernel)) (fun _ _ _ _ _ => dg_name (i := 1) sc_is_name.nd) (fun _ _ _ _ _ => dts_nil) (fun _ _ _ _ _ => DE.canon (de_in (AM.blk) (de_var (i := 1)) (de_const (AM.blk) T.c_LETTERS))))))))⟩⟩, fun _ _ _ _ _ _ us hl => match us, hl with | [_], _ => rfl⟩
def b_is_integer : DL.Env → M Unit (Fl × DL.Env) := sRet (anV (o2 dIsi (vr 0) (cst (.ty "int"))) (ntV (o2 dIsi (vr 0) (cst (.ty "bool")))))
def m_is_integer : List D → M Unit D := runB 1 b_is_integer
theorem cal_is_integer (T : Txt K mg) : Callee P w K mg base "is_integer" s_is_integer ["thing"] 1 (SpD K mg Pure 1 false m_is_integer) := by
  obtain ⟨f, fd, hf, F⟩ := T.f_is_integer
  exact ⟨⟨f, fd, hf, F, fn_mk (k := 0) F sc_is_integer (fun h => by cases h) fun cdv A outer s H E md Z hmd AM tk => ⟨_,
    (dss_one (ds_ret (de_and AM (de_isi AM (by rfl) T.b_isinstance (de_var (i := 0)) (de_bty (by rfl) T.b_int (by decide +kernel))) (de_one (de_not AM (de_isi AM (by rfl) T.b_isinstance (de_var (i := 0)) (de_bty (by rfl) T.b_bool (by decide +kernel))))))))⟩⟩, fun _ _ _ _ _ _ us hl => match us, hl with | [_], _ => rfl⟩
def b_is_between : DL.Env → M Unit (Fl × DL.Env) := sRet (anV (mCalP (aCons (vr 0) (aNil)) m_is_integer) (chn dLe dLe (vr 1) (vr 0) (vr 2)))
def m_is_between : List D → M Unit D := runB 3 b_is_between
theorem cal_is_between (T : Txt K mg) : Callee P w K mg base "is_between" s_is_between ["thing", "low", "high"] 2 (SpD K mg Pure 3 false m_is_between) := by
  have c_is_integer := cal_is_integer (P := P) (w := w) (base := base) T
  obtain ⟨f, fd, hf, F⟩ := T.f_is_between
  exact ⟨⟨f, fd, hf, F, fn_mk (k := 1) F sc_is_between (fun h => by cases h) fun cdv A outer s H E md Z hmd AM tk => ⟨_,
    (dss_one (ds_ret (de_and AM (de_callP (fr := false) AM tk c_is_integer (by decide) (da_cons (de_var (i := 0)) (da_nil)) (cnt_cons (cnt_nil))) (de_one (de_chain c_le c_le d_le d_le (de_var (i := 1)) (de_var (i := 0)) (de_var (i := 2)))))))⟩⟩, fun _ _ _ _ _ _ us hl => match us, hl with | [_, _, _], _ => rfl⟩
def b_is_period : DL.Env → M Unit (Fl × DL.Env) := sRet (anV (mCalP (aCons (vr 0) (aCons (cst (.int 4)) (aCons (cst (.int 60)) (aNil)))) m_is_between) (o2 dEq (o2 dMod (o1 dInt (vr 0)) (cst (.int 2))) (cst (.int 0))))
def m_is_period : List D → M Unit D := runB 1 b_is_period
theorem cal_is_period (T : Txt K mg) : Callee P w K mg base "is_period" s_is_period ["thing"] 3 (SpD K mg Pure 1 false m_is_period) := by
  have c_is_between := cal_is_between (P := P) (w := w) (base := base) T
  obtain ⟨f, fd, hf, F⟩ := T.f_is_period
  exact ⟨⟨f, fd, hf, F, fn_mk (k := 2) F sc_is_period (fun h => by cases h) fun cdv A outer s H E md Z hmd AM tk => ⟨_,
    (dss_one (ds_ret (de_and AM (de_callP (fr := false) AM tk c_is_between (by decide) (da_cons (de_var (i := 0)) (da_cons (de_const AM T.c_LEAST_PERIOD) (da_cons (de_const AM T.c_GREATEST_PERIOD) (da_nil)))) (cnt_cons (cnt_cons (cnt_cons (cnt_nil))))) (de_one (de_cmp (op_eqX AM) (d_eq AM.K) (de_mod (de_toint (by rfl) T.b_int (de_var (i := 0))) (de_int)) (de_int) (nomark _))))))⟩⟩, fun _ _ _ _ _ _ us hl => match us, hl with | [_], _ => rfl⟩
def b_are_names : DL.Env → M Unit (Fl × DL.Env) := sSeq (sIf (orr (nt (tru (o2 dIsi (vr 0) (cst (.ty "tuple"))))) (orr (tsb (o2 dGt (o1 dLen (vr 0)) (vr 1))) (nt (tru (o1 dAll (mCmp (iSeq (vr 0)) (gSet 2) (yes) (mCalP (aCons (vr 2) (aNil)) m_is_name) [2])))))) (sRet (cst (.bl false))) (sNx))
    (sRet (o2 dEq (o1 dList (vr 0)) (o1 dSorted (mDc (iSeq (vr 0)) (gSet 2) (yes) (vr 2) (cst (.bl true)) [2]))))
def m_are_names : List D → M Unit D := runB 3 b_are_names
theorem cal_are_names (T : Txt K mg) : Callee P w K mg base "are_names" s_are_names ["thing", "most"] 2 (SpD K mg Pure 2 false m_are_names) := by
  have c_is_name := cal_is_name (P := P) (w := w) (base := base) T
  obtain ⟨f, fd, hf, F⟩ := T.f_are_names
  exact ⟨⟨f, fd, hf, F, fn_mk (k := 1) F sc_are_names (fun h => by cases h) fun cdv A outer s H E md Z hmd AM tk => ⟨_,
    (dss_cons (ds_if (own' := []) (DW.dt (dw_or (dt_not (dt_tru AM (de_isi AM (by rfl) T.b_isinstance (de_var (i := 0)) (de_bty (by rfl) T.b_tuple (by decide +kernel))))) (dw_or (dt_cmp c_gt d_gt (de_len AM (by rfl) T.b_len (de_var (i := 0))) (de_var (i := 1)) (nomark _)) (dw_or1 (dt_not (dt_tru AM (de_all AM (by rfl) T.b_all (de_lc AM sc_are_names.nd (oc := [("one", 2)]) (di_seq AM (de_var (i := 0))) (blkOk_by (own := [("one", 2)]) (N := N_are_names) (sc := defScope s_are_names) (by decide +kernel)) (fun _ _ _ _ _ => dg_name (i := 2) sc_are_names.nd) (fun _ _ _ _ _ => dts_nil) (fun _ _ _ _ _ => DE.canon (de_callP (fr := false) (AM.blk) takesN c_is_name (by decide) (da_cons (de_var (i := 2)) (da_nil)) (cnt_cons (cnt_nil)))))))))))) (dss_one (ds_ret (de_bl))) (dss_nil))
      (dss_one (ds_ret (de_cmp (op_eqX AM) (d_eq AM.K) (de_list AM (by rfl) T.b_list (de_var (i := 0))) (de_sorted AM (by rfl) T.b_sorted (de_dc AM sc_are_names.nd (oc := [("one", 2)]) (di_seq AM (de_var (i := 0))) (blkOk_by (own := [("one", 2)]) (N := N_are_names) (sc := defScope s_are_names) (by decide +kernel)) (fun _ _ _ _ _ => dg_name (i := 2) sc_are_names.nd) (fun _ _ _ _ _ => dts_nil) (fun _ _ _ _ _ => DE.canon (de_var (i := 2))) (fun _ _ _ _ _ => DE.canon (de_bl)))) (nomark _)))))⟩⟩, fun _ _ _ _ _ _ us hl => match us, hl with | [_, _], _ => rfl⟩
def b_is_signed : DL.Env → M Unit (Fl × DL.Env) := sSeq (sIf (orr (nt (tru (o2 dIsi (vr 0) (cst (.ty "tuple"))))) (orr (tsb (o2 dNe (o1 dLen (vr 0)) (cst (.int 2)))) (orr (nt (tru (o2 dIsi (o2 dSubs (vr 0) (cst (.int 0))) (cst (.ty "str"))))) (nt (tru (mCalP (aCons (o2 dSubs (vr 0) (cst (.int 1))) (aNil)) m_is_integer)))))) (sRet (cst (.bl false))) (sNx))
    (sRet (orV (o2 dEq (vr 0) (cst (.tup [(.str ""), (.int 1)]))) (anV (o2 dIn (o2 dSubs (vr 0) (cst (.int 0))) (vr 1)) (o2 dIn (o2 dSubs (vr 0) (cst (.int 1))) (mTup (aCons (cst (.int 1)) (aCons (o1 dNeg (cst (.int 1))) (aNil))))))))
def m_is_signed : List D → M Unit D := runB 2 b_is_signed
theorem cal_is_signed (T : Txt K mg) : Callee P w K mg base "is_signed" s_is_signed ["thing", "lines"] 2 (SpD K mg Pure 2 false m_is_signed) := by
  have c_is_integer := cal_is_integer (P := P) (w := w) (base := base) T
  obtain ⟨f, fd, hf, F⟩ := T.f_is_signed
  exact ⟨⟨f, fd, hf, F, fn_mk (k := 1) F sc_is_signed (fun h => by cases h) fun cdv A outer s H E md Z hmd AM tk => ⟨_,
    (dss_cons (ds_if (own' := []) (DW.dt (dw_or (dt_not (dt_tru AM (de_isi AM (by rfl) T.b_isinstance (de_var (i := 0)) (de_bty (by rfl) T.b_tuple (by decide +kernel))))) (dw_or (dt_cmp (op_neX AM) (d_ne AM.K) (de_len AM (by rfl) T.b_len (de_var (i := 0))) (de_int) (nomark _)) (dw_or (dt_not (dt_tru AM (de_isi AM (by rfl) T.b_isinstance (de_subs AM (de_var (i := 0)) (de_int)) (de_bty (by rfl) T.b_str (by decide +kernel))))) (dw_or1 (dt_not (dt_tru AM (de_callP (fr := false) AM tk c_is_integer (by decide) (da_cons (de_subs AM (de_var (i := 0)) (de_int)) (da_nil)) (cnt_cons (cnt_nil)))))))))) (dss_one (ds_ret (de_bl))) (dss_nil))
      (dss_one (ds_ret (de_or AM (de_cmp (op_eqX AM) (d_eq AM.K) (de_var (i := 0)) (de_const AM T.c_ORIGIN) (nomark _)) (de_one (de_and AM (de_in AM (de_subs AM (de_var (i := 0)) (de_int)) (de_var (i := 1))) (de_one (de_in AM (de_subs AM (de_var (i := 0)) (de_int)) (de_tup (da_cons (de_int) (da_cons (de_neg (de_int)) (da_nil))) (cnt_cons (cnt_cons (cnt_nil))))))))))))⟩⟩, fun _ _ _ _ _ _ us hl => match us, hl with | [_, _], _ => rfl⟩
def b_is_demand : DL.Env → M Unit (Fl × DL.Env) := sSeq (sIf (orr (nt (tru (o2 dIsi (vr 2) (cst (.ty "tuple"))))) (tsb (o2 dNe (o1 dLen (vr 2)) (cst (.int 4))))) (sRet (cst (.bl false))) (sNx))
    (sSeq (sIf (orr (nt (tru (mCalP (aCons (o2 dSubs (vr 2) (cst (.int 0))) (aCons (vr 1) (aNil))) m_is_signed))) (orr (nt (tru (mCalP (aCons (o2 dSubs (vr 2) (cst (.int 1))) (aCons (vr 1) (aNil))) m_is_signed))) (tsb (o2 dEq (o2 dSubs (vr 2) (cst (.int 0))) (o2 dSubs (vr 2) (cst (.int 1))))))) (sRet (cst (.bl false))) (sNx))
    (sRet (anV (mCalP (aCons (o2 dSubs (vr 2) (cst (.int 2))) (aNil)) m_is_integer) (anV (mCalP (aCons (o2 dSubs (vr 2) (cst (.int 3))) (aNil)) m_is_integer) (chn dLe dLt (o2 dSubs (vr 2) (cst (.int 2))) (o2 dSubs (vr 2) (cst (.int 3))) (o2 dAdd (o2 dSubs (vr 2) (cst (.int 2))) (vr 0)))))))
def m_is_demand : List D → M Unit D := runB 3 b_is_demand
theorem cal_is_demand (T : Txt K mg) : Callee P w K mg base "is_demand" s_is_demand ["period", "lines", "thing"] 3 (SpD K mg Pure 3 false m_is_demand) := by
  have c_is_integer := cal_is_integer (P := P) (w := w) (base := base) T
  have c_is_signed := cal_is_signed (P := P) (w := w) (base := base) T
  obtain ⟨f, fd, hf, F⟩ := T.f_is_demand
  exact ⟨⟨f, fd, hf, F, fn_mk (k := 2) F sc_is_demand (fun h => by cases h) fun cdv A outer s H E md Z hmd AM tk => ⟨_,
    (dss_cons (ds_if (own' := []) (DW.dt (dw_or (dt_not (dt_tru AM (de_isi AM (by rfl) T.b_isinstance (de_var (i := 2)) (de_bty (by rfl) T.b_tuple (by decide +kernel))))) (dw_or1 (dt_cmp (op_neX AM) (d_ne AM.K) (de_len AM (by rfl) T.b_len (de_var (i := 2))) (de_int) (nomark _))))) (dss_one (ds_ret (de_bl))) (dss_nil))
      (dss_cons (ds_if (own' := []) (DW.dt (dw_or (dt_not (dt_tru AM (de_callP (fr := false) AM tk c_is_signed (by decide) (da_cons (de_subs AM (de_var (i := 2)) (de_int)) (da_cons (de_var (i := 1)) (da_nil))) (cnt_cons (cnt_cons (cnt_nil)))))) (dw_or (dt_not (dt_tru AM (de_callP (fr := false) AM tk c_is_signed (by decide) (da_cons (de_subs AM (de_var (i := 2)) (de_int)) (da_cons (de_var (i := 1)) (da_nil))) (cnt_cons (cnt_cons (cnt_nil)))))) (dw_or1 (dt_cmp (op_eqX AM) (d_eq AM.K) (de_subs AM (de_var (i := 2)) (de_int)) (de_subs AM (de_var (i := 2)) (de_int)) (nomark _)))))) (dss_one (ds_ret (de_bl))) (dss_nil))
      (dss_one (ds_ret (de_and AM (de_callP (fr := false) AM tk c_is_integer (by decide) (da_cons (de_subs AM (de_var (i := 2)) (de_int)) (da_nil)) (cnt_cons (cnt_nil))) (de_and AM (de_callP (fr := false) AM tk c_is_integer (by decide) (da_cons (de_subs AM (de_var (i := 2)) (de_int)) (da_nil)) (cnt_cons (cnt_nil))) (de_one (de_chain c_le c_lt d_le d_lt (de_subs AM (de_var (i := 2)) (de_int)) (de_subs AM (de_var (i := 2)) (de_int)) (de_add AM.K (de_subs AM (de_var (i := 2)) (de_int)) (de_var (i := 0)))))))))))⟩⟩, fun _ _ _ _ _ _ us hl => match us, hl with | [_, _, _], _ => rfl⟩
def b_image_of : DL.Env → M Unit (Fl × DL.Env) := sRet (ife (tsb (o2 dEq (vr 0) (cst (.tup [(.str ""), (.int 1)])))) (vr 0) (mTup (aCons (o2 dSubs (vr 0) (cst (.int 0))) (aCons (o1 dNeg (o2 dSubs (vr 0) (cst (.int 1)))) (aNil)))))
def m_image_of : List D → M Unit D := runB 1 b_image_of
theorem cal_image_of (T : Txt K mg) : Callee P w K mg base "image_of" s_image_of ["signed"] 1 (SpD K mg Pure 1 false m_image_of) := by
  obtain ⟨f, fd, hf, F⟩ := T.f_image_of
  exact ⟨⟨f, fd, hf, F, fn_mk (k := 0) F sc_image_of (fun h => by cases h) fun cdv A outer s H E md Z hmd AM tk => ⟨_,
    (dss_one (ds_ret (de_if (dt_cmp (op_eqX AM) (d_eq AM.K) (de_var (i := 0)) (de_const AM T.c_ORIGIN) (nomark _)) (de_var (i := 0)) (de_tup (da_cons (de_subs AM (de_var (i := 0)) (de_int)) (da_cons (de_neg (de_subs AM (de_var (i := 0)) (de_int))) (da_nil))) (cnt_cons (cnt_cons (cnt_nil)))))))⟩⟩, fun _ _ _ _ _ _ us hl => match us, hl with | [_], _ => rfl⟩
def b_Problem_init : DL.Env → M Unit (Fl × DL.Env) := sSeq (sIf (nt (tru (mCalP (aCons (vr 1) (aNil)) m_is_period))) (sStk) (sNx))
    (sSeq (sIf (nt (tru (mCalP (aCons (vr 2) (aCons (cst (.int 8)) (aNil))) m_are_names))) (sStk) (sNx))
    (sSeq (sIf (nt (tru (o2 dIsi (vr 3) (mTup (aCons (cst (.ty "list")) (aCons (cst (.ty "tuple")) (aNil))))))) (sStk) (sNx))
    (sSeq (sFor (iEnum2 (vr 3)) (gTupD 2 (gsCons (gSet 4) (gsCons (gSet 5) (gsNil)))) (sIf (orr (tsb (o2 dEq (vr 4) (cst (.int 80)))) (nt (tru (mCalP (aCons (vr 1) (aCons (vr 2) (aCons (vr 5) (aNil)))) m_is_demand)))) (sStk) (sNx)))
    (sSeq (sFl "Problem" "p_period" 0 (vr 1))
    (sSeq (sFl "Problem" "p_lines" 0 (vr 2))
    (sFl "Problem" "p_demands" 0 (o1 dTuple (vr 3))))))))
def m_Problem_init : List D → M Unit D := runI "Problem" 6 b_Problem_init
theorem mk_Problem (T : Txt K mg) : MkT P w K mg base "Problem" s_Problem_init ["self", "period", "lines", "demands"] 4 (SpI K mg "Problem" 3 m_Problem_init) := by
  have c_is_period := cal_is_period (P := P) (w := w) (base := base) T
  have c_are_names := cal_are_names (P := P) (w := w) (base := base) T
  have c_is_demand := cal_is_demand (P := P) (w := w) (base := base) T
  obtain ⟨C, f, fd, hC, M, F⟩ := T.i_Problem
  exact ⟨⟨C, f, fd, _, hC, M, F, fn_mkI (k := 3) F sc_Problem_init fun cdv A outer s H E md Z H0 AM tk => ⟨_,
    (dss_cons (ds_if (own' := [0]) (dt_not (dt_tru AM (de_callP (fr := false) AM tk c_is_period (by decide) (da_cons (de_var (i := 1)) (da_nil)) (cnt_cons (cnt_nil))))) (dss_one (ds_stk)) (dss_nil))
      (dss_cons (ds_if (own' := [0]) (dt_not (dt_tru AM (de_callP (fr := false) AM tk c_are_names (by decide) (da_cons (de_var (i := 2)) (da_cons (de_const AM T.c_MOST_LINES) (da_nil))) (cnt_cons (cnt_cons (cnt_nil)))))) (dss_one (ds_stk)) (dss_nil))
      (dss_cons (ds_if (own' := [0]) (dt_not (dt_tru AM (de_isi AM (by rfl) T.b_isinstance (de_var (i := 3)) (de_tup (da_cons (de_bty (by rfl) T.b_list (by decide +kernel)) (da_cons (de_bty (by rfl) T.b_tuple (by decide +kernel)) (da_nil))) (cnt_cons (cnt_cons (cnt_nil))))))) (dss_one (ds_stk)) (dss_nil))
      (dss_cons (ds_for AM (di_enum AM (by rfl) T.b_enumerate (de_var (i := 3))) (dg_tup AM (dgs_cons (dg_name (i := 4) sc_Problem_init.nd) (dgs_cons (dg_name (i := 5) sc_Problem_init.nd) (dgs_nil)))) (dss_one (ds_if (own' := [0]) (DW.dt (dw_or (dt_cmp (op_eqX AM) (d_eq AM.K) (de_var (i := 4)) (de_const AM T.c_MOST_DEMANDS) (nomark _)) (dw_or1 (dt_not (dt_tru AM (de_callP (fr := false) AM tk c_is_demand (by decide) (da_cons (de_var (i := 1)) (da_cons (de_var (i := 2)) (da_cons (de_var (i := 5)) (da_nil)))) (cnt_cons (cnt_cons (cnt_cons (cnt_nil)))))))))) (dss_one (ds_stk)) (dss_nil))))
      (dss_cons (ds_fld (i := 0) AM T.k_Problem (de_var (i := 1)))
      (dss_cons (ds_fld (i := 0) AM T.k_Problem (de_var (i := 2)))
      (dss_one (ds_fld (i := 0) AM T.k_Problem (de_tuple AM (by rfl) T.b_tuple (de_var (i := 3)))))))))))⟩⟩, fun _ _ _ _ _ _ _ us hl => match us, hl with | [_, _, _, _], _ => rfl⟩
def b_is_step : DL.Env → M Unit (Fl × DL.Env) := sSeq (sIf (orr (nt (tru (o2 dIsi (vr 1) (cst (.ty "tuple"))))) (orr (tsb (o2 dNe (o1 dLen (vr 1)) (cst (.int 2)))) (orr (nt (tru (o2 dIsi (o2 dSubs (vr 1) (cst (.int 1))) (cst (.ty "str"))))) (tsb (o2 dNotIn (o2 dSubs (vr 1) (cst (.int 1))) (cst (.tup [(.str "on"), (.str "back"), (.str "image"), (.str "far")]))))))) (sRet (cst (.bl false))) (sNx))
    (sSeq (sSet 2 (o2 dSubs (vr 1) (cst (.int 0))))
    (sRet (anV (o2 dIsi (vr 2) (cst (.ty "int"))) (anV (ntV (o2 dIsi (vr 2) (cst (.ty "bool")))) (chn dLe dLt (cst (.int 0)) (vr 2) (o1 dLen (o1 (dFld "Problem" "p_demands") (vr 0))))))))
def m_is_step : List D → M Unit D := runB 3 b_is_step
theorem cal_is_step (T : Txt K mg) : Callee P w K mg base "is_step" s_is_step ["problem", "thing"] 3 (SpD K mg Pure 2 false m_is_step) := by
  obtain ⟨f, fd, hf, F⟩ := T.f_is_step
  exact ⟨⟨f, fd, hf, F, fn_mk (k := 2) F sc_is_step (fun h => by cases h) fun cdv A outer s H E md Z hmd AM tk => ⟨_,
    (dss_cons (ds_if (own' := []) (DW.dt (dw_or (dt_not (dt_tru AM (de_isi AM (by rfl) T.b_isinstance (de_var (i := 1)) (de_bty (by rfl) T.b_tuple (by decide +kernel))))) (dw_or (dt_cmp (op_neX AM) (d_ne AM.K) (de_len AM (by rfl) T.b_len (de_var (i := 1))) (de_int) (nomark _)) (dw_or (dt_not (dt_tru AM (de_isi AM (by rfl) T.b_isinstance (de_subs AM (de_var (i := 1)) (de_int)) (de_bty (by rfl) T.b_str (by decide +kernel))))) (dw_or1 (dt_notin AM (de_subs AM (de_var (i := 1)) (de_int)) (de_const AM T.c_WAYS))))))) (dss_one (ds_ret (de_bl))) (dss_nil))
      (dss_cons (DS.to (own' := []) (ds_set (i := 2) sc_is_step.nd (de_subs AM (de_var (i := 1)) (de_int))))
      (dss_one (ds_ret (de_and AM (de_isi AM (by rfl) T.b_isinstance (de_var (i := 2)) (de_bty (by rfl) T.b_int (by decide +kernel))) (de_and AM (de_not AM (de_isi AM (by rfl) T.b_isinstance (de_var (i := 2)) (de_bty (by rfl) T.b_bool (by decide +kernel)))) (de_one (de_chain c_le c_lt d_le d_lt (de_int) (de_var (i := 2)) (de_len AM (by rfl) T.b_len (de_prop AM T.p_Problem_demands sc_Problem_demands (de_var (i := 0)) (hbind := fun _ _ _ _ _ _ _ us hl => match us, hl with | [_], _ => rfl)))))))))))⟩⟩, fun _ _ _ _ _ _ us hl => match us, hl with | [_, _], _ => rfl⟩
def b_step_of : DL.Env → M Unit (Fl × DL.Env) := sSeq (sAsg (vr 1) (gTupD 2 (gsCons (gSet 2) (gsCons (gSet 3) (gsNil)))))
    (sSeq (sAsg (o2 dSubs (o1 (dFld "Problem" "p_demands") (vr 0)) (vr 2)) (gTupD 4 (gsCons (gSet 4) (gsCons (gSet 5) (gsCons (gSet 6) (gsCons (gSet 7) (gsNil)))))))
    (sSeq (sIf (tsb (o2 dEq (vr 3) (cst (.str "on")))) (sRet (mTup (aCons (vr 4) (aCons (vr 5) (aCons (vr 6) (aCons (vr 7) (aNil))))))) (sNx))
    (sSeq (sIf (tsb (o2 dEq (vr 3) (cst (.str "back")))) (sRet (mTup (aCons (vr 5) (aCons (vr 4) (aCons (o1 dNeg (vr 7)) (aCons (o1 dNeg (vr 6)) (aNil))))))) (sNx))
    (sSeq (sIf (tsb (o2 dEq (vr 3) (cst (.str "image")))) (sRet (mTup (aCons (mCalP (aCons (vr 5) (aNil)) m_image_of) (aCons (mCalP (aCons (vr 4) (aNil)) m_image_of) (aCons (vr 6) (aCons (vr 7) (aNil))))))) (sNx))
    (sRet (mTup (aCons (mCalP (aCons (vr 4) (aNil)) m_image_of) (aCons (mCalP (aCons (vr 5) (aNil)) m_image_of) (aCons (o1 dNeg (vr 7)) (aCons (o1 dNeg (vr 6)) (aNil)))))))))))
def m_step_of : List D → M Unit D := runB 8 b_step_of
theorem cal_step_of (T : Txt K mg) : Callee P w K mg base "step_of" s_step_of ["problem", "step"] 3 (SpD K mg Pure 2 false m_step_of) := by
  have c_image_of := cal_image_of (P := P) (w := w) (base := base) T
  obtain ⟨f, fd, hf, F⟩ := T.f_step_of
  exact ⟨⟨f, fd, hf, F, fn_mk (k := 2) F sc_step_of (fun h => by cases h) fun cdv A outer s H E md Z hmd AM tk => ⟨_,
    (dss_cons (ds_asg (de_var (i := 1)) (dg_tup AM (dgs_cons (dg_name (i := 2) sc_step_of.nd) (dgs_cons (dg_name (i := 3) sc_step_of.nd) (dgs_nil)))))
      (dss_cons (ds_asg (de_subs AM (de_prop AM T.p_Problem_demands sc_Problem_demands (de_var (i := 0)) (hbind := fun _ _ _ _ _ _ _ us hl => match us, hl with | [_], _ => rfl)) (de_var (i := 2))) (dg_tup AM (dgs_cons (dg_name (i := 4) sc_step_of.nd) (dgs_cons (dg_name (i := 5) sc_step_of.nd) (dgs_cons (dg_name (i := 6) sc_step_of.nd) (dgs_cons (dg_name (i := 7) sc_step_of.nd) (dgs_nil)))))))
      (dss_cons (ds_if (own' := []) (dt_cmp (op_eqX AM) (d_eq AM.K) (de_var (i := 3)) (de_str) (nomark _)) (dss_one (ds_ret (de_tup (da_cons (de_var (i := 4)) (da_cons (de_var (i := 5)) (da_cons (de_var (i := 6)) (da_cons (de_var (i := 7)) (da_nil))))) (cnt_cons (cnt_cons (cnt_cons (cnt_cons (cnt_nil)))))))) (dss_nil))
      (dss_cons (ds_if (own' := []) (dt_cmp (op_eqX AM) (d_eq AM.K) (de_var (i := 3)) (de_str) (nomark _)) (dss_one (ds_ret (de_tup (da_cons (de_var (i := 5)) (da_cons (de_var (i := 4)) (da_cons (de_neg (de_var (i := 7))) (da_cons (de_neg (de_var (i := 6))) (da_nil))))) (cnt_cons (cnt_cons (cnt_cons (cnt_cons (cnt_nil)))))))) (dss_nil))
      (dss_cons (ds_if (own' := []) (dt_cmp (op_eqX AM) (d_eq AM.K) (de_var (i := 3)) (de_str) (nomark _)) (dss_one (ds_ret (de_tup (da_cons (de_callP (fr := false) AM tk c_image_of (by decide) (da_cons (de_var (i := 5)) (da_nil)) (cnt_cons (cnt_nil))) (da_cons (de_callP (fr := false) AM tk c_image_of (by decide) (da_cons (de_var (i := 4)) (da_nil)) (cnt_cons (cnt_nil))) (da_cons (de_var (i := 6)) (da_cons (de_var (i := 7)) (da_nil))))) (cnt_cons (cnt_cons (cnt_cons (cnt_cons (cnt_nil)))))))) (dss_nil))
      (dss_one (ds_ret (de_tup (da_cons (de_callP (fr := false) AM tk c_image_of (by decide) (da_cons (de_var (i := 4)) (da_nil)) (cnt_cons (cnt_nil))) (da_cons (de_callP (fr := false) AM tk c_image_of (by decide) (da_cons (de_var (i := 5)) (da_nil)) (cnt_cons (cnt_nil))) (da_cons (de_neg (de_var (i := 7))) (da_cons (de_neg (de_var (i := 6))) (da_nil))))) (cnt_cons (cnt_cons (cnt_cons (cnt_cons (cnt_nil)))))))))))))⟩⟩, fun _ _ _ _ _ _ us hl => match us, hl with | [_, _], _ => rfl⟩
def b_first_bad_step : DL.Env → M Unit (Fl × DL.Env) := sSeq (sIf (orr (nt (tru (o2 dIsi (vr 1) (cst (.ty "tuple"))))) (tsb (o2 dEq (vr 1) (mTup (aNil))))) (sRet (cst (.int 0))) (sNx))
    (sSeq (sSet 2 (cst .non))
    (sSeq (sFor (iEnum2 (vr 1)) (gTupD 2 (gsCons (gSet 3) (gsCons (gSet 4) (gsNil)))) (sSeq (sIf (nt (tru (mCalP (aCons (vr 0) (aCons (vr 4) (aNil))) m_is_step))) (sRet (vr 3)) (sNx))
    (sSeq (sAsg (mCalP (aCons (vr 0) (aCons (vr 4) (aNil))) m_step_of) (gTupD 4 (gsCons (gSet 5) (gsCons (gSet 6) (gsCons (gSet 7) (gsCons (gSet 8) (gsNil)))))))
    (sSeq (sIf (an (tsb (o2 dGt (vr 3) (cst (.int 0)))) (tsb (o2 dNe (vr 5) (vr 2)))) (sRet (vr 3)) (sNx))
    (sSet 2 (vr 6))))))
    (sRet (cst .non))))
def m_first_bad_step : List D → M Unit D := runB 9 b_first_bad_step
theorem cal_first_bad_step (T : Txt K mg) : Callee P w K mg base "first_bad_step" s_first_bad_step ["problem", "walk"] 4 (SpD K mg Pure 2 false m_first_bad_step) := by
  have c_is_step := cal_is_step (P := P) (w := w) (base := base) T
  have c_step_of := cal_step_of (P := P) (w := w) (base := base) T
  obtain ⟨f, fd, hf, F⟩ := T.f_first_bad_step
  exact ⟨⟨f, fd, hf, F, fn_mk (k := 3) F sc_first_bad_step (fun h => by cases h) fun cdv A outer s H E md Z hmd AM tk => ⟨_,
    (dss_cons (ds_if (own' := []) (DW.dt (dw_or (dt_not (dt_tru AM (de_isi AM (by rfl) T.b_isinstance (de_var (i := 1)) (de_bty (by rfl) T.b_tuple (by decide +kernel))))) (dw_or1 (dt_cmp (op_eqX AM) (d_eq AM.K) (de_var (i := 1)) (de_tup (da_nil) (cnt_nil)) (nomark _))))) (dss_one (ds_ret (de_int))) (dss_nil))
      (dss_cons (DS.to (own' := []) (ds_set (i := 2) sc_first_bad_step.nd (de_non)))
      (dss_cons (ds_for AM (di_enum AM (by rfl) T.b_enumerate (de_var (i := 1))) (dg_tup AM (dgs_cons (dg_name (i := 3) sc_first_bad_step.nd) (dgs_cons (dg_name (i := 4) sc_first_bad_step.nd) (dgs_nil)))) (dss_cons (ds_if (own' := []) (dt_not (dt_tru AM (de_callP (fr := false) AM tk c_is_step (by decide) (da_cons (de_var (i := 0)) (da_cons (de_var (i := 4)) (da_nil))) (cnt_cons (cnt_cons (cnt_nil)))))) (dss_one (ds_ret (de_var (i := 3)))) (dss_nil))
      (dss_cons (ds_asg (de_callP (fr := false) AM tk c_step_of (by decide) (da_cons (de_var (i := 0)) (da_cons (de_var (i := 4)) (da_nil))) (cnt_cons (cnt_cons (cnt_nil)))) (dg_tup AM (dgs_cons (dg_name (i := 5) sc_first_bad_step.nd) (dgs_cons (dg_name (i := 6) sc_first_bad_step.nd) (dgs_cons (dg_name (i := 7) sc_first_bad_step.nd) (dgs_cons (dg_name (i := 8) sc_first_bad_step.nd) (dgs_nil)))))))
      (dss_cons (ds_if (own' := []) (DW.dt (dw_and (dt_cmp c_gt d_gt (de_var (i := 3)) (de_int) (nomark _)) (dw_and1 (dt_cmp (op_neX AM) (d_ne AM.K) (de_var (i := 5)) (de_var (i := 2)) (nomark _))))) (dss_one (ds_ret (de_var (i := 3)))) (dss_nil))
      (dss_one (DS.to (own' := []) (ds_set (i := 2) sc_first_bad_step.nd (de_var (i := 6)))))))))
      (dss_one (ds_ret (de_non))))))⟩⟩, fun _ _ _ _ _ _ us hl => match us, hl with | [_, _], _ => rfl⟩
def b_span_of : DL.Env → M Unit (Fl × DL.Env) := sSeq (sSet 2 (mCmp (iSeq (vr 1)) (gSet 3) (yes) (mCalP (aCons (vr 0) (aCons (vr 3) (aNil))) m_step_of) [3]))
    (sRet (mTup (aCons (o2 dSubs (o2 dSubs (vr 2) (cst (.int 0))) (cst (.int 0))) (aCons (o2 dSubs (o2 dSubs (vr 2) (o1 dNeg (cst (.int 1)))) (cst (.int 1))) (aCons (o1 dSum (mCmp (iSeq (vr 2)) (gSet 4) (yes) (o2 dSubs (vr 4) (cst (.int 2))) [4])) (aCons (o1 dSum (mCmp (iSeq (vr 2)) (gSet 4) (yes) (o2 dSubs (vr 4) (cst (.int 3))) [4])) (aNil)))))))
def m_span_of : List D → M Unit D := runB 5 b_span_of
theorem cal_span_of (T : Txt K mg) : Callee P w K mg base "span_of" s_span_of ["problem", "walk"] 4 (SpD K mg Pure 2 false m_span_of) := by
  have c_step_of := cal_step_of (P := P) (w := w) (base := base) T
  obtain ⟨f, fd, hf, F⟩ := T.f_span_of
  exact ⟨⟨f, fd, hf, F, fn_mk (k := 3) F sc_span_of (fun h => by cases h) fun cdv A outer s H E md Z hmd AM tk => ⟨_,
    (dss_cons (DS.to (own' := []) (ds_lc (i := 2) AM sc_span_of.nd (oc := [("step", 3)]) (di_seq AM (de_var (i := 1))) (blkOk_by (own := [("step", 3)]) (N := N_span_of) (sc := defScope s_span_of) (by decide +kernel)) (fun _ _ _ _ _ => dg_name (i := 3) sc_span_of.nd) (fun _ _ _ _ _ => dts_nil) (fun _ _ _ _ _ => DE.canon (de_callP (fr := false) (AM.blk) takesN c_step_of (by decide) (da_cons (de_var (i := 0)) (da_cons (de_var (i := 3)) (da_nil))) (cnt_cons (cnt_cons (cnt_nil))))) (sw_true rfl rfl rfl (by decide +kernel))))
      (dss_one (ds_ret (de_tup (da_cons (de_subs AM (de_subs AM (de_var (i := 2)) (de_int)) (de_int)) (da_cons (de_subs AM (de_subs AM (de_var (i := 2)) (de_neg (de_int))) (de_int)) (da_cons (de_sum AM (by rfl) T.b_sum (de_lc AM sc_span_of.nd (oc := [("part", 4)]) (di_seq AM (de_var (i := 2))) (blkOk_by (own := [("part", 4)]) (N := N_span_of) (sc := defScope s_span_of) (by decide +kernel)) (fun _ _ _ _ _ => dg_name (i := 4) sc_span_of.nd) (fun _ _ _ _ _ => dts_nil) (fun _ _ _ _ _ => DE.canon (de_subs (AM.blk) (de_var (i := 4)) (de_int))))) (da_cons (de_sum AM (by rfl) T.b_sum (de_lc AM sc_span_of.nd (oc := [("part", 4)]) (di_seq AM (de_var (i := 2))) (blkOk_by (own := [("part", 4)]) (N := N_span_of) (sc := defScope s_span_of) (by decide +kernel)) (fun _ _ _ _ _ => dg_name (i := 4) sc_span_of.nd) (fun _ _ _ _ _ => dts_nil) (fun _ _ _ _ _ => DE.canon (de_subs (AM.blk) (de_var (i := 4)) (de_int))))) (da_nil))))) (cnt_cons (cnt_cons (cnt_cons (cnt_cons (cnt_nil)))))))))⟩⟩, fun _ _ _ _ _ _ us hl => match us, hl with | [_, _], _ => rfl⟩
def b_led : DL.Env → M Unit (Fl × DL.Env) := sSeq (sSet 2 (mCalP (aCons (vr 0) (aCons (vr 1) (aNil))) m_first_bad_step))
    (sSeq (sIf (tsb (o2 dNotN (vr 2) (cst .non))) (sStk) (sNx))
    (sRet (mCalP (aCons (vr 0) (aCons (vr 1) (aNil))) m_span_of)))
def m_led : List D → M Unit D := runB 3 b_led
theorem cal_led (T : Txt K mg) : Callee P w K mg base "led" s_led ["problem", "walk"] 5 (SpD K mg Pure 2 false m_led) := by
  have c_first_bad_step := cal_first_bad_step (P := P) (w := w) (base := base) T
  have c_span_of := cal_span_of (P := P) (w := w) (base := base) T
  obtain ⟨f, fd, hf, F⟩ := T.f_led
  exact ⟨⟨f, fd, hf, F, fn_mk (k := 4) F sc_led (fun h => by cases h) fun cdv A outer s H E md Z hmd AM tk => ⟨_,
    (dss_cons (DS.to (own' := []) (ds_set (i := 2) sc_led.nd (de_callP (fr := false) AM tk c_first_bad_step (by decide) (da_cons (de_var (i := 0)) (da_cons (de_var (i := 1)) (da_nil))) (cnt_cons (cnt_cons (cnt_nil))))))
      (dss_cons (ds_if (own' := []) (dt_cmp op_notN d_notN (de_var (i := 2)) (de_non) (nomark _)) (dss_one (ds_stk)) (dss_nil))
      (dss_one (ds_ret (de_callP (fr := false) AM tk c_span_of (by decide) (da_cons (de_var (i := 0)) (da_cons (de_var (i := 1)) (da_nil))) (cnt_cons (cnt_cons (cnt_nil))))))))⟩⟩, fun _ _ _ _ _ _ us hl => match us, hl with | [_, _], _ => rfl⟩
def b_law_begun : DL.Env → M Unit (Fl × DL.Env) := sSeq (sSet 1 (mCmp (iScr (vr 0)) (gSet 2) (tsb (o2 dGe (vr 2) (o2 dPow (cst (.int 10)) (cst (.int 18))))) (vr 2) [2]))
    (sRet (mDisp (ppCons (cst (.str "great")) (vr 1) (ppCons (cst (.str "cells")) (o2 dCat (mCmp (iScr (vr 0)) (gSet 2) (yes) (o2 dMod (o1 dInt (vr 2)) (cst (.int 2147483629))) [2]) (mLst (aCons (cst (.int 77)) (aNil)))) (ppCons (cst (.str "rest")) (cst (.int 0)) (ppCons (cst (.str "turn")) (cst (.int 0)) (ppNil)))))))
def m_law_begun : List D → M Unit D := runB 3 b_law_begun
theorem cal_law_begun (T : Txt K mg) : Callee P w K mg base "_law_begun" s_law_begun ["_law_script"] 1 (SpD K mg Pure 1 true m_law_begun) := by
  obtain ⟨f, fd, hf, F⟩ := T.f_law_begun
  exact ⟨⟨f, fd, hf, F, fn_mk (k := 0) F sc_law_begun (fun _ => nx_seq (nx_ret)) fun cdv A outer s H E md Z hmd AM tk => ⟨_,
    (dss_cons (DS.to (own' := []) (ds_lc (i := 1) AM sc_law_begun.nd (oc := [("_law_cell", 2)]) (di_scr AM (de_var (i := 0))) (blkOk_by (own := [("_law_cell", 2)]) (N := N_law_begun) (sc := defScope s_law_begun) (by decide +kernel)) (fun _ _ _ _ _ => dg_name (i := 2) sc_law_begun.nd) (fun _ _ _ _ _ => dts_one (DT.canon (dt_cmp c_ge d_ge (de_var (i := 2)) (de_pow (de_int) (de_int)) (nomark _)))) (fun _ _ _ _ _ => DE.canon (de_var (i := 2))) (sw_true rfl rfl rfl (by decide +kernel))))
      (dss_one (ds_retF (de_disp (dpp_cons (de_str) (de_var (i := 1)) (dpp_cons (de_str) (DE.frz (de_cat (de_lc AM sc_law_begun.nd (oc := [("_law_cell", 2)]) (di_scr AM (de_var (i := 0))) (blkOk_by (own := [("_law_cell", 2)]) (N := N_law_begun) (sc := defScope s_law_begun) (by decide +kernel)) (fun _ _ _ _ _ => dg_name (i := 2) sc_law_begun.nd) (fun _ _ _ _ _ => dts_nil) (fun _ _ _ _ _ => DE.canon (de_mod (de_toint (by rfl) T.b_int (de_var (i := 2))) (de_int)))) (de_lst (da_cons (de_int) (da_nil)) (cnt_cons (cnt_nil))))) (dpp_cons (de_str) (de_int) (dpp_cons (de_str) (de_int) (dpp_nil)))))))))⟩⟩, fun _ _ _ _ _ _ us hl => match us, hl with | [_], _ => rfl⟩
def b_law_mixed : DL.Env → M BgS (Fl × DL.Env) := sSeq (sSet 1 (o2 dAdd (sGet false 0) (cst (.int 1))))
    (sSeq (sPutB false 0 (vr 1))
    (sSeq (sSet 2 (cst (.int 0)))
    (sSeq (sFor (iSeq (mLst (aCons (cst (.int 2147483629)) (aCons (cst (.int 2147483587)) (aCons (cst (.int 2147483579)) (aCons (cst (.int 2147483563)) (aNil))))))) (gSet 3) (sSeq (sSet 4 (o2 dAdd (o2 dMulS (cst (.int 104729)) (vr 1)) (o2 dDiv (vr 3) (cst (.int 7)))))
    (sSeq (sFor (iCells 0) (gSet 5) (sSet 4 (o2 dMod (o1 dInt (o2 dAdd (o2 dAdd (o2 dMulS (vr 4) (cst (.int 48271))) (vr 5)) (vr 1))) (vr 3))))
    (sSet 2 (o2 dAdd (o2 dMulS (vr 2) (cst (.int 2147483647))) (o2 dMod (o1 dInt (o2 dPow (vr 4) (cst (.int 5)))) (vr 3)))))))
    (sRet (vr 2)))))
def m_law_mixed : List D → M BgS D := runB 6 b_law_mixed
theorem cal_law_mixed (T : Txt K mg) : Callee P w K mg base "_law_mixed" s_law_mixed ["_law_draw"] 1 (SpD K mg Begun 1 false m_law_mixed) := by
  obtain ⟨f, fd, hf, F⟩ := T.f_law_mixed
  exact ⟨⟨f, fd, hf, F, fn_mk (k := 0) F sc_law_mixed (fun h => by cases h) fun cdv A outer s H E md Z hmd AM tk => ⟨_,
    (dss_cons (DS.to (own' := []) (ds_set (i := 1) sc_law_mixed.nd (de_add AM.K (de_sget false (i := 0) AM hmd) (de_int))))
      (dss_cons (ds_sput false (i := 0) AM hmd (de_var (i := 1)))
      (dss_cons (DS.to (own' := []) (ds_set (i := 2) sc_law_mixed.nd (de_int)))
      (dss_cons (ds_for AM (di_seq AM (DE.frz (de_lst (da_cons (de_int) (da_cons (de_int) (da_cons (de_int) (da_cons (de_int) (da_nil))))) (cnt_cons (cnt_cons (cnt_cons (cnt_cons (cnt_nil)))))))) (dg_name (i := 3) sc_law_mixed.nd) (dss_cons (DS.to (own' := []) (ds_set (i := 4) sc_law_mixed.nd (de_add AM.K (de_mulS (de_int) (de_var (i := 1))) (de_div (de_var (i := 3)) (de_int)))))
      (dss_cons (ds_for AM (di_cells (i := 0) AM hmd) (dg_name (i := 5) sc_law_mixed.nd) (dss_one (DS.to (own' := []) (ds_set (i := 4) sc_law_mixed.nd (de_mod (de_toint (by rfl) T.b_int (de_add AM.K (de_add AM.K (de_mulS (de_var (i := 4)) (de_int)) (de_var (i := 5))) (de_var (i := 1)))) (de_var (i := 3)))))))
      (dss_one (DS.to (own' := []) (ds_set (i := 2) sc_law_mixed.nd (de_add AM.K (de_mulS (de_var (i := 2)) (de_int)) (de_mod (de_toint (by rfl) T.b_int (de_pow (de_var (i := 4)) (de_int))) (de_var (i := 3))))))))))
      (dss_one (ds_ret (de_var (i := 2))))))))⟩⟩, fun _ _ _ _ _ _ us hl => match us, hl with | [_], _ => rfl⟩
def b_law_take : DL.Env → M BgS (Fl × DL.Env) := sSeq (sIf (tsb (o2 dEq (sGet true 0) (cst (.int 0)))) (sPutB true 0 (ife (sHas 0) (sPop 0) (mCal (aCons (vr 0) (aNil)) m_law_mixed))) (sNx))
    (sSeq (sSet 2 (o2 dMod (o1 dInt (sGet true 0)) (vr 1)))
    (sSeq (sPutB true 0 (o2 dDiv (o1 dInt (sGet true 0)) (vr 1)))
    (sRet (vr 2))))
def m_law_take : List D → M BgS D := runB 3 b_law_take
theorem cal_law_take (T : Txt K mg) : Callee P w K mg base "_law_take" s_law_take ["_law_draw", "_law_many"] 2 (SpD K mg Begun 2 false m_law_take) := by
  have c_law_mixed := cal_law_mixed (P := P) (w := w) (base := base) T
  obtain ⟨f, fd, hf, F⟩ := T.f_law_take
  exact ⟨⟨f, fd, hf, F, fn_mk (k := 1) F sc_law_take (fun h => by cases h) fun cdv A outer s H E md Z hmd AM tk => ⟨_,
    (dss_cons (ds_if (own' := []) (dt_cmp (op_eqX AM) (d_eq AM.K) (de_sget true (i := 0) AM hmd) (de_int) (nomark _)) (dss_one (ds_sput true (i := 0) AM hmd (de_if (dt_great (i := 0) AM hmd) (de_pop0 (i := 0) AM hmd) (de_call (fr := false) AM tk c_law_mixed (by decide) hmd (da_cons (de_var (i := 0)) (da_nil)) (cnt_cons (cnt_nil)))))) (dss_nil))
      (dss_cons (DS.to (own' := []) (ds_set (i := 2) sc_law_take.nd (de_mod (de_toint (by rfl) T.b_int (de_sget true (i := 0) AM hmd)) (de_var (i := 1)))))
      (dss_cons (ds_sput true (i := 0) AM hmd (de_div (de_toint (by rfl) T.b_int (de_sget true (i := 0) AM hmd)) (de_var (i := 1))))
      (dss_one (ds_ret (de_var (i := 2)))))))⟩⟩, fun _ _ _ _ _ _ us hl => match us, hl with | [_, _], _ => rfl⟩
def b_law_pick : DL.Env → M BgS (Fl × DL.Env) := sRet (o2 dSubs (vr 1) (mCal (aCons (vr 0) (aCons (o1 dLen (vr 1)) (aNil))) m_law_take))
def m_law_pick : List D → M BgS D := runB 2 b_law_pick
theorem cal_law_pick (T : Txt K mg) : Callee P w K mg base "_law_pick" s_law_pick ["_law_draw", "_law_some"] 3 (SpD K mg Begun 2 false m_law_pick) := by
  have c_law_take := cal_law_take (P := P) (w := w) (base := base) T
  obtain ⟨f, fd, hf, F⟩ := T.f_law_pick
  exact ⟨⟨f, fd, hf, F, fn_mk (k := 2) F sc_law_pick (fun h => by cases h) fun cdv A outer s H E md Z hmd AM tk => ⟨_,
    (dss_one (ds_ret (de_subs AM (de_var (i := 1)) (de_call (fr := false) AM tk c_law_take (by decide) hmd (da_cons (de_var (i := 0)) (da_cons (de_len AM (by rfl) T.b_len (de_var (i := 1))) (da_nil))) (cnt_cons (cnt_cons (cnt_nil)))))))⟩⟩, fun _ _ _ _ _ _ us hl => match us, hl with | [_, _], _ => rfl⟩
def b_law_word : DL.Env → M BgS (Fl × DL.Env) := sSeq (sSet 2 (cst (.str "abcdefghijklmnopqrstuvwxyz")))
    (sSeq (sSet 3 (mCal (aCons (vr 0) (aCons (mLst (aCons (cst (.str "a")) (aCons (cst (.str "b")) (aCons (cst (.str "ab")) (aCons (cst (.str "z")) (aCons (cst (.str "out")) (aCons (cst (.str "back")) (aCons (cst (.str "on")) (aCons (cst (.str "far")) (aCons (cst (.str "meet")) (aCons (cst (.str "wish")) (aCons (cst (.str "line")) (aCons (cst (.str "none")) (aNil)))))))))))))) (aNil))) m_law_pick))
    (sSeq (sIf (tsb (o2 dEq (mCal (aCons (vr 0) (aCons (cst (.int 4)) (aNil))) m_law_take) (cst (.int 0)))) (sSet 3 (joi (cst (.str "")) (mCmp (iRg1 (o2 dAdd (cst (.int 1)) (mCal (aCons (vr 0) (aCons (cst (.int 8)) (aNil))) m_law_take))) (gSet 5) (yes) (mCal (aCons (vr 0) (aCons (vr 2) (aNil))) m_law_pick) [5]))) (sNx))
    (sSeq (sSet 4 (o2 dCat (mLst (aCons (vr 3) (aNil))) (mCmp (iSeq (vr 2)) (gSet 6) (yes) (o2 dAdd (slc dSlc (vr 3) (pNone) (pSome (cst (.int 7)))) (vr 6)) [6])))
    (sRet (o2 dSubs (mCmp (iSeq (vr 4)) (gSet 7) (tsb (o2 dNotIn (vr 7) (vr 1))) (vr 7) [7]) (cst (.int 0)))))))
def m_law_word : List D → M BgS D := runB 8 b_law_word
theorem cal_law_word (T : Txt K mg) : Callee P w K mg base "_law_word" s_law_word ["_law_draw", "_law_used"] 4 (SpD K mg Begun 2 false m_law_word) := by
  have c_law_take := cal_law_take (P := P) (w := w) (base := base) T
  have c_law_pick := cal_law_pick (P := P) (w := w) (base := base) T
  obtain ⟨f, fd, hf, F⟩ := T.f_law_word
  exact ⟨⟨f, fd, hf, F, fn_mk (k := 3) F sc_law_word (fun h => by cases h) fun cdv A outer s H E md Z hmd AM tk => ⟨_,
    (dss_cons (DS.to (own' := []) (ds_set (i := 2) sc_law_word.nd (de_str)))
      (dss_cons (DS.to (own' := []) (ds_set (i := 3) sc_law_word.nd (de_call (fr := false) AM tk c_law_pick (by decide) hmd (da_cons (de_var (i := 0)) (da_cons (DE.frz (de_lst (da_cons (de_str) (da_cons (de_str) (da_cons (de_str) (da_cons (de_str) (da_cons (de_str) (da_cons (de_str) (da_cons (de_str) (da_cons (de_str) (da_cons (de_str) (da_cons (de_str) (da_cons (de_str) (da_cons (de_str) (da_nil))))))))))))) (cnt_cons (cnt_cons (cnt_cons (cnt_cons (cnt_cons (cnt_cons (cnt_cons (cnt_cons (cnt_cons (cnt_cons (cnt_cons (cnt_cons (cnt_nil))))))))))))))) (da_nil))) (cnt_cons (cnt_cons (cnt_nil))))))
      (dss_cons (ds_if (own' := []) (dt_cmp (op_eqX AM) (d_eq AM.K) (de_call (fr := false) AM tk c_law_take (by decide) hmd (da_cons (de_var (i := 0)) (da_cons (de_int) (da_nil))) (cnt_cons (cnt_cons (cnt_nil)))) (de_int) (nomark _)) (dss_one (DS.to (own' := []) (ds_set (i := 3) sc_law_word.nd (de_join (de_str) (de_lc AM sc_law_word.nd (oc := [("_law_turn", 5)]) (di_rng1 (by rfl) T.b_range (de_add AM.K (de_int) (de_call (fr := false) AM tk c_law_take (by decide) hmd (da_cons (de_var (i := 0)) (da_cons (de_int) (da_nil))) (cnt_cons (cnt_cons (cnt_nil)))))) (blkOk_by (own := [("_law_turn", 5)]) (N := N_law_word) (sc := defScope s_law_word) (by decide +kernel)) (fun _ _ _ _ _ => dg_name (i := 5) sc_law_word.nd) (fun _ _ _ _ _ => dts_nil) (fun _ _ _ _ _ => DE.canon (de_call (fr := false) (AM.blk) takesN c_law_pick (by decide) hmd (da_cons (de_var (i := 0)) (da_cons (de_var (i := 2)) (da_nil))) (cnt_cons (cnt_cons (cnt_nil)))))))))) (dss_nil))
      (dss_cons (DS.to (own' := []) (ds_set (i := 4) sc_law_word.nd (DE.frz (de_cat (de_lst (da_cons (de_var (i := 3)) (da_nil)) (cnt_cons (cnt_nil))) (de_lc AM sc_law_word.nd (oc := [("_law_letter", 6)]) (di_seq AM (de_var (i := 2))) (blkOk_by (own := [("_law_letter", 6)]) (N := N_law_word) (sc := defScope s_law_word) (by decide +kernel)) (fun _ _ _ _ _ => dg_name (i := 6) sc_law_word.nd) (fun _ _ _ _ _ => dts_nil) (fun _ _ _ _ _ => DE.canon (de_add (AM.blk).K (de_slc (AM.blk) (de_var (i := 3)) (dp_none) (dp_some (de_int))) (de_var (i := 6)))))))))
      (dss_one (ds_ret (de_subs AM (de_lc AM sc_law_word.nd (oc := [("_law_one", 7)]) (di_seq AM (de_var (i := 4))) (blkOk_by (own := [("_law_one", 7)]) (N := N_law_word) (sc := defScope s_law_word) (by decide +kernel)) (fun _ _ _ _ _ => dg_name (i := 7) sc_law_word.nd) (fun _ _ _ _ _ => dts_one (DT.canon (dt_notin (AM.blk) (de_var (i := 7)) (de_var (i := 1))))) (fun _ _ _ _ _ => DE.canon (de_var (i := 7)))) (de_int))))))))⟩⟩, fun _ _ _ _ _ _ us hl => match us, hl with | [_, _], _ => rfl⟩
def b_law_words : DL.Env → M BgS (Fl × DL.Env) := sSeq (sSet 2 (mLst (aNil)))
    (sSeq (sFor (iRg1 (vr 1)) (gSet 3) (sApp 2 (xOf (flt (mCal (aCons (vr 0) (aCons (vr 2) (aNil))) m_law_word)))))
    (sRet (vr 2)))
def m_law_words : List D → M BgS D := runB 4 b_law_words
theorem cal_law_words (T : Txt K mg) : Callee P w K mg base "_law_words" s_law_words ["_law_draw", "_law_many"] 5 (SpD K mg Begun 2 false m_law_words) := by
  have c_law_word := cal_law_word (P := P) (w := w) (base := base) T
  obtain ⟨f, fd, hf, F⟩ := T.f_law_words
  exact ⟨⟨f, fd, hf, F, fn_mk (k := 4) F sc_law_words (fun h => by cases h) fun cdv A outer s H E md Z hmd AM tk => ⟨_,
    (dss_cons (DS.to (own' := [2]) (ds_setO (i := 2) sc_law_words.nd (de_lst (da_nil) (cnt_nil))))
      (dss_cons (ds_for AM (di_rng1 (by rfl) T.b_range (de_var (i := 1))) (dg_name (i := 3) sc_law_words.nd) (dss_one (ds_app (i := 2) (DE.dx (de_lend (de_call (fr := false) AM tk c_law_word (by decide) hmd (da_cons (de_var (i := 0)) (da_cons (de_var (i := 2)) (da_nil))) (cnt_cons (cnt_cons (cnt_nil)))))))))
      (dss_one (DS.pre (own1 := []) (ds_ret (de_var (i := 2)))))))⟩⟩, fun _ _ _ _ _ _ us hl => match us, hl with | [_, _], _ => rfl⟩
def b_law_signed : DL.Env → M BgS (Fl × DL.Env) := sRet (ife (tsb (o2 dEq (mCal (aCons (vr 0) (aCons (cst (.int 7)) (aNil))) m_law_take) (cst (.int 0)))) (mTup (aCons (cst (.str "")) (aCons (cst (.int 1)) (aNil)))) (mTup (aCons (mCal (aCons (vr 0) (aCons (vr 1) (aNil))) m_law_pick) (aCons (mCal (aCons (vr 0) (aCons (mLst (aCons (cst (.int 1)) (aCons (o1 dNeg (cst (.int 1))) (aNil)))) (aNil))) m_law_pick) (aNil)))))
def m_law_signed : List D → M BgS D := runB 2 b_law_signed
theorem cal_law_signed (T : Txt K mg) : Callee P w K mg base "_law_signed" s_law_signed ["_law_draw", "_law_lines"] 4 (SpD K mg Begun 2 false m_law_signed) := by
  have c_law_take := cal_law_take (P := P) (w := w) (base := base) T
  have c_law_pick := cal_law_pick (P := P) (w := w) (base := base) T
  obtain ⟨f, fd, hf, F⟩ := T.f_law_signed
  exact ⟨⟨f, fd, hf, F, fn_mk (k := 3) F sc_law_signed (fun h => by cases h) fun cdv A outer s H E md Z hmd AM tk => ⟨_,
    (dss_one (ds_ret (de_if (dt_cmp (op_eqX AM) (d_eq AM.K) (de_call (fr := false) AM tk c_law_take (by decide) hmd (da_cons (de_var (i := 0)) (da_cons (de_int) (da_nil))) (cnt_cons (cnt_cons (cnt_nil)))) (de_int) (nomark _)) (de_tup (da_cons (de_str) (da_cons (de_int) (da_nil))) (cnt_cons (cnt_cons (cnt_nil)))) (de_tup (da_cons (de_call (fr := false) AM tk c_law_pick (by decide) hmd (da_cons (de_var (i := 0)) (da_cons (de_var (i := 1)) (da_nil))) (cnt_cons (cnt_cons (cnt_nil)))) (da_cons (de_call (fr := false) AM tk c_law_pick (by decide) hmd (da_cons (de_var (i := 0)) (da_cons (DE.frz (de_lst (da_cons (de_int) (da_cons (de_neg (de_int)) (da_nil))) (cnt_cons (cnt_cons (cnt_nil))))) (da_nil))) (cnt_cons (cnt_cons (cnt_nil)))) (da_nil))) (cnt_cons (cnt_cons (cnt_nil)))))))⟩⟩, fun _ _ _ _ _ _ us hl => match us, hl with | [_, _], _ => rfl⟩
def b_law_row : DL.Env → M BgS (Fl × DL.Env) := sSeq (sSet 3 (mCal (aCons (vr 0) (aCons (vr 2) (aNil))) m_law_signed))
    (sSeq (sSet 4 (o2 dCat (o2 dCat (mCmp (iSeq (vr 2)) (gSet 7) (yes) (mTup (aCons (vr 7) (aCons (cst (.int 1)) (aNil)))) [7]) (mCmp (iSeq (vr 2)) (gSet 7) (yes) (mTup (aCons (vr 7) (aCons (o1 dNeg (cst (.int 1))) (aNil)))) [7])) (mLst (aCons (mTup (aCons (cst (.str "")) (aCons (cst (.int 1)) (aNil)))) (aNil)))))
    (sSeq (sSet 5 (mCal (aCons (vr 0) (aCons (mCmp (iSeq (vr 4)) (gSet 8) (tsb (o2 dNe (vr 8) (vr 3))) (vr 8) [8]) (aNil))) m_law_pick))
    (sSeq (sSet 6 (o2 dSub (mCal (aCons (vr 0) (aCons (o2 dAdd (o2 dMulS (cst (.int 4)) (vr 1)) (cst (.int 1))) (aNil))) m_law_take) (o2 dMulS (cst (.int 2)) (vr 1))))
    (sRet (mTup (aCons (vr 3) (aCons (vr 5) (aCons (vr 6) (aCons (o2 dAdd (vr 6) (mCal (aCons (vr 0) (aCons (mLst (aCons (cst (.int 0)) (aCons (cst (.int 0)) (aCons (cst (.int 1)) (aCons (mCal (aCons (vr 0) (aCons (vr 1) (aNil))) m_law_take) (aNil)))))) (aNil))) m_law_pick)) (aNil))))))))))
def m_law_row : List D → M BgS D := runB 9 b_law_row
theorem cal_law_row (T : Txt K mg) : Callee P w K mg base "_law_row" s_law_row ["_law_draw", "_law_period", "_law_lines"] 5 (SpD K mg Begun 3 false m_law_row) := by
  have c_law_take := cal_law_take (P := P) (w := w) (base := base) T
  have c_law_pick := cal_law_pick (P := P) (w := w) (base := base) T
  have c_law_signed := cal_law_signed (P := P) (w := w) (base := base) T
  obtain ⟨f, fd, hf, F⟩ := T.f_law_row
  exact ⟨⟨f, fd, hf, F, fn_mk (k := 4) F sc_law_row (fun h => by cases h) fun cdv A outer s H E md Z hmd AM tk => ⟨_,
    (dss_cons (DS.to (own' := []) (ds_set (i := 3) sc_law_row.nd (de_call (fr := false) AM tk c_law_signed (by decide) hmd (da_cons (de_var (i := 0)) (da_cons (de_var (i := 2)) (da_nil))) (cnt_cons (cnt_cons (cnt_nil))))))
      (dss_cons (DS.to (own' := []) (ds_set (i := 4) sc_law_row.nd (DE.frz (de_cat (de_cat (de_lc AM sc_law_row.nd (oc := [("_law_line", 7)]) (di_seq AM (de_var (i := 2))) (blkOk_by (own := [("_law_line", 7)]) (N := N_law_row) (sc := defScope s_law_row) (by decide +kernel)) (fun _ _ _ _ _ => dg_name (i := 7) sc_law_row.nd) (fun _ _ _ _ _ => dts_nil) (fun _ _ _ _ _ => DE.canon (de_tup (da_cons (de_var (i := 7)) (da_cons (de_int) (da_nil))) (cnt_cons (cnt_cons (cnt_nil)))))) (de_lc AM sc_law_row.nd (oc := [("_law_line", 7)]) (di_seq AM (de_var (i := 2))) (blkOk_by (own := [("_law_line", 7)]) (N := N_law_row) (sc := defScope s_law_row) (by decide +kernel)) (fun _ _ _ _ _ => dg_name (i := 7) sc_law_row.nd) (fun _ _ _ _ _ => dts_nil) (fun _ _ _ _ _ => DE.canon (de_tup (da_cons (de_var (i := 7)) (da_cons (de_neg (de_int)) (da_nil))) (cnt_cons (cnt_cons (cnt_nil))))))) (de_lst (da_cons (de_tup (da_cons (de_str) (da_cons (de_int) (da_nil))) (cnt_cons (cnt_cons (cnt_nil)))) (da_nil)) (cnt_cons (cnt_nil)))))))
      (dss_cons (DS.to (own' := []) (ds_set (i := 5) sc_law_row.nd (de_call (fr := false) AM tk c_law_pick (by decide) hmd (da_cons (de_var (i := 0)) (da_cons (DE.frz (de_lc AM sc_law_row.nd (oc := [("_law_one", 8)]) (di_seq AM (de_var (i := 4))) (blkOk_by (own := [("_law_one", 8)]) (N := N_law_row) (sc := defScope s_law_row) (by decide +kernel)) (fun _ _ _ _ _ => dg_name (i := 8) sc_law_row.nd) (fun _ _ _ _ _ => dts_one (DT.canon (dt_cmp (op_neX (AM.blk)) (d_ne (AM.blk).K) (de_var (i := 8)) (de_var (i := 3)) (nomark _)))) (fun _ _ _ _ _ => DE.canon (de_var (i := 8))))) (da_nil))) (cnt_cons (cnt_cons (cnt_nil))))))
      (dss_cons (DS.to (own' := []) (ds_set (i := 6) sc_law_row.nd (de_sub (de_call (fr := false) AM tk c_law_take (by decide) hmd (da_cons (de_var (i := 0)) (da_cons (de_add AM.K (de_mulS (de_int) (de_var (i := 1))) (de_int)) (da_nil))) (cnt_cons (cnt_cons (cnt_nil)))) (de_mulS (de_int) (de_var (i := 1))))))
      (dss_one (ds_ret (de_tup (da_cons (de_var (i := 3)) (da_cons (de_var (i := 5)) (da_cons (de_var (i := 6)) (da_cons (de_add AM.K (de_var (i := 6)) (de_call (fr := false) AM tk c_law_pick (by decide) hmd (da_cons (de_var (i := 0)) (da_cons (DE.frz (de_lst (da_cons (de_int) (da_cons (de_int) (da_cons (de_int) (da_cons (de_call (fr := false) AM tk c_law_take (by decide) hmd (da_cons (de_var (i := 0)) (da_cons (de_var (i := 1)) (da_nil))) (cnt_cons (cnt_cons (cnt_nil)))) (da_nil))))) (cnt_cons (cnt_cons (cnt_cons (cnt_cons (cnt_nil))))))) (da_nil))) (cnt_cons (cnt_cons (cnt_nil))))) (da_nil))))) (cnt_cons (cnt_cons (cnt_cons (cnt_cons (cnt_nil))))))))))))⟩⟩, fun _ _ _ _ _ _ us hl => match us, hl with | [_, _, _], _ => rfl⟩
def b_law_case : DL.Env → M BgS (Fl × DL.Env) := sSeq (sSet 3 (mDisp (ppCons (cst (.str "period")) (mCal (aCons (vr 0) (aCons (mLst (aCons (cst (.int 4)) (aCons (cst (.int 6)) (aCons (cst (.int 8)) (aCons (cst (.int 8)) (aCons (cst (.int 10)) (aCons (cst (.int 12)) (aCons (cst (.int 60)) (aNil))))))))) (aNil))) m_law_pick) (ppNil))))
    (sSeq (sSt 3 (o1 dTuple (o1 dSorted (mCal (aCons (vr 0) (aCons (o2 dAdd (cst (.int 1)) (mCal (aCons (vr 0) (aCons (vr 1) (aNil))) m_law_take)) (aNil))) m_law_words))) (cst (.str "lines")))
    (sSeq (sSet 4 (mCal (aCons (vr 0) (aCons (o2 dAdd (vr 2) (cst (.int 1))) (aNil))) m_law_take))
    (sSeq (sSt 3 (mCmp (iRg1 (vr 4)) (gSet 5) (yes) (mCal (aCons (vr 0) (aCons (o2 dSubs (vr 3) (cst (.str "period"))) (aCons (o2 dSubs (vr 3) (cst (.str "lines"))) (aNil)))) m_law_row) [5]) (cst (.str "rows")))
    (sRet (vr 3)))))
def m_law_case : List D → M BgS D := runB 6 b_law_case
theorem cal_law_case (T : Txt K mg) : Callee P w K mg base "_law_case" s_law_case ["_law_draw", "_law_lines", "_law_rows"] 6 (SpD K mg Begun 3 false m_law_case) := by
  have c_law_take := cal_law_take (P := P) (w := w) (base := base) T
  have c_law_pick := cal_law_pick (P := P) (w := w) (base := base) T
  have c_law_words := cal_law_words (P := P) (w := w) (base := base) T
  have c_law_row := cal_law_row (P := P) (w := w) (base := base) T
  obtain ⟨f, fd, hf, F⟩ := T.f_law_case
  exact ⟨⟨f, fd, hf, F, fn_mk (k := 5) F sc_law_case (fun h => by cases h) fun cdv A outer s H E md Z hmd AM tk => ⟨_,
    (dss_cons (DS.to (own' := [3]) (ds_setO (i := 3) sc_law_case.nd (de_disp (dpp_cons (de_str) (de_call (fr := false) AM tk c_law_pick (by decide) hmd (da_cons (de_var (i := 0)) (da_cons (DE.frz (de_lst (da_cons (de_int) (da_cons (de_int) (da_cons (de_int) (da_cons (de_int) (da_cons (de_int) (da_cons (de_int) (da_cons (de_int) (da_nil)))))))) (cnt_cons (cnt_cons (cnt_cons (cnt_cons (cnt_cons (cnt_cons (cnt_cons (cnt_nil)))))))))) (da_nil))) (cnt_cons (cnt_cons (cnt_nil)))) (dpp_nil)))))
      (dss_cons (ds_st (i := 3) AM (de_tuple AM (by rfl) T.b_tuple (de_sorted AM (by rfl) T.b_sorted (de_call (fr := false) AM tk c_law_words (by decide) hmd (da_cons (de_var (i := 0)) (da_cons (de_add AM.K (de_int) (de_call (fr := false) AM tk c_law_take (by decide) hmd (da_cons (de_var (i := 0)) (da_cons (de_var (i := 1)) (da_nil))) (cnt_cons (cnt_cons (cnt_nil))))) (da_nil))) (cnt_cons (cnt_cons (cnt_nil)))))) (de_str))
      (dss_cons (DS.to (own' := [3]) (ds_set (i := 4) sc_law_case.nd (de_call (fr := false) AM tk c_law_take (by decide) hmd (da_cons (de_var (i := 0)) (da_cons (de_add AM.K (de_var (i := 2)) (de_int)) (da_nil))) (cnt_cons (cnt_cons (cnt_nil))))))
      (dss_cons (ds_st (i := 3) AM (DE.frz (de_lc AM sc_law_case.nd (oc := [("_law_turn", 5)]) (di_rng1 (by rfl) T.b_range (de_var (i := 4))) (blkOk_by (own := [("_law_turn", 5)]) (N := N_law_case) (sc := defScope s_law_case) (by decide +kernel)) (fun _ _ _ _ _ => dg_name (i := 5) sc_law_case.nd) (fun _ _ _ _ _ => dts_nil) (fun _ _ _ _ _ => DE.canon (de_call (fr := false) (AM.blk) takesN c_law_row (by decide) hmd (da_cons (de_var (i := 0)) (da_cons (de_subs (AM.blk) (de_varO (i := 3)) (de_str)) (da_cons (de_subs (AM.blk) (de_varO (i := 3)) (de_str)) (da_nil)))) (cnt_cons (cnt_cons (cnt_cons (cnt_nil)))))))) (de_str))
      (dss_one (DS.pre (own1 := []) (ds_ret (de_var (i := 3)))))))))⟩⟩, fun _ _ _ _ _ _ us hl => match us, hl with | [_, _, _], _ => rfl⟩
def b_law_problem : DL.Env → M Unit (Fl × DL.Env) := sRet (mMk (aCons (o2 dSubs (vr 0) (cst (.str "period"))) (aCons (o2 dSubs (vr 0) (cst (.str "lines"))) (aCons (o1 dTuple (o2 dSubs (vr 0) (cst (.str "rows")))) (aNil)))) m_Problem_init)
def m_law_problem : List D → M Unit D := runB 1 b_law_problem
theorem cal_law_problem (T : Txt K mg) : Callee P w K mg base "_law_problem" s_law_problem ["_law_case_here"] 6 (SpD K mg Pure 1 false m_law_problem) := by
  have c_Problem := mk_Problem (P := P) (w := w) (base := base) T
  obtain ⟨f, fd, hf, F⟩ := T.f_law_problem
  exact ⟨⟨f, fd, hf, F, fn_mk (k := 5) F sc_law_problem (fun h => by cases h) fun cdv A outer s H E md Z hmd AM tk => ⟨_,
    (dss_one (ds_ret (DE.frz (de_make AM tk c_Problem (by decide) (da_cons (de_subs AM (de_var (i := 0)) (de_str)) (da_cons (de_subs AM (de_var (i := 0)) (de_str)) (da_cons (de_tuple AM (by rfl) T.b_tuple (de_subs AM (de_var (i := 0)) (de_str))) (da_nil)))) (cnt_cons (cnt_cons (cnt_cons (cnt_nil))))))))⟩⟩, fun _ _ _ _ _ _ us hl => match us, hl with | [_], _ => rfl⟩
def b_law_other_side : DL.Env → M Unit (Fl × DL.Env) := sRet (ife (tsb (o2 dEq (o2 dSubs (vr 0) (cst (.int 0))) (cst (.str "")))) (vr 0) (mTup (aCons (o2 dSubs (vr 0) (cst (.int 0))) (aCons (o2 dSub (cst (.int 0)) (o2 dSubs (vr 0) (cst (.int 1)))) (aNil)))))
def m_law_other_side : List D → M Unit D := runB 1 b_law_other_side
theorem cal_law_other_side (T : Txt K mg) : Callee P w K mg base "_law_other_side" s_law_other_side ["_law_signed_here"] 1 (SpD K mg Pure 1 false m_law_other_side) := by
  obtain ⟨f, fd, hf, F⟩ := T.f_law_other_side
  exact ⟨⟨f, fd, hf, F, fn_mk (k := 0) F sc_law_other_side (fun h => by cases h) fun cdv A outer s H E md Z hmd AM tk => ⟨_,
    (dss_one (ds_ret (de_if (dt_cmp (op_eqX AM) (d_eq AM.K) (de_subs AM (de_var (i := 0)) (de_int)) (de_str) (nomark _)) (de_var (i := 0)) (de_tup (da_cons (de_subs AM (de_var (i := 0)) (de_int)) (da_cons (de_sub (de_int) (de_subs AM (de_var (i := 0)) (de_int))) (da_nil))) (cnt_cons (cnt_cons (cnt_nil)))))))⟩⟩, fun _ _ _ _ _ _ us hl => match us, hl with | [_], _ => rfl⟩
def b_law_due : DL.Env → M Unit (Fl × DL.Env) := sSeq (sAsg (o2 dSubs (o2 dSubs (vr 0) (cst (.str "rows"))) (vr 1)) (gTupD 4 (gsCons (gSet 3) (gsCons (gSet 4) (gsCons (gSet 5) (gsCons (gSet 6) (gsNil)))))))
    (sSeq (sIf (tsb (o2 dEq (vr 2) (cst (.str "on")))) (sRet (mTup (aCons (vr 3) (aCons (vr 4) (aCons (vr 5) (aCons (vr 6) (aNil))))))) (sNx))
    (sSeq (sIf (tsb (o2 dEq (vr 2) (cst (.str "back")))) (sRet (mTup (aCons (vr 4) (aCons (vr 3) (aCons (o1 dNeg (vr 6)) (aCons (o1 dNeg (vr 5)) (aNil))))))) (sNx))
    (sSeq (sIf (tsb (o2 dEq (vr 2) (cst (.str "image")))) (sRet (mTup (aCons (mCalP (aCons (vr 4) (aNil)) m_law_other_side) (aCons (mCalP (aCons (vr 3) (aNil)) m_law_other_side) (aCons (vr 5) (aCons (vr 6) (aNil))))))) (sNx))
    (sRet (mTup (aCons (mCalP (aCons (vr 3) (aNil)) m_law_other_side) (aCons (mCalP (aCons (vr 4) (aNil)) m_law_other_side) (aCons (o1 dNeg (vr 6)) (aCons (o1 dNeg (vr 5)) (aNil))))))))))
def m_law_due : List D → M Unit D := runB 7 b_law_due
theorem cal_law_due (T : Txt K mg) : Callee P w K mg base "_law_due" s_law_due ["_law_case_here", "_law_index", "_law_way"] 2 (SpD K mg Pure 3 false m_law_due) := by
  have c_law_other_side := cal_law_other_side (P := P) (w := w) (base := base) T
  obtain ⟨f, fd, hf, F⟩ := T.f_law_due
  exact ⟨⟨f, fd, hf, F, fn_mk (k := 1) F sc_law_due (fun h => by cases h) fun cdv A outer s H E md Z hmd AM tk => ⟨_,
    (dss_cons (ds_asg (de_subs AM (de_subs AM (de_var (i := 0)) (de_str)) (de_var (i := 1))) (dg_tup AM (dgs_cons (dg_name (i := 3) sc_law_due.nd) (dgs_cons (dg_name (i := 4) sc_law_due.nd) (dgs_cons (dg_name (i := 5) sc_law_due.nd) (dgs_cons (dg_name (i := 6) sc_law_due.nd) (dgs_nil)))))))
      (dss_cons (ds_if (own' := []) (dt_cmp (op_eqX AM) (d_eq AM.K) (de_var (i := 2)) (de_str) (nomark _)) (dss_one (ds_ret (de_tup (da_cons (de_var (i := 3)) (da_cons (de_var (i := 4)) (da_cons (de_var (i := 5)) (da_cons (de_var (i := 6)) (da_nil))))) (cnt_cons (cnt_cons (cnt_cons (cnt_cons (cnt_nil)))))))) (dss_nil))
      (dss_cons (ds_if (own' := []) (dt_cmp (op_eqX AM) (d_eq AM.K) (de_var (i := 2)) (de_str) (nomark _)) (dss_one (ds_ret (de_tup (da_cons (de_var (i := 4)) (da_cons (de_var (i := 3)) (da_cons (de_neg (de_var (i := 6))) (da_cons (de_neg (de_var (i := 5))) (da_nil))))) (cnt_cons (cnt_cons (cnt_cons (cnt_cons (cnt_nil)))))))) (dss_nil))
      (dss_cons (ds_if (own' := []) (dt_cmp (op_eqX AM) (d_eq AM.K) (de_var (i := 2)) (de_str) (nomark _)) (dss_one (ds_ret (de_tup (da_cons (de_callP (fr := false) AM tk c_law_other_side (by decide) (da_cons (de_var (i := 4)) (da_nil)) (cnt_cons (cnt_nil))) (da_cons (de_callP (fr := false) AM tk c_law_other_side (by decide) (da_cons (de_var (i := 3)) (da_nil)) (cnt_cons (cnt_nil))) (da_cons (de_var (i := 5)) (da_cons (de_var (i := 6)) (da_nil))))) (cnt_cons (cnt_cons (cnt_cons (cnt_cons (cnt_nil)))))))) (dss_nil))
      (dss_one (ds_ret (de_tup (da_cons (de_callP (fr := false) AM tk c_law_other_side (by decide) (da_cons (de_var (i := 3)) (da_nil)) (cnt_cons (cnt_nil))) (da_cons (de_callP (fr := false) AM tk c_law_other_side (by decide) (da_cons (de_var (i := 4)) (da_nil)) (cnt_cons (cnt_nil))) (da_cons (de_neg (de_var (i := 6))) (da_cons (de_neg (de_var (i := 5))) (da_nil))))) (cnt_cons (cnt_cons (cnt_cons (cnt_cons (cnt_nil))))))))))))⟩⟩, fun _ _ _ _ _ _ us hl => match us, hl with | [_, _, _], _ => rfl⟩
def b_law : DL.Env → M BgS (Fl × DL.Env) := sSeq (sFor (iRg1 (cst (.int 8))) (gSet 2) (sSeq (sSet 3 (mCal (aCons (vr 1) (aCons (cst (.int 4)) (aCons (cst (.int 5)) (aNil)))) m_law_case))
    (sSeq (sSet 4 (mCalP (aCons (vr 3) (aNil)) m_law_problem))
    (sFor (iRg1 (o1 dLen (o2 dSubs (vr 3) (cst (.str "rows"))))) (gSet 5) (sSeq (sAsg (slc dSlc (o2 dSubs (o2 dSubs (vr 3) (cst (.str "rows"))) (vr 5)) (pSome (cst (.int 2))) (pNone)) (gTupD 2 (gsCons (gSet 6) (gsCons (gSet 7) (gsNil)))))
    (sFor (iSeq (mLst (aCons (mTup (aCons (cst (.str "on")) (aCons (cst (.str "back")) (aNil)))) (aCons (mTup (aCons (cst (.str "back")) (aCons (cst (.str "on")) (aNil)))) (aCons (mTup (aCons (cst (.str "image")) (aCons (cst (.str "far")) (aNil)))) (aCons (mTup (aCons (cst (.str "far")) (aCons (cst (.str "image")) (aNil)))) (aNil))))))) (gTupD 2 (gsCons (gSet 8) (gsCons (gSet 9) (gsNil)))) (sSeq (sSet 10 (mCalP (aCons (vr 3) (aCons (vr 5) (aCons (vr 8) (aNil)))) m_law_due))
    (sSeq (sIf (tsb (o2 dNe (o1 dRepr (mCalP (aCons (vr 4) (aCons (mTup (aCons (mTup (aCons (vr 5) (aCons (vr 8) (aNil)))) (aNil))) (aNil))) m_led)) (o1 dRepr (vr 10)))) (sRet (cst (.bl false))) (sNx))
    (sSeq (sSet 11 (mCalP (aCons (vr 4) (aCons (mTup (aCons (mTup (aCons (vr 5) (aCons (vr 8) (aNil)))) (aCons (mTup (aCons (vr 5) (aCons (vr 9) (aNil)))) (aNil)))) (aNil))) m_led))
    (sSeq (sIf (tsb (o2 dNe (o1 dRepr (vr 11)) (o1 dRepr (mTup (aCons (o2 dSubs (vr 10) (cst (.int 0))) (aCons (o2 dSubs (vr 10) (cst (.int 0))) (aCons (o2 dSub (vr 6) (vr 7)) (aCons (o2 dSub (vr 7) (vr 6)) (aNil))))))))) (sRet (cst (.bl false))) (sNx))
    (sSeq (sSet 11 (mCalP (aCons (vr 4) (aCons (o2 dMulT (mTup (aCons (mTup (aCons (vr 5) (aCons (vr 9) (aNil)))) (aCons (mTup (aCons (vr 5) (aCons (vr 8) (aNil)))) (aNil)))) (cst (.int 2))) (aNil))) m_led))
    (sIf (tsb (o2 dNe (o1 dRepr (vr 11)) (o1 dRepr (mTup (aCons (o2 dSubs (vr 10) (cst (.int 1))) (aCons (o2 dSubs (vr 10) (cst (.int 1))) (aCons (o2 dMulS (cst (.int 2)) (o2 dSub (vr 6) (vr 7))) (aCons (o2 dMulS (cst (.int 2)) (o2 dSub (vr 7) (vr 6))) (aNil))))))))) (sRet (cst (.bl false))) (sNx)))))))))))))
    (sRet (cst (.bl true)))
theorem law_fn (T : Txt K mg) {fa : Addr} (hfa : mg "law" = some (.ref fa)) (hm : ∀ (ns : List Int) (s : BgS), ns.length ≤ 63 → ∃ ρ' s', b_law (some (.scr ns) :: some .drw :: List.replicate 10 none) s = some (.ok (.rt (.bl true), ρ'), s')) :
    ∃ fd : FuncData, (∀ (s : Shared) (u : Value), BindsTo s fd ⟨[u], []⟩ [("_law_script", u)]) ∧ ∀ base : Heap, FnG P w K mg base 7 fa fd ["_law_script"] (spLaw K) := by
  obtain ⟨f, fd, hf, F⟩ := T.f_law
  cases hfa.symm.trans hf
  have F' := F
  obtain ⟨oc, od, kV, doc, pm, an, cdv, ct, osl, rfl, lk, hcd⟩ := F.ex
  refine ⟨PySem.W.fnOf "law" "law" (defArgs s_law) (defBody s_law) (defScope s_law) .none kV doc pm an cdv ct, fun s u => .of_eq rfl, fun base => ?_⟩
  have c_led := cal_led (P := P) (w := w) (base := base) T
  have c_law_begun := cal_law_begun (P := P) (w := w) (base := base) T
  have c_law_case := cal_law_case (P := P) (w := w) (base := base) T
  have c_law_problem := cal_law_problem (P := P) (w := w) (base := base) T
  have c_law_due := cal_law_due (P := P) (w := w) (base := base) T
  exact law_mkB (k := 6) (N := N_law) (mst := m_law_begun) F' sc_law rfl (by decide) bg_ok (fun cdv A outer s H E AM tk => p_set 1 sc_law.nd (pe_callG AM tk c_law_begun (by decide) (by rfl) (pa_cons (p_var 0) pa_nil))) (fun cdv A outer s H E md Z H0 hmd AM tk => ⟨_,
    (dss_cons (ds_for AM (di_rng1 (by rfl) T.b_range (de_int)) (dg_name (i := 2) sc_law.nd) (dss_cons (DS.to (own' := []) (ds_set (i := 3) sc_law.nd (de_call (fr := false) AM tk c_law_case (by decide) hmd (da_cons (de_var (i := 1)) (da_cons (de_int) (da_cons (de_int) (da_nil)))) (cnt_cons (cnt_cons (cnt_cons (cnt_nil)))))))
      (dss_cons (DS.to (own' := []) (ds_set (i := 4) sc_law.nd (de_callP (fr := false) AM tk c_law_problem (by decide) (da_cons (de_var (i := 3)) (da_nil)) (cnt_cons (cnt_nil)))))
      (dss_one (ds_for AM (di_rng1 (by rfl) T.b_range (de_len AM (by rfl) T.b_len (de_subs AM (de_var (i := 3)) (de_str)))) (dg_name (i := 5) sc_law.nd) (dss_cons (ds_asg (de_slc AM (de_subs AM (de_subs AM (de_var (i := 3)) (de_str)) (de_var (i := 5))) (dp_some (de_int)) (dp_none)) (dg_tup AM (dgs_cons (dg_name (i := 6) sc_law.nd) (dgs_cons (dg_name (i := 7) sc_law.nd) (dgs_nil)))))
      (dss_one (ds_for AM (di_seq AM (DE.frz (de_lst (da_cons (de_tup (da_cons (de_str) (da_cons (de_str) (da_nil))) (cnt_cons (cnt_cons (cnt_nil)))) (da_cons (de_tup (da_cons (de_str) (da_cons (de_str) (da_nil))) (cnt_cons (cnt_cons (cnt_nil)))) (da_cons (de_tup (da_cons (de_str) (da_cons (de_str) (da_nil))) (cnt_cons (cnt_cons (cnt_nil)))) (da_cons (de_tup (da_cons (de_str) (da_cons (de_str) (da_nil))) (cnt_cons (cnt_cons (cnt_nil)))) (da_nil))))) (cnt_cons (cnt_cons (cnt_cons (cnt_cons (cnt_nil)))))))) (dg_tup AM (dgs_cons (dg_name (i := 8) sc_law.nd) (dgs_cons (dg_name (i := 9) sc_law.nd) (dgs_nil)))) (dss_cons (DS.to (own' := []) (ds_set (i := 10) sc_law.nd (de_callP (fr := false) AM tk c_law_due (by decide) (da_cons (de_var (i := 3)) (da_cons (de_var (i := 5)) (da_cons (de_var (i := 8)) (da_nil)))) (cnt_cons (cnt_cons (cnt_cons (cnt_nil)))))))
      (dss_cons (ds_if (own' := []) (dt_cmp (op_neX AM) (d_ne AM.K) (de_repr AM (by rfl) T.b_repr (de_callP (fr := false) AM tk c_led (by decide) (da_cons (de_var (i := 4)) (da_cons (de_tup (da_cons (de_tup (da_cons (de_var (i := 5)) (da_cons (de_var (i := 8)) (da_nil))) (cnt_cons (cnt_cons (cnt_nil)))) (da_nil)) (cnt_cons (cnt_nil))) (da_nil))) (cnt_cons (cnt_cons (cnt_nil))))) (de_repr AM (by rfl) T.b_repr (de_var (i := 10))) (nomark _)) (dss_one (ds_ret (de_bl))) (dss_nil))
      (dss_cons (DS.to (own' := []) (ds_set (i := 11) sc_law.nd (de_callP (fr := false) AM tk c_led (by decide) (da_cons (de_var (i := 4)) (da_cons (de_tup (da_cons (de_tup (da_cons (de_var (i := 5)) (da_cons (de_var (i := 8)) (da_nil))) (cnt_cons (cnt_cons (cnt_nil)))) (da_cons (de_tup (da_cons (de_var (i := 5)) (da_cons (de_var (i := 9)) (da_nil))) (cnt_cons (cnt_cons (cnt_nil)))) (da_nil))) (cnt_cons (cnt_cons (cnt_nil)))) (da_nil))) (cnt_cons (cnt_cons (cnt_nil))))))
      (dss_cons (ds_if (own' := []) (dt_cmp (op_neX AM) (d_ne AM.K) (de_repr AM (by rfl) T.b_repr (de_var (i := 11))) (de_repr AM (by rfl) T.b_repr (de_tup (da_cons (de_subs AM (de_var (i := 10)) (de_int)) (da_cons (de_subs AM (de_var (i := 10)) (de_int)) (da_cons (de_sub (de_var (i := 6)) (de_var (i := 7))) (da_cons (de_sub (de_var (i := 7)) (de_var (i := 6))) (da_nil))))) (cnt_cons (cnt_cons (cnt_cons (cnt_cons (cnt_nil))))))) (nomark _)) (dss_one (ds_ret (de_bl))) (dss_nil))
      (dss_cons (DS.to (own' := []) (ds_set (i := 11) sc_law.nd (de_callP (fr := false) AM tk c_led (by decide) (da_cons (de_var (i := 4)) (da_cons (de_mulT AM (de_tup (da_cons (de_tup (da_cons (de_var (i := 5)) (da_cons (de_var (i := 9)) (da_nil))) (cnt_cons (cnt_cons (cnt_nil)))) (da_cons (de_tup (da_cons (de_var (i := 5)) (da_cons (de_var (i := 8)) (da_nil))) (cnt_cons (cnt_cons (cnt_nil)))) (da_nil))) (cnt_cons (cnt_cons (cnt_nil)))) (de_int)) (da_nil))) (cnt_cons (cnt_cons (cnt_nil))))))
      (dss_one (ds_if (own' := []) (dt_cmp (op_neX AM) (d_ne AM.K) (de_repr AM (by rfl) T.b_repr (de_var (i := 11))) (de_repr AM (by rfl) T.b_repr (de_tup (da_cons (de_subs AM (de_var (i := 10)) (de_int)) (da_cons (de_subs AM (de_var (i := 10)) (de_int)) (da_cons (de_mulS (de_int) (de_sub (de_var (i := 6)) (de_var (i := 7)))) (da_cons (de_mulS (de_int) (de_sub (de_var (i := 7)) (de_var (i := 6)))) (da_nil))))) (cnt_cons (cnt_cons (cnt_cons (cnt_cons (cnt_nil))))))) (nomark _)) (dss_one (ds_ret (de_bl))) (dss_nil))))))))))))))))
      (dss_one (ds_ret (de_bl))))⟩) hm
end
end Law

namespace Law
open PySem L2 DL
/-! ### comprehensions over a list of anything -/
section
variable {S : Type} {α : Type}
theorem cmpF_map {asg : D → DL.Env → Option DL.Env} {tst : DL.Env → M S Bool} {fe : DL.Env → M S D} {ρ : DL.Env} {f : α → D} {p : α → Bool} {g : α → D} : ∀ {l : List α}, (∀ a ∈ l, ∃ ρ1, asg (f a) ρ = some ρ1 ∧ tst ρ1 = DL.ret (p a) ∧ (p a = true → fe ρ1 = DL.ret (g a))) → cmpF asg tst fe ρ (l.map f) = DL.ret ((l.filter p).map g)
  | [], _ => rfl
  | a :: l, h => by
    obtain ⟨ρ1, e1, e2, e3⟩ := h a List.mem_cons_self
    rw [List.map_cons]
    unfold cmpF
    rw [e1]
    dsimp only
    rw [e2, bnd_ret, cmpF_map fun x hx => h x (List.mem_cons_of_mem _ hx)]
    by_cases hp : p a = true
    · rw [if_pos hp, e3 hp, bnd_ret, bnd_ret, List.filter_cons_of_pos hp]
      rfl
    · rw [if_neg hp, List.filter_cons_of_neg hp]
theorem mCmp_eq {fi : DL.Env → M S (List D)} {asg : D → DL.Env → Option DL.Env} {tst : DL.Env → M S Bool} {fe : DL.Env → M S D} {vs : List Nat} {ρ : DL.Env} {l : List α} {f : α → D} (p : α → Bool) (g : α → D) (h1 : fi ρ = DL.ret (l.map f)) (hl : l.length ≤ 100000)
    (h : ∀ a ∈ l, ∃ ρ1, asg (f a) (wipeD ρ vs) = some ρ1 ∧ tst ρ1 = DL.ret (p a) ∧ (p a = true → fe ρ1 = DL.ret (g a))) : mCmp fi asg tst fe vs ρ = DL.ret (.lst ((l.filter p).map g)) := by
  rw [mCmp_ap, h1, bnd_ret, if_pos (by rw [List.length_map]; exact Nat.le_trans hl (by decide)), cmpF_map h]
  rfl
theorem mCmp_all {fi : DL.Env → M S (List D)} {asg : D → DL.Env → Option DL.Env} {fe : DL.Env → M S D} {vs : List Nat} {ρ : DL.Env} {l : List α} {f : α → D} (g : α → D) (h1 : fi ρ = DL.ret (l.map f)) (hl : l.length ≤ 100000)
    (h : ∀ a ∈ l, ∃ ρ1, asg (f a) (wipeD ρ vs) = some ρ1 ∧ fe ρ1 = DL.ret (g a)) : mCmp fi asg yes fe vs ρ = DL.ret (.lst (l.map g)) := by
  rw [mCmp_eq (fun _ => true) g h1 hl fun a ha => ?_, List.filter_eq_self.mpr (by simp)]
  obtain ⟨ρ1, e1, e2⟩ := h a ha
  exact ⟨ρ1, e1, rfl, fun _ => e2⟩
theorem sat_mcmp {fi : DL.Env → M S (List D)} {asg : D → DL.Env → Option DL.Env} {fe : DL.Env → M S D} {vs : List Nat} {ρ : DL.Env} {l : List α} {f : α → D} (Q : α → D → Prop) (h1 : fi ρ = DL.ret (l.map f)) (hl : l.length ≤ 100000)
    (h : ∀ a ∈ l, ∃ ρ1, asg (f a) (wipeD ρ vs) = some ρ1 ∧ Sat (fe ρ1) (Q a)) : Sat (mCmp fi asg yes fe vs ρ) fun d => ∃ ys : List D, d = .lst ys ∧ ys.length = l.length ∧ ∀ (i : Nat) (a : α) (y : D), l[i]? = some a → ys[i]? = some y → Q a y := by
  have key : ∀ l : List α, (∀ a ∈ l, ∃ ρ1, asg (f a) (wipeD ρ vs) = some ρ1 ∧ Sat (fe ρ1) (Q a)) → Sat (cmpF asg yes fe (wipeD ρ vs) (l.map f)) fun ys => ys.length = l.length ∧ ∀ (i : Nat) (a : α) (y : D), l[i]? = some a → ys[i]? = some y → Q a y := by
    intro l
    induction l with
    | nil => exact fun _ => sat_ret ⟨rfl, fun i a y h => by simp at h⟩
    | cons a l ih =>
      intro h
      obtain ⟨ρ1, e1, e2⟩ := h a List.mem_cons_self
      rw [List.map_cons]
      unfold cmpF
      rw [e1]
      dsimp only [yes]
      rw [bnd_ret, if_pos rfl]
      refine sat_bnd e2 fun y hy => sat_bnd (ih fun x hx => h x (List.mem_cons_of_mem _ hx)) fun ys hys => sat_ret ⟨by simp [hys.1], fun i b z hb hz => ?_⟩
      cases i with
      | zero => simp at hb hz; subst hb; subst hz; exact hy
      | succ i => exact hys.2 i b z (by simpa using hb) (by simpa using hz)
  rw [mCmp_ap, h1, bnd_ret, if_pos (by rw [List.length_map]; exact Nat.le_trans hl (by decide))]
  exact sat_bnd (sat_nox (key l h)) fun ys hys => sat_ret ⟨ys, rfl, hys⟩
end
theorem runI_eq {cls : Str} {n : Nat} {f : DL.Env → M Unit (Fl × DL.Env)} {ds : List D} : runI cls n f ds = bnd (f (some (.slf cls []) :: (ds.map some ++ List.replicate (n - (ds.length + 1)) none))) fun x => match x.1 with
    | .nx => match slot x.2 0 with
      | some (.slf x des) => DL.ret (.slf x des)
      | _ => stk
    | _ => stk := by
  funext s
  unfold runI bnd
  match f (some (.slf cls []) :: (ds.map some ++ List.replicate (n - (ds.length + 1)) none)) s with
  | none => rfl
  | some (.error x, s') => rfl
  | some (.ok (.nx, ρ), s') =>
    dsimp only
    match slot ρ 0 with
    | none => rfl
    | some (.slf x des) => rfl
    | some .non => rfl
    | some (.bl _) => rfl
    | some (.int _) => rfl
    | some (.str _) => rfl
    | some (.lst _) => rfl
    | some (.tup _) => rfl
    | some (.dic _) => rfl
    | some (.dit _) => rfl
    | some (.obj _ _) => rfl
    | some .drw => rfl
    | some (.ty _) => rfl
    | some (.scr _) => rfl
  | some (.ok (.rt d, _), s') => rfl
  | some (.ok (.bk, _), s') => rfl
  | some (.ok (.ct, _), s') => rfl

end Law

namespace Law
open PySem L2 DL
/-! ### drawn names -/
def six (x : Str) : Str := cutS x none (some 6)
def oth (x : Str) : List Str := lett.cps.toList.map fun c => six x ++ "x" ++ ⟨#[c]⟩
theorem six_cps (x : Str) : (six x).cps.toList = x.cps.toList.take 6 := by
  show ((x.cps.toList.drop 0).take (min 6 x.length - 0)) = _
  rw [List.drop_zero, Nat.sub_zero]
  have : x.length = x.cps.toList.length := Array.length_toList.symm
  rw [this]
  by_cases h : 6 ≤ x.cps.toList.length
  · rw [Nat.min_eq_left h]
  · rw [Nat.min_eq_right (by omega), List.take_of_length_le (Nat.le_refl _), List.take_of_length_le (by omega)]
theorem app_cps (a b : Str) : (a ++ b).cps.toList = a.cps.toList ++ b.cps.toList := Array.toList_append
theorem len_cps (a : Str) : a.length = a.cps.toList.length := Array.length_toList.symm
theorem oth_ok {x : Str} (h : nmOk x = true) : ∀ y ∈ oth x, nmOk y = true := by
  intro y hy
  obtain ⟨c, hc, rfl⟩ := List.mem_map.mp hy
  obtain ⟨h1, h2, h3⟩ := nmOk_iff.mp h
  have e : (six x ++ ("x" : Str) ++ (⟨#[c]⟩ : Str)).cps.toList = x.cps.toList.take 6 ++ [120] ++ [c] := by rw [app_cps, app_cps, six_cps]; rfl
  refine nmOk_iff.mpr ⟨?_, ?_, fun d hd => ?_⟩
  · rw [len_cps, e]; simp
  · rw [len_cps, e]; simp only [List.length_append, List.length_take, List.length_cons, List.length_nil]; omega
  · rw [e] at hd
    simp only [List.mem_append, List.mem_singleton] at hd
    rcases hd with (hd | rfl) | rfl
    · exact h3 d (List.mem_of_mem_take hd)
    · decide +kernel
    · exact hc
theorem oth_nodup (x : Str) : (oth x).Nodup := by
  have h : lett.cps.toList.Nodup := by decide +kernel
  unfold oth
  refine List.Pairwise.map _ ?_ h
  intro a b hab e
  refine hab ?_
  have h2 : (six x ++ ("x" : Str) ++ (⟨#[a]⟩ : Str)).cps.toList = (six x ++ ("x" : Str) ++ (⟨#[b]⟩ : Str)).cps.toList := congrArg (fun z : Str => z.cps.toList) e
  rw [app_cps, app_cps (six x ++ "x") ⟨#[b]⟩] at h2
  have h3 := List.append_cancel_left h2
  simpa using h3
theorem cand_ne {x : Str} {found : List Str} (hl : found.length < 26) : ∃ y r, (x :: oth x).filter (fun y => !found.contains y) = y :: r ∧ y ∉ found ∧ y ∈ x :: oth x := by
  obtain ⟨y, h1, h2⟩ := fresh_of (oth_nodup x) (ys := found) (by unfold oth; rw [List.length_map]; exact Nat.lt_of_lt_of_le hl (by decide +kernel))
  have hm : y ∈ (x :: oth x).filter (fun y => !found.contains y) := by
    rw [List.mem_filter]
    exact ⟨List.mem_cons_of_mem _ h1, by simpa using h2⟩
  cases e : (x :: oth x).filter (fun y => !found.contains y) with
  | nil => rw [e] at hm; cases hm
  | cons z r =>
    have hz : z ∈ (x :: oth x).filter (fun y => !found.contains y) := by rw [e]; exact List.mem_cons_self
    rw [List.mem_filter] at hz
    exact ⟨z, r, rfl, by simpa using hz.2, hz.1⟩
theorem any_strs (xs : List Str) (y : Str) : ((xs.map D.str).any fun z => eqF z (.str y)) = xs.contains y := by
  induction xs with
  | nil => rfl
  | cons z xs ih =>
    rw [List.map_cons, List.any_cons, ih, List.contains_cons]
    congr 1
    show (z == y) = (y == z)
    rw [Bool.eq_iff_iff, beq_iff_eq, beq_iff_eq]
    exact eq_comm
theorem all_flat_strs (xs : List Str) : (xs.map D.str).all flatD = true := by rw [List.all_map]; simp [flatD, Function.comp_def]
theorem in_strs (xs : List Str) (y : Str) : dInB (.str y) (.lst (xs.map D.str)) = some (xs.contains y) := by
  show (if flatD (.str y) = true ∧ (xs.map D.str).all flatD = true then _ else _) = _
  rw [if_pos ⟨rfl, all_flat_strs xs⟩, any_strs]
theorem in_strsT (xs : List Str) (y : Str) : dInB (.str y) (.tup (xs.map D.str)) = some (xs.contains y) := by
  show (if flatD (.str y) = true ∧ (xs.map D.str).all flatD = true then _ else _) = _
  rw [if_pos ⟨rfl, all_flat_strs xs⟩, any_strs]

end Law

namespace Law
open PySem L2 DL
/-! ### names, numbers, periods -/
theorem bls_map {α : Type} (f : α → Bool) : ∀ l : List α, bls (l.map fun a => D.bl (f a)) = some (l.map f)
  | [] => rfl
  | a :: l => by
    show (bls (l.map fun a => D.bl (f a))).map (f a :: ·) = _
    rw [bls_map f l]
    rfl
theorem dAll_map {α : Type} (f : α → Bool) (l : List α) : dAll (.lst (l.map fun a => D.bl (f a))) = some (.bl (l.all f)) := by
  show (bls _).map _ = _
  rw [bls_map, Option.map_some, List.all_map]
  rfl
theorem in_sign (c : Nat) (y : Str) : dInB (.str ⟨#[c]⟩) (.str y) = some (decide (c ∈ y.cps.toList)) := rfl
theorem name_str {x : Str} (hl : x.length ≤ 100000) : m_is_name [.str x] = DL.ret (.bl (nmOk x)) := by
  have hz : x.length ≤ sizeLine := Nat.le_trans hl (by decide)
  have hx : x.cps.toList.length = x.length := Array.length_toList
  have h2 : dLen (.str x) = some (.int x.length) := if_pos hz
  have h3 : (mCmp (iSeq (vr 0)) (gSet 1) yes (o2 dIn (vr 1) (cst (D.str lett))) [1] : DL.Env → M Unit D) [some (D.str x), none] = DL.ret (.lst (x.cps.toList.map fun c => D.bl (decide (c ∈ lett.cps.toList)))) := by
    simp -implicitDefEqProofs only [mCmp_ap, sSeq_ap, sIf_ap, sSet_ap, sRet_ap, sNx_ap, sRetN_ap, sBk_ap, sCt_ap, sExp_ap, sAsg_ap, sPar_ap, sPar3_ap, sApp_ap, sSetX_ap, sExpX_ap, sIxs_ap, sSt_ap, sFl_ap, sStk_ap, sFor_ap, mLst_ap, mTup_ap, mDnew_ap, mDisp_ap, ppCons_ap, ppNil_ap, o1_ap, o2_ap, vr_ap, cst_ap, mCal_ap, mCalP_ap, mCalKP_ap, aCons_ap, aNil_ap, anV_ap, orV_ap, ntV_ap, tsb_ap, tru_ap, nt_ap, an_ap, orr_ap, ife_ap, chn_ap, joi_ap, slc_ap, pNone_ap, pSome_ap, xOf_ap, xPop_ap, iSeq_ap, iRg1_ap, iRg2_ap, iEnum2_ap, iZip_ap, mMk_ap, yes_ap, gSet_ap, gTupD_ap, gsNil_ap, gsCons_ap, pick, asB, asS, asI, asT, slL, slot, dTru, dInt, dSub, dNeg, dLe, dLt, dGt, dGe, dMin2, dAbs, dList_l, dList_t, dTuple_l, dTuple_t, dLen_l, dLen_t, dLen_d, dLen_s, dAdd_i, subsT, subsL, atI_0, atI_1, atI_2, atI_3, isi_str, isi_tup, isi_dic, isi_int, isi_intb, isi_lst2, isi_tup2, dEq_int, dNe_int, if_tt, if_ff, Bool.not_true, Bool.not_false, Option.bind_some, List.map_cons, List.map_nil, List.cons_append, List.nil_append, List.length_cons, List.length_nil, List.getElem?_cons_succ, List.getElem?_cons_zero, List.set_cons_zero, List.set_cons_succ, List.filterMap_cons, List.filterMap_nil, bnd_ret, lft_some, lft_none, pur_ret, bnd_assoc, bnd_stk, List.replicate_succ, List.replicate_zero, Nat.reduceAdd, Nat.reduceSub, Nat.reduceEqDiff, if_true, if_false, eq_self, Int.cast_ofNat_Int, decide_true, decide_false, Int.reduceEq, Int.reduceLE, Int.reduceLT, Int.reduceNeg, Int.reduceAdd, Int.reduceSub, sUnp3_ap, sMt_ap, sMt0_ap, xPop0_ap, mMet_ap, mMetK_ap, isLstD_l, isDicD_d]
    rw [if_pos (by rw [List.length_map, hx]; exact hz), cmpF_eq (p := fun _ => true) (g := fun d => (dIn d (.str lett)).getD .non)]
    · rw [nox_ret, bnd_ret, List.filter_eq_self.mpr (by simp), List.map_map]
      rfl
    · intro d hd
      obtain ⟨c, _, rfl⟩ := List.mem_map.mp hd
      exact ⟨_, rfl, rfl, fun _ => rfl⟩
  unfold m_is_name
  rw [runB_eq]
  simp -implicitDefEqProofs only [b_is_name, sSeq_ap, sIf_ap, sSet_ap, sRet_ap, sNx_ap, sRetN_ap, sBk_ap, sCt_ap, sExp_ap, sAsg_ap, sPar_ap, sPar3_ap, sApp_ap, sSetX_ap, sExpX_ap, sIxs_ap, sSt_ap, sFl_ap, sStk_ap, sFor_ap, mLst_ap, mTup_ap, mDnew_ap, mDisp_ap, ppCons_ap, ppNil_ap, o1_ap, o2_ap, vr_ap, cst_ap, mCal_ap, mCalP_ap, mCalKP_ap, aCons_ap, aNil_ap, anV_ap, orV_ap, ntV_ap, tsb_ap, tru_ap, nt_ap, an_ap, orr_ap, ife_ap, chn_ap, joi_ap, slc_ap, pNone_ap, pSome_ap, xOf_ap, xPop_ap, iSeq_ap, iRg1_ap, iRg2_ap, iEnum2_ap, iZip_ap, mMk_ap, yes_ap, gSet_ap, gTupD_ap, gsNil_ap, gsCons_ap, pick, asB, asS, asI, asT, slL, slot, dTru, dInt, dSub, dNeg, dLe, dLt, dGt, dGe, dMin2, dAbs, dList_l, dList_t, dTuple_l, dTuple_t, dLen_l, dLen_t, dLen_d, dLen_s, dAdd_i, subsT, subsL, atI_0, atI_1, atI_2, atI_3, isi_str, isi_tup, isi_dic, isi_int, isi_intb, isi_lst2, isi_tup2, dEq_int, dNe_int, if_tt, if_ff, Bool.not_true, Bool.not_false, Option.bind_some, List.map_cons, List.map_nil, List.cons_append, List.nil_append, List.length_cons, List.length_nil, List.getElem?_cons_succ, List.getElem?_cons_zero, List.set_cons_zero, List.set_cons_succ, List.filterMap_cons, List.filterMap_nil, bnd_ret, lft_some, lft_none, pur_ret, bnd_assoc, bnd_stk, List.replicate_succ, List.replicate_zero, Nat.reduceAdd, Nat.reduceSub, Nat.reduceEqDiff, if_true, if_false, eq_self, Int.cast_ofNat_Int, decide_true, decide_false, Int.reduceEq, Int.reduceLE, Int.reduceLT, Int.reduceNeg, Int.reduceAdd, Int.reduceSub, sUnp3_ap, sMt_ap, sMt0_ap, xPop0_ap, mMet_ap, mMetK_ap, isLstD_l, isDicD_d, h2]
  by_cases c1 : (1 : Int) ≤ x.length
  · by_cases c2 : (x.length : Int) ≤ 8
    · simp -implicitDefEqProofs only [decide_eq_true c1, decide_eq_true c2, sSeq_ap, sIf_ap, sSet_ap, sRet_ap, sNx_ap, sRetN_ap, sBk_ap, sCt_ap, sExp_ap, sAsg_ap, sPar_ap, sPar3_ap, sApp_ap, sSetX_ap, sExpX_ap, sIxs_ap, sSt_ap, sFl_ap, sStk_ap, sFor_ap, mLst_ap, mTup_ap, mDnew_ap, mDisp_ap, ppCons_ap, ppNil_ap, o1_ap, o2_ap, vr_ap, cst_ap, mCal_ap, mCalP_ap, mCalKP_ap, aCons_ap, aNil_ap, anV_ap, orV_ap, ntV_ap, tsb_ap, tru_ap, nt_ap, an_ap, orr_ap, ife_ap, chn_ap, joi_ap, slc_ap, pNone_ap, pSome_ap, xOf_ap, xPop_ap, iSeq_ap, iRg1_ap, iRg2_ap, iEnum2_ap, iZip_ap, mMk_ap, yes_ap, gSet_ap, gTupD_ap, gsNil_ap, gsCons_ap, pick, asB, asS, asI, asT, slL, slot, dTru, dInt, dSub, dNeg, dLe, dLt, dGt, dGe, dMin2, dAbs, dList_l, dList_t, dTuple_l, dTuple_t, dLen_l, dLen_t, dLen_d, dLen_s, dAdd_i, subsT, subsL, atI_0, atI_1, atI_2, atI_3, isi_str, isi_tup, isi_dic, isi_int, isi_intb, isi_lst2, isi_tup2, dEq_int, dNe_int, if_tt, if_ff, Bool.not_true, Bool.not_false, Option.bind_some, List.map_cons, List.map_nil, List.cons_append, List.nil_append, List.length_cons, List.length_nil, List.getElem?_cons_succ, List.getElem?_cons_zero, List.set_cons_zero, List.set_cons_succ, List.filterMap_cons, List.filterMap_nil, bnd_ret, lft_some, lft_none, pur_ret, bnd_assoc, bnd_stk, List.replicate_succ, List.replicate_zero, Nat.reduceAdd, Nat.reduceSub, Nat.reduceEqDiff, if_true, if_false, eq_self, Int.cast_ofNat_Int, decide_true, decide_false, Int.reduceEq, Int.reduceLE, Int.reduceLT, Int.reduceNeg, Int.reduceAdd, Int.reduceSub, sUnp3_ap, sMt_ap, sMt0_ap, xPop0_ap, mMet_ap, mMetK_ap, isLstD_l, isDicD_d]
      show bnd (mCmp (iSeq (vr 0)) (gSet 1) yes (o2 dIn (vr 1) (cst (D.str lett))) [1] [some (D.str x), none]) _ = _
      rw [h3, bnd_ret, dAll_map]
      simp -implicitDefEqProofs only [sSeq_ap, sIf_ap, sSet_ap, sRet_ap, sNx_ap, sRetN_ap, sBk_ap, sCt_ap, sExp_ap, sAsg_ap, sPar_ap, sPar3_ap, sApp_ap, sSetX_ap, sExpX_ap, sIxs_ap, sSt_ap, sFl_ap, sStk_ap, sFor_ap, mLst_ap, mTup_ap, mDnew_ap, mDisp_ap, ppCons_ap, ppNil_ap, o1_ap, o2_ap, vr_ap, cst_ap, mCal_ap, mCalP_ap, mCalKP_ap, aCons_ap, aNil_ap, anV_ap, orV_ap, ntV_ap, tsb_ap, tru_ap, nt_ap, an_ap, orr_ap, ife_ap, chn_ap, joi_ap, slc_ap, pNone_ap, pSome_ap, xOf_ap, xPop_ap, iSeq_ap, iRg1_ap, iRg2_ap, iEnum2_ap, iZip_ap, mMk_ap, yes_ap, gSet_ap, gTupD_ap, gsNil_ap, gsCons_ap, pick, asB, asS, asI, asT, slL, slot, dTru, dInt, dSub, dNeg, dLe, dLt, dGt, dGe, dMin2, dAbs, dList_l, dList_t, dTuple_l, dTuple_t, dLen_l, dLen_t, dLen_d, dLen_s, dAdd_i, subsT, subsL, atI_0, atI_1, atI_2, atI_3, isi_str, isi_tup, isi_dic, isi_int, isi_intb, isi_lst2, isi_tup2, dEq_int, dNe_int, if_tt, if_ff, Bool.not_true, Bool.not_false, Option.bind_some, List.map_cons, List.map_nil, List.cons_append, List.nil_append, List.length_cons, List.length_nil, List.getElem?_cons_succ, List.getElem?_cons_zero, List.set_cons_zero, List.set_cons_succ, List.filterMap_cons, List.filterMap_nil, bnd_ret, lft_some, lft_none, pur_ret, bnd_assoc, bnd_stk, List.replicate_succ, List.replicate_zero, Nat.reduceAdd, Nat.reduceSub, Nat.reduceEqDiff, if_true, if_false, eq_self, Int.cast_ofNat_Int, decide_true, decide_false, Int.reduceEq, Int.reduceLE, Int.reduceLT, Int.reduceNeg, Int.reduceAdd, Int.reduceSub, sUnp3_ap, sMt_ap, sMt0_ap, xPop0_ap, mMet_ap, mMetK_ap, isLstD_l, isDicD_d]
      unfold nmOk
      rw [decide_eq_true (show 1 ≤ x.length by omega), decide_eq_true (show x.length ≤ 8 by omega)]
      rfl
    · simp -implicitDefEqProofs only [decide_eq_true c1, decide_eq_false c2, sSeq_ap, sIf_ap, sSet_ap, sRet_ap, sNx_ap, sRetN_ap, sBk_ap, sCt_ap, sExp_ap, sAsg_ap, sPar_ap, sPar3_ap, sApp_ap, sSetX_ap, sExpX_ap, sIxs_ap, sSt_ap, sFl_ap, sStk_ap, sFor_ap, mLst_ap, mTup_ap, mDnew_ap, mDisp_ap, ppCons_ap, ppNil_ap, o1_ap, o2_ap, vr_ap, cst_ap, mCal_ap, mCalP_ap, mCalKP_ap, aCons_ap, aNil_ap, anV_ap, orV_ap, ntV_ap, tsb_ap, tru_ap, nt_ap, an_ap, orr_ap, ife_ap, chn_ap, joi_ap, slc_ap, pNone_ap, pSome_ap, xOf_ap, xPop_ap, iSeq_ap, iRg1_ap, iRg2_ap, iEnum2_ap, iZip_ap, mMk_ap, yes_ap, gSet_ap, gTupD_ap, gsNil_ap, gsCons_ap, pick, asB, asS, asI, asT, slL, slot, dTru, dInt, dSub, dNeg, dLe, dLt, dGt, dGe, dMin2, dAbs, dList_l, dList_t, dTuple_l, dTuple_t, dLen_l, dLen_t, dLen_d, dLen_s, dAdd_i, subsT, subsL, atI_0, atI_1, atI_2, atI_3, isi_str, isi_tup, isi_dic, isi_int, isi_intb, isi_lst2, isi_tup2, dEq_int, dNe_int, if_tt, if_ff, Bool.not_true, Bool.not_false, Option.bind_some, List.map_cons, List.map_nil, List.cons_append, List.nil_append, List.length_cons, List.length_nil, List.getElem?_cons_succ, List.getElem?_cons_zero, List.set_cons_zero, List.set_cons_succ, List.filterMap_cons, List.filterMap_nil, bnd_ret, lft_some, lft_none, pur_ret, bnd_assoc, bnd_stk, List.replicate_succ, List.replicate_zero, Nat.reduceAdd, Nat.reduceSub, Nat.reduceEqDiff, if_true, if_false, eq_self, Int.cast_ofNat_Int, decide_true, decide_false, Int.reduceEq, Int.reduceLE, Int.reduceLT, Int.reduceNeg, Int.reduceAdd, Int.reduceSub, sUnp3_ap, sMt_ap, sMt0_ap, xPop0_ap, mMet_ap, mMetK_ap, isLstD_l, isDicD_d]
      unfold nmOk
      rw [decide_eq_false (show ¬ x.length ≤ 8 by omega), Bool.and_false, Bool.false_and]
  · simp -implicitDefEqProofs only [decide_eq_false c1, sSeq_ap, sIf_ap, sSet_ap, sRet_ap, sNx_ap, sRetN_ap, sBk_ap, sCt_ap, sExp_ap, sAsg_ap, sPar_ap, sPar3_ap, sApp_ap, sSetX_ap, sExpX_ap, sIxs_ap, sSt_ap, sFl_ap, sStk_ap, sFor_ap, mLst_ap, mTup_ap, mDnew_ap, mDisp_ap, ppCons_ap, ppNil_ap, o1_ap, o2_ap, vr_ap, cst_ap, mCal_ap, mCalP_ap, mCalKP_ap, aCons_ap, aNil_ap, anV_ap, orV_ap, ntV_ap, tsb_ap, tru_ap, nt_ap, an_ap, orr_ap, ife_ap, chn_ap, joi_ap, slc_ap, pNone_ap, pSome_ap, xOf_ap, xPop_ap, iSeq_ap, iRg1_ap, iRg2_ap, iEnum2_ap, iZip_ap, mMk_ap, yes_ap, gSet_ap, gTupD_ap, gsNil_ap, gsCons_ap, pick, asB, asS, asI, asT, slL, slot, dTru, dInt, dSub, dNeg, dLe, dLt, dGt, dGe, dMin2, dAbs, dList_l, dList_t, dTuple_l, dTuple_t, dLen_l, dLen_t, dLen_d, dLen_s, dAdd_i, subsT, subsL, atI_0, atI_1, atI_2, atI_3, isi_str, isi_tup, isi_dic, isi_int, isi_intb, isi_lst2, isi_tup2, dEq_int, dNe_int, if_tt, if_ff, Bool.not_true, Bool.not_false, Option.bind_some, List.map_cons, List.map_nil, List.cons_append, List.nil_append, List.length_cons, List.length_nil, List.getElem?_cons_succ, List.getElem?_cons_zero, List.set_cons_zero, List.set_cons_succ, List.filterMap_cons, List.filterMap_nil, bnd_ret, lft_some, lft_none, pur_ret, bnd_assoc, bnd_stk, List.replicate_succ, List.replicate_zero, Nat.reduceAdd, Nat.reduceSub, Nat.reduceEqDiff, if_true, if_false, eq_self, Int.cast_ofNat_Int, decide_true, decide_false, Int.reduceEq, Int.reduceLE, Int.reduceLT, Int.reduceNeg, Int.reduceAdd, Int.reduceSub, sUnp3_ap, sMt_ap, sMt0_ap, xPop0_ap, mMet_ap, mMetK_ap, isLstD_l, isDicD_d]
    unfold nmOk
    rw [decide_eq_false (show ¬ 1 ≤ x.length by omega), Bool.false_and, Bool.false_and]
theorem is_int (i : Int) : m_is_integer [.int i] = DL.ret (.bl true) := rfl
theorem is_betw (i a b : Int) : m_is_between [.int i, .int a, .int b] = DL.ret (.bl (decide (a ≤ i ∧ i ≤ b))) := by
  unfold m_is_between
  rw [runB_eq]
  simp -implicitDefEqProofs only [b_is_between, sSeq_ap, sIf_ap, sSet_ap, sRet_ap, sNx_ap, sRetN_ap, sBk_ap, sCt_ap, sExp_ap, sAsg_ap, sPar_ap, sPar3_ap, sApp_ap, sSetX_ap, sExpX_ap, sIxs_ap, sSt_ap, sFl_ap, sStk_ap, sFor_ap, mLst_ap, mTup_ap, mDnew_ap, mDisp_ap, ppCons_ap, ppNil_ap, o1_ap, o2_ap, vr_ap, cst_ap, mCal_ap, mCalP_ap, mCalKP_ap, aCons_ap, aNil_ap, anV_ap, orV_ap, ntV_ap, tsb_ap, tru_ap, nt_ap, an_ap, orr_ap, ife_ap, chn_ap, joi_ap, slc_ap, pNone_ap, pSome_ap, xOf_ap, xPop_ap, iSeq_ap, iRg1_ap, iRg2_ap, iEnum2_ap, iZip_ap, mMk_ap, yes_ap, gSet_ap, gTupD_ap, gsNil_ap, gsCons_ap, pick, asB, asS, asI, asT, slL, slot, dTru, dInt, dSub, dNeg, dLe, dLt, dGt, dGe, dMin2, dAbs, dList_l, dList_t, dTuple_l, dTuple_t, dLen_l, dLen_t, dLen_d, dLen_s, dAdd_i, subsT, subsL, atI_0, atI_1, atI_2, atI_3, isi_str, isi_tup, isi_dic, isi_int, isi_intb, isi_lst2, isi_tup2, dEq_int, dNe_int, if_tt, if_ff, Bool.not_true, Bool.not_false, Option.bind_some, List.map_cons, List.map_nil, List.cons_append, List.nil_append, List.length_cons, List.length_nil, List.getElem?_cons_succ, List.getElem?_cons_zero, List.set_cons_zero, List.set_cons_succ, List.filterMap_cons, List.filterMap_nil, bnd_ret, lft_some, lft_none, pur_ret, bnd_assoc, bnd_stk, List.replicate_succ, List.replicate_zero, Nat.reduceAdd, Nat.reduceSub, Nat.reduceEqDiff, if_true, if_false, eq_self, Int.cast_ofNat_Int, decide_true, decide_false, Int.reduceEq, Int.reduceLE, Int.reduceLT, Int.reduceNeg, Int.reduceAdd, Int.reduceSub, sUnp3_ap, sMt_ap, sMt0_ap, xPop0_ap, mMet_ap, mMetK_ap, isLstD_l, isDicD_d, is_int]
  by_cases c1 : a ≤ i
  · simp -implicitDefEqProofs only [sSeq_ap, sIf_ap, sSet_ap, sRet_ap, sNx_ap, sRetN_ap, sBk_ap, sCt_ap, sExp_ap, sAsg_ap, sPar_ap, sPar3_ap, sApp_ap, sSetX_ap, sExpX_ap, sIxs_ap, sSt_ap, sFl_ap, sStk_ap, sFor_ap, mLst_ap, mTup_ap, mDnew_ap, mDisp_ap, ppCons_ap, ppNil_ap, o1_ap, o2_ap, vr_ap, cst_ap, mCal_ap, mCalP_ap, mCalKP_ap, aCons_ap, aNil_ap, anV_ap, orV_ap, ntV_ap, tsb_ap, tru_ap, nt_ap, an_ap, orr_ap, ife_ap, chn_ap, joi_ap, slc_ap, pNone_ap, pSome_ap, xOf_ap, xPop_ap, iSeq_ap, iRg1_ap, iRg2_ap, iEnum2_ap, iZip_ap, mMk_ap, yes_ap, gSet_ap, gTupD_ap, gsNil_ap, gsCons_ap, pick, asB, asS, asI, asT, slL, slot, dTru, dInt, dSub, dNeg, dLe, dLt, dGt, dGe, dMin2, dAbs, dList_l, dList_t, dTuple_l, dTuple_t, dLen_l, dLen_t, dLen_d, dLen_s, dAdd_i, subsT, subsL, atI_0, atI_1, atI_2, atI_3, isi_str, isi_tup, isi_dic, isi_int, isi_intb, isi_lst2, isi_tup2, dEq_int, dNe_int, if_tt, if_ff, Bool.not_true, Bool.not_false, Option.bind_some, List.map_cons, List.map_nil, List.cons_append, List.nil_append, List.length_cons, List.length_nil, List.getElem?_cons_succ, List.getElem?_cons_zero, List.set_cons_zero, List.set_cons_succ, List.filterMap_cons, List.filterMap_nil, bnd_ret, lft_some, lft_none, pur_ret, bnd_assoc, bnd_stk, List.replicate_succ, List.replicate_zero, Nat.reduceAdd, Nat.reduceSub, Nat.reduceEqDiff, if_true, if_false, eq_self, Int.cast_ofNat_Int, decide_true, decide_false, Int.reduceEq, Int.reduceLE, Int.reduceLT, Int.reduceNeg, Int.reduceAdd, Int.reduceSub, sUnp3_ap, sMt_ap, sMt0_ap, xPop0_ap, mMet_ap, mMetK_ap, isLstD_l, isDicD_d, c1, true_and, decide_true]
  · simp -implicitDefEqProofs only [sSeq_ap, sIf_ap, sSet_ap, sRet_ap, sNx_ap, sRetN_ap, sBk_ap, sCt_ap, sExp_ap, sAsg_ap, sPar_ap, sPar3_ap, sApp_ap, sSetX_ap, sExpX_ap, sIxs_ap, sSt_ap, sFl_ap, sStk_ap, sFor_ap, mLst_ap, mTup_ap, mDnew_ap, mDisp_ap, ppCons_ap, ppNil_ap, o1_ap, o2_ap, vr_ap, cst_ap, mCal_ap, mCalP_ap, mCalKP_ap, aCons_ap, aNil_ap, anV_ap, orV_ap, ntV_ap, tsb_ap, tru_ap, nt_ap, an_ap, orr_ap, ife_ap, chn_ap, joi_ap, slc_ap, pNone_ap, pSome_ap, xOf_ap, xPop_ap, iSeq_ap, iRg1_ap, iRg2_ap, iEnum2_ap, iZip_ap, mMk_ap, yes_ap, gSet_ap, gTupD_ap, gsNil_ap, gsCons_ap, pick, asB, asS, asI, asT, slL, slot, dTru, dInt, dSub, dNeg, dLe, dLt, dGt, dGe, dMin2, dAbs, dList_l, dList_t, dTuple_l, dTuple_t, dLen_l, dLen_t, dLen_d, dLen_s, dAdd_i, subsT, subsL, atI_0, atI_1, atI_2, atI_3, isi_str, isi_tup, isi_dic, isi_int, isi_intb, isi_lst2, isi_tup2, dEq_int, dNe_int, if_tt, if_ff, Bool.not_true, Bool.not_false, Option.bind_some, List.map_cons, List.map_nil, List.cons_append, List.nil_append, List.length_cons, List.length_nil, List.getElem?_cons_succ, List.getElem?_cons_zero, List.set_cons_zero, List.set_cons_succ, List.filterMap_cons, List.filterMap_nil, bnd_ret, lft_some, lft_none, pur_ret, bnd_assoc, bnd_stk, List.replicate_succ, List.replicate_zero, Nat.reduceAdd, Nat.reduceSub, Nat.reduceEqDiff, if_true, if_false, eq_self, Int.cast_ofNat_Int, decide_true, decide_false, Int.reduceEq, Int.reduceLE, Int.reduceLT, Int.reduceNeg, Int.reduceAdd, Int.reduceSub, sUnp3_ap, sMt_ap, sMt0_ap, xPop0_ap, mMet_ap, mMetK_ap, isLstD_l, isDicD_d, c1, false_and, decide_false]
theorem is_per (i : Int) : m_is_period [.int i] = DL.ret (.bl (decide (4 ≤ i ∧ i ≤ 60 ∧ i % 2 = 0))) := by
  unfold m_is_period
  rw [runB_eq]
  simp -implicitDefEqProofs only [b_is_period, sSeq_ap, sIf_ap, sSet_ap, sRet_ap, sNx_ap, sRetN_ap, sBk_ap, sCt_ap, sExp_ap, sAsg_ap, sPar_ap, sPar3_ap, sApp_ap, sSetX_ap, sExpX_ap, sIxs_ap, sSt_ap, sFl_ap, sStk_ap, sFor_ap, mLst_ap, mTup_ap, mDnew_ap, mDisp_ap, ppCons_ap, ppNil_ap, o1_ap, o2_ap, vr_ap, cst_ap, mCal_ap, mCalP_ap, mCalKP_ap, aCons_ap, aNil_ap, anV_ap, orV_ap, ntV_ap, tsb_ap, tru_ap, nt_ap, an_ap, orr_ap, ife_ap, chn_ap, joi_ap, slc_ap, pNone_ap, pSome_ap, xOf_ap, xPop_ap, iSeq_ap, iRg1_ap, iRg2_ap, iEnum2_ap, iZip_ap, mMk_ap, yes_ap, gSet_ap, gTupD_ap, gsNil_ap, gsCons_ap, pick, asB, asS, asI, asT, slL, slot, dTru, dInt, dSub, dNeg, dLe, dLt, dGt, dGe, dMin2, dAbs, dList_l, dList_t, dTuple_l, dTuple_t, dLen_l, dLen_t, dLen_d, dLen_s, dAdd_i, subsT, subsL, atI_0, atI_1, atI_2, atI_3, isi_str, isi_tup, isi_dic, isi_int, isi_intb, isi_lst2, isi_tup2, dEq_int, dNe_int, if_tt, if_ff, Bool.not_true, Bool.not_false, Option.bind_some, List.map_cons, List.map_nil, List.cons_append, List.nil_append, List.length_cons, List.length_nil, List.getElem?_cons_succ, List.getElem?_cons_zero, List.set_cons_zero, List.set_cons_succ, List.filterMap_cons, List.filterMap_nil, bnd_ret, lft_some, lft_none, pur_ret, bnd_assoc, bnd_stk, List.replicate_succ, List.replicate_zero, Nat.reduceAdd, Nat.reduceSub, Nat.reduceEqDiff, if_true, if_false, eq_self, Int.cast_ofNat_Int, decide_true, decide_false, Int.reduceEq, Int.reduceLE, Int.reduceLT, Int.reduceNeg, Int.reduceAdd, Int.reduceSub, sUnp3_ap, sMt_ap, sMt0_ap, xPop0_ap, mMet_ap, mMetK_ap, isLstD_l, isDicD_d, is_betw]
  by_cases c1 : 4 ≤ i ∧ i ≤ 60
  · simp -implicitDefEqProofs only [decide_eq_true c1, sSeq_ap, sIf_ap, sSet_ap, sRet_ap, sNx_ap, sRetN_ap, sBk_ap, sCt_ap, sExp_ap, sAsg_ap, sPar_ap, sPar3_ap, sApp_ap, sSetX_ap, sExpX_ap, sIxs_ap, sSt_ap, sFl_ap, sStk_ap, sFor_ap, mLst_ap, mTup_ap, mDnew_ap, mDisp_ap, ppCons_ap, ppNil_ap, o1_ap, o2_ap, vr_ap, cst_ap, mCal_ap, mCalP_ap, mCalKP_ap, aCons_ap, aNil_ap, anV_ap, orV_ap, ntV_ap, tsb_ap, tru_ap, nt_ap, an_ap, orr_ap, ife_ap, chn_ap, joi_ap, slc_ap, pNone_ap, pSome_ap, xOf_ap, xPop_ap, iSeq_ap, iRg1_ap, iRg2_ap, iEnum2_ap, iZip_ap, mMk_ap, yes_ap, gSet_ap, gTupD_ap, gsNil_ap, gsCons_ap, pick, asB, asS, asI, asT, slL, slot, dTru, dInt, dSub, dNeg, dLe, dLt, dGt, dGe, dMin2, dAbs, dList_l, dList_t, dTuple_l, dTuple_t, dLen_l, dLen_t, dLen_d, dLen_s, dAdd_i, subsT, subsL, atI_0, atI_1, atI_2, atI_3, isi_str, isi_tup, isi_dic, isi_int, isi_intb, isi_lst2, isi_tup2, dEq_int, dNe_int, if_tt, if_ff, Bool.not_true, Bool.not_false, Option.bind_some, List.map_cons, List.map_nil, List.cons_append, List.nil_append, List.length_cons, List.length_nil, List.getElem?_cons_succ, List.getElem?_cons_zero, List.set_cons_zero, List.set_cons_succ, List.filterMap_cons, List.filterMap_nil, bnd_ret, lft_some, lft_none, pur_ret, bnd_assoc, bnd_stk, List.replicate_succ, List.replicate_zero, Nat.reduceAdd, Nat.reduceSub, Nat.reduceEqDiff, if_true, if_false, eq_self, Int.cast_ofNat_Int, decide_true, decide_false, Int.reduceEq, Int.reduceLE, Int.reduceLT, Int.reduceNeg, Int.reduceAdd, Int.reduceSub, sUnp3_ap, sMt_ap, sMt0_ap, xPop0_ap, mMet_ap, mMetK_ap, isLstD_l, isDicD_d, dMod_pos (show (0 : Int) < 2 by decide)]
    congr 3
    simp [c1]
  · simp -implicitDefEqProofs only [decide_eq_false c1, sSeq_ap, sIf_ap, sSet_ap, sRet_ap, sNx_ap, sRetN_ap, sBk_ap, sCt_ap, sExp_ap, sAsg_ap, sPar_ap, sPar3_ap, sApp_ap, sSetX_ap, sExpX_ap, sIxs_ap, sSt_ap, sFl_ap, sStk_ap, sFor_ap, mLst_ap, mTup_ap, mDnew_ap, mDisp_ap, ppCons_ap, ppNil_ap, o1_ap, o2_ap, vr_ap, cst_ap, mCal_ap, mCalP_ap, mCalKP_ap, aCons_ap, aNil_ap, anV_ap, orV_ap, ntV_ap, tsb_ap, tru_ap, nt_ap, an_ap, orr_ap, ife_ap, chn_ap, joi_ap, slc_ap, pNone_ap, pSome_ap, xOf_ap, xPop_ap, iSeq_ap, iRg1_ap, iRg2_ap, iEnum2_ap, iZip_ap, mMk_ap, yes_ap, gSet_ap, gTupD_ap, gsNil_ap, gsCons_ap, pick, asB, asS, asI, asT, slL, slot, dTru, dInt, dSub, dNeg, dLe, dLt, dGt, dGe, dMin2, dAbs, dList_l, dList_t, dTuple_l, dTuple_t, dLen_l, dLen_t, dLen_d, dLen_s, dAdd_i, subsT, subsL, atI_0, atI_1, atI_2, atI_3, isi_str, isi_tup, isi_dic, isi_int, isi_intb, isi_lst2, isi_tup2, dEq_int, dNe_int, if_tt, if_ff, Bool.not_true, Bool.not_false, Option.bind_some, List.map_cons, List.map_nil, List.cons_append, List.nil_append, List.length_cons, List.length_nil, List.getElem?_cons_succ, List.getElem?_cons_zero, List.set_cons_zero, List.set_cons_succ, List.filterMap_cons, List.filterMap_nil, bnd_ret, lft_some, lft_none, pur_ret, bnd_assoc, bnd_stk, List.replicate_succ, List.replicate_zero, Nat.reduceAdd, Nat.reduceSub, Nat.reduceEqDiff, if_true, if_false, eq_self, Int.cast_ofNat_Int, decide_true, decide_false, Int.reduceEq, Int.reduceLE, Int.reduceLT, Int.reduceNeg, Int.reduceAdd, Int.reduceSub, sUnp3_ap, sMt_ap, sMt0_ap, xPop0_ap, mMet_ap, mMetK_ap, isLstD_l, isDicD_d]
    congr 2
    rw [eq_comm, decide_eq_false_iff_not]
    exact fun h => c1 ⟨h.1, h.2.1⟩
theorem dcF_keys {xs : List Str} {i : Nat} {ρ : DL.Env} (hi : i < ρ.length) : ∀ (ys acc : List Str), (acc ++ ys).Nodup → (dcF (gSet i) yes (vr i) (cst (.bl true)) ρ (ys.map .str) (acc.map fun x => (.inr x, .bl true)) : M Unit _) = DL.ret ((acc ++ ys).map fun x => (.inr x, .bl true))
  | [], acc, _ => by rw [List.append_nil]; rfl
  | y :: ys, acc, h => by
    have hy : y ∉ acc := fun q => by
      rw [List.nodup_append] at h
      exact h.2.2 y q y List.mem_cons_self rfl
    have hg : (ρ.set i (some (D.str y)))[i]? = some (some (.str y)) := List.getElem?_set_self hi
    have hp : putD (acc.map fun x => ((.inr x : Key), D.bl true)) (.inr y) (.bl true) = (acc ++ [y]).map fun x => (.inr x, .bl true) := by
      unfold putD
      rw [if_neg, List.map_append]
      · rfl
      · rw [List.any_map]
        simp only [List.any_eq_true, Function.comp, decide_eq_true_eq, not_exists, not_and]
        intro x hx e
        exact hy (Sum.inr.inj e ▸ hx)
    rw [List.map_cons, dcF]
    simp -implicitDefEqProofs only [sSeq_ap, sIf_ap, sSet_ap, sRet_ap, sNx_ap, sRetN_ap, sBk_ap, sCt_ap, sExp_ap, sAsg_ap, sPar_ap, sPar3_ap, sApp_ap, sSetX_ap, sExpX_ap, sIxs_ap, sSt_ap, sFl_ap, sStk_ap, sFor_ap, mLst_ap, mTup_ap, mDnew_ap, mDisp_ap, ppCons_ap, ppNil_ap, o1_ap, o2_ap, vr_ap, cst_ap, mCal_ap, mCalP_ap, mCalKP_ap, aCons_ap, aNil_ap, anV_ap, orV_ap, ntV_ap, tsb_ap, tru_ap, nt_ap, an_ap, orr_ap, ife_ap, chn_ap, joi_ap, slc_ap, pNone_ap, pSome_ap, xOf_ap, xPop_ap, iSeq_ap, iRg1_ap, iRg2_ap, iEnum2_ap, iZip_ap, mMk_ap, yes_ap, gSet_ap, gTupD_ap, gsNil_ap, gsCons_ap, pick, asB, asS, asI, asT, slL, slot, dTru, dInt, dSub, dNeg, dLe, dLt, dGt, dGe, dMin2, dAbs, dList_l, dList_t, dTuple_l, dTuple_t, dLen_l, dLen_t, dLen_d, dLen_s, dAdd_i, subsT, subsL, atI_0, atI_1, atI_2, atI_3, isi_str, isi_tup, isi_dic, isi_int, isi_intb, isi_lst2, isi_tup2, dEq_int, dNe_int, if_tt, if_ff, Bool.not_true, Bool.not_false, Option.bind_some, List.map_cons, List.map_nil, List.cons_append, List.nil_append, List.length_cons, List.length_nil, List.getElem?_cons_succ, List.getElem?_cons_zero, List.set_cons_zero, List.set_cons_succ, List.filterMap_cons, List.filterMap_nil, bnd_ret, lft_some, lft_none, pur_ret, bnd_assoc, bnd_stk, List.replicate_succ, List.replicate_zero, Nat.reduceAdd, Nat.reduceSub, Nat.reduceEqDiff, if_true, if_false, eq_self, Int.cast_ofNat_Int, decide_true, decide_false, Int.reduceEq, Int.reduceLE, Int.reduceLT, Int.reduceNeg, Int.reduceAdd, Int.reduceSub, sUnp3_ap, sMt_ap, sMt0_ap, xPop0_ap, mMet_ap, mMetK_ap, isLstD_l, isDicD_d, hg, asK]
    rw [hp, dcF_keys (xs := xs) hi ys (acc ++ [y]) (by rw [List.append_assoc]; exact h), List.append_assoc]
    rfl
theorem txts_strs : ∀ xs : List Str, txts (xs.map .str) = some xs
  | [] => rfl
  | x :: xs => by
    show (txts (xs.map .str)).map _ = _
    rw [txts_strs xs]
    rfl
theorem strK_strs : ∀ xs : List Str, strK (xs.map fun x => ((.inr x : Key), D.bl true)) = some xs
  | [] => rfl
  | x :: xs => by
    show (strK (xs.map fun x => ((.inr x : Key), D.bl true))).map _ = _
    rw [strK_strs xs]
    rfl
theorem plain_strs {n : Nat} {xs : List Str} (h : ∀ x ∈ xs, nmOk x = true) : PlainN (n + 1) (.lst (xs.map .str)) := plain_lst fun d hd => by
  obtain ⟨x, hx, rfl⟩ := List.mem_map.mp hd
  exact nm_plain (h x hx)
theorem eq_self_plain {d : D} (h : Plain d) : dEq d d = some (.bl true) := by
  obtain ⟨b, e1, e2⟩ := dEq_plain h h
  rw [e1, e2.mpr rfl]
theorem ne_self_plain {d : D} (h : Plain d) : dNe d d = some (.bl false) := by
  obtain ⟨b, e1, e2⟩ := dNe_plain h h
  rw [e1]
  cases b
  · rfl
  · exact absurd rfl (e2.mp rfl)
theorem dNe_refl (x : Str) : dNe (.str x) (.str x) = some (.bl false) := by
  show some (D.bl (!(x == x))) = _
  rw [beq_self_eq_true]
  rfl
theorem names_ok {xs : List Str} (h : Crew xs) {most : Int} (hm : (xs.length : Int) ≤ most) : m_are_names [namesD xs, .int most] = DL.ret (.bl true) := by
  have hl : (xs.map D.str).length ≤ sizeLine := by rw [List.length_map]; exact Nat.le_trans h.le (by decide)
  have h1 : (mCmp (iSeq (vr 0)) (gSet 2) yes (mCalP (aCons (vr 2) aNil) m_is_name) [2] : DL.Env → M Unit D) [some (namesD xs), some (.int most), none] = DL.ret (.lst (xs.map fun _ => .bl true)) := by
    simp -implicitDefEqProofs only [mCmp_ap, namesD, sSeq_ap, sIf_ap, sSet_ap, sRet_ap, sNx_ap, sRetN_ap, sBk_ap, sCt_ap, sExp_ap, sAsg_ap, sPar_ap, sPar3_ap, sApp_ap, sSetX_ap, sExpX_ap, sIxs_ap, sSt_ap, sFl_ap, sStk_ap, sFor_ap, mLst_ap, mTup_ap, mDnew_ap, mDisp_ap, ppCons_ap, ppNil_ap, o1_ap, o2_ap, vr_ap, cst_ap, mCal_ap, mCalP_ap, mCalKP_ap, aCons_ap, aNil_ap, anV_ap, orV_ap, ntV_ap, tsb_ap, tru_ap, nt_ap, an_ap, orr_ap, ife_ap, chn_ap, joi_ap, slc_ap, pNone_ap, pSome_ap, xOf_ap, xPop_ap, iSeq_ap, iRg1_ap, iRg2_ap, iEnum2_ap, iZip_ap, mMk_ap, yes_ap, gSet_ap, gTupD_ap, gsNil_ap, gsCons_ap, pick, asB, asS, asI, asT, slL, slot, dTru, dInt, dSub, dNeg, dLe, dLt, dGt, dGe, dMin2, dAbs, dList_l, dList_t, dTuple_l, dTuple_t, dLen_l, dLen_t, dLen_d, dLen_s, dAdd_i, subsT, subsL, atI_0, atI_1, atI_2, atI_3, isi_str, isi_tup, isi_dic, isi_int, isi_intb, isi_lst2, isi_tup2, dEq_int, dNe_int, if_tt, if_ff, Bool.not_true, Bool.not_false, Option.bind_some, List.map_cons, List.map_nil, List.cons_append, List.nil_append, List.length_cons, List.length_nil, List.getElem?_cons_succ, List.getElem?_cons_zero, List.set_cons_zero, List.set_cons_succ, List.filterMap_cons, List.filterMap_nil, bnd_ret, lft_some, lft_none, pur_ret, bnd_assoc, bnd_stk, List.replicate_succ, List.replicate_zero, Nat.reduceAdd, Nat.reduceSub, Nat.reduceEqDiff, if_true, if_false, eq_self, Int.cast_ofNat_Int, decide_true, decide_false, Int.reduceEq, Int.reduceLE, Int.reduceLT, Int.reduceNeg, Int.reduceAdd, Int.reduceSub, sUnp3_ap, sMt_ap, sMt0_ap, xPop0_ap, mMet_ap, mMetK_ap, isLstD_l, isDicD_d]
    rw [if_pos hl, cmpF_eq (p := fun _ => true) (g := fun _ => .bl true)]
    · rw [nox_ret, bnd_ret, List.filter_eq_self.mpr (by simp), List.map_map]
      rfl
    · intro d hd
      obtain ⟨x, hx, rfl⟩ := List.mem_map.mp hd
      refine ⟨_, rfl, rfl, fun _ => ?_⟩
      simp -implicitDefEqProofs only [wipeD, sSeq_ap, sIf_ap, sSet_ap, sRet_ap, sNx_ap, sRetN_ap, sBk_ap, sCt_ap, sExp_ap, sAsg_ap, sPar_ap, sPar3_ap, sApp_ap, sSetX_ap, sExpX_ap, sIxs_ap, sSt_ap, sFl_ap, sStk_ap, sFor_ap, mLst_ap, mTup_ap, mDnew_ap, mDisp_ap, ppCons_ap, ppNil_ap, o1_ap, o2_ap, vr_ap, cst_ap, mCal_ap, mCalP_ap, mCalKP_ap, aCons_ap, aNil_ap, anV_ap, orV_ap, ntV_ap, tsb_ap, tru_ap, nt_ap, an_ap, orr_ap, ife_ap, chn_ap, joi_ap, slc_ap, pNone_ap, pSome_ap, xOf_ap, xPop_ap, iSeq_ap, iRg1_ap, iRg2_ap, iEnum2_ap, iZip_ap, mMk_ap, yes_ap, gSet_ap, gTupD_ap, gsNil_ap, gsCons_ap, pick, asB, asS, asI, asT, slL, slot, dTru, dInt, dSub, dNeg, dLe, dLt, dGt, dGe, dMin2, dAbs, dList_l, dList_t, dTuple_l, dTuple_t, dLen_l, dLen_t, dLen_d, dLen_s, dAdd_i, subsT, subsL, atI_0, atI_1, atI_2, atI_3, isi_str, isi_tup, isi_dic, isi_int, isi_intb, isi_lst2, isi_tup2, dEq_int, dNe_int, if_tt, if_ff, Bool.not_true, Bool.not_false, Option.bind_some, List.map_cons, List.map_nil, List.cons_append, List.nil_append, List.length_cons, List.length_nil, List.getElem?_cons_succ, List.getElem?_cons_zero, List.set_cons_zero, List.set_cons_succ, List.filterMap_cons, List.filterMap_nil, bnd_ret, lft_some, lft_none, pur_ret, bnd_assoc, bnd_stk, List.replicate_succ, List.replicate_zero, Nat.reduceAdd, Nat.reduceSub, Nat.reduceEqDiff, if_true, if_false, eq_self, Int.cast_ofNat_Int, decide_true, decide_false, Int.reduceEq, Int.reduceLE, Int.reduceLT, Int.reduceNeg, Int.reduceAdd, Int.reduceSub, sUnp3_ap, sMt_ap, sMt0_ap, xPop0_ap, mMet_ap, mMetK_ap, isLstD_l, isDicD_d]
      rw [name_str (Nat.le_trans (nmOk_iff.mp (h.ok x hx)).2.1 (by decide)), h.ok x hx]
      rfl
  have h2 : (mDc (iSeq (vr 0)) (gSet 2) yes (vr 2) (cst (.bl true)) [2] : DL.Env → M Unit D) [some (namesD xs), some (.int most), none] = DL.ret (.dic (xs.map fun x => (.inr x, .bl true))) := by
    simp -implicitDefEqProofs only [mDc_ap, namesD, sSeq_ap, sIf_ap, sSet_ap, sRet_ap, sNx_ap, sRetN_ap, sBk_ap, sCt_ap, sExp_ap, sAsg_ap, sPar_ap, sPar3_ap, sApp_ap, sSetX_ap, sExpX_ap, sIxs_ap, sSt_ap, sFl_ap, sStk_ap, sFor_ap, mLst_ap, mTup_ap, mDnew_ap, mDisp_ap, ppCons_ap, ppNil_ap, o1_ap, o2_ap, vr_ap, cst_ap, mCal_ap, mCalP_ap, mCalKP_ap, aCons_ap, aNil_ap, anV_ap, orV_ap, ntV_ap, tsb_ap, tru_ap, nt_ap, an_ap, orr_ap, ife_ap, chn_ap, joi_ap, slc_ap, pNone_ap, pSome_ap, xOf_ap, xPop_ap, iSeq_ap, iRg1_ap, iRg2_ap, iEnum2_ap, iZip_ap, mMk_ap, yes_ap, gSet_ap, gTupD_ap, gsNil_ap, gsCons_ap, pick, asB, asS, asI, asT, slL, slot, dTru, dInt, dSub, dNeg, dLe, dLt, dGt, dGe, dMin2, dAbs, dList_l, dList_t, dTuple_l, dTuple_t, dLen_l, dLen_t, dLen_d, dLen_s, dAdd_i, subsT, subsL, atI_0, atI_1, atI_2, atI_3, isi_str, isi_tup, isi_dic, isi_int, isi_intb, isi_lst2, isi_tup2, dEq_int, dNe_int, if_tt, if_ff, Bool.not_true, Bool.not_false, Option.bind_some, List.map_cons, List.map_nil, List.cons_append, List.nil_append, List.length_cons, List.length_nil, List.getElem?_cons_succ, List.getElem?_cons_zero, List.set_cons_zero, List.set_cons_succ, List.filterMap_cons, List.filterMap_nil, bnd_ret, lft_some, lft_none, pur_ret, bnd_assoc, bnd_stk, List.replicate_succ, List.replicate_zero, Nat.reduceAdd, Nat.reduceSub, Nat.reduceEqDiff, if_true, if_false, eq_self, Int.cast_ofNat_Int, decide_true, decide_false, Int.reduceEq, Int.reduceLE, Int.reduceLT, Int.reduceNeg, Int.reduceAdd, Int.reduceSub, sUnp3_ap, sMt_ap, sMt0_ap, xPop0_ap, mMet_ap, mMetK_ap, isLstD_l, isDicD_d]
    rw [if_pos hl]
    have := dcF_keys (xs := xs) (i := 2) (ρ := wipeD [some (.tup (xs.map .str)), some (.int most), none] [2]) (by simp [wipeD]) xs [] (by simpa using h.nd)
    rw [List.map_nil, List.nil_append] at this
    rw [this]
    rfl
  have h3 : dSorted (.dic (xs.map fun x => (.inr x, .bl true))) = some (.lst (xs.map .str)) := by
    show (match strK (xs.map fun x => ((.inr x : Key), D.bl true)) with | some ks => if ks.length < 64 then some (D.lst ((sortS ks).map .str)) else none | none => none) = _
    rw [strK_strs]
    dsimp only
    rw [if_pos (Nat.lt_of_le_of_lt h.le (by decide)), ← sortS_eq (List.Perm.refl xs) h.up]
  have h4 : decide (most < ((xs.map D.str).length : Int)) = false := decide_eq_false (by rw [List.length_map]; omega)
  have h8 : dAll (.lst (xs.map fun _ => D.bl true)) = some (.bl true) := by
    rw [dAll_map (fun _ => true)]
    congr 2
    simp
  have h5 : dLen (namesD xs) = some (.int (xs.map D.str).length) := rfl
  have h6 : dIsi (namesD xs) (.ty "tuple") = some (.bl true) := rfl
  have h7 : dList (namesD xs) = some (.lst (xs.map .str)) := rfl
  unfold m_are_names
  rw [runB_eq]
  simp -implicitDefEqProofs only [b_are_names, sSeq_ap, sIf_ap, sSet_ap, sRet_ap, sNx_ap, sRetN_ap, sBk_ap, sCt_ap, sExp_ap, sAsg_ap, sPar_ap, sPar3_ap, sApp_ap, sSetX_ap, sExpX_ap, sIxs_ap, sSt_ap, sFl_ap, sStk_ap, sFor_ap, mLst_ap, mTup_ap, mDnew_ap, mDisp_ap, ppCons_ap, ppNil_ap, o1_ap, o2_ap, vr_ap, cst_ap, mCal_ap, mCalP_ap, mCalKP_ap, aCons_ap, aNil_ap, anV_ap, orV_ap, ntV_ap, tsb_ap, tru_ap, nt_ap, an_ap, orr_ap, ife_ap, chn_ap, joi_ap, slc_ap, pNone_ap, pSome_ap, xOf_ap, xPop_ap, iSeq_ap, iRg1_ap, iRg2_ap, iEnum2_ap, iZip_ap, mMk_ap, yes_ap, gSet_ap, gTupD_ap, gsNil_ap, gsCons_ap, pick, asB, asS, asI, asT, slL, slot, dTru, dInt, dSub, dNeg, dLe, dLt, dGt, dGe, dMin2, dAbs, dList_l, dList_t, dTuple_l, dTuple_t, dLen_l, dLen_t, dLen_d, dLen_s, dAdd_i, subsT, subsL, atI_0, atI_1, atI_2, atI_3, isi_str, isi_tup, isi_dic, isi_int, isi_intb, isi_lst2, isi_tup2, dEq_int, dNe_int, if_tt, if_ff, Bool.not_true, Bool.not_false, Option.bind_some, List.map_cons, List.map_nil, List.cons_append, List.nil_append, List.length_cons, List.length_nil, List.getElem?_cons_succ, List.getElem?_cons_zero, List.set_cons_zero, List.set_cons_succ, List.filterMap_cons, List.filterMap_nil, bnd_ret, lft_some, lft_none, pur_ret, bnd_assoc, bnd_stk, List.replicate_succ, List.replicate_zero, Nat.reduceAdd, Nat.reduceSub, Nat.reduceEqDiff, if_true, if_false, eq_self, Int.cast_ofNat_Int, decide_true, decide_false, Int.reduceEq, Int.reduceLE, Int.reduceLT, Int.reduceNeg, Int.reduceAdd, Int.reduceSub, sUnp3_ap, sMt_ap, sMt0_ap, xPop0_ap, mMet_ap, mMetK_ap, isLstD_l, isDicD_d, h6, h5, h4, h1, h2, h3, h7, h8, eq_self_plain (plain_strs (n := 0) h.ok).plain]

end Law

namespace Law
open PySem L2 DL
/-! ### signed lines and demands -/
def orgD : D := .tup [.str "", .int 1]
theorem org_d : org.d = orgD := rfl
theorem org_plain : Plain orgD := (plain_tup (n := 0) (ds := [.str "", .int 1]) fun d hd => by
  simp only [List.mem_cons, List.not_mem_nil, or_false] at hd
  rcases hd with rfl | rfl
  · exact plain_str (by decide +kernel)
  · exact plain_int _).plain
theorem sg_eq {xs : List Str} (hx : Crew xs) {a b : Sg} (ha : SgOk xs a) (hb : SgOk xs b) : dEq a.d b.d = some (.bl (decide (a = b))) := by
  obtain ⟨r, e1, e2⟩ := dEq_plain (ha.plain (n := 0) hx).plain (hb.plain (n := 0) hx).plain
  rw [e1]
  congr 2
  rw [Bool.eq_iff_iff, e2, Sg.d_inj, decide_eq_true_eq]
theorem sg_org {xs : List Str} (hx : Crew xs) {a : Sg} (ha : SgOk xs a) : dEq a.d orgD = some (.bl (decide (a = org))) := sg_eq hx ha (.inl rfl)
theorem in_pm (i : Int) : dIn (.int i) (.tup [.int 1, .int (-1)]) = some (.bl (decide (i = 1 ∨ i = -1))) := by
  have : dInB (.int i) (.tup [.int 1, .int (-1)]) = some (((1 : Int) == i) || (((-1 : Int) == i) || false)) := rfl
  unfold dIn
  rw [this]
  show some (D.bl _) = _
  congr 2
  rw [Bool.eq_iff_iff]
  simp only [Bool.or_eq_true, beq_iff_eq, decide_eq_true_eq, Bool.false_eq_true, or_false]
  omega
theorem signed_ok {xs : List Str} (hx : Crew xs) {a : Sg} (ha : SgOk xs a) : m_is_signed [a.d, namesD xs] = DL.ret (.bl true) := by
  have h1 := sg_org hx ha
  unfold m_is_signed
  rw [runB_eq]
  have e : a.d = .tup [.str a.n, .int a.s] := rfl
  have e2 : dIn (.str a.n) (namesD xs) = some (.bl (xs.contains a.n)) := by unfold dIn namesD; rw [in_strsT]; rfl
  unfold orgD at h1
  rw [e] at h1 ⊢
  simp -implicitDefEqProofs only [b_is_signed, sSeq_ap, sIf_ap, sSet_ap, sRet_ap, sNx_ap, sRetN_ap, sBk_ap, sCt_ap, sExp_ap, sAsg_ap, sPar_ap, sPar3_ap, sApp_ap, sSetX_ap, sExpX_ap, sIxs_ap, sSt_ap, sFl_ap, sStk_ap, sFor_ap, mLst_ap, mTup_ap, mDnew_ap, mDisp_ap, ppCons_ap, ppNil_ap, o1_ap, o2_ap, vr_ap, cst_ap, mCal_ap, mCalP_ap, mCalKP_ap, aCons_ap, aNil_ap, anV_ap, orV_ap, ntV_ap, tsb_ap, tru_ap, nt_ap, an_ap, orr_ap, ife_ap, chn_ap, joi_ap, slc_ap, pNone_ap, pSome_ap, xOf_ap, xPop_ap, iSeq_ap, iRg1_ap, iRg2_ap, iEnum2_ap, iZip_ap, mMk_ap, yes_ap, gSet_ap, gTupD_ap, gsNil_ap, gsCons_ap, pick, asB, asS, asI, asT, slL, slot, dTru, dInt, dSub, dNeg, dLe, dLt, dGt, dGe, dMin2, dAbs, dList_l, dList_t, dTuple_l, dTuple_t, dLen_l, dLen_t, dLen_d, dLen_s, dAdd_i, subsT, subsL, atI_0, atI_1, atI_2, atI_3, isi_str, isi_tup, isi_dic, isi_int, isi_intb, isi_lst2, isi_tup2, dEq_int, dNe_int, if_tt, if_ff, Bool.not_true, Bool.not_false, Option.bind_some, List.map_cons, List.map_nil, List.cons_append, List.nil_append, List.length_cons, List.length_nil, List.getElem?_cons_succ, List.getElem?_cons_zero, List.set_cons_zero, List.set_cons_succ, List.filterMap_cons, List.filterMap_nil, bnd_ret, lft_some, lft_none, pur_ret, bnd_assoc, bnd_stk, List.replicate_succ, List.replicate_zero, Nat.reduceAdd, Nat.reduceSub, Nat.reduceEqDiff, if_true, if_false, eq_self, Int.cast_ofNat_Int, decide_true, decide_false, Int.reduceEq, Int.reduceLE, Int.reduceLT, Int.reduceNeg, Int.reduceAdd, Int.reduceSub, sUnp3_ap, sMt_ap, sMt0_ap, xPop0_ap, mMet_ap, mMetK_ap, isLstD_l, isDicD_d, is_int, h1]
  by_cases c : a = org
  · simp -implicitDefEqProofs only [c, sSeq_ap, sIf_ap, sSet_ap, sRet_ap, sNx_ap, sRetN_ap, sBk_ap, sCt_ap, sExp_ap, sAsg_ap, sPar_ap, sPar3_ap, sApp_ap, sSetX_ap, sExpX_ap, sIxs_ap, sSt_ap, sFl_ap, sStk_ap, sFor_ap, mLst_ap, mTup_ap, mDnew_ap, mDisp_ap, ppCons_ap, ppNil_ap, o1_ap, o2_ap, vr_ap, cst_ap, mCal_ap, mCalP_ap, mCalKP_ap, aCons_ap, aNil_ap, anV_ap, orV_ap, ntV_ap, tsb_ap, tru_ap, nt_ap, an_ap, orr_ap, ife_ap, chn_ap, joi_ap, slc_ap, pNone_ap, pSome_ap, xOf_ap, xPop_ap, iSeq_ap, iRg1_ap, iRg2_ap, iEnum2_ap, iZip_ap, mMk_ap, yes_ap, gSet_ap, gTupD_ap, gsNil_ap, gsCons_ap, pick, asB, asS, asI, asT, slL, slot, dTru, dInt, dSub, dNeg, dLe, dLt, dGt, dGe, dMin2, dAbs, dList_l, dList_t, dTuple_l, dTuple_t, dLen_l, dLen_t, dLen_d, dLen_s, dAdd_i, subsT, subsL, atI_0, atI_1, atI_2, atI_3, isi_str, isi_tup, isi_dic, isi_int, isi_intb, isi_lst2, isi_tup2, dEq_int, dNe_int, if_tt, if_ff, Bool.not_true, Bool.not_false, Option.bind_some, List.map_cons, List.map_nil, List.cons_append, List.nil_append, List.length_cons, List.length_nil, List.getElem?_cons_succ, List.getElem?_cons_zero, List.set_cons_zero, List.set_cons_succ, List.filterMap_cons, List.filterMap_nil, bnd_ret, lft_some, lft_none, pur_ret, bnd_assoc, bnd_stk, List.replicate_succ, List.replicate_zero, Nat.reduceAdd, Nat.reduceSub, Nat.reduceEqDiff, if_true, if_false, eq_self, Int.cast_ofNat_Int, decide_true, decide_false, Int.reduceEq, Int.reduceLE, Int.reduceLT, Int.reduceNeg, Int.reduceAdd, Int.reduceSub, sUnp3_ap, sMt_ap, sMt0_ap, xPop0_ap, mMet_ap, mMetK_ap, isLstD_l, isDicD_d]
  · obtain ⟨h2, h3⟩ : a.n ∈ xs ∧ (a.s = 1 ∨ a.s = -1) := ha.resolve_left c
    have h4 : xs.contains a.n = true := List.contains_iff_mem.mpr h2
    simp -implicitDefEqProofs only [c, sSeq_ap, sIf_ap, sSet_ap, sRet_ap, sNx_ap, sRetN_ap, sBk_ap, sCt_ap, sExp_ap, sAsg_ap, sPar_ap, sPar3_ap, sApp_ap, sSetX_ap, sExpX_ap, sIxs_ap, sSt_ap, sFl_ap, sStk_ap, sFor_ap, mLst_ap, mTup_ap, mDnew_ap, mDisp_ap, ppCons_ap, ppNil_ap, o1_ap, o2_ap, vr_ap, cst_ap, mCal_ap, mCalP_ap, mCalKP_ap, aCons_ap, aNil_ap, anV_ap, orV_ap, ntV_ap, tsb_ap, tru_ap, nt_ap, an_ap, orr_ap, ife_ap, chn_ap, joi_ap, slc_ap, pNone_ap, pSome_ap, xOf_ap, xPop_ap, iSeq_ap, iRg1_ap, iRg2_ap, iEnum2_ap, iZip_ap, mMk_ap, yes_ap, gSet_ap, gTupD_ap, gsNil_ap, gsCons_ap, pick, asB, asS, asI, asT, slL, slot, dTru, dInt, dSub, dNeg, dLe, dLt, dGt, dGe, dMin2, dAbs, dList_l, dList_t, dTuple_l, dTuple_t, dLen_l, dLen_t, dLen_d, dLen_s, dAdd_i, subsT, subsL, atI_0, atI_1, atI_2, atI_3, isi_str, isi_tup, isi_dic, isi_int, isi_intb, isi_lst2, isi_tup2, dEq_int, dNe_int, if_tt, if_ff, Bool.not_true, Bool.not_false, Option.bind_some, List.map_cons, List.map_nil, List.cons_append, List.nil_append, List.length_cons, List.length_nil, List.getElem?_cons_succ, List.getElem?_cons_zero, List.set_cons_zero, List.set_cons_succ, List.filterMap_cons, List.filterMap_nil, bnd_ret, lft_some, lft_none, pur_ret, bnd_assoc, bnd_stk, List.replicate_succ, List.replicate_zero, Nat.reduceAdd, Nat.reduceSub, Nat.reduceEqDiff, if_true, if_false, eq_self, Int.cast_ofNat_Int, decide_true, decide_false, Int.reduceEq, Int.reduceLE, Int.reduceLT, Int.reduceNeg, Int.reduceAdd, Int.reduceSub, sUnp3_ap, sMt_ap, sMt0_ap, xPop0_ap, mMet_ap, mMetK_ap, isLstD_l, isDicD_d, e2, h4, in_pm, h3]
theorem demand_ok {P : Int} {xs : List Str} (hx : Crew xs) {m : Dm} (hm : DmOk P xs m) : m_is_demand [.int P, namesD xs, m.d] = DL.ret (.bl true) := by
  obtain ⟨h1, h2, h3, h4, h5⟩ := hm
  unfold m_is_demand
  rw [runB_eq]
  have e : m.d = .tup [m.a.d, m.b.d, .int m.lo, .int m.hi] := rfl
  rw [e]
  simp -implicitDefEqProofs only [b_is_demand, sSeq_ap, sIf_ap, sSet_ap, sRet_ap, sNx_ap, sRetN_ap, sBk_ap, sCt_ap, sExp_ap, sAsg_ap, sPar_ap, sPar3_ap, sApp_ap, sSetX_ap, sExpX_ap, sIxs_ap, sSt_ap, sFl_ap, sStk_ap, sFor_ap, mLst_ap, mTup_ap, mDnew_ap, mDisp_ap, ppCons_ap, ppNil_ap, o1_ap, o2_ap, vr_ap, cst_ap, mCal_ap, mCalP_ap, mCalKP_ap, aCons_ap, aNil_ap, anV_ap, orV_ap, ntV_ap, tsb_ap, tru_ap, nt_ap, an_ap, orr_ap, ife_ap, chn_ap, joi_ap, slc_ap, pNone_ap, pSome_ap, xOf_ap, xPop_ap, iSeq_ap, iRg1_ap, iRg2_ap, iEnum2_ap, iZip_ap, mMk_ap, yes_ap, gSet_ap, gTupD_ap, gsNil_ap, gsCons_ap, pick, asB, asS, asI, asT, slL, slot, dTru, dInt, dSub, dNeg, dLe, dLt, dGt, dGe, dMin2, dAbs, dList_l, dList_t, dTuple_l, dTuple_t, dLen_l, dLen_t, dLen_d, dLen_s, dAdd_i, subsT, subsL, atI_0, atI_1, atI_2, atI_3, isi_str, isi_tup, isi_dic, isi_int, isi_intb, isi_lst2, isi_tup2, dEq_int, dNe_int, if_tt, if_ff, Bool.not_true, Bool.not_false, Option.bind_some, List.map_cons, List.map_nil, List.cons_append, List.nil_append, List.length_cons, List.length_nil, List.getElem?_cons_succ, List.getElem?_cons_zero, List.set_cons_zero, List.set_cons_succ, List.filterMap_cons, List.filterMap_nil, bnd_ret, lft_some, lft_none, pur_ret, bnd_assoc, bnd_stk, List.replicate_succ, List.replicate_zero, Nat.reduceAdd, Nat.reduceSub, Nat.reduceEqDiff, if_true, if_false, eq_self, Int.cast_ofNat_Int, decide_true, decide_false, Int.reduceEq, Int.reduceLE, Int.reduceLT, Int.reduceNeg, Int.reduceAdd, Int.reduceSub, sUnp3_ap, sMt_ap, sMt0_ap, xPop0_ap, mMet_ap, mMetK_ap, isLstD_l, isDicD_d, is_int, signed_ok hx h1, signed_ok hx h2, sg_eq hx h1 h2, h3, h4, h5]

end Law

namespace Law
open PySem L2 DL
/-! ### images -/
theorem image_of_ok {xs : List Str} (hx : Crew xs) {a : Sg} (ha : SgOk xs a) : m_image_of [a.d] = DL.ret a.img.d := by
  have h1 := sg_org hx ha
  unfold m_image_of
  rw [runB_eq]
  have e : a.d = .tup [.str a.n, .int a.s] := rfl
  unfold orgD at h1
  rw [e] at h1 ⊢
  simp -implicitDefEqProofs only [b_image_of, sSeq_ap, sIf_ap, sSet_ap, sRet_ap, sNx_ap, sRetN_ap, sBk_ap, sCt_ap, sExp_ap, sAsg_ap, sPar_ap, sPar3_ap, sApp_ap, sSetX_ap, sExpX_ap, sIxs_ap, sSt_ap, sFl_ap, sStk_ap, sFor_ap, mLst_ap, mTup_ap, mDnew_ap, mDisp_ap, ppCons_ap, ppNil_ap, o1_ap, o2_ap, vr_ap, cst_ap, mCal_ap, mCalP_ap, mCalKP_ap, aCons_ap, aNil_ap, anV_ap, orV_ap, ntV_ap, tsb_ap, tru_ap, nt_ap, an_ap, orr_ap, ife_ap, chn_ap, joi_ap, slc_ap, pNone_ap, pSome_ap, xOf_ap, xPop_ap, iSeq_ap, iRg1_ap, iRg2_ap, iEnum2_ap, iZip_ap, mMk_ap, yes_ap, gSet_ap, gTupD_ap, gsNil_ap, gsCons_ap, pick, asB, asS, asI, asT, slL, slot, dTru, dInt, dSub, dNeg, dLe, dLt, dGt, dGe, dMin2, dAbs, dList_l, dList_t, dTuple_l, dTuple_t, dLen_l, dLen_t, dLen_d, dLen_s, dAdd_i, subsT, subsL, atI_0, atI_1, atI_2, atI_3, isi_str, isi_tup, isi_dic, isi_int, isi_intb, isi_lst2, isi_tup2, dEq_int, dNe_int, if_tt, if_ff, Bool.not_true, Bool.not_false, Option.bind_some, List.map_cons, List.map_nil, List.cons_append, List.nil_append, List.length_cons, List.length_nil, List.getElem?_cons_succ, List.getElem?_cons_zero, List.set_cons_zero, List.set_cons_succ, List.filterMap_cons, List.filterMap_nil, bnd_ret, lft_some, lft_none, pur_ret, bnd_assoc, bnd_stk, List.replicate_succ, List.replicate_zero, Nat.reduceAdd, Nat.reduceSub, Nat.reduceEqDiff, if_true, if_false, eq_self, Int.cast_ofNat_Int, decide_true, decide_false, Int.reduceEq, Int.reduceLE, Int.reduceLT, Int.reduceNeg, Int.reduceAdd, Int.reduceSub, sUnp3_ap, sMt_ap, sMt0_ap, xPop0_ap, mMet_ap, mMetK_ap, isLstD_l, isDicD_d, h1]
  unfold Sg.img
  by_cases c : a = org
  · simp -implicitDefEqProofs only [c, sSeq_ap, sIf_ap, sSet_ap, sRet_ap, sNx_ap, sRetN_ap, sBk_ap, sCt_ap, sExp_ap, sAsg_ap, sPar_ap, sPar3_ap, sApp_ap, sSetX_ap, sExpX_ap, sIxs_ap, sSt_ap, sFl_ap, sStk_ap, sFor_ap, mLst_ap, mTup_ap, mDnew_ap, mDisp_ap, ppCons_ap, ppNil_ap, o1_ap, o2_ap, vr_ap, cst_ap, mCal_ap, mCalP_ap, mCalKP_ap, aCons_ap, aNil_ap, anV_ap, orV_ap, ntV_ap, tsb_ap, tru_ap, nt_ap, an_ap, orr_ap, ife_ap, chn_ap, joi_ap, slc_ap, pNone_ap, pSome_ap, xOf_ap, xPop_ap, iSeq_ap, iRg1_ap, iRg2_ap, iEnum2_ap, iZip_ap, mMk_ap, yes_ap, gSet_ap, gTupD_ap, gsNil_ap, gsCons_ap, pick, asB, asS, asI, asT, slL, slot, dTru, dInt, dSub, dNeg, dLe, dLt, dGt, dGe, dMin2, dAbs, dList_l, dList_t, dTuple_l, dTuple_t, dLen_l, dLen_t, dLen_d, dLen_s, dAdd_i, subsT, subsL, atI_0, atI_1, atI_2, atI_3, isi_str, isi_tup, isi_dic, isi_int, isi_intb, isi_lst2, isi_tup2, dEq_int, dNe_int, if_tt, if_ff, Bool.not_true, Bool.not_false, Option.bind_some, List.map_cons, List.map_nil, List.cons_append, List.nil_append, List.length_cons, List.length_nil, List.getElem?_cons_succ, List.getElem?_cons_zero, List.set_cons_zero, List.set_cons_succ, List.filterMap_cons, List.filterMap_nil, bnd_ret, lft_some, lft_none, pur_ret, bnd_assoc, bnd_stk, List.replicate_succ, List.replicate_zero, Nat.reduceAdd, Nat.reduceSub, Nat.reduceEqDiff, if_true, if_false, eq_self, Int.cast_ofNat_Int, decide_true, decide_false, Int.reduceEq, Int.reduceLE, Int.reduceLT, Int.reduceNeg, Int.reduceAdd, Int.reduceSub, sUnp3_ap, sMt_ap, sMt0_ap, xPop0_ap, mMet_ap, mMetK_ap, isLstD_l, isDicD_d]
    rfl
  · simp -implicitDefEqProofs only [c, sSeq_ap, sIf_ap, sSet_ap, sRet_ap, sNx_ap, sRetN_ap, sBk_ap, sCt_ap, sExp_ap, sAsg_ap, sPar_ap, sPar3_ap, sApp_ap, sSetX_ap, sExpX_ap, sIxs_ap, sSt_ap, sFl_ap, sStk_ap, sFor_ap, mLst_ap, mTup_ap, mDnew_ap, mDisp_ap, ppCons_ap, ppNil_ap, o1_ap, o2_ap, vr_ap, cst_ap, mCal_ap, mCalP_ap, mCalKP_ap, aCons_ap, aNil_ap, anV_ap, orV_ap, ntV_ap, tsb_ap, tru_ap, nt_ap, an_ap, orr_ap, ife_ap, chn_ap, joi_ap, slc_ap, pNone_ap, pSome_ap, xOf_ap, xPop_ap, iSeq_ap, iRg1_ap, iRg2_ap, iEnum2_ap, iZip_ap, mMk_ap, yes_ap, gSet_ap, gTupD_ap, gsNil_ap, gsCons_ap, pick, asB, asS, asI, asT, slL, slot, dTru, dInt, dSub, dNeg, dLe, dLt, dGt, dGe, dMin2, dAbs, dList_l, dList_t, dTuple_l, dTuple_t, dLen_l, dLen_t, dLen_d, dLen_s, dAdd_i, subsT, subsL, atI_0, atI_1, atI_2, atI_3, isi_str, isi_tup, isi_dic, isi_int, isi_intb, isi_lst2, isi_tup2, dEq_int, dNe_int, if_tt, if_ff, Bool.not_true, Bool.not_false, Option.bind_some, List.map_cons, List.map_nil, List.cons_append, List.nil_append, List.length_cons, List.length_nil, List.getElem?_cons_succ, List.getElem?_cons_zero, List.set_cons_zero, List.set_cons_succ, List.filterMap_cons, List.filterMap_nil, bnd_ret, lft_some, lft_none, pur_ret, bnd_assoc, bnd_stk, List.replicate_succ, List.replicate_zero, Nat.reduceAdd, Nat.reduceSub, Nat.reduceEqDiff, if_true, if_false, eq_self, Int.cast_ofNat_Int, decide_true, decide_false, Int.reduceEq, Int.reduceLE, Int.reduceLT, Int.reduceNeg, Int.reduceAdd, Int.reduceSub, sUnp3_ap, sMt_ap, sMt0_ap, xPop0_ap, mMet_ap, mMetK_ap, isLstD_l, isDicD_d]
    rfl

end Law

namespace Law
open PySem L2 DL
/-! ### a problem made -/
theorem prob_made {P : Int} (hP : 4 ≤ P ∧ P ≤ 60 ∧ P % 2 = 0) {xs : List Str} (hx : Crew xs) {ms : List Dm} (hm : ∀ m ∈ ms, DmOk P xs m) (hl : ms.length ≤ 80) {d : D} (hd : d = .lst (ms.map Dm.d) ∨ d = .tup (ms.map Dm.d)) :
    m_Problem_init [.int P, namesD xs, d] = DL.ret (.slf "Problem" [("p_period", .int P), ("p_lines", namesD xs), ("p_demands", .tup (ms.map Dm.d))]) := by
  have h1 : decide (4 ≤ P ∧ P ≤ 60 ∧ P % 2 = 0) = true := decide_eq_true hP
  have h2 : dIsi d (.tup [.ty "list", .ty "tuple"]) = some (.bl true) := by rcases hd with rfl | rfl <;> rfl
  have h3 : dTuple d = some (.tup (ms.map Dm.d)) := by rcases hd with rfl | rfl <;> rfl
  have h4 : (iEnum2 (vr 3) : DL.Env → M Unit (List D)) [some (.slf "Problem" []), some (.int P), some (namesD xs), some d, none, none] = DL.ret (ms.zipIdx.map fun p => D.tup [.int (p.2 : Nat), p.1.d]) := by
    have hlist : ((ms.map Dm.d).mapIdx fun i d => D.tup [.int (i : Nat), d]) = ms.zipIdx.map fun p => D.tup [.int (p.2 : Nat), p.1.d] := by
      rw [List.mapIdx_eq_zipIdx_map, List.zipIdx_map, List.map_map]
      rfl
    rcases hd with rfl | rfl <;> simp -implicitDefEqProofs only [sSeq_ap, sIf_ap, sSet_ap, sRet_ap, sNx_ap, sRetN_ap, sBk_ap, sCt_ap, sExp_ap, sAsg_ap, sPar_ap, sPar3_ap, sApp_ap, sSetX_ap, sExpX_ap, sIxs_ap, sSt_ap, sFl_ap, sStk_ap, sFor_ap, mLst_ap, mTup_ap, mDnew_ap, mDisp_ap, ppCons_ap, ppNil_ap, o1_ap, o2_ap, vr_ap, cst_ap, mCal_ap, mCalP_ap, mCalKP_ap, aCons_ap, aNil_ap, anV_ap, orV_ap, ntV_ap, tsb_ap, tru_ap, nt_ap, an_ap, orr_ap, ife_ap, chn_ap, joi_ap, slc_ap, pNone_ap, pSome_ap, xOf_ap, xPop_ap, iSeq_ap, iRg1_ap, iRg2_ap, iEnum2_ap, iZip_ap, mMk_ap, yes_ap, gSet_ap, gTupD_ap, gsNil_ap, gsCons_ap, pick, asB, asS, asI, asT, slL, slot, dTru, dInt, dSub, dNeg, dLe, dLt, dGt, dGe, dMin2, dAbs, dList_l, dList_t, dTuple_l, dTuple_t, dLen_l, dLen_t, dLen_d, dLen_s, dAdd_i, subsT, subsL, atI_0, atI_1, atI_2, atI_3, isi_str, isi_tup, isi_dic, isi_int, isi_intb, isi_lst2, isi_tup2, dEq_int, dNe_int, if_tt, if_ff, Bool.not_true, Bool.not_false, Option.bind_some, List.map_cons, List.map_nil, List.cons_append, List.nil_append, List.length_cons, List.length_nil, List.getElem?_cons_succ, List.getElem?_cons_zero, List.set_cons_zero, List.set_cons_succ, List.filterMap_cons, List.filterMap_nil, bnd_ret, lft_some, lft_none, pur_ret, bnd_assoc, bnd_stk, List.replicate_succ, List.replicate_zero, Nat.reduceAdd, Nat.reduceSub, Nat.reduceEqDiff, if_true, if_false, eq_self, Int.cast_ofNat_Int, decide_true, decide_false, Int.reduceEq, Int.reduceLE, Int.reduceLT, Int.reduceNeg, Int.reduceAdd, Int.reduceSub, sUnp3_ap, sMt_ap, sMt0_ap, xPop0_ap, mMet_ap, mMetK_ap, isLstD_l, isDicD_d, hlist]
  refine sat_pure ?_
  unfold m_Problem_init
  rw [runI_eq]
  simp only [b_Problem_init, sSeq_ap, sFor_ap, List.map_cons, List.map_nil, List.cons_append, List.nil_append, List.length_cons, List.length_nil, List.replicate_succ, List.replicate_zero, Nat.reduceAdd, Nat.reduceSub]
  have e1 : dEq (.int 0) (.int 0) = some (.bl true) := rfl
  simp only [sIf_ap, nt_ap, tru_ap, mCalP_ap, aCons_ap, aNil_ap, vr_ap, cst_ap, mTup_ap, sNx_ap, o2_ap, List.getElem?_cons_succ, List.getElem?_cons_zero, bnd_ret, is_per, pur_ret, h1, dTru, lft_some, Bool.not_true, if_ff, names_ok hx (show (xs.length : Int) ≤ 8 by have := hx.le; omega), h2, h4, bnd_assoc]
  refine sat_bnd (sat_for (I := fun _ ρ => ∃ a b, ρ = [some (.slf "Problem" []), some (.int P), some (namesD xs), some d, a, b]) (R := fun _ => False) (i := 0) ⟨none, none, rfl⟩ ?_) ?_
  · rintro j e ρ hj _ ⟨a, b, rfl⟩
    obtain ⟨⟨m, i⟩, hmi, rfl⟩ := List.mem_map.mp (List.mem_of_getElem? hj)
    have hg := List.mem_zipIdx_iff_getElem?.mp hmi
    have hmem : m ∈ ms := List.mem_of_getElem? hg
    have hi : i < ms.length := (List.getElem?_eq_some_iff.mp hg).1
    refine ⟨_, rfl, ?_⟩
    have h5 : decide ((i : Int) = 80) = false := decide_eq_false (by omega)
    simp -implicitDefEqProofs only [sSeq_ap, sIf_ap, sSet_ap, sRet_ap, sNx_ap, sRetN_ap, sBk_ap, sCt_ap, sExp_ap, sAsg_ap, sPar_ap, sPar3_ap, sApp_ap, sSetX_ap, sExpX_ap, sIxs_ap, sSt_ap, sFl_ap, sStk_ap, sFor_ap, mLst_ap, mTup_ap, mDnew_ap, mDisp_ap, ppCons_ap, ppNil_ap, o1_ap, o2_ap, vr_ap, cst_ap, mCal_ap, mCalP_ap, mCalKP_ap, aCons_ap, aNil_ap, anV_ap, orV_ap, ntV_ap, tsb_ap, tru_ap, nt_ap, an_ap, orr_ap, ife_ap, chn_ap, joi_ap, slc_ap, pNone_ap, pSome_ap, xOf_ap, xPop_ap, iSeq_ap, iRg1_ap, iRg2_ap, iEnum2_ap, iZip_ap, mMk_ap, yes_ap, gSet_ap, gTupD_ap, gsNil_ap, gsCons_ap, pick, asB, asS, asI, asT, slL, slot, dTru, dInt, dSub, dNeg, dLe, dLt, dGt, dGe, dMin2, dAbs, dList_l, dList_t, dTuple_l, dTuple_t, dLen_l, dLen_t, dLen_d, dLen_s, dAdd_i, subsT, subsL, atI_0, atI_1, atI_2, atI_3, isi_str, isi_tup, isi_dic, isi_int, isi_intb, isi_lst2, isi_tup2, dEq_int, dNe_int, if_tt, if_ff, Bool.not_true, Bool.not_false, Option.bind_some, List.map_cons, List.map_nil, List.cons_append, List.nil_append, List.length_cons, List.length_nil, List.getElem?_cons_succ, List.getElem?_cons_zero, List.set_cons_zero, List.set_cons_succ, List.filterMap_cons, List.filterMap_nil, bnd_ret, lft_some, lft_none, pur_ret, bnd_assoc, bnd_stk, List.replicate_succ, List.replicate_zero, Nat.reduceAdd, Nat.reduceSub, Nat.reduceEqDiff, if_true, if_false, eq_self, Int.cast_ofNat_Int, decide_true, decide_false, Int.reduceEq, Int.reduceLE, Int.reduceLT, Int.reduceNeg, Int.reduceAdd, Int.reduceSub, sUnp3_ap, sMt_ap, sMt0_ap, xPop0_ap, mMet_ap, mMetK_ap, isLstD_l, isDicD_d, h5, demand_ok hx (hm m hmem)]
    exact sat_ret (.inl ⟨.inl rfl, _, _, rfl⟩)
  · rintro ⟨fl, ρ⟩ (⟨rfl, a, b, rfl⟩ | ⟨_, _, h⟩)
    · have s1 : stFld "Problem" "p_period" (.int P) (.slf "Problem" []) = some (.slf "Problem" [("p_period", .int P)]) := rfl
      have s2 : stFld "Problem" "p_lines" (namesD xs) (.slf "Problem" [("p_period", .int P)]) = some (.slf "Problem" [("p_period", .int P), ("p_lines", namesD xs)]) := rfl
      have s3 : stFld "Problem" "p_demands" (.tup (ms.map Dm.d)) (.slf "Problem" [("p_period", .int P), ("p_lines", namesD xs)]) = some (.slf "Problem" [("p_period", .int P), ("p_lines", namesD xs), ("p_demands", .tup (ms.map Dm.d))]) := rfl
      simp -implicitDefEqProofs only [sSeq_ap, sIf_ap, sSet_ap, sRet_ap, sNx_ap, sRetN_ap, sBk_ap, sCt_ap, sExp_ap, sAsg_ap, sPar_ap, sPar3_ap, sApp_ap, sSetX_ap, sExpX_ap, sIxs_ap, sSt_ap, sFl_ap, sStk_ap, sFor_ap, mLst_ap, mTup_ap, mDnew_ap, mDisp_ap, ppCons_ap, ppNil_ap, o1_ap, o2_ap, vr_ap, cst_ap, mCal_ap, mCalP_ap, mCalKP_ap, aCons_ap, aNil_ap, anV_ap, orV_ap, ntV_ap, tsb_ap, tru_ap, nt_ap, an_ap, orr_ap, ife_ap, chn_ap, joi_ap, slc_ap, pNone_ap, pSome_ap, xOf_ap, xPop_ap, iSeq_ap, iRg1_ap, iRg2_ap, iEnum2_ap, iZip_ap, mMk_ap, yes_ap, gSet_ap, gTupD_ap, gsNil_ap, gsCons_ap, pick, asB, asS, asI, asT, slL, slot, dTru, dInt, dSub, dNeg, dLe, dLt, dGt, dGe, dMin2, dAbs, dList_l, dList_t, dTuple_l, dTuple_t, dLen_l, dLen_t, dLen_d, dLen_s, dAdd_i, subsT, subsL, atI_0, atI_1, atI_2, atI_3, isi_str, isi_tup, isi_dic, isi_int, isi_intb, isi_lst2, isi_tup2, dEq_int, dNe_int, if_tt, if_ff, Bool.not_true, Bool.not_false, Option.bind_some, List.map_cons, List.map_nil, List.cons_append, List.nil_append, List.length_cons, List.length_nil, List.getElem?_cons_succ, List.getElem?_cons_zero, List.set_cons_zero, List.set_cons_succ, List.filterMap_cons, List.filterMap_nil, bnd_ret, lft_some, lft_none, pur_ret, bnd_assoc, bnd_stk, List.replicate_succ, List.replicate_zero, Nat.reduceAdd, Nat.reduceSub, Nat.reduceEqDiff, if_true, if_false, eq_self, Int.cast_ofNat_Int, decide_true, decide_false, Int.reduceEq, Int.reduceLE, Int.reduceLT, Int.reduceNeg, Int.reduceAdd, Int.reduceSub, sUnp3_ap, sMt_ap, sMt0_ap, xPop0_ap, mMet_ap, mMetK_ap, isLstD_l, isDicD_d, h3, s1, s2, s3]
      exact sat_ret rfl
    · exact h.elim
theorem prob_mk {S : Type} {P : Int} (hP : 4 ≤ P ∧ P ≤ 60 ∧ P % 2 = 0) {xs : List Str} (hx : Crew xs) {ms : List Dm} (hm : ∀ m ∈ ms, DmOk P xs m) (hl : ms.length ≤ 80) {d : D} (hd : d = .lst (ms.map Dm.d) ∨ d = .tup (ms.map Dm.d)) {f : DL.Env → M S (List D)} {ρ : DL.Env} (hf : f ρ = DL.ret [.int P, namesD xs, d]) :
    mMk f m_Problem_init ρ = DL.ret (probD P xs ms) := by
  simp only [mMk_ap, hf, bnd_ret, prob_made hP hx hm hl hd, pur_ret]
  rfl

end Law

namespace Law
open PySem L2 DL
/-! ### drawn names -/
def sev (x : Str) : Str := cutS x none (some 7)
def othB (x : Str) : List Str := lett.cps.toList.map fun c => sev x ++ ⟨#[c]⟩
theorem sev_cps (x : Str) : (sev x).cps.toList = x.cps.toList.take 7 := by
  show ((x.cps.toList.drop 0).take (min 7 x.length - 0)) = _
  rw [List.drop_zero, Nat.sub_zero]
  have : x.length = x.cps.toList.length := Array.length_toList.symm
  rw [this]
  by_cases h : 7 ≤ x.cps.toList.length
  · rw [Nat.min_eq_left h]
  · rw [Nat.min_eq_right (by omega), List.take_of_length_le (Nat.le_refl _), List.take_of_length_le (by omega)]
theorem othB_ok {x : Str} (h : nmOk x = true) : ∀ y ∈ othB x, nmOk y = true := by
  intro y hy
  obtain ⟨c, hc, rfl⟩ := List.mem_map.mp hy
  obtain ⟨h1, h2, h3⟩ := nmOk_iff.mp h
  have e : (sev x ++ (⟨#[c]⟩ : Str)).cps.toList = x.cps.toList.take 7 ++ [c] := by rw [app_cps, sev_cps]
  refine nmOk_iff.mpr ⟨?_, ?_, fun d hd => ?_⟩
  · rw [len_cps, e]; simp
  · rw [len_cps, e]; simp only [List.length_append, List.length_take, List.length_cons, List.length_nil]; omega
  · rw [e] at hd
    simp only [List.mem_append, List.mem_singleton] at hd
    rcases hd with hd | rfl
    · exact h3 d (List.mem_of_mem_take hd)
    · exact hc
theorem othB_nodup (x : Str) : (othB x).Nodup := by
  have h : lett.cps.toList.Nodup := by decide +kernel
  unfold othB
  refine List.Pairwise.map _ ?_ h
  intro a b hab e
  refine hab ?_
  have h2 : (sev x ++ (⟨#[a]⟩ : Str)).cps.toList = (sev x ++ (⟨#[b]⟩ : Str)).cps.toList := congrArg (fun z : Str => z.cps.toList) e
  rw [app_cps, app_cps (sev x) ⟨#[b]⟩] at h2
  have h3 := List.append_cancel_left h2
  simpa using h3
theorem candB_ne {x : Str} {found : List Str} (hl : found.length < 26) : ∃ y r, (x :: othB x).filter (fun y => !found.contains y) = y :: r ∧ y ∉ found ∧ y ∈ x :: othB x := by
  obtain ⟨y, h1, h2⟩ := fresh_of (othB_nodup x) (ys := found) (by unfold othB; rw [List.length_map]; exact Nat.lt_of_lt_of_le hl (by decide +kernel))
  have hm : y ∈ (x :: othB x).filter (fun y => !found.contains y) := by
    rw [List.mem_filter]
    exact ⟨List.mem_cons_of_mem _ h1, by simpa using h2⟩
  cases e : (x :: othB x).filter (fun y => !found.contains y) with
  | nil => rw [e] at hm; cases hm
  | cons z r =>
    have hz : z ∈ (x :: othB x).filter (fun y => !found.contains y) := by rw [e]; exact List.mem_cons_self
    rw [List.mem_filter] at hz
    exact ⟨z, r, rfl, by simpa using hz.2, hz.1⟩
theorem dIn_n (found : List Str) (z : Str) : dNotIn (.str z) (.lst (found.map .str)) = some (.bl (!found.contains z)) := by
  unfold dNotIn
  rw [in_strs]
  rfl
theorem othB_run {x : Str} (hx : nmOk x = true) {a0 a1 a4 a5 : Option D} : (mCmp (iSeq (vr 2)) (gSet 6) (yes) (o2 dAdd (slc dSlc (vr 3) (pNone) (pSome (cst (.int 7)))) (vr 6)) [6] : DL.Env → M BgS D) [a0, a1, some (.str lett), some (.str x), a4, a5, none, none] = DL.ret (.lst ((othB x).map .str)) := by
  have hl := (nmOk_iff.mp hx).2.1
  have h1 : dSlc (.str x) none (some 7) = some (.str (sev x)) := by
    show (if x.length ≤ sizeLine then _ else _) = _
    rw [if_pos (Nat.le_trans hl (by decide))]
    rfl
  have h6 : (sev x).length ≤ 8 := by rw [len_cps, sev_cps, List.length_take, ← len_cps]; omega
  have h3 : ∀ c, dAdd (.str (sev x)) (.str ⟨#[c]⟩) = some (.str (sev x ++ ⟨#[c]⟩)) := fun c => by
    show (if (sev x).length + 1 ≤ sizeLine then _ else _) = _
    rw [if_pos (Nat.le_trans (show (sev x).length + 1 ≤ 10 by omega) (by decide))]
  have : (othB x).map D.str = lett.cps.toList.map fun c => D.str (sev x ++ ⟨#[c]⟩) := by unfold othB; rw [List.map_map]; rfl
  rw [this]
  refine mCmp_all (l := lett.cps.toList) (f := fun c => .str ⟨#[c]⟩) (fun c => D.str (sev x ++ ⟨#[c]⟩)) ?_ ?_ ?_
  · try simp -implicitDefEqProofs only [sSeq_ap, sIf_ap, sSet_ap, sRet_ap, sNx_ap, sRetN_ap, sBk_ap, sCt_ap, sExp_ap, sAsg_ap, sPar_ap, sPar3_ap, sApp_ap, sSetX_ap, sExpX_ap, sIxs_ap, sSt_ap, sFl_ap, sStk_ap, sFor_ap, mLst_ap, mTup_ap, mDnew_ap, mDisp_ap, ppCons_ap, ppNil_ap, o1_ap, o2_ap, vr_ap, cst_ap, mCal_ap, mCalP_ap, mCalKP_ap, aCons_ap, aNil_ap, anV_ap, orV_ap, ntV_ap, tsb_ap, tru_ap, nt_ap, an_ap, orr_ap, ife_ap, chn_ap, joi_ap, slc_ap, pNone_ap, pSome_ap, xOf_ap, xPop_ap, iSeq_ap, iRg1_ap, iRg2_ap, iEnum2_ap, iZip_ap, mMk_ap, yes_ap, gSet_ap, gTupD_ap, gsNil_ap, gsCons_ap, pick, asB, asS, asI, asT, slL, slot, dTru, dInt, dSub, dNeg, dLe, dLt, dGt, dGe, dMin2, dAbs, dList_l, dList_t, dTuple_l, dTuple_t, dLen_l, dLen_t, dLen_d, dLen_s, dAdd_i, subsT, subsL, atI_0, atI_1, atI_2, atI_3, isi_str, isi_tup, isi_dic, isi_int, isi_intb, isi_lst2, isi_tup2, dEq_int, dNe_int, if_tt, if_ff, Bool.not_true, Bool.not_false, Option.bind_some, List.map_cons, List.map_nil, List.cons_append, List.nil_append, List.length_cons, List.length_nil, List.getElem?_cons_succ, List.getElem?_cons_zero, List.set_cons_zero, List.set_cons_succ, List.filterMap_cons, List.filterMap_nil, bnd_ret, lft_some, lft_none, pur_ret, bnd_assoc, bnd_stk, List.replicate_succ, List.replicate_zero, Nat.reduceAdd, Nat.reduceSub, Nat.reduceEqDiff, if_true, if_false, eq_self, Int.cast_ofNat_Int, decide_true, decide_false, Int.reduceEq, Int.reduceLE, Int.reduceLT, Int.reduceNeg, Int.reduceAdd, Int.reduceSub, sUnp3_ap, sMt_ap, sMt0_ap, xPop0_ap, mMet_ap, mMetK_ap, isLstD_l, isDicD_d]
  · decide +kernel
  · intro c _
    refine ⟨_, rfl, ?_⟩
    simp -implicitDefEqProofs only [wipeD, sSeq_ap, sIf_ap, sSet_ap, sRet_ap, sNx_ap, sRetN_ap, sBk_ap, sCt_ap, sExp_ap, sAsg_ap, sPar_ap, sPar3_ap, sApp_ap, sSetX_ap, sExpX_ap, sIxs_ap, sSt_ap, sFl_ap, sStk_ap, sFor_ap, mLst_ap, mTup_ap, mDnew_ap, mDisp_ap, ppCons_ap, ppNil_ap, o1_ap, o2_ap, vr_ap, cst_ap, mCal_ap, mCalP_ap, mCalKP_ap, aCons_ap, aNil_ap, anV_ap, orV_ap, ntV_ap, tsb_ap, tru_ap, nt_ap, an_ap, orr_ap, ife_ap, chn_ap, joi_ap, slc_ap, pNone_ap, pSome_ap, xOf_ap, xPop_ap, iSeq_ap, iRg1_ap, iRg2_ap, iEnum2_ap, iZip_ap, mMk_ap, yes_ap, gSet_ap, gTupD_ap, gsNil_ap, gsCons_ap, pick, asB, asS, asI, asT, slL, slot, dTru, dInt, dSub, dNeg, dLe, dLt, dGt, dGe, dMin2, dAbs, dList_l, dList_t, dTuple_l, dTuple_t, dLen_l, dLen_t, dLen_d, dLen_s, dAdd_i, subsT, subsL, atI_0, atI_1, atI_2, atI_3, isi_str, isi_tup, isi_dic, isi_int, isi_intb, isi_lst2, isi_tup2, dEq_int, dNe_int, if_tt, if_ff, Bool.not_true, Bool.not_false, Option.bind_some, List.map_cons, List.map_nil, List.cons_append, List.nil_append, List.length_cons, List.length_nil, List.getElem?_cons_succ, List.getElem?_cons_zero, List.set_cons_zero, List.set_cons_succ, List.filterMap_cons, List.filterMap_nil, bnd_ret, lft_some, lft_none, pur_ret, bnd_assoc, bnd_stk, List.replicate_succ, List.replicate_zero, Nat.reduceAdd, Nat.reduceSub, Nat.reduceEqDiff, if_true, if_false, eq_self, Int.cast_ofNat_Int, decide_true, decide_false, Int.reduceEq, Int.reduceLE, Int.reduceLT, Int.reduceNeg, Int.reduceAdd, Int.reduceSub, sUnp3_ap, sMt_ap, sMt0_ap, xPop0_ap, mMet_ap, mMetK_ap, isLstD_l, isDicD_d, h1, h3]
theorem sat_wordB {found : List Str} (hl : found.length < 26) : Sat (m_law_word [.drw, .lst (found.map .str)]) fun d => ∃ y : Str, d = .str y ∧ y ∉ found ∧ nmOk y = true := by
  unfold m_law_word
  rw [runB_eq]
  unfold b_law_word
  refine sat_bnd (P := fun z => ∃ y : Str, z.1 = .rt (.str y) ∧ y ∉ found ∧ nmOk y = true) ?_ ?_
  · refine sat_seqB (fun ρ => ρ = [some .drw, some (.lst (found.map .str)), some (.str lett), none, none, none, none, none]) ?_ ?_
    · try simp -implicitDefEqProofs only [sSeq_ap, sIf_ap, sSet_ap, sRet_ap, sNx_ap, sRetN_ap, sBk_ap, sCt_ap, sExp_ap, sAsg_ap, sPar_ap, sPar3_ap, sApp_ap, sSetX_ap, sExpX_ap, sIxs_ap, sSt_ap, sFl_ap, sStk_ap, sFor_ap, mLst_ap, mTup_ap, mDnew_ap, mDisp_ap, ppCons_ap, ppNil_ap, o1_ap, o2_ap, vr_ap, cst_ap, mCal_ap, mCalP_ap, mCalKP_ap, aCons_ap, aNil_ap, anV_ap, orV_ap, ntV_ap, tsb_ap, tru_ap, nt_ap, an_ap, orr_ap, ife_ap, chn_ap, joi_ap, slc_ap, pNone_ap, pSome_ap, xOf_ap, xPop_ap, iSeq_ap, iRg1_ap, iRg2_ap, iEnum2_ap, iZip_ap, mMk_ap, yes_ap, gSet_ap, gTupD_ap, gsNil_ap, gsCons_ap, pick, asB, asS, asI, asT, slL, slot, dTru, dInt, dSub, dNeg, dLe, dLt, dGt, dGe, dMin2, dAbs, dList_l, dList_t, dTuple_l, dTuple_t, dLen_l, dLen_t, dLen_d, dLen_s, dAdd_i, subsT, subsL, atI_0, atI_1, atI_2, atI_3, isi_str, isi_tup, isi_dic, isi_int, isi_intb, isi_lst2, isi_tup2, dEq_int, dNe_int, if_tt, if_ff, Bool.not_true, Bool.not_false, Option.bind_some, List.map_cons, List.map_nil, List.cons_append, List.nil_append, List.length_cons, List.length_nil, List.getElem?_cons_succ, List.getElem?_cons_zero, List.set_cons_zero, List.set_cons_succ, List.filterMap_cons, List.filterMap_nil, bnd_ret, lft_some, lft_none, pur_ret, bnd_assoc, bnd_stk, List.replicate_succ, List.replicate_zero, Nat.reduceAdd, Nat.reduceSub, Nat.reduceEqDiff, if_true, if_false, eq_self, Int.cast_ofNat_Int, decide_true, decide_false, Int.reduceEq, Int.reduceLE, Int.reduceLT, Int.reduceNeg, Int.reduceAdd, Int.reduceSub, sUnp3_ap, sMt_ap, sMt0_ap, xPop0_ap, mMet_ap, mMetK_ap, isLstD_l, isDicD_d]
      exact sat_ret ⟨rfl, rfl⟩
    rintro _ rfl
    refine sat_seqB (fun ρ => ∃ x, nmOk x = true ∧ ρ = [some .drw, some (.lst (found.map .str)), some (.str lett), some (.str x), none, none, none, none]) ?_ ?_
    · try simp -implicitDefEqProofs only [sSeq_ap, sIf_ap, sSet_ap, sRet_ap, sNx_ap, sRetN_ap, sBk_ap, sCt_ap, sExp_ap, sAsg_ap, sPar_ap, sPar3_ap, sApp_ap, sSetX_ap, sExpX_ap, sIxs_ap, sSt_ap, sFl_ap, sStk_ap, sFor_ap, mLst_ap, mTup_ap, mDnew_ap, mDisp_ap, ppCons_ap, ppNil_ap, o1_ap, o2_ap, vr_ap, cst_ap, mCal_ap, mCalP_ap, mCalKP_ap, aCons_ap, aNil_ap, anV_ap, orV_ap, ntV_ap, tsb_ap, tru_ap, nt_ap, an_ap, orr_ap, ife_ap, chn_ap, joi_ap, slc_ap, pNone_ap, pSome_ap, xOf_ap, xPop_ap, iSeq_ap, iRg1_ap, iRg2_ap, iEnum2_ap, iZip_ap, mMk_ap, yes_ap, gSet_ap, gTupD_ap, gsNil_ap, gsCons_ap, pick, asB, asS, asI, asT, slL, slot, dTru, dInt, dSub, dNeg, dLe, dLt, dGt, dGe, dMin2, dAbs, dList_l, dList_t, dTuple_l, dTuple_t, dLen_l, dLen_t, dLen_d, dLen_s, dAdd_i, subsT, subsL, atI_0, atI_1, atI_2, atI_3, isi_str, isi_tup, isi_dic, isi_int, isi_intb, isi_lst2, isi_tup2, dEq_int, dNe_int, if_tt, if_ff, Bool.not_true, Bool.not_false, Option.bind_some, List.map_cons, List.map_nil, List.cons_append, List.nil_append, List.length_cons, List.length_nil, List.getElem?_cons_succ, List.getElem?_cons_zero, List.set_cons_zero, List.set_cons_succ, List.filterMap_cons, List.filterMap_nil, bnd_ret, lft_some, lft_none, pur_ret, bnd_assoc, bnd_stk, List.replicate_succ, List.replicate_zero, Nat.reduceAdd, Nat.reduceSub, Nat.reduceEqDiff, if_true, if_false, eq_self, Int.cast_ofNat_Int, decide_true, decide_false, Int.reduceEq, Int.reduceLE, Int.reduceLT, Int.reduceNeg, Int.reduceAdd, Int.reduceSub, sUnp3_ap, sMt_ap, sMt0_ap, xPop0_ap, mMet_ap, mMetK_ap, isLstD_l, isDicD_d]
      refine sat_bnd (DL.pickT_lst (by simp) (by simp)) fun d1 hd1 => ?_
      obtain ⟨x0, rfl, hx0⟩ : ∃ x, d1 = .str x ∧ nmOk x = true := by
        simp only [List.mem_cons, List.not_mem_nil, or_false] at hd1
        rcases hd1 with rfl | rfl | rfl | rfl | rfl | rfl | rfl | rfl | rfl | rfl | rfl | rfl <;> exact ⟨_, rfl, by decide +kernel⟩
      try simp -implicitDefEqProofs only [sSeq_ap, sIf_ap, sSet_ap, sRet_ap, sNx_ap, sRetN_ap, sBk_ap, sCt_ap, sExp_ap, sAsg_ap, sPar_ap, sPar3_ap, sApp_ap, sSetX_ap, sExpX_ap, sIxs_ap, sSt_ap, sFl_ap, sStk_ap, sFor_ap, mLst_ap, mTup_ap, mDnew_ap, mDisp_ap, ppCons_ap, ppNil_ap, o1_ap, o2_ap, vr_ap, cst_ap, mCal_ap, mCalP_ap, mCalKP_ap, aCons_ap, aNil_ap, anV_ap, orV_ap, ntV_ap, tsb_ap, tru_ap, nt_ap, an_ap, orr_ap, ife_ap, chn_ap, joi_ap, slc_ap, pNone_ap, pSome_ap, xOf_ap, xPop_ap, iSeq_ap, iRg1_ap, iRg2_ap, iEnum2_ap, iZip_ap, mMk_ap, yes_ap, gSet_ap, gTupD_ap, gsNil_ap, gsCons_ap, pick, asB, asS, asI, asT, slL, slot, dTru, dInt, dSub, dNeg, dLe, dLt, dGt, dGe, dMin2, dAbs, dList_l, dList_t, dTuple_l, dTuple_t, dLen_l, dLen_t, dLen_d, dLen_s, dAdd_i, subsT, subsL, atI_0, atI_1, atI_2, atI_3, isi_str, isi_tup, isi_dic, isi_int, isi_intb, isi_lst2, isi_tup2, dEq_int, dNe_int, if_tt, if_ff, Bool.not_true, Bool.not_false, Option.bind_some, List.map_cons, List.map_nil, List.cons_append, List.nil_append, List.length_cons, List.length_nil, List.getElem?_cons_succ, List.getElem?_cons_zero, List.set_cons_zero, List.set_cons_succ, List.filterMap_cons, List.filterMap_nil, bnd_ret, lft_some, lft_none, pur_ret, bnd_assoc, bnd_stk, List.replicate_succ, List.replicate_zero, Nat.reduceAdd, Nat.reduceSub, Nat.reduceEqDiff, if_true, if_false, eq_self, Int.cast_ofNat_Int, decide_true, decide_false, Int.reduceEq, Int.reduceLE, Int.reduceLT, Int.reduceNeg, Int.reduceAdd, Int.reduceSub, sUnp3_ap, sMt_ap, sMt0_ap, xPop0_ap, mMet_ap, mMetK_ap, isLstD_l, isDicD_d]
      exact sat_ret ⟨rfl, x0, hx0, rfl⟩
    rintro _ ⟨x0, hx0, rfl⟩
    refine sat_seqB (fun ρ => ∃ x, nmOk x = true ∧ ρ = [some .drw, some (.lst (found.map .str)), some (.str lett), some (.str x), none, none, none, none]) ?_ ?_
    · try simp -implicitDefEqProofs only [sSeq_ap, sIf_ap, sSet_ap, sRet_ap, sNx_ap, sRetN_ap, sBk_ap, sCt_ap, sExp_ap, sAsg_ap, sPar_ap, sPar3_ap, sApp_ap, sSetX_ap, sExpX_ap, sIxs_ap, sSt_ap, sFl_ap, sStk_ap, sFor_ap, mLst_ap, mTup_ap, mDnew_ap, mDisp_ap, ppCons_ap, ppNil_ap, o1_ap, o2_ap, vr_ap, cst_ap, mCal_ap, mCalP_ap, mCalKP_ap, aCons_ap, aNil_ap, anV_ap, orV_ap, ntV_ap, tsb_ap, tru_ap, nt_ap, an_ap, orr_ap, ife_ap, chn_ap, joi_ap, slc_ap, pNone_ap, pSome_ap, xOf_ap, xPop_ap, iSeq_ap, iRg1_ap, iRg2_ap, iEnum2_ap, iZip_ap, mMk_ap, yes_ap, gSet_ap, gTupD_ap, gsNil_ap, gsCons_ap, pick, asB, asS, asI, asT, slL, slot, dTru, dInt, dSub, dNeg, dLe, dLt, dGt, dGe, dMin2, dAbs, dList_l, dList_t, dTuple_l, dTuple_t, dLen_l, dLen_t, dLen_d, dLen_s, dAdd_i, subsT, subsL, atI_0, atI_1, atI_2, atI_3, isi_str, isi_tup, isi_dic, isi_int, isi_intb, isi_lst2, isi_tup2, dEq_int, dNe_int, if_tt, if_ff, Bool.not_true, Bool.not_false, Option.bind_some, List.map_cons, List.map_nil, List.cons_append, List.nil_append, List.length_cons, List.length_nil, List.getElem?_cons_succ, List.getElem?_cons_zero, List.set_cons_zero, List.set_cons_succ, List.filterMap_cons, List.filterMap_nil, bnd_ret, lft_some, lft_none, pur_ret, bnd_assoc, bnd_stk, List.replicate_succ, List.replicate_zero, Nat.reduceAdd, Nat.reduceSub, Nat.reduceEqDiff, if_true, if_false, eq_self, Int.cast_ofNat_Int, decide_true, decide_false, Int.reduceEq, Int.reduceLE, Int.reduceLT, Int.reduceNeg, Int.reduceAdd, Int.reduceSub, sUnp3_ap, sMt_ap, sMt0_ap, xPop0_ap, mMet_ap, mMetK_ap, isLstD_l, isDicD_d]
      refine sat_bnd (sat_take (by decide) (by decide) (Q := fun y => ∃ r : Int, y = .int r) fun r _ _ => ⟨r, rfl⟩) ?_
      rintro _ ⟨r, rfl⟩
      try simp -implicitDefEqProofs only [sSeq_ap, sIf_ap, sSet_ap, sRet_ap, sNx_ap, sRetN_ap, sBk_ap, sCt_ap, sExp_ap, sAsg_ap, sPar_ap, sPar3_ap, sApp_ap, sSetX_ap, sExpX_ap, sIxs_ap, sSt_ap, sFl_ap, sStk_ap, sFor_ap, mLst_ap, mTup_ap, mDnew_ap, mDisp_ap, ppCons_ap, ppNil_ap, o1_ap, o2_ap, vr_ap, cst_ap, mCal_ap, mCalP_ap, mCalKP_ap, aCons_ap, aNil_ap, anV_ap, orV_ap, ntV_ap, tsb_ap, tru_ap, nt_ap, an_ap, orr_ap, ife_ap, chn_ap, joi_ap, slc_ap, pNone_ap, pSome_ap, xOf_ap, xPop_ap, iSeq_ap, iRg1_ap, iRg2_ap, iEnum2_ap, iZip_ap, mMk_ap, yes_ap, gSet_ap, gTupD_ap, gsNil_ap, gsCons_ap, pick, asB, asS, asI, asT, slL, slot, dTru, dInt, dSub, dNeg, dLe, dLt, dGt, dGe, dMin2, dAbs, dList_l, dList_t, dTuple_l, dTuple_t, dLen_l, dLen_t, dLen_d, dLen_s, dAdd_i, subsT, subsL, atI_0, atI_1, atI_2, atI_3, isi_str, isi_tup, isi_dic, isi_int, isi_intb, isi_lst2, isi_tup2, dEq_int, dNe_int, if_tt, if_ff, Bool.not_true, Bool.not_false, Option.bind_some, List.map_cons, List.map_nil, List.cons_append, List.nil_append, List.length_cons, List.length_nil, List.getElem?_cons_succ, List.getElem?_cons_zero, List.set_cons_zero, List.set_cons_succ, List.filterMap_cons, List.filterMap_nil, bnd_ret, lft_some, lft_none, pur_ret, bnd_assoc, bnd_stk, List.replicate_succ, List.replicate_zero, Nat.reduceAdd, Nat.reduceSub, Nat.reduceEqDiff, if_true, if_false, eq_self, Int.cast_ofNat_Int, decide_true, decide_false, Int.reduceEq, Int.reduceLE, Int.reduceLT, Int.reduceNeg, Int.reduceAdd, Int.reduceSub, sUnp3_ap, sMt_ap, sMt0_ap, xPop0_ap, mMet_ap, mMetK_ap, isLstD_l, isDicD_d]
      refine sat_if (fun _ => ?_) fun _ => sat_ret ⟨rfl, x0, hx0, rfl⟩
      simp -implicitDefEqProofs only [sSeq_ap, sIf_ap, sSet_ap, sRet_ap, sNx_ap, sRetN_ap, sBk_ap, sCt_ap, sExp_ap, sAsg_ap, sPar_ap, sPar3_ap, sApp_ap, sSetX_ap, sExpX_ap, sIxs_ap, sSt_ap, sFl_ap, sStk_ap, sFor_ap, mLst_ap, mTup_ap, mDnew_ap, mDisp_ap, ppCons_ap, ppNil_ap, o1_ap, o2_ap, vr_ap, cst_ap, mCal_ap, mCalP_ap, mCalKP_ap, aCons_ap, aNil_ap, anV_ap, orV_ap, ntV_ap, tsb_ap, tru_ap, nt_ap, an_ap, orr_ap, ife_ap, chn_ap, joi_ap, slc_ap, pNone_ap, pSome_ap, xOf_ap, xPop_ap, iSeq_ap, iRg1_ap, iRg2_ap, iEnum2_ap, iZip_ap, mMk_ap, yes_ap, gSet_ap, gTupD_ap, gsNil_ap, gsCons_ap, pick, asB, asS, asI, asT, slL, slot, dTru, dInt, dSub, dNeg, dLe, dLt, dGt, dGe, dMin2, dAbs, dList_l, dList_t, dTuple_l, dTuple_t, dLen_l, dLen_t, dLen_d, dLen_s, dAdd_i, subsT, subsL, atI_0, atI_1, atI_2, atI_3, isi_str, isi_tup, isi_dic, isi_int, isi_intb, isi_lst2, isi_tup2, dEq_int, dNe_int, if_tt, if_ff, Bool.not_true, Bool.not_false, Option.bind_some, List.map_cons, List.map_nil, List.cons_append, List.nil_append, List.length_cons, List.length_nil, List.getElem?_cons_succ, List.getElem?_cons_zero, List.set_cons_zero, List.set_cons_succ, List.filterMap_cons, List.filterMap_nil, bnd_ret, lft_some, lft_none, pur_ret, bnd_assoc, bnd_stk, List.replicate_succ, List.replicate_zero, Nat.reduceAdd, Nat.reduceSub, Nat.reduceEqDiff, if_true, if_false, eq_self, Int.cast_ofNat_Int, decide_true, decide_false, Int.reduceEq, Int.reduceLE, Int.reduceLT, Int.reduceNeg, Int.reduceAdd, Int.reduceSub, sUnp3_ap, sMt_ap, sMt0_ap, xPop0_ap, mMet_ap, mMetK_ap, isLstD_l, isDicD_d, mCmp_ap]
      refine sat_bnd (sat_take (by decide) (by decide) (Q := fun y => ∃ r : Int, y = .int r ∧ 0 ≤ r ∧ r < 8) fun r a b => ⟨r, rfl, a, b⟩) ?_
      rintro _ ⟨r2, rfl, hr2⟩
      try simp -implicitDefEqProofs only [sSeq_ap, sIf_ap, sSet_ap, sRet_ap, sNx_ap, sRetN_ap, sBk_ap, sCt_ap, sExp_ap, sAsg_ap, sPar_ap, sPar3_ap, sApp_ap, sSetX_ap, sExpX_ap, sIxs_ap, sSt_ap, sFl_ap, sStk_ap, sFor_ap, mLst_ap, mTup_ap, mDnew_ap, mDisp_ap, ppCons_ap, ppNil_ap, o1_ap, o2_ap, vr_ap, cst_ap, mCal_ap, mCalP_ap, mCalKP_ap, aCons_ap, aNil_ap, anV_ap, orV_ap, ntV_ap, tsb_ap, tru_ap, nt_ap, an_ap, orr_ap, ife_ap, chn_ap, joi_ap, slc_ap, pNone_ap, pSome_ap, xOf_ap, xPop_ap, iSeq_ap, iRg1_ap, iRg2_ap, iEnum2_ap, iZip_ap, mMk_ap, yes_ap, gSet_ap, gTupD_ap, gsNil_ap, gsCons_ap, pick, asB, asS, asI, asT, slL, slot, dTru, dInt, dSub, dNeg, dLe, dLt, dGt, dGe, dMin2, dAbs, dList_l, dList_t, dTuple_l, dTuple_t, dLen_l, dLen_t, dLen_d, dLen_s, dAdd_i, subsT, subsL, atI_0, atI_1, atI_2, atI_3, isi_str, isi_tup, isi_dic, isi_int, isi_intb, isi_lst2, isi_tup2, dEq_int, dNe_int, if_tt, if_ff, Bool.not_true, Bool.not_false, Option.bind_some, List.map_cons, List.map_nil, List.cons_append, List.nil_append, List.length_cons, List.length_nil, List.getElem?_cons_succ, List.getElem?_cons_zero, List.set_cons_zero, List.set_cons_succ, List.filterMap_cons, List.filterMap_nil, bnd_ret, lft_some, lft_none, pur_ret, bnd_assoc, bnd_stk, List.replicate_succ, List.replicate_zero, Nat.reduceAdd, Nat.reduceSub, Nat.reduceEqDiff, if_true, if_false, eq_self, Int.cast_ofNat_Int, decide_true, decide_false, Int.reduceEq, Int.reduceLE, Int.reduceLT, Int.reduceNeg, Int.reduceAdd, Int.reduceSub, sUnp3_ap, sMt_ap, sMt0_ap, xPop0_ap, mMet_ap, mMetK_ap, isLstD_l, isDicD_d]
      rw [← bnd_assoc]
      refine sat_bnd (sat_lcR (n := 1 + r2) (Q := fun y => ∃ c ∈ lett.cps.toList, y = .str ⟨#[c]⟩) (by omega) (by omega) fun k _ _ => ?_) ?_
      · simp -implicitDefEqProofs only [wipeD, sSeq_ap, sIf_ap, sSet_ap, sRet_ap, sNx_ap, sRetN_ap, sBk_ap, sCt_ap, sExp_ap, sAsg_ap, sPar_ap, sPar3_ap, sApp_ap, sSetX_ap, sExpX_ap, sIxs_ap, sSt_ap, sFl_ap, sStk_ap, sFor_ap, mLst_ap, mTup_ap, mDnew_ap, mDisp_ap, ppCons_ap, ppNil_ap, o1_ap, o2_ap, vr_ap, cst_ap, mCal_ap, mCalP_ap, mCalKP_ap, aCons_ap, aNil_ap, anV_ap, orV_ap, ntV_ap, tsb_ap, tru_ap, nt_ap, an_ap, orr_ap, ife_ap, chn_ap, joi_ap, slc_ap, pNone_ap, pSome_ap, xOf_ap, xPop_ap, iSeq_ap, iRg1_ap, iRg2_ap, iEnum2_ap, iZip_ap, mMk_ap, yes_ap, gSet_ap, gTupD_ap, gsNil_ap, gsCons_ap, pick, asB, asS, asI, asT, slL, slot, dTru, dInt, dSub, dNeg, dLe, dLt, dGt, dGe, dMin2, dAbs, dList_l, dList_t, dTuple_l, dTuple_t, dLen_l, dLen_t, dLen_d, dLen_s, dAdd_i, subsT, subsL, atI_0, atI_1, atI_2, atI_3, isi_str, isi_tup, isi_dic, isi_int, isi_intb, isi_lst2, isi_tup2, dEq_int, dNe_int, if_tt, if_ff, Bool.not_true, Bool.not_false, Option.bind_some, List.map_cons, List.map_nil, List.cons_append, List.nil_append, List.length_cons, List.length_nil, List.getElem?_cons_succ, List.getElem?_cons_zero, List.set_cons_zero, List.set_cons_succ, List.filterMap_cons, List.filterMap_nil, bnd_ret, lft_some, lft_none, pur_ret, bnd_assoc, bnd_stk, List.replicate_succ, List.replicate_zero, Nat.reduceAdd, Nat.reduceSub, Nat.reduceEqDiff, if_true, if_false, eq_self, Int.cast_ofNat_Int, decide_true, decide_false, Int.reduceEq, Int.reduceLE, Int.reduceLT, Int.reduceNeg, Int.reduceAdd, Int.reduceSub, sUnp3_ap, sMt_ap, sMt0_ap, xPop0_ap, mMet_ap, mMetK_ap, isLstD_l, isDicD_d]
        exact pickT_str (by decide +kernel) (by decide +kernel)
      · rintro _ ⟨ys, rfl, hyl, hy⟩
        obtain ⟨x, e1, e2, e3⟩ := dJoin_signs (P := fun c => c ∈ lett.cps.toList) hy (by omega)
        have e1' : dJoin (.str (Str.ofString "")) (.lst ys) = some (.str x) := e1
        simp -implicitDefEqProofs only [sSeq_ap, sIf_ap, sSet_ap, sRet_ap, sNx_ap, sRetN_ap, sBk_ap, sCt_ap, sExp_ap, sAsg_ap, sPar_ap, sPar3_ap, sApp_ap, sSetX_ap, sExpX_ap, sIxs_ap, sSt_ap, sFl_ap, sStk_ap, sFor_ap, mLst_ap, mTup_ap, mDnew_ap, mDisp_ap, ppCons_ap, ppNil_ap, o1_ap, o2_ap, vr_ap, cst_ap, mCal_ap, mCalP_ap, mCalKP_ap, aCons_ap, aNil_ap, anV_ap, orV_ap, ntV_ap, tsb_ap, tru_ap, nt_ap, an_ap, orr_ap, ife_ap, chn_ap, joi_ap, slc_ap, pNone_ap, pSome_ap, xOf_ap, xPop_ap, iSeq_ap, iRg1_ap, iRg2_ap, iEnum2_ap, iZip_ap, mMk_ap, yes_ap, gSet_ap, gTupD_ap, gsNil_ap, gsCons_ap, pick, asB, asS, asI, asT, slL, slot, dTru, dInt, dSub, dNeg, dLe, dLt, dGt, dGe, dMin2, dAbs, dList_l, dList_t, dTuple_l, dTuple_t, dLen_l, dLen_t, dLen_d, dLen_s, dAdd_i, subsT, subsL, atI_0, atI_1, atI_2, atI_3, isi_str, isi_tup, isi_dic, isi_int, isi_intb, isi_lst2, isi_tup2, dEq_int, dNe_int, if_tt, if_ff, Bool.not_true, Bool.not_false, Option.bind_some, List.map_cons, List.map_nil, List.cons_append, List.nil_append, List.length_cons, List.length_nil, List.getElem?_cons_succ, List.getElem?_cons_zero, List.set_cons_zero, List.set_cons_succ, List.filterMap_cons, List.filterMap_nil, bnd_ret, lft_some, lft_none, pur_ret, bnd_assoc, bnd_stk, List.replicate_succ, List.replicate_zero, Nat.reduceAdd, Nat.reduceSub, Nat.reduceEqDiff, if_true, if_false, eq_self, Int.cast_ofNat_Int, decide_true, decide_false, Int.reduceEq, Int.reduceLE, Int.reduceLT, Int.reduceNeg, Int.reduceAdd, Int.reduceSub, sUnp3_ap, sMt_ap, sMt0_ap, xPop0_ap, mMet_ap, mMetK_ap, isLstD_l, isDicD_d, e1']
        exact sat_ret ⟨rfl, x, nmOk_iff.mpr ⟨by omega, by omega, e3⟩, rfl⟩
    rintro _ ⟨x, hx, rfl⟩
    have hlen : (othB x).length = 26 := by unfold othB; rw [List.length_map]; decide +kernel
    have h1 : dCat (.lst [.str x]) (.lst ((othB x).map .str)) = some (.lst ((x :: othB x).map .str)) := by
      show (if [D.str x].length + ((othB x).map D.str).length ≤ sizeLine then some (D.lst ([D.str x] ++ (othB x).map D.str)) else none) = _
      rw [if_pos (by simp only [List.length_map, List.length_cons, List.length_nil, hlen]; decide)]
      rfl
    refine sat_seqB (fun ρ => ρ = [some .drw, some (.lst (found.map .str)), some (.str lett), some (.str x), some (.lst ((x :: othB x).map .str)), none, none, none]) ?_ ?_
    · simp -implicitDefEqProofs only [sSeq_ap, sIf_ap, sSet_ap, sRet_ap, sNx_ap, sRetN_ap, sBk_ap, sCt_ap, sExp_ap, sAsg_ap, sPar_ap, sPar3_ap, sApp_ap, sSetX_ap, sExpX_ap, sIxs_ap, sSt_ap, sFl_ap, sStk_ap, sFor_ap, mLst_ap, mTup_ap, mDnew_ap, mDisp_ap, ppCons_ap, ppNil_ap, o1_ap, o2_ap, vr_ap, cst_ap, mCal_ap, mCalP_ap, mCalKP_ap, aCons_ap, aNil_ap, anV_ap, orV_ap, ntV_ap, tsb_ap, tru_ap, nt_ap, an_ap, orr_ap, ife_ap, chn_ap, joi_ap, slc_ap, pNone_ap, pSome_ap, xOf_ap, xPop_ap, iSeq_ap, iRg1_ap, iRg2_ap, iEnum2_ap, iZip_ap, mMk_ap, yes_ap, gSet_ap, gTupD_ap, gsNil_ap, gsCons_ap, pick, asB, asS, asI, asT, slL, slot, dTru, dInt, dSub, dNeg, dLe, dLt, dGt, dGe, dMin2, dAbs, dList_l, dList_t, dTuple_l, dTuple_t, dLen_l, dLen_t, dLen_d, dLen_s, dAdd_i, subsT, subsL, atI_0, atI_1, atI_2, atI_3, isi_str, isi_tup, isi_dic, isi_int, isi_intb, isi_lst2, isi_tup2, dEq_int, dNe_int, if_tt, if_ff, Bool.not_true, Bool.not_false, Option.bind_some, List.map_cons, List.map_nil, List.cons_append, List.nil_append, List.length_cons, List.length_nil, List.getElem?_cons_succ, List.getElem?_cons_zero, List.set_cons_zero, List.set_cons_succ, List.filterMap_cons, List.filterMap_nil, bnd_ret, lft_some, lft_none, pur_ret, bnd_assoc, bnd_stk, List.replicate_succ, List.replicate_zero, Nat.reduceAdd, Nat.reduceSub, Nat.reduceEqDiff, if_true, if_false, eq_self, Int.cast_ofNat_Int, decide_true, decide_false, Int.reduceEq, Int.reduceLE, Int.reduceLT, Int.reduceNeg, Int.reduceAdd, Int.reduceSub, sUnp3_ap, sMt_ap, sMt0_ap, xPop0_ap, mMet_ap, mMetK_ap, isLstD_l, isDicD_d, othB_run hx, h1]
      exact sat_ret ⟨rfl, rfl⟩
    rintro _ rfl
    obtain ⟨y, r, e1, e2, e3⟩ := candB_ne (x := x) hl
    have e4 : (mCmp (iSeq (vr 4)) (gSet 7) (tsb (o2 dNotIn (vr 7) (vr 1))) (vr 7) [7] : DL.Env → M BgS D) [some .drw, some (.lst (found.map .str)), some (.str lett), some (.str x), some (.lst ((x :: othB x).map .str)), none, none, none] = DL.ret (.lst ((y :: r).map .str)) := by
      rw [← e1]
      refine mCmp_eq (l := x :: othB x) (f := .str) (fun y => !found.contains y) .str ?_ (by rw [List.length_cons, hlen]; decide) fun z _ => ⟨_, rfl, ?_, fun _ => ?_⟩
      · simp -implicitDefEqProofs only [sSeq_ap, sIf_ap, sSet_ap, sRet_ap, sNx_ap, sRetN_ap, sBk_ap, sCt_ap, sExp_ap, sAsg_ap, sPar_ap, sPar3_ap, sApp_ap, sSetX_ap, sExpX_ap, sIxs_ap, sSt_ap, sFl_ap, sStk_ap, sFor_ap, mLst_ap, mTup_ap, mDnew_ap, mDisp_ap, ppCons_ap, ppNil_ap, o1_ap, o2_ap, vr_ap, cst_ap, mCal_ap, mCalP_ap, mCalKP_ap, aCons_ap, aNil_ap, anV_ap, orV_ap, ntV_ap, tsb_ap, tru_ap, nt_ap, an_ap, orr_ap, ife_ap, chn_ap, joi_ap, slc_ap, pNone_ap, pSome_ap, xOf_ap, xPop_ap, iSeq_ap, iRg1_ap, iRg2_ap, iEnum2_ap, iZip_ap, mMk_ap, yes_ap, gSet_ap, gTupD_ap, gsNil_ap, gsCons_ap, pick, asB, asS, asI, asT, slL, slot, dTru, dInt, dSub, dNeg, dLe, dLt, dGt, dGe, dMin2, dAbs, dList_l, dList_t, dTuple_l, dTuple_t, dLen_l, dLen_t, dLen_d, dLen_s, dAdd_i, subsT, subsL, atI_0, atI_1, atI_2, atI_3, isi_str, isi_tup, isi_dic, isi_int, isi_intb, isi_lst2, isi_tup2, dEq_int, dNe_int, if_tt, if_ff, Bool.not_true, Bool.not_false, Option.bind_some, List.map_cons, List.map_nil, List.cons_append, List.nil_append, List.length_cons, List.length_nil, List.getElem?_cons_succ, List.getElem?_cons_zero, List.set_cons_zero, List.set_cons_succ, List.filterMap_cons, List.filterMap_nil, bnd_ret, lft_some, lft_none, pur_ret, bnd_assoc, bnd_stk, List.replicate_succ, List.replicate_zero, Nat.reduceAdd, Nat.reduceSub, Nat.reduceEqDiff, if_true, if_false, eq_self, Int.cast_ofNat_Int, decide_true, decide_false, Int.reduceEq, Int.reduceLE, Int.reduceLT, Int.reduceNeg, Int.reduceAdd, Int.reduceSub, sUnp3_ap, sMt_ap, sMt0_ap, xPop0_ap, mMet_ap, mMetK_ap, isLstD_l, isDicD_d]
      · simp -implicitDefEqProofs only [wipeD, sSeq_ap, sIf_ap, sSet_ap, sRet_ap, sNx_ap, sRetN_ap, sBk_ap, sCt_ap, sExp_ap, sAsg_ap, sPar_ap, sPar3_ap, sApp_ap, sSetX_ap, sExpX_ap, sIxs_ap, sSt_ap, sFl_ap, sStk_ap, sFor_ap, mLst_ap, mTup_ap, mDnew_ap, mDisp_ap, ppCons_ap, ppNil_ap, o1_ap, o2_ap, vr_ap, cst_ap, mCal_ap, mCalP_ap, mCalKP_ap, aCons_ap, aNil_ap, anV_ap, orV_ap, ntV_ap, tsb_ap, tru_ap, nt_ap, an_ap, orr_ap, ife_ap, chn_ap, joi_ap, slc_ap, pNone_ap, pSome_ap, xOf_ap, xPop_ap, iSeq_ap, iRg1_ap, iRg2_ap, iEnum2_ap, iZip_ap, mMk_ap, yes_ap, gSet_ap, gTupD_ap, gsNil_ap, gsCons_ap, pick, asB, asS, asI, asT, slL, slot, dTru, dInt, dSub, dNeg, dLe, dLt, dGt, dGe, dMin2, dAbs, dList_l, dList_t, dTuple_l, dTuple_t, dLen_l, dLen_t, dLen_d, dLen_s, dAdd_i, subsT, subsL, atI_0, atI_1, atI_2, atI_3, isi_str, isi_tup, isi_dic, isi_int, isi_intb, isi_lst2, isi_tup2, dEq_int, dNe_int, if_tt, if_ff, Bool.not_true, Bool.not_false, Option.bind_some, List.map_cons, List.map_nil, List.cons_append, List.nil_append, List.length_cons, List.length_nil, List.getElem?_cons_succ, List.getElem?_cons_zero, List.set_cons_zero, List.set_cons_succ, List.filterMap_cons, List.filterMap_nil, bnd_ret, lft_some, lft_none, pur_ret, bnd_assoc, bnd_stk, List.replicate_succ, List.replicate_zero, Nat.reduceAdd, Nat.reduceSub, Nat.reduceEqDiff, if_true, if_false, eq_self, Int.cast_ofNat_Int, decide_true, decide_false, Int.reduceEq, Int.reduceLE, Int.reduceLT, Int.reduceNeg, Int.reduceAdd, Int.reduceSub, sUnp3_ap, sMt_ap, sMt0_ap, xPop0_ap, mMet_ap, mMetK_ap, isLstD_l, isDicD_d, dIn_n]
      · simp -implicitDefEqProofs only [wipeD, sSeq_ap, sIf_ap, sSet_ap, sRet_ap, sNx_ap, sRetN_ap, sBk_ap, sCt_ap, sExp_ap, sAsg_ap, sPar_ap, sPar3_ap, sApp_ap, sSetX_ap, sExpX_ap, sIxs_ap, sSt_ap, sFl_ap, sStk_ap, sFor_ap, mLst_ap, mTup_ap, mDnew_ap, mDisp_ap, ppCons_ap, ppNil_ap, o1_ap, o2_ap, vr_ap, cst_ap, mCal_ap, mCalP_ap, mCalKP_ap, aCons_ap, aNil_ap, anV_ap, orV_ap, ntV_ap, tsb_ap, tru_ap, nt_ap, an_ap, orr_ap, ife_ap, chn_ap, joi_ap, slc_ap, pNone_ap, pSome_ap, xOf_ap, xPop_ap, iSeq_ap, iRg1_ap, iRg2_ap, iEnum2_ap, iZip_ap, mMk_ap, yes_ap, gSet_ap, gTupD_ap, gsNil_ap, gsCons_ap, pick, asB, asS, asI, asT, slL, slot, dTru, dInt, dSub, dNeg, dLe, dLt, dGt, dGe, dMin2, dAbs, dList_l, dList_t, dTuple_l, dTuple_t, dLen_l, dLen_t, dLen_d, dLen_s, dAdd_i, subsT, subsL, atI_0, atI_1, atI_2, atI_3, isi_str, isi_tup, isi_dic, isi_int, isi_intb, isi_lst2, isi_tup2, dEq_int, dNe_int, if_tt, if_ff, Bool.not_true, Bool.not_false, Option.bind_some, List.map_cons, List.map_nil, List.cons_append, List.nil_append, List.length_cons, List.length_nil, List.getElem?_cons_succ, List.getElem?_cons_zero, List.set_cons_zero, List.set_cons_succ, List.filterMap_cons, List.filterMap_nil, bnd_ret, lft_some, lft_none, pur_ret, bnd_assoc, bnd_stk, List.replicate_succ, List.replicate_zero, Nat.reduceAdd, Nat.reduceSub, Nat.reduceEqDiff, if_true, if_false, eq_self, Int.cast_ofNat_Int, decide_true, decide_false, Int.reduceEq, Int.reduceLE, Int.reduceLT, Int.reduceNeg, Int.reduceAdd, Int.reduceSub, sUnp3_ap, sMt_ap, sMt0_ap, xPop0_ap, mMet_ap, mMetK_ap, isLstD_l, isDicD_d]
    rw [sRet_ap, o2_ap, e4]
    try simp -implicitDefEqProofs only [sSeq_ap, sIf_ap, sSet_ap, sRet_ap, sNx_ap, sRetN_ap, sBk_ap, sCt_ap, sExp_ap, sAsg_ap, sPar_ap, sPar3_ap, sApp_ap, sSetX_ap, sExpX_ap, sIxs_ap, sSt_ap, sFl_ap, sStk_ap, sFor_ap, mLst_ap, mTup_ap, mDnew_ap, mDisp_ap, ppCons_ap, ppNil_ap, o1_ap, o2_ap, vr_ap, cst_ap, mCal_ap, mCalP_ap, mCalKP_ap, aCons_ap, aNil_ap, anV_ap, orV_ap, ntV_ap, tsb_ap, tru_ap, nt_ap, an_ap, orr_ap, ife_ap, chn_ap, joi_ap, slc_ap, pNone_ap, pSome_ap, xOf_ap, xPop_ap, iSeq_ap, iRg1_ap, iRg2_ap, iEnum2_ap, iZip_ap, mMk_ap, yes_ap, gSet_ap, gTupD_ap, gsNil_ap, gsCons_ap, pick, asB, asS, asI, asT, slL, slot, dTru, dInt, dSub, dNeg, dLe, dLt, dGt, dGe, dMin2, dAbs, dList_l, dList_t, dTuple_l, dTuple_t, dLen_l, dLen_t, dLen_d, dLen_s, dAdd_i, subsT, subsL, atI_0, atI_1, atI_2, atI_3, isi_str, isi_tup, isi_dic, isi_int, isi_intb, isi_lst2, isi_tup2, dEq_int, dNe_int, if_tt, if_ff, Bool.not_true, Bool.not_false, Option.bind_some, List.map_cons, List.map_nil, List.cons_append, List.nil_append, List.length_cons, List.length_nil, List.getElem?_cons_succ, List.getElem?_cons_zero, List.set_cons_zero, List.set_cons_succ, List.filterMap_cons, List.filterMap_nil, bnd_ret, lft_some, lft_none, pur_ret, bnd_assoc, bnd_stk, List.replicate_succ, List.replicate_zero, Nat.reduceAdd, Nat.reduceSub, Nat.reduceEqDiff, if_true, if_false, eq_self, Int.cast_ofNat_Int, decide_true, decide_false, Int.reduceEq, Int.reduceLE, Int.reduceLT, Int.reduceNeg, Int.reduceAdd, Int.reduceSub, sUnp3_ap, sMt_ap, sMt0_ap, xPop0_ap, mMet_ap, mMetK_ap, isLstD_l, isDicD_d]
    exact sat_ret ⟨y, rfl, e2, (List.mem_cons.mp e3).elim (fun e => e ▸ hx) (othB_ok hx y)⟩
  · rintro ⟨fl, ρ⟩ ⟨y, h, h1, h2⟩
    obtain rfl : fl = .rt (.str y) := h
    exact sat_ret ⟨y, rfl, h1, h2⟩
theorem sat_words {n : Int} (h0 : 0 ≤ n) (h1 : n ≤ 20) : Sat (m_law_words [.drw, .int n]) fun d => ∃ xs : List Str, d = .lst (xs.map .str) ∧ (xs.length : Int) = n ∧ xs.Nodup ∧ ∀ x ∈ xs, nmOk x = true := by
  unfold m_law_words
  rw [runB_eq]
  simp -implicitDefEqProofs only [sSeq_ap, sIf_ap, sSet_ap, sRet_ap, sNx_ap, sRetN_ap, sBk_ap, sCt_ap, sExp_ap, sAsg_ap, sPar_ap, sPar3_ap, sApp_ap, sSetX_ap, sExpX_ap, sIxs_ap, sSt_ap, sFl_ap, sStk_ap, sFor_ap, mLst_ap, mTup_ap, mDnew_ap, mDisp_ap, ppCons_ap, ppNil_ap, o1_ap, o2_ap, vr_ap, cst_ap, mCal_ap, mCalP_ap, mCalKP_ap, aCons_ap, aNil_ap, anV_ap, orV_ap, ntV_ap, tsb_ap, tru_ap, nt_ap, an_ap, orr_ap, ife_ap, chn_ap, joi_ap, slc_ap, pNone_ap, pSome_ap, xOf_ap, xPop_ap, iSeq_ap, iRg1_ap, iRg2_ap, iEnum2_ap, iZip_ap, mMk_ap, yes_ap, gSet_ap, gTupD_ap, gsNil_ap, gsCons_ap, pick, asB, asS, asI, asT, slL, slot, dTru, dInt, dSub, dNeg, dLe, dLt, dGt, dGe, dMin2, dAbs, dList_l, dList_t, dTuple_l, dTuple_t, dLen_l, dLen_t, dLen_d, dLen_s, dAdd_i, subsT, subsL, atI_0, atI_1, atI_2, atI_3, isi_str, isi_tup, isi_dic, isi_int, isi_intb, isi_lst2, isi_tup2, dEq_int, dNe_int, if_tt, if_ff, Bool.not_true, Bool.not_false, Option.bind_some, List.map_cons, List.map_nil, List.cons_append, List.nil_append, List.length_cons, List.length_nil, List.getElem?_cons_succ, List.getElem?_cons_zero, List.set_cons_zero, List.set_cons_succ, List.filterMap_cons, List.filterMap_nil, bnd_ret, lft_some, lft_none, pur_ret, bnd_assoc, bnd_stk, List.replicate_succ, List.replicate_zero, Nat.reduceAdd, Nat.reduceSub, Nat.reduceEqDiff, if_true, if_false, eq_self, Int.cast_ofNat_Int, decide_true, decide_false, Int.reduceEq, Int.reduceLE, Int.reduceLT, Int.reduceNeg, Int.reduceAdd, Int.reduceSub, sUnp3_ap, sMt_ap, sMt0_ap, xPop0_ap, mMet_ap, mMetK_ap, isLstD_l, isDicD_d, b_law_words]
  rw [if_pos ⟨by omega, by omega⟩, bnd_ret]
  have hrl : (rng 0 n).length = n.toNat := by unfold rng; rw [List.length_map, List.length_range, Int.sub_zero]
  refine sat_bnd (sat_for (I := fun j ρ => ∃ (xs : List Str) (a3 : Option D), ρ = [some .drw, some (.int n), some (.lst (xs.map .str)), a3] ∧ xs.length = j ∧ xs.Nodup ∧ ∀ x ∈ xs, nmOk x = true) (R := fun _ => False) (i := 0) ⟨[], none, rfl, rfl, List.nodup_nil, by simp⟩ ?_) ?_
  · rintro j d ρ hj _ ⟨xs, a3, rfl, hxl, hnd, hok⟩
    have hj' : j < n.toNat := by
      have := (List.getElem?_eq_some_iff.mp hj).1
      rw [hrl] at this
      omega
    refine ⟨_, rfl, ?_⟩
    simp -implicitDefEqProofs only [sSeq_ap, sIf_ap, sSet_ap, sRet_ap, sNx_ap, sRetN_ap, sBk_ap, sCt_ap, sExp_ap, sAsg_ap, sPar_ap, sPar3_ap, sApp_ap, sSetX_ap, sExpX_ap, sIxs_ap, sSt_ap, sFl_ap, sStk_ap, sFor_ap, mLst_ap, mTup_ap, mDnew_ap, mDisp_ap, ppCons_ap, ppNil_ap, o1_ap, o2_ap, vr_ap, cst_ap, mCal_ap, mCalP_ap, mCalKP_ap, aCons_ap, aNil_ap, anV_ap, orV_ap, ntV_ap, tsb_ap, tru_ap, nt_ap, an_ap, orr_ap, ife_ap, chn_ap, joi_ap, slc_ap, pNone_ap, pSome_ap, xOf_ap, xPop_ap, iSeq_ap, iRg1_ap, iRg2_ap, iEnum2_ap, iZip_ap, mMk_ap, yes_ap, gSet_ap, gTupD_ap, gsNil_ap, gsCons_ap, pick, asB, asS, asI, asT, slL, slot, dTru, dInt, dSub, dNeg, dLe, dLt, dGt, dGe, dMin2, dAbs, dList_l, dList_t, dTuple_l, dTuple_t, dLen_l, dLen_t, dLen_d, dLen_s, dAdd_i, subsT, subsL, atI_0, atI_1, atI_2, atI_3, isi_str, isi_tup, isi_dic, isi_int, isi_intb, isi_lst2, isi_tup2, dEq_int, dNe_int, if_tt, if_ff, Bool.not_true, Bool.not_false, Option.bind_some, List.map_cons, List.map_nil, List.cons_append, List.nil_append, List.length_cons, List.length_nil, List.getElem?_cons_succ, List.getElem?_cons_zero, List.set_cons_zero, List.set_cons_succ, List.filterMap_cons, List.filterMap_nil, bnd_ret, lft_some, lft_none, pur_ret, bnd_assoc, bnd_stk, List.replicate_succ, List.replicate_zero, Nat.reduceAdd, Nat.reduceSub, Nat.reduceEqDiff, if_true, if_false, eq_self, Int.cast_ofNat_Int, decide_true, decide_false, Int.reduceEq, Int.reduceLE, Int.reduceLT, Int.reduceNeg, Int.reduceAdd, Int.reduceSub, sUnp3_ap, sMt_ap, sMt0_ap, xPop0_ap, mMet_ap, mMetK_ap, isLstD_l, isDicD_d, flt]
    refine sat_bnd (sat_wordB (found := xs) (by omega)) ?_
    rintro _ ⟨y, rfl, hy1, hy2⟩
    have hf : flatD (.str y) = true := rfl
    have hs : (xs.map D.str).length < sizeLine := by rw [List.length_map]; exact Nat.lt_of_lt_of_le (show xs.length < 26 by omega) (by decide)
    simp -implicitDefEqProofs only [sSeq_ap, sIf_ap, sSet_ap, sRet_ap, sNx_ap, sRetN_ap, sBk_ap, sCt_ap, sExp_ap, sAsg_ap, sPar_ap, sPar3_ap, sApp_ap, sSetX_ap, sExpX_ap, sIxs_ap, sSt_ap, sFl_ap, sStk_ap, sFor_ap, mLst_ap, mTup_ap, mDnew_ap, mDisp_ap, ppCons_ap, ppNil_ap, o1_ap, o2_ap, vr_ap, cst_ap, mCal_ap, mCalP_ap, mCalKP_ap, aCons_ap, aNil_ap, anV_ap, orV_ap, ntV_ap, tsb_ap, tru_ap, nt_ap, an_ap, orr_ap, ife_ap, chn_ap, joi_ap, slc_ap, pNone_ap, pSome_ap, xOf_ap, xPop_ap, iSeq_ap, iRg1_ap, iRg2_ap, iEnum2_ap, iZip_ap, mMk_ap, yes_ap, gSet_ap, gTupD_ap, gsNil_ap, gsCons_ap, pick, asB, asS, asI, asT, slL, slot, dTru, dInt, dSub, dNeg, dLe, dLt, dGt, dGe, dMin2, dAbs, dList_l, dList_t, dTuple_l, dTuple_t, dLen_l, dLen_t, dLen_d, dLen_s, dAdd_i, subsT, subsL, atI_0, atI_1, atI_2, atI_3, isi_str, isi_tup, isi_dic, isi_int, isi_intb, isi_lst2, isi_tup2, dEq_int, dNe_int, if_tt, if_ff, Bool.not_true, Bool.not_false, Option.bind_some, List.map_cons, List.map_nil, List.cons_append, List.nil_append, List.length_cons, List.length_nil, List.getElem?_cons_succ, List.getElem?_cons_zero, List.set_cons_zero, List.set_cons_succ, List.filterMap_cons, List.filterMap_nil, bnd_ret, lft_some, lft_none, pur_ret, bnd_assoc, bnd_stk, List.replicate_succ, List.replicate_zero, Nat.reduceAdd, Nat.reduceSub, Nat.reduceEqDiff, if_true, if_false, eq_self, Int.cast_ofNat_Int, decide_true, decide_false, Int.reduceEq, Int.reduceLE, Int.reduceLT, Int.reduceNeg, Int.reduceAdd, Int.reduceSub, sUnp3_ap, sMt_ap, sMt0_ap, xPop0_ap, mMet_ap, mMetK_ap, isLstD_l, isDicD_d, hf, if_pos hs]
    refine sat_ret (.inl ⟨.inl rfl, xs ++ [y], _, by rw [List.map_append]; rfl, by simp [hxl], ?_, ?_⟩)
    · rw [List.nodup_append]
      exact ⟨hnd, by simp, fun a ha b hb => by rw [List.mem_singleton] at hb; subst hb; exact fun e => hy1 (e ▸ ha)⟩
    · intro z hz
      rcases List.mem_append.mp hz with hz | hz
      · exact hok z hz
      · rw [List.mem_singleton.mp hz]; exact hy2
  · rintro ⟨fl, ρ⟩ (⟨rfl, xs, a3, rfl, hxl, hnd, hok⟩ | ⟨_, _, h⟩)
    · try simp -implicitDefEqProofs only [sSeq_ap, sIf_ap, sSet_ap, sRet_ap, sNx_ap, sRetN_ap, sBk_ap, sCt_ap, sExp_ap, sAsg_ap, sPar_ap, sPar3_ap, sApp_ap, sSetX_ap, sExpX_ap, sIxs_ap, sSt_ap, sFl_ap, sStk_ap, sFor_ap, mLst_ap, mTup_ap, mDnew_ap, mDisp_ap, ppCons_ap, ppNil_ap, o1_ap, o2_ap, vr_ap, cst_ap, mCal_ap, mCalP_ap, mCalKP_ap, aCons_ap, aNil_ap, anV_ap, orV_ap, ntV_ap, tsb_ap, tru_ap, nt_ap, an_ap, orr_ap, ife_ap, chn_ap, joi_ap, slc_ap, pNone_ap, pSome_ap, xOf_ap, xPop_ap, iSeq_ap, iRg1_ap, iRg2_ap, iEnum2_ap, iZip_ap, mMk_ap, yes_ap, gSet_ap, gTupD_ap, gsNil_ap, gsCons_ap, pick, asB, asS, asI, asT, slL, slot, dTru, dInt, dSub, dNeg, dLe, dLt, dGt, dGe, dMin2, dAbs, dList_l, dList_t, dTuple_l, dTuple_t, dLen_l, dLen_t, dLen_d, dLen_s, dAdd_i, subsT, subsL, atI_0, atI_1, atI_2, atI_3, isi_str, isi_tup, isi_dic, isi_int, isi_intb, isi_lst2, isi_tup2, dEq_int, dNe_int, if_tt, if_ff, Bool.not_true, Bool.not_false, Option.bind_some, List.map_cons, List.map_nil, List.cons_append, List.nil_append, List.length_cons, List.length_nil, List.getElem?_cons_succ, List.getElem?_cons_zero, List.set_cons_zero, List.set_cons_succ, List.filterMap_cons, List.filterMap_nil, bnd_ret, lft_some, lft_none, pur_ret, bnd_assoc, bnd_stk, List.replicate_succ, List.replicate_zero, Nat.reduceAdd, Nat.reduceSub, Nat.reduceEqDiff, if_true, if_false, eq_self, Int.cast_ofNat_Int, decide_true, decide_false, Int.reduceEq, Int.reduceLE, Int.reduceLT, Int.reduceNeg, Int.reduceAdd, Int.reduceSub, sUnp3_ap, sMt_ap, sMt0_ap, xPop0_ap, mMet_ap, mMetK_ap, isLstD_l, isDicD_d]
      exact sat_ret ⟨xs, rfl, by rw [hxl, Nat.zero_add, hrl]; exact Int.toNat_of_nonneg h0, hnd, hok⟩
    · exact h.elim

end Law

namespace Law
open PySem L2 DL
/-! ### drawn problems -/
theorem sat_signedB {xs : List Str} (hx : Crew xs) (hne : xs ≠ []) : Sat (m_law_signed [.drw, namesD xs]) fun d => ∃ a : Sg, d = a.d ∧ SgOk xs a := by
  unfold m_law_signed
  rw [runB_eq]
  simp -implicitDefEqProofs only [sSeq_ap, sIf_ap, sSet_ap, sRet_ap, sNx_ap, sRetN_ap, sBk_ap, sCt_ap, sExp_ap, sAsg_ap, sPar_ap, sPar3_ap, sApp_ap, sSetX_ap, sExpX_ap, sIxs_ap, sSt_ap, sFl_ap, sStk_ap, sFor_ap, mLst_ap, mTup_ap, mDnew_ap, mDisp_ap, ppCons_ap, ppNil_ap, o1_ap, o2_ap, vr_ap, cst_ap, mCal_ap, mCalP_ap, mCalKP_ap, aCons_ap, aNil_ap, anV_ap, orV_ap, ntV_ap, tsb_ap, tru_ap, nt_ap, an_ap, orr_ap, ife_ap, chn_ap, joi_ap, slc_ap, pNone_ap, pSome_ap, xOf_ap, xPop_ap, iSeq_ap, iRg1_ap, iRg2_ap, iEnum2_ap, iZip_ap, mMk_ap, yes_ap, gSet_ap, gTupD_ap, gsNil_ap, gsCons_ap, pick, asB, asS, asI, asT, slL, slot, dTru, dInt, dSub, dNeg, dLe, dLt, dGt, dGe, dMin2, dAbs, dList_l, dList_t, dTuple_l, dTuple_t, dLen_l, dLen_t, dLen_d, dLen_s, dAdd_i, subsT, subsL, atI_0, atI_1, atI_2, atI_3, isi_str, isi_tup, isi_dic, isi_int, isi_intb, isi_lst2, isi_tup2, dEq_int, dNe_int, if_tt, if_ff, Bool.not_true, Bool.not_false, Option.bind_some, List.map_cons, List.map_nil, List.cons_append, List.nil_append, List.length_cons, List.length_nil, List.getElem?_cons_succ, List.getElem?_cons_zero, List.set_cons_zero, List.set_cons_succ, List.filterMap_cons, List.filterMap_nil, bnd_ret, lft_some, lft_none, pur_ret, bnd_assoc, bnd_stk, List.replicate_succ, List.replicate_zero, Nat.reduceAdd, Nat.reduceSub, Nat.reduceEqDiff, if_true, if_false, eq_self, Int.cast_ofNat_Int, decide_true, decide_false, Int.reduceEq, Int.reduceLE, Int.reduceLT, Int.reduceNeg, Int.reduceAdd, Int.reduceSub, sUnp3_ap, sMt_ap, sMt0_ap, xPop0_ap, mMet_ap, mMetK_ap, isLstD_l, isDicD_d, b_law_signed]
  refine sat_bnd (sat_take (by decide) (by decide) (Q := fun y => ∃ r : Int, y = .int r) fun r _ _ => ⟨r, rfl⟩) ?_
  rintro _ ⟨r, rfl⟩
  try simp -implicitDefEqProofs only [sSeq_ap, sIf_ap, sSet_ap, sRet_ap, sNx_ap, sRetN_ap, sBk_ap, sCt_ap, sExp_ap, sAsg_ap, sPar_ap, sPar3_ap, sApp_ap, sSetX_ap, sExpX_ap, sIxs_ap, sSt_ap, sFl_ap, sStk_ap, sFor_ap, mLst_ap, mTup_ap, mDnew_ap, mDisp_ap, ppCons_ap, ppNil_ap, o1_ap, o2_ap, vr_ap, cst_ap, mCal_ap, mCalP_ap, mCalKP_ap, aCons_ap, aNil_ap, anV_ap, orV_ap, ntV_ap, tsb_ap, tru_ap, nt_ap, an_ap, orr_ap, ife_ap, chn_ap, joi_ap, slc_ap, pNone_ap, pSome_ap, xOf_ap, xPop_ap, iSeq_ap, iRg1_ap, iRg2_ap, iEnum2_ap, iZip_ap, mMk_ap, yes_ap, gSet_ap, gTupD_ap, gsNil_ap, gsCons_ap, pick, asB, asS, asI, asT, slL, slot, dTru, dInt, dSub, dNeg, dLe, dLt, dGt, dGe, dMin2, dAbs, dList_l, dList_t, dTuple_l, dTuple_t, dLen_l, dLen_t, dLen_d, dLen_s, dAdd_i, subsT, subsL, atI_0, atI_1, atI_2, atI_3, isi_str, isi_tup, isi_dic, isi_int, isi_intb, isi_lst2, isi_tup2, dEq_int, dNe_int, if_tt, if_ff, Bool.not_true, Bool.not_false, Option.bind_some, List.map_cons, List.map_nil, List.cons_append, List.nil_append, List.length_cons, List.length_nil, List.getElem?_cons_succ, List.getElem?_cons_zero, List.set_cons_zero, List.set_cons_succ, List.filterMap_cons, List.filterMap_nil, bnd_ret, lft_some, lft_none, pur_ret, bnd_assoc, bnd_stk, List.replicate_succ, List.replicate_zero, Nat.reduceAdd, Nat.reduceSub, Nat.reduceEqDiff, if_true, if_false, eq_self, Int.cast_ofNat_Int, decide_true, decide_false, Int.reduceEq, Int.reduceLE, Int.reduceLT, Int.reduceNeg, Int.reduceAdd, Int.reduceSub, sUnp3_ap, sMt_ap, sMt0_ap, xPop0_ap, mMet_ap, mMetK_ap, isLstD_l, isDicD_d]
  by_cases c : r = 0
  · have c' : decide (r = 0) = true := decide_eq_true c
    simp -implicitDefEqProofs only [sSeq_ap, sIf_ap, sSet_ap, sRet_ap, sNx_ap, sRetN_ap, sBk_ap, sCt_ap, sExp_ap, sAsg_ap, sPar_ap, sPar3_ap, sApp_ap, sSetX_ap, sExpX_ap, sIxs_ap, sSt_ap, sFl_ap, sStk_ap, sFor_ap, mLst_ap, mTup_ap, mDnew_ap, mDisp_ap, ppCons_ap, ppNil_ap, o1_ap, o2_ap, vr_ap, cst_ap, mCal_ap, mCalP_ap, mCalKP_ap, aCons_ap, aNil_ap, anV_ap, orV_ap, ntV_ap, tsb_ap, tru_ap, nt_ap, an_ap, orr_ap, ife_ap, chn_ap, joi_ap, slc_ap, pNone_ap, pSome_ap, xOf_ap, xPop_ap, iSeq_ap, iRg1_ap, iRg2_ap, iEnum2_ap, iZip_ap, mMk_ap, yes_ap, gSet_ap, gTupD_ap, gsNil_ap, gsCons_ap, pick, asB, asS, asI, asT, slL, slot, dTru, dInt, dSub, dNeg, dLe, dLt, dGt, dGe, dMin2, dAbs, dList_l, dList_t, dTuple_l, dTuple_t, dLen_l, dLen_t, dLen_d, dLen_s, dAdd_i, subsT, subsL, atI_0, atI_1, atI_2, atI_3, isi_str, isi_tup, isi_dic, isi_int, isi_intb, isi_lst2, isi_tup2, dEq_int, dNe_int, if_tt, if_ff, Bool.not_true, Bool.not_false, Option.bind_some, List.map_cons, List.map_nil, List.cons_append, List.nil_append, List.length_cons, List.length_nil, List.getElem?_cons_succ, List.getElem?_cons_zero, List.set_cons_zero, List.set_cons_succ, List.filterMap_cons, List.filterMap_nil, bnd_ret, lft_some, lft_none, pur_ret, bnd_assoc, bnd_stk, List.replicate_succ, List.replicate_zero, Nat.reduceAdd, Nat.reduceSub, Nat.reduceEqDiff, if_true, if_false, eq_self, Int.cast_ofNat_Int, decide_true, decide_false, Int.reduceEq, Int.reduceLE, Int.reduceLT, Int.reduceNeg, Int.reduceAdd, Int.reduceSub, sUnp3_ap, sMt_ap, sMt0_ap, xPop0_ap, mMet_ap, mMetK_ap, isLstD_l, isDicD_d, c']
    exact sat_ret ⟨org, rfl, .inl rfl⟩
  · have c' : decide (r = 0) = false := decide_eq_false c
    simp -implicitDefEqProofs only [sSeq_ap, sIf_ap, sSet_ap, sRet_ap, sNx_ap, sRetN_ap, sBk_ap, sCt_ap, sExp_ap, sAsg_ap, sPar_ap, sPar3_ap, sApp_ap, sSetX_ap, sExpX_ap, sIxs_ap, sSt_ap, sFl_ap, sStk_ap, sFor_ap, mLst_ap, mTup_ap, mDnew_ap, mDisp_ap, ppCons_ap, ppNil_ap, o1_ap, o2_ap, vr_ap, cst_ap, mCal_ap, mCalP_ap, mCalKP_ap, aCons_ap, aNil_ap, anV_ap, orV_ap, ntV_ap, tsb_ap, tru_ap, nt_ap, an_ap, orr_ap, ife_ap, chn_ap, joi_ap, slc_ap, pNone_ap, pSome_ap, xOf_ap, xPop_ap, iSeq_ap, iRg1_ap, iRg2_ap, iEnum2_ap, iZip_ap, mMk_ap, yes_ap, gSet_ap, gTupD_ap, gsNil_ap, gsCons_ap, pick, asB, asS, asI, asT, slL, slot, dTru, dInt, dSub, dNeg, dLe, dLt, dGt, dGe, dMin2, dAbs, dList_l, dList_t, dTuple_l, dTuple_t, dLen_l, dLen_t, dLen_d, dLen_s, dAdd_i, subsT, subsL, atI_0, atI_1, atI_2, atI_3, isi_str, isi_tup, isi_dic, isi_int, isi_intb, isi_lst2, isi_tup2, dEq_int, dNe_int, if_tt, if_ff, Bool.not_true, Bool.not_false, Option.bind_some, List.map_cons, List.map_nil, List.cons_append, List.nil_append, List.length_cons, List.length_nil, List.getElem?_cons_succ, List.getElem?_cons_zero, List.set_cons_zero, List.set_cons_succ, List.filterMap_cons, List.filterMap_nil, bnd_ret, lft_some, lft_none, pur_ret, bnd_assoc, bnd_stk, List.replicate_succ, List.replicate_zero, Nat.reduceAdd, Nat.reduceSub, Nat.reduceEqDiff, if_true, if_false, eq_self, Int.cast_ofNat_Int, decide_true, decide_false, Int.reduceEq, Int.reduceLE, Int.reduceLT, Int.reduceNeg, Int.reduceAdd, Int.reduceSub, sUnp3_ap, sMt_ap, sMt0_ap, xPop0_ap, mMet_ap, mMetK_ap, isLstD_l, isDicD_d, c']
    refine sat_bnd (DL.pickT_tup (by rw [List.length_map]; exact List.length_pos_iff.mpr hne) (by rw [List.length_map]; have := hx.le; omega)) fun dP hd => ?_
    obtain ⟨x, hxm, rfl⟩ := List.mem_map.mp hd
    try simp -implicitDefEqProofs only [sSeq_ap, sIf_ap, sSet_ap, sRet_ap, sNx_ap, sRetN_ap, sBk_ap, sCt_ap, sExp_ap, sAsg_ap, sPar_ap, sPar3_ap, sApp_ap, sSetX_ap, sExpX_ap, sIxs_ap, sSt_ap, sFl_ap, sStk_ap, sFor_ap, mLst_ap, mTup_ap, mDnew_ap, mDisp_ap, ppCons_ap, ppNil_ap, o1_ap, o2_ap, vr_ap, cst_ap, mCal_ap, mCalP_ap, mCalKP_ap, aCons_ap, aNil_ap, anV_ap, orV_ap, ntV_ap, tsb_ap, tru_ap, nt_ap, an_ap, orr_ap, ife_ap, chn_ap, joi_ap, slc_ap, pNone_ap, pSome_ap, xOf_ap, xPop_ap, iSeq_ap, iRg1_ap, iRg2_ap, iEnum2_ap, iZip_ap, mMk_ap, yes_ap, gSet_ap, gTupD_ap, gsNil_ap, gsCons_ap, pick, asB, asS, asI, asT, slL, slot, dTru, dInt, dSub, dNeg, dLe, dLt, dGt, dGe, dMin2, dAbs, dList_l, dList_t, dTuple_l, dTuple_t, dLen_l, dLen_t, dLen_d, dLen_s, dAdd_i, subsT, subsL, atI_0, atI_1, atI_2, atI_3, isi_str, isi_tup, isi_dic, isi_int, isi_intb, isi_lst2, isi_tup2, dEq_int, dNe_int, if_tt, if_ff, Bool.not_true, Bool.not_false, Option.bind_some, List.map_cons, List.map_nil, List.cons_append, List.nil_append, List.length_cons, List.length_nil, List.getElem?_cons_succ, List.getElem?_cons_zero, List.set_cons_zero, List.set_cons_succ, List.filterMap_cons, List.filterMap_nil, bnd_ret, lft_some, lft_none, pur_ret, bnd_assoc, bnd_stk, List.replicate_succ, List.replicate_zero, Nat.reduceAdd, Nat.reduceSub, Nat.reduceEqDiff, if_true, if_false, eq_self, Int.cast_ofNat_Int, decide_true, decide_false, Int.reduceEq, Int.reduceLE, Int.reduceLT, Int.reduceNeg, Int.reduceAdd, Int.reduceSub, sUnp3_ap, sMt_ap, sMt0_ap, xPop0_ap, mMet_ap, mMetK_ap, isLstD_l, isDicD_d]
    refine sat_bnd (DL.pickT_lst (by simp) (by simp)) fun dP hd => ?_
    obtain ⟨s, rfl, hs⟩ : ∃ s : Int, dP = .int s ∧ (s = 1 ∨ s = -1) := by
      simp only [List.mem_cons, List.not_mem_nil, or_false] at hd
      rcases hd with rfl | rfl
      · exact ⟨_, rfl, .inl rfl⟩
      · exact ⟨_, rfl, .inr rfl⟩
    try simp -implicitDefEqProofs only [sSeq_ap, sIf_ap, sSet_ap, sRet_ap, sNx_ap, sRetN_ap, sBk_ap, sCt_ap, sExp_ap, sAsg_ap, sPar_ap, sPar3_ap, sApp_ap, sSetX_ap, sExpX_ap, sIxs_ap, sSt_ap, sFl_ap, sStk_ap, sFor_ap, mLst_ap, mTup_ap, mDnew_ap, mDisp_ap, ppCons_ap, ppNil_ap, o1_ap, o2_ap, vr_ap, cst_ap, mCal_ap, mCalP_ap, mCalKP_ap, aCons_ap, aNil_ap, anV_ap, orV_ap, ntV_ap, tsb_ap, tru_ap, nt_ap, an_ap, orr_ap, ife_ap, chn_ap, joi_ap, slc_ap, pNone_ap, pSome_ap, xOf_ap, xPop_ap, iSeq_ap, iRg1_ap, iRg2_ap, iEnum2_ap, iZip_ap, mMk_ap, yes_ap, gSet_ap, gTupD_ap, gsNil_ap, gsCons_ap, pick, asB, asS, asI, asT, slL, slot, dTru, dInt, dSub, dNeg, dLe, dLt, dGt, dGe, dMin2, dAbs, dList_l, dList_t, dTuple_l, dTuple_t, dLen_l, dLen_t, dLen_d, dLen_s, dAdd_i, subsT, subsL, atI_0, atI_1, atI_2, atI_3, isi_str, isi_tup, isi_dic, isi_int, isi_intb, isi_lst2, isi_tup2, dEq_int, dNe_int, if_tt, if_ff, Bool.not_true, Bool.not_false, Option.bind_some, List.map_cons, List.map_nil, List.cons_append, List.nil_append, List.length_cons, List.length_nil, List.getElem?_cons_succ, List.getElem?_cons_zero, List.set_cons_zero, List.set_cons_succ, List.filterMap_cons, List.filterMap_nil, bnd_ret, lft_some, lft_none, pur_ret, bnd_assoc, bnd_stk, List.replicate_succ, List.replicate_zero, Nat.reduceAdd, Nat.reduceSub, Nat.reduceEqDiff, if_true, if_false, eq_self, Int.cast_ofNat_Int, decide_true, decide_false, Int.reduceEq, Int.reduceLE, Int.reduceLT, Int.reduceNeg, Int.reduceAdd, Int.reduceSub, sUnp3_ap, sMt_ap, sMt0_ap, xPop0_ap, mMet_ap, mMetK_ap, isLstD_l, isDicD_d]
    exact sat_ret ⟨⟨x, s⟩, rfl, .inr ⟨hxm, hs⟩⟩
def endsB (xs : List Str) : List Sg := (xs.map fun x => (⟨x, 1⟩ : Sg)) ++ (xs.map fun x => (⟨x, -1⟩ : Sg)) ++ [org]
theorem endsB_mem {xs : List Str} {a : Sg} (h : a ∈ endsB xs) : SgOk xs a := by
  unfold endsB at h
  rcases List.mem_append.mp h with h | h
  · rcases List.mem_append.mp h with h | h
    · obtain ⟨x, hx, rfl⟩ := List.mem_map.mp h
      exact .inr ⟨hx, .inl rfl⟩
    · obtain ⟨x, hx, rfl⟩ := List.mem_map.mp h
      exact .inr ⟨hx, .inr rfl⟩
  · rw [List.mem_singleton.mp h]; exact .inl rfl
theorem signs_run {xs : List Str} (hx : xs.length ≤ 100) (s : Int) {fe : DL.Env → M BgS D} (hf : ∀ ρ, fe ρ = DL.ret (.int s)) {a0 a1 a3 a4 a5 a6 a8 : Option D} : (mCmp (iSeq (vr 2)) (gSet 7) (yes) (mTup (aCons (vr 7) (aCons fe (aNil)))) [7] : DL.Env → M BgS D) [a0, a1, some (namesD xs), a3, a4, a5, a6, none, a8] = DL.ret (.lst (xs.map fun x => Sg.d ⟨x, s⟩)) := by
  refine mCmp_all (l := xs) (f := .str) (fun x => Sg.d ⟨x, s⟩) ?_ ?_ ?_
  · simp -implicitDefEqProofs only [namesD, sSeq_ap, sIf_ap, sSet_ap, sRet_ap, sNx_ap, sRetN_ap, sBk_ap, sCt_ap, sExp_ap, sAsg_ap, sPar_ap, sPar3_ap, sApp_ap, sSetX_ap, sExpX_ap, sIxs_ap, sSt_ap, sFl_ap, sStk_ap, sFor_ap, mLst_ap, mTup_ap, mDnew_ap, mDisp_ap, ppCons_ap, ppNil_ap, o1_ap, o2_ap, vr_ap, cst_ap, mCal_ap, mCalP_ap, mCalKP_ap, aCons_ap, aNil_ap, anV_ap, orV_ap, ntV_ap, tsb_ap, tru_ap, nt_ap, an_ap, orr_ap, ife_ap, chn_ap, joi_ap, slc_ap, pNone_ap, pSome_ap, xOf_ap, xPop_ap, iSeq_ap, iRg1_ap, iRg2_ap, iEnum2_ap, iZip_ap, mMk_ap, yes_ap, gSet_ap, gTupD_ap, gsNil_ap, gsCons_ap, pick, asB, asS, asI, asT, slL, slot, dTru, dInt, dSub, dNeg, dLe, dLt, dGt, dGe, dMin2, dAbs, dList_l, dList_t, dTuple_l, dTuple_t, dLen_l, dLen_t, dLen_d, dLen_s, dAdd_i, subsT, subsL, atI_0, atI_1, atI_2, atI_3, isi_str, isi_tup, isi_dic, isi_int, isi_intb, isi_lst2, isi_tup2, dEq_int, dNe_int, if_tt, if_ff, Bool.not_true, Bool.not_false, Option.bind_some, List.map_cons, List.map_nil, List.cons_append, List.nil_append, List.length_cons, List.length_nil, List.getElem?_cons_succ, List.getElem?_cons_zero, List.set_cons_zero, List.set_cons_succ, List.filterMap_cons, List.filterMap_nil, bnd_ret, lft_some, lft_none, pur_ret, bnd_assoc, bnd_stk, List.replicate_succ, List.replicate_zero, Nat.reduceAdd, Nat.reduceSub, Nat.reduceEqDiff, if_true, if_false, eq_self, Int.cast_ofNat_Int, decide_true, decide_false, Int.reduceEq, Int.reduceLE, Int.reduceLT, Int.reduceNeg, Int.reduceAdd, Int.reduceSub, sUnp3_ap, sMt_ap, sMt0_ap, xPop0_ap, mMet_ap, mMetK_ap, isLstD_l, isDicD_d]
  · omega
  · intro x _
    refine ⟨_, rfl, ?_⟩
    simp -implicitDefEqProofs only [wipeD, sSeq_ap, sIf_ap, sSet_ap, sRet_ap, sNx_ap, sRetN_ap, sBk_ap, sCt_ap, sExp_ap, sAsg_ap, sPar_ap, sPar3_ap, sApp_ap, sSetX_ap, sExpX_ap, sIxs_ap, sSt_ap, sFl_ap, sStk_ap, sFor_ap, mLst_ap, mTup_ap, mDnew_ap, mDisp_ap, ppCons_ap, ppNil_ap, o1_ap, o2_ap, vr_ap, cst_ap, mCal_ap, mCalP_ap, mCalKP_ap, aCons_ap, aNil_ap, anV_ap, orV_ap, ntV_ap, tsb_ap, tru_ap, nt_ap, an_ap, orr_ap, ife_ap, chn_ap, joi_ap, slc_ap, pNone_ap, pSome_ap, xOf_ap, xPop_ap, iSeq_ap, iRg1_ap, iRg2_ap, iEnum2_ap, iZip_ap, mMk_ap, yes_ap, gSet_ap, gTupD_ap, gsNil_ap, gsCons_ap, pick, asB, asS, asI, asT, slL, slot, dTru, dInt, dSub, dNeg, dLe, dLt, dGt, dGe, dMin2, dAbs, dList_l, dList_t, dTuple_l, dTuple_t, dLen_l, dLen_t, dLen_d, dLen_s, dAdd_i, subsT, subsL, atI_0, atI_1, atI_2, atI_3, isi_str, isi_tup, isi_dic, isi_int, isi_intb, isi_lst2, isi_tup2, dEq_int, dNe_int, if_tt, if_ff, Bool.not_true, Bool.not_false, Option.bind_some, List.map_cons, List.map_nil, List.cons_append, List.nil_append, List.length_cons, List.length_nil, List.getElem?_cons_succ, List.getElem?_cons_zero, List.set_cons_zero, List.set_cons_succ, List.filterMap_cons, List.filterMap_nil, bnd_ret, lft_some, lft_none, pur_ret, bnd_assoc, bnd_stk, List.replicate_succ, List.replicate_zero, Nat.reduceAdd, Nat.reduceSub, Nat.reduceEqDiff, if_true, if_false, eq_self, Int.cast_ofNat_Int, decide_true, decide_false, Int.reduceEq, Int.reduceLE, Int.reduceLT, Int.reduceNeg, Int.reduceAdd, Int.reduceSub, sUnp3_ap, sMt_ap, sMt0_ap, xPop0_ap, mMet_ap, mMetK_ap, isLstD_l, isDicD_d, hf]
    rfl
theorem sat_row {P : Int} (hP : 4 ≤ P ∧ P ≤ 60) {xs : List Str} (hx : Crew xs) (hne : xs ≠ []) : Sat (m_law_row [.drw, .int P, namesD xs]) fun d => ∃ m : Dm, d = m.d ∧ DmOk P xs m ∧ -120 ≤ m.lo ∧ m.hi ≤ 200 := by
  have hxl := hx.le
  have hx0 : 0 < xs.length := List.length_pos_iff.mpr hne
  unfold m_law_row
  rw [runB_eq]
  refine sat_bnd (P := fun z => ∃ m : Dm, z.1 = .rt m.d ∧ DmOk P xs m ∧ -120 ≤ m.lo ∧ m.hi ≤ 200) ?_ ?_
  · unfold b_law_row
    refine sat_seqB (fun ρ => ∃ a : Sg, SgOk xs a ∧ ρ = [some .drw, some (.int P), some (namesD xs), some a.d, none, none, none, none, none]) ?_ ?_
    · try simp -implicitDefEqProofs only [sSeq_ap, sIf_ap, sSet_ap, sRet_ap, sNx_ap, sRetN_ap, sBk_ap, sCt_ap, sExp_ap, sAsg_ap, sPar_ap, sPar3_ap, sApp_ap, sSetX_ap, sExpX_ap, sIxs_ap, sSt_ap, sFl_ap, sStk_ap, sFor_ap, mLst_ap, mTup_ap, mDnew_ap, mDisp_ap, ppCons_ap, ppNil_ap, o1_ap, o2_ap, vr_ap, cst_ap, mCal_ap, mCalP_ap, mCalKP_ap, aCons_ap, aNil_ap, anV_ap, orV_ap, ntV_ap, tsb_ap, tru_ap, nt_ap, an_ap, orr_ap, ife_ap, chn_ap, joi_ap, slc_ap, pNone_ap, pSome_ap, xOf_ap, xPop_ap, iSeq_ap, iRg1_ap, iRg2_ap, iEnum2_ap, iZip_ap, mMk_ap, yes_ap, gSet_ap, gTupD_ap, gsNil_ap, gsCons_ap, pick, asB, asS, asI, asT, slL, slot, dTru, dInt, dSub, dNeg, dLe, dLt, dGt, dGe, dMin2, dAbs, dList_l, dList_t, dTuple_l, dTuple_t, dLen_l, dLen_t, dLen_d, dLen_s, dAdd_i, subsT, subsL, atI_0, atI_1, atI_2, atI_3, isi_str, isi_tup, isi_dic, isi_int, isi_intb, isi_lst2, isi_tup2, dEq_int, dNe_int, if_tt, if_ff, Bool.not_true, Bool.not_false, Option.bind_some, List.map_cons, List.map_nil, List.cons_append, List.nil_append, List.length_cons, List.length_nil, List.getElem?_cons_succ, List.getElem?_cons_zero, List.set_cons_zero, List.set_cons_succ, List.filterMap_cons, List.filterMap_nil, bnd_ret, lft_some, lft_none, pur_ret, bnd_assoc, bnd_stk, List.replicate_succ, List.replicate_zero, Nat.reduceAdd, Nat.reduceSub, Nat.reduceEqDiff, if_true, if_false, eq_self, Int.cast_ofNat_Int, decide_true, decide_false, Int.reduceEq, Int.reduceLE, Int.reduceLT, Int.reduceNeg, Int.reduceAdd, Int.reduceSub, sUnp3_ap, sMt_ap, sMt0_ap, xPop0_ap, mMet_ap, mMetK_ap, isLstD_l, isDicD_d]
      refine sat_bnd (sat_signedB hx hne) ?_
      rintro _ ⟨a, rfl, ha⟩
      try simp -implicitDefEqProofs only [sSeq_ap, sIf_ap, sSet_ap, sRet_ap, sNx_ap, sRetN_ap, sBk_ap, sCt_ap, sExp_ap, sAsg_ap, sPar_ap, sPar3_ap, sApp_ap, sSetX_ap, sExpX_ap, sIxs_ap, sSt_ap, sFl_ap, sStk_ap, sFor_ap, mLst_ap, mTup_ap, mDnew_ap, mDisp_ap, ppCons_ap, ppNil_ap, o1_ap, o2_ap, vr_ap, cst_ap, mCal_ap, mCalP_ap, mCalKP_ap, aCons_ap, aNil_ap, anV_ap, orV_ap, ntV_ap, tsb_ap, tru_ap, nt_ap, an_ap, orr_ap, ife_ap, chn_ap, joi_ap, slc_ap, pNone_ap, pSome_ap, xOf_ap, xPop_ap, iSeq_ap, iRg1_ap, iRg2_ap, iEnum2_ap, iZip_ap, mMk_ap, yes_ap, gSet_ap, gTupD_ap, gsNil_ap, gsCons_ap, pick, asB, asS, asI, asT, slL, slot, dTru, dInt, dSub, dNeg, dLe, dLt, dGt, dGe, dMin2, dAbs, dList_l, dList_t, dTuple_l, dTuple_t, dLen_l, dLen_t, dLen_d, dLen_s, dAdd_i, subsT, subsL, atI_0, atI_1, atI_2, atI_3, isi_str, isi_tup, isi_dic, isi_int, isi_intb, isi_lst2, isi_tup2, dEq_int, dNe_int, if_tt, if_ff, Bool.not_true, Bool.not_false, Option.bind_some, List.map_cons, List.map_nil, List.cons_append, List.nil_append, List.length_cons, List.length_nil, List.getElem?_cons_succ, List.getElem?_cons_zero, List.set_cons_zero, List.set_cons_succ, List.filterMap_cons, List.filterMap_nil, bnd_ret, lft_some, lft_none, pur_ret, bnd_assoc, bnd_stk, List.replicate_succ, List.replicate_zero, Nat.reduceAdd, Nat.reduceSub, Nat.reduceEqDiff, if_true, if_false, eq_self, Int.cast_ofNat_Int, decide_true, decide_false, Int.reduceEq, Int.reduceLE, Int.reduceLT, Int.reduceNeg, Int.reduceAdd, Int.reduceSub, sUnp3_ap, sMt_ap, sMt0_ap, xPop0_ap, mMet_ap, mMetK_ap, isLstD_l, isDicD_d]
      exact sat_ret ⟨rfl, a, ha, rfl⟩
    rintro _ ⟨a, ha, rfl⟩
    refine sat_seqB (fun ρ => ρ = [some .drw, some (.int P), some (namesD xs), some a.d, some (.lst ((endsB xs).map Sg.d)), none, none, none, none]) ?_ ?_
    · have l1 : dCat (.lst (xs.map fun x => Sg.d ⟨x, 1⟩)) (.lst (xs.map fun x => Sg.d ⟨x, -1⟩)) = some (.lst ((xs.map fun x => Sg.d ⟨x, 1⟩) ++ xs.map fun x => Sg.d ⟨x, -1⟩)) := by
        show (if (xs.map fun x => Sg.d ⟨x, 1⟩).length + (xs.map fun x => Sg.d ⟨x, -1⟩).length ≤ sizeLine then _ else _) = _
        rw [if_pos (by simp only [List.length_map]; exact Nat.le_trans (show xs.length + xs.length ≤ 16 by omega) (by decide))]
      have l2 : dCat (.lst ((xs.map fun x => Sg.d ⟨x, 1⟩) ++ xs.map fun x => Sg.d ⟨x, -1⟩)) (.lst [.tup [.str (Str.ofString ""), .int 1]]) = some (.lst ((endsB xs).map Sg.d)) := by
        show (if ((xs.map fun x => Sg.d ⟨x, 1⟩) ++ xs.map fun x => Sg.d ⟨x, -1⟩).length + 1 ≤ sizeLine then _ else _) = _
        rw [if_pos (by simp only [List.length_append, List.length_map]; exact Nat.le_trans (show xs.length + xs.length + 1 ≤ 17 by omega) (by decide))]
        unfold endsB
        rw [List.map_append, List.map_append, List.map_map, List.map_map]
        rfl
      simp -implicitDefEqProofs only [sSeq_ap, sIf_ap, sSet_ap, sRet_ap, sNx_ap, sRetN_ap, sBk_ap, sCt_ap, sExp_ap, sAsg_ap, sPar_ap, sPar3_ap, sApp_ap, sSetX_ap, sExpX_ap, sIxs_ap, sSt_ap, sFl_ap, sStk_ap, sFor_ap, mLst_ap, mTup_ap, mDnew_ap, mDisp_ap, ppCons_ap, ppNil_ap, o1_ap, o2_ap, vr_ap, cst_ap, mCal_ap, mCalP_ap, mCalKP_ap, aCons_ap, aNil_ap, anV_ap, orV_ap, ntV_ap, tsb_ap, tru_ap, nt_ap, an_ap, orr_ap, ife_ap, chn_ap, joi_ap, slc_ap, pNone_ap, pSome_ap, xOf_ap, xPop_ap, iSeq_ap, iRg1_ap, iRg2_ap, iEnum2_ap, iZip_ap, mMk_ap, yes_ap, gSet_ap, gTupD_ap, gsNil_ap, gsCons_ap, pick, asB, asS, asI, asT, slL, slot, dTru, dInt, dSub, dNeg, dLe, dLt, dGt, dGe, dMin2, dAbs, dList_l, dList_t, dTuple_l, dTuple_t, dLen_l, dLen_t, dLen_d, dLen_s, dAdd_i, subsT, subsL, atI_0, atI_1, atI_2, atI_3, isi_str, isi_tup, isi_dic, isi_int, isi_intb, isi_lst2, isi_tup2, dEq_int, dNe_int, if_tt, if_ff, Bool.not_true, Bool.not_false, Option.bind_some, List.map_cons, List.map_nil, List.cons_append, List.nil_append, List.length_cons, List.length_nil, List.getElem?_cons_succ, List.getElem?_cons_zero, List.set_cons_zero, List.set_cons_succ, List.filterMap_cons, List.filterMap_nil, bnd_ret, lft_some, lft_none, pur_ret, bnd_assoc, bnd_stk, List.replicate_succ, List.replicate_zero, Nat.reduceAdd, Nat.reduceSub, Nat.reduceEqDiff, if_true, if_false, eq_self, Int.cast_ofNat_Int, decide_true, decide_false, Int.reduceEq, Int.reduceLE, Int.reduceLT, Int.reduceNeg, Int.reduceAdd, Int.reduceSub, sUnp3_ap, sMt_ap, sMt0_ap, xPop0_ap, mMet_ap, mMetK_ap, isLstD_l, isDicD_d, signs_run (show xs.length ≤ 100 by omega) 1 (fe := cst (.int 1)) (fun _ => rfl), signs_run (show xs.length ≤ 100 by omega) (-1) (fe := o1 dNeg (cst (.int 1))) (fun _ => rfl), l1, l2]
      exact sat_ret ⟨rfl, rfl⟩
    rintro _ rfl
    have hnd : (endsB xs).length ≤ 17 := by unfold endsB; simp only [List.length_append, List.length_map, List.length_cons, List.length_nil]; omega
    refine sat_seqB (fun ρ => ∃ b : Sg, SgOk xs b ∧ b ≠ a ∧ ρ = [some .drw, some (.int P), some (namesD xs), some a.d, some (.lst ((endsB xs).map Sg.d)), some b.d, none, none, none]) ?_ ?_
    · have e1 : (mCmp (iSeq (vr 4)) (gSet 8) (tsb (o2 dNe (vr 8) (vr 3))) (vr 8) [8] : DL.Env → M BgS D) [some .drw, some (.int P), some (namesD xs), some a.d, some (.lst ((endsB xs).map Sg.d)), none, none, none, none] = DL.ret (.lst (((endsB xs).filter fun b => !decide (b = a)).map Sg.d)) := by
        refine mCmp_eq (l := endsB xs) (f := Sg.d) (fun b => !decide (b = a)) Sg.d ?_ ?_ ?_
        · try simp -implicitDefEqProofs only [sSeq_ap, sIf_ap, sSet_ap, sRet_ap, sNx_ap, sRetN_ap, sBk_ap, sCt_ap, sExp_ap, sAsg_ap, sPar_ap, sPar3_ap, sApp_ap, sSetX_ap, sExpX_ap, sIxs_ap, sSt_ap, sFl_ap, sStk_ap, sFor_ap, mLst_ap, mTup_ap, mDnew_ap, mDisp_ap, ppCons_ap, ppNil_ap, o1_ap, o2_ap, vr_ap, cst_ap, mCal_ap, mCalP_ap, mCalKP_ap, aCons_ap, aNil_ap, anV_ap, orV_ap, ntV_ap, tsb_ap, tru_ap, nt_ap, an_ap, orr_ap, ife_ap, chn_ap, joi_ap, slc_ap, pNone_ap, pSome_ap, xOf_ap, xPop_ap, iSeq_ap, iRg1_ap, iRg2_ap, iEnum2_ap, iZip_ap, mMk_ap, yes_ap, gSet_ap, gTupD_ap, gsNil_ap, gsCons_ap, pick, asB, asS, asI, asT, slL, slot, dTru, dInt, dSub, dNeg, dLe, dLt, dGt, dGe, dMin2, dAbs, dList_l, dList_t, dTuple_l, dTuple_t, dLen_l, dLen_t, dLen_d, dLen_s, dAdd_i, subsT, subsL, atI_0, atI_1, atI_2, atI_3, isi_str, isi_tup, isi_dic, isi_int, isi_intb, isi_lst2, isi_tup2, dEq_int, dNe_int, if_tt, if_ff, Bool.not_true, Bool.not_false, Option.bind_some, List.map_cons, List.map_nil, List.cons_append, List.nil_append, List.length_cons, List.length_nil, List.getElem?_cons_succ, List.getElem?_cons_zero, List.set_cons_zero, List.set_cons_succ, List.filterMap_cons, List.filterMap_nil, bnd_ret, lft_some, lft_none, pur_ret, bnd_assoc, bnd_stk, List.replicate_succ, List.replicate_zero, Nat.reduceAdd, Nat.reduceSub, Nat.reduceEqDiff, if_true, if_false, eq_self, Int.cast_ofNat_Int, decide_true, decide_false, Int.reduceEq, Int.reduceLE, Int.reduceLT, Int.reduceNeg, Int.reduceAdd, Int.reduceSub, sUnp3_ap, sMt_ap, sMt0_ap, xPop0_ap, mMet_ap, mMetK_ap, isLstD_l, isDicD_d]
        · omega
        · intro b hb
          refine ⟨_, rfl, ?_, fun _ => ?_⟩
          · have : dNe b.d a.d = some (.bl (!decide (b = a))) := by
              obtain ⟨r, e1, e2⟩ := dNe_plain ((endsB_mem hb).plain (n := 0) hx).plain (ha.plain (n := 0) hx).plain
              rw [e1]
              congr 2
              rw [Bool.eq_iff_iff, e2, ne_eq, Sg.d_inj]
              simp
            simp -implicitDefEqProofs only [wipeD, sSeq_ap, sIf_ap, sSet_ap, sRet_ap, sNx_ap, sRetN_ap, sBk_ap, sCt_ap, sExp_ap, sAsg_ap, sPar_ap, sPar3_ap, sApp_ap, sSetX_ap, sExpX_ap, sIxs_ap, sSt_ap, sFl_ap, sStk_ap, sFor_ap, mLst_ap, mTup_ap, mDnew_ap, mDisp_ap, ppCons_ap, ppNil_ap, o1_ap, o2_ap, vr_ap, cst_ap, mCal_ap, mCalP_ap, mCalKP_ap, aCons_ap, aNil_ap, anV_ap, orV_ap, ntV_ap, tsb_ap, tru_ap, nt_ap, an_ap, orr_ap, ife_ap, chn_ap, joi_ap, slc_ap, pNone_ap, pSome_ap, xOf_ap, xPop_ap, iSeq_ap, iRg1_ap, iRg2_ap, iEnum2_ap, iZip_ap, mMk_ap, yes_ap, gSet_ap, gTupD_ap, gsNil_ap, gsCons_ap, pick, asB, asS, asI, asT, slL, slot, dTru, dInt, dSub, dNeg, dLe, dLt, dGt, dGe, dMin2, dAbs, dList_l, dList_t, dTuple_l, dTuple_t, dLen_l, dLen_t, dLen_d, dLen_s, dAdd_i, subsT, subsL, atI_0, atI_1, atI_2, atI_3, isi_str, isi_tup, isi_dic, isi_int, isi_intb, isi_lst2, isi_tup2, dEq_int, dNe_int, if_tt, if_ff, Bool.not_true, Bool.not_false, Option.bind_some, List.map_cons, List.map_nil, List.cons_append, List.nil_append, List.length_cons, List.length_nil, List.getElem?_cons_succ, List.getElem?_cons_zero, List.set_cons_zero, List.set_cons_succ, List.filterMap_cons, List.filterMap_nil, bnd_ret, lft_some, lft_none, pur_ret, bnd_assoc, bnd_stk, List.replicate_succ, List.replicate_zero, Nat.reduceAdd, Nat.reduceSub, Nat.reduceEqDiff, if_true, if_false, eq_self, Int.cast_ofNat_Int, decide_true, decide_false, Int.reduceEq, Int.reduceLE, Int.reduceLT, Int.reduceNeg, Int.reduceAdd, Int.reduceSub, sUnp3_ap, sMt_ap, sMt0_ap, xPop0_ap, mMet_ap, mMetK_ap, isLstD_l, isDicD_d, this]
          · simp -implicitDefEqProofs only [wipeD, sSeq_ap, sIf_ap, sSet_ap, sRet_ap, sNx_ap, sRetN_ap, sBk_ap, sCt_ap, sExp_ap, sAsg_ap, sPar_ap, sPar3_ap, sApp_ap, sSetX_ap, sExpX_ap, sIxs_ap, sSt_ap, sFl_ap, sStk_ap, sFor_ap, mLst_ap, mTup_ap, mDnew_ap, mDisp_ap, ppCons_ap, ppNil_ap, o1_ap, o2_ap, vr_ap, cst_ap, mCal_ap, mCalP_ap, mCalKP_ap, aCons_ap, aNil_ap, anV_ap, orV_ap, ntV_ap, tsb_ap, tru_ap, nt_ap, an_ap, orr_ap, ife_ap, chn_ap, joi_ap, slc_ap, pNone_ap, pSome_ap, xOf_ap, xPop_ap, iSeq_ap, iRg1_ap, iRg2_ap, iEnum2_ap, iZip_ap, mMk_ap, yes_ap, gSet_ap, gTupD_ap, gsNil_ap, gsCons_ap, pick, asB, asS, asI, asT, slL, slot, dTru, dInt, dSub, dNeg, dLe, dLt, dGt, dGe, dMin2, dAbs, dList_l, dList_t, dTuple_l, dTuple_t, dLen_l, dLen_t, dLen_d, dLen_s, dAdd_i, subsT, subsL, atI_0, atI_1, atI_2, atI_3, isi_str, isi_tup, isi_dic, isi_int, isi_intb, isi_lst2, isi_tup2, dEq_int, dNe_int, if_tt, if_ff, Bool.not_true, Bool.not_false, Option.bind_some, List.map_cons, List.map_nil, List.cons_append, List.nil_append, List.length_cons, List.length_nil, List.getElem?_cons_succ, List.getElem?_cons_zero, List.set_cons_zero, List.set_cons_succ, List.filterMap_cons, List.filterMap_nil, bnd_ret, lft_some, lft_none, pur_ret, bnd_assoc, bnd_stk, List.replicate_succ, List.replicate_zero, Nat.reduceAdd, Nat.reduceSub, Nat.reduceEqDiff, if_true, if_false, eq_self, Int.cast_ofNat_Int, decide_true, decide_false, Int.reduceEq, Int.reduceLE, Int.reduceLT, Int.reduceNeg, Int.reduceAdd, Int.reduceSub, sUnp3_ap, sMt_ap, sMt0_ap, xPop0_ap, mMet_ap, mMetK_ap, isLstD_l, isDicD_d]
      have hpos : 0 < ((endsB xs).filter fun b => !decide (b = a)).length := by
        obtain ⟨x, r, rfl⟩ := List.exists_cons_of_ne_nil hne
        by_cases c : a = ⟨x, 1⟩
        · refine List.length_pos_iff_exists_mem.mpr ⟨⟨x, -1⟩, List.mem_filter.mpr ⟨by unfold endsB; simp, ?_⟩⟩
          simp [c]
        · refine List.length_pos_iff_exists_mem.mpr ⟨⟨x, 1⟩, List.mem_filter.mpr ⟨by unfold endsB; simp, ?_⟩⟩
          simpa using fun e => c e.symm
      have hle : ((endsB xs).filter fun b => !decide (b = a)).length ≤ 17 := Nat.le_trans (List.length_filter_le _ _) hnd
      simp -implicitDefEqProofs only [sSeq_ap, sIf_ap, sSet_ap, sRet_ap, sNx_ap, sRetN_ap, sBk_ap, sCt_ap, sExp_ap, sAsg_ap, sPar_ap, sPar3_ap, sApp_ap, sSetX_ap, sExpX_ap, sIxs_ap, sSt_ap, sFl_ap, sStk_ap, sFor_ap, mLst_ap, mTup_ap, mDnew_ap, mDisp_ap, ppCons_ap, ppNil_ap, o1_ap, o2_ap, vr_ap, cst_ap, mCal_ap, mCalP_ap, mCalKP_ap, aCons_ap, aNil_ap, anV_ap, orV_ap, ntV_ap, tsb_ap, tru_ap, nt_ap, an_ap, orr_ap, ife_ap, chn_ap, joi_ap, slc_ap, pNone_ap, pSome_ap, xOf_ap, xPop_ap, iSeq_ap, iRg1_ap, iRg2_ap, iEnum2_ap, iZip_ap, mMk_ap, yes_ap, gSet_ap, gTupD_ap, gsNil_ap, gsCons_ap, pick, asB, asS, asI, asT, slL, slot, dTru, dInt, dSub, dNeg, dLe, dLt, dGt, dGe, dMin2, dAbs, dList_l, dList_t, dTuple_l, dTuple_t, dLen_l, dLen_t, dLen_d, dLen_s, dAdd_i, subsT, subsL, atI_0, atI_1, atI_2, atI_3, isi_str, isi_tup, isi_dic, isi_int, isi_intb, isi_lst2, isi_tup2, dEq_int, dNe_int, if_tt, if_ff, Bool.not_true, Bool.not_false, Option.bind_some, List.map_cons, List.map_nil, List.cons_append, List.nil_append, List.length_cons, List.length_nil, List.getElem?_cons_succ, List.getElem?_cons_zero, List.set_cons_zero, List.set_cons_succ, List.filterMap_cons, List.filterMap_nil, bnd_ret, lft_some, lft_none, pur_ret, bnd_assoc, bnd_stk, List.replicate_succ, List.replicate_zero, Nat.reduceAdd, Nat.reduceSub, Nat.reduceEqDiff, if_true, if_false, eq_self, Int.cast_ofNat_Int, decide_true, decide_false, Int.reduceEq, Int.reduceLE, Int.reduceLT, Int.reduceNeg, Int.reduceAdd, Int.reduceSub, sUnp3_ap, sMt_ap, sMt0_ap, xPop0_ap, mMet_ap, mMetK_ap, isLstD_l, isDicD_d, e1]
      refine sat_bnd (DL.pickT_lst (by rw [List.length_map]; exact hpos) (by rw [List.length_map]; omega)) fun dP hd => ?_
      obtain ⟨b, hb, rfl⟩ := List.mem_map.mp hd
      rw [List.mem_filter] at hb
      try simp -implicitDefEqProofs only [sSeq_ap, sIf_ap, sSet_ap, sRet_ap, sNx_ap, sRetN_ap, sBk_ap, sCt_ap, sExp_ap, sAsg_ap, sPar_ap, sPar3_ap, sApp_ap, sSetX_ap, sExpX_ap, sIxs_ap, sSt_ap, sFl_ap, sStk_ap, sFor_ap, mLst_ap, mTup_ap, mDnew_ap, mDisp_ap, ppCons_ap, ppNil_ap, o1_ap, o2_ap, vr_ap, cst_ap, mCal_ap, mCalP_ap, mCalKP_ap, aCons_ap, aNil_ap, anV_ap, orV_ap, ntV_ap, tsb_ap, tru_ap, nt_ap, an_ap, orr_ap, ife_ap, chn_ap, joi_ap, slc_ap, pNone_ap, pSome_ap, xOf_ap, xPop_ap, iSeq_ap, iRg1_ap, iRg2_ap, iEnum2_ap, iZip_ap, mMk_ap, yes_ap, gSet_ap, gTupD_ap, gsNil_ap, gsCons_ap, pick, asB, asS, asI, asT, slL, slot, dTru, dInt, dSub, dNeg, dLe, dLt, dGt, dGe, dMin2, dAbs, dList_l, dList_t, dTuple_l, dTuple_t, dLen_l, dLen_t, dLen_d, dLen_s, dAdd_i, subsT, subsL, atI_0, atI_1, atI_2, atI_3, isi_str, isi_tup, isi_dic, isi_int, isi_intb, isi_lst2, isi_tup2, dEq_int, dNe_int, if_tt, if_ff, Bool.not_true, Bool.not_false, Option.bind_some, List.map_cons, List.map_nil, List.cons_append, List.nil_append, List.length_cons, List.length_nil, List.getElem?_cons_succ, List.getElem?_cons_zero, List.set_cons_zero, List.set_cons_succ, List.filterMap_cons, List.filterMap_nil, bnd_ret, lft_some, lft_none, pur_ret, bnd_assoc, bnd_stk, List.replicate_succ, List.replicate_zero, Nat.reduceAdd, Nat.reduceSub, Nat.reduceEqDiff, if_true, if_false, eq_self, Int.cast_ofNat_Int, decide_true, decide_false, Int.reduceEq, Int.reduceLE, Int.reduceLT, Int.reduceNeg, Int.reduceAdd, Int.reduceSub, sUnp3_ap, sMt_ap, sMt0_ap, xPop0_ap, mMet_ap, mMetK_ap, isLstD_l, isDicD_d]
      exact sat_ret ⟨rfl, b, endsB_mem hb.1, by simpa using hb.2, rfl⟩
    rintro _ ⟨b, hb, hba, rfl⟩
    refine sat_seqB (fun ρ => ∃ lo : Int, -120 ≤ lo ∧ lo ≤ 120 ∧ ρ = [some .drw, some (.int P), some (namesD xs), some a.d, some (.lst ((endsB xs).map Sg.d)), some b.d, some (.int lo), none, none]) ?_ ?_
    · simp -implicitDefEqProofs only [sSeq_ap, sIf_ap, sSet_ap, sRet_ap, sNx_ap, sRetN_ap, sBk_ap, sCt_ap, sExp_ap, sAsg_ap, sPar_ap, sPar3_ap, sApp_ap, sSetX_ap, sExpX_ap, sIxs_ap, sSt_ap, sFl_ap, sStk_ap, sFor_ap, mLst_ap, mTup_ap, mDnew_ap, mDisp_ap, ppCons_ap, ppNil_ap, o1_ap, o2_ap, vr_ap, cst_ap, mCal_ap, mCalP_ap, mCalKP_ap, aCons_ap, aNil_ap, anV_ap, orV_ap, ntV_ap, tsb_ap, tru_ap, nt_ap, an_ap, orr_ap, ife_ap, chn_ap, joi_ap, slc_ap, pNone_ap, pSome_ap, xOf_ap, xPop_ap, iSeq_ap, iRg1_ap, iRg2_ap, iEnum2_ap, iZip_ap, mMk_ap, yes_ap, gSet_ap, gTupD_ap, gsNil_ap, gsCons_ap, pick, asB, asS, asI, asT, slL, slot, dTru, dInt, dSub, dNeg, dLe, dLt, dGt, dGe, dMin2, dAbs, dList_l, dList_t, dTuple_l, dTuple_t, dLen_l, dLen_t, dLen_d, dLen_s, dAdd_i, subsT, subsL, atI_0, atI_1, atI_2, atI_3, isi_str, isi_tup, isi_dic, isi_int, isi_intb, isi_lst2, isi_tup2, dEq_int, dNe_int, if_tt, if_ff, Bool.not_true, Bool.not_false, Option.bind_some, List.map_cons, List.map_nil, List.cons_append, List.nil_append, List.length_cons, List.length_nil, List.getElem?_cons_succ, List.getElem?_cons_zero, List.set_cons_zero, List.set_cons_succ, List.filterMap_cons, List.filterMap_nil, bnd_ret, lft_some, lft_none, pur_ret, bnd_assoc, bnd_stk, List.replicate_succ, List.replicate_zero, Nat.reduceAdd, Nat.reduceSub, Nat.reduceEqDiff, if_true, if_false, eq_self, Int.cast_ofNat_Int, decide_true, decide_false, Int.reduceEq, Int.reduceLE, Int.reduceLT, Int.reduceNeg, Int.reduceAdd, Int.reduceSub, sUnp3_ap, sMt_ap, sMt0_ap, xPop0_ap, mMet_ap, mMetK_ap, isLstD_l, isDicD_d, dMul_sm (show (4 : Int).natAbs < 1000000 by decide), dMul_sm (show (2 : Int).natAbs < 1000000 by decide)]
      refine sat_bnd (sat_take (n := 4 * P + 1) (by omega) (by omega) (Q := fun y => ∃ r : Int, y = .int r ∧ 0 ≤ r ∧ r < 4 * P + 1) fun r a b => ⟨r, rfl, a, b⟩) ?_
      rintro _ ⟨r, rfl, hr⟩
      try simp -implicitDefEqProofs only [sSeq_ap, sIf_ap, sSet_ap, sRet_ap, sNx_ap, sRetN_ap, sBk_ap, sCt_ap, sExp_ap, sAsg_ap, sPar_ap, sPar3_ap, sApp_ap, sSetX_ap, sExpX_ap, sIxs_ap, sSt_ap, sFl_ap, sStk_ap, sFor_ap, mLst_ap, mTup_ap, mDnew_ap, mDisp_ap, ppCons_ap, ppNil_ap, o1_ap, o2_ap, vr_ap, cst_ap, mCal_ap, mCalP_ap, mCalKP_ap, aCons_ap, aNil_ap, anV_ap, orV_ap, ntV_ap, tsb_ap, tru_ap, nt_ap, an_ap, orr_ap, ife_ap, chn_ap, joi_ap, slc_ap, pNone_ap, pSome_ap, xOf_ap, xPop_ap, iSeq_ap, iRg1_ap, iRg2_ap, iEnum2_ap, iZip_ap, mMk_ap, yes_ap, gSet_ap, gTupD_ap, gsNil_ap, gsCons_ap, pick, asB, asS, asI, asT, slL, slot, dTru, dInt, dSub, dNeg, dLe, dLt, dGt, dGe, dMin2, dAbs, dList_l, dList_t, dTuple_l, dTuple_t, dLen_l, dLen_t, dLen_d, dLen_s, dAdd_i, subsT, subsL, atI_0, atI_1, atI_2, atI_3, isi_str, isi_tup, isi_dic, isi_int, isi_intb, isi_lst2, isi_tup2, dEq_int, dNe_int, if_tt, if_ff, Bool.not_true, Bool.not_false, Option.bind_some, List.map_cons, List.map_nil, List.cons_append, List.nil_append, List.length_cons, List.length_nil, List.getElem?_cons_succ, List.getElem?_cons_zero, List.set_cons_zero, List.set_cons_succ, List.filterMap_cons, List.filterMap_nil, bnd_ret, lft_some, lft_none, pur_ret, bnd_assoc, bnd_stk, List.replicate_succ, List.replicate_zero, Nat.reduceAdd, Nat.reduceSub, Nat.reduceEqDiff, if_true, if_false, eq_self, Int.cast_ofNat_Int, decide_true, decide_false, Int.reduceEq, Int.reduceLE, Int.reduceLT, Int.reduceNeg, Int.reduceAdd, Int.reduceSub, sUnp3_ap, sMt_ap, sMt0_ap, xPop0_ap, mMet_ap, mMetK_ap, isLstD_l, isDicD_d]
      exact sat_ret ⟨rfl, r - 2 * P, by omega, by omega, rfl⟩
    rintro _ ⟨lo, hl1, hl2, rfl⟩
    try simp -implicitDefEqProofs only [sSeq_ap, sIf_ap, sSet_ap, sRet_ap, sNx_ap, sRetN_ap, sBk_ap, sCt_ap, sExp_ap, sAsg_ap, sPar_ap, sPar3_ap, sApp_ap, sSetX_ap, sExpX_ap, sIxs_ap, sSt_ap, sFl_ap, sStk_ap, sFor_ap, mLst_ap, mTup_ap, mDnew_ap, mDisp_ap, ppCons_ap, ppNil_ap, o1_ap, o2_ap, vr_ap, cst_ap, mCal_ap, mCalP_ap, mCalKP_ap, aCons_ap, aNil_ap, anV_ap, orV_ap, ntV_ap, tsb_ap, tru_ap, nt_ap, an_ap, orr_ap, ife_ap, chn_ap, joi_ap, slc_ap, pNone_ap, pSome_ap, xOf_ap, xPop_ap, iSeq_ap, iRg1_ap, iRg2_ap, iEnum2_ap, iZip_ap, mMk_ap, yes_ap, gSet_ap, gTupD_ap, gsNil_ap, gsCons_ap, pick, asB, asS, asI, asT, slL, slot, dTru, dInt, dSub, dNeg, dLe, dLt, dGt, dGe, dMin2, dAbs, dList_l, dList_t, dTuple_l, dTuple_t, dLen_l, dLen_t, dLen_d, dLen_s, dAdd_i, subsT, subsL, atI_0, atI_1, atI_2, atI_3, isi_str, isi_tup, isi_dic, isi_int, isi_intb, isi_lst2, isi_tup2, dEq_int, dNe_int, if_tt, if_ff, Bool.not_true, Bool.not_false, Option.bind_some, List.map_cons, List.map_nil, List.cons_append, List.nil_append, List.length_cons, List.length_nil, List.getElem?_cons_succ, List.getElem?_cons_zero, List.set_cons_zero, List.set_cons_succ, List.filterMap_cons, List.filterMap_nil, bnd_ret, lft_some, lft_none, pur_ret, bnd_assoc, bnd_stk, List.replicate_succ, List.replicate_zero, Nat.reduceAdd, Nat.reduceSub, Nat.reduceEqDiff, if_true, if_false, eq_self, Int.cast_ofNat_Int, decide_true, decide_false, Int.reduceEq, Int.reduceLE, Int.reduceLT, Int.reduceNeg, Int.reduceAdd, Int.reduceSub, sUnp3_ap, sMt_ap, sMt0_ap, xPop0_ap, mMet_ap, mMetK_ap, isLstD_l, isDicD_d]
    refine sat_bnd (sat_take (n := P) (by omega) (by omega) (Q := fun y => ∃ r : Int, y = .int r ∧ 0 ≤ r ∧ r < P) fun r a b => ⟨r, rfl, a, b⟩) ?_
    rintro _ ⟨r, rfl, hr⟩
    try simp -implicitDefEqProofs only [sSeq_ap, sIf_ap, sSet_ap, sRet_ap, sNx_ap, sRetN_ap, sBk_ap, sCt_ap, sExp_ap, sAsg_ap, sPar_ap, sPar3_ap, sApp_ap, sSetX_ap, sExpX_ap, sIxs_ap, sSt_ap, sFl_ap, sStk_ap, sFor_ap, mLst_ap, mTup_ap, mDnew_ap, mDisp_ap, ppCons_ap, ppNil_ap, o1_ap, o2_ap, vr_ap, cst_ap, mCal_ap, mCalP_ap, mCalKP_ap, aCons_ap, aNil_ap, anV_ap, orV_ap, ntV_ap, tsb_ap, tru_ap, nt_ap, an_ap, orr_ap, ife_ap, chn_ap, joi_ap, slc_ap, pNone_ap, pSome_ap, xOf_ap, xPop_ap, iSeq_ap, iRg1_ap, iRg2_ap, iEnum2_ap, iZip_ap, mMk_ap, yes_ap, gSet_ap, gTupD_ap, gsNil_ap, gsCons_ap, pick, asB, asS, asI, asT, slL, slot, dTru, dInt, dSub, dNeg, dLe, dLt, dGt, dGe, dMin2, dAbs, dList_l, dList_t, dTuple_l, dTuple_t, dLen_l, dLen_t, dLen_d, dLen_s, dAdd_i, subsT, subsL, atI_0, atI_1, atI_2, atI_3, isi_str, isi_tup, isi_dic, isi_int, isi_intb, isi_lst2, isi_tup2, dEq_int, dNe_int, if_tt, if_ff, Bool.not_true, Bool.not_false, Option.bind_some, List.map_cons, List.map_nil, List.cons_append, List.nil_append, List.length_cons, List.length_nil, List.getElem?_cons_succ, List.getElem?_cons_zero, List.set_cons_zero, List.set_cons_succ, List.filterMap_cons, List.filterMap_nil, bnd_ret, lft_some, lft_none, pur_ret, bnd_assoc, bnd_stk, List.replicate_succ, List.replicate_zero, Nat.reduceAdd, Nat.reduceSub, Nat.reduceEqDiff, if_true, if_false, eq_self, Int.cast_ofNat_Int, decide_true, decide_false, Int.reduceEq, Int.reduceLE, Int.reduceLT, Int.reduceNeg, Int.reduceAdd, Int.reduceSub, sUnp3_ap, sMt_ap, sMt0_ap, xPop0_ap, mMet_ap, mMetK_ap, isLstD_l, isDicD_d]
    refine sat_bnd (DL.pickT_lst (by simp) (by simp)) fun dP hd => ?_
    obtain ⟨t, rfl, ht⟩ : ∃ t : Int, dP = .int t ∧ 0 ≤ t ∧ t < P := by
      simp only [List.mem_cons, List.not_mem_nil, or_false] at hd
      rcases hd with rfl | rfl | rfl | rfl
      · exact ⟨_, rfl, by omega⟩
      · exact ⟨_, rfl, by omega⟩
      · exact ⟨_, rfl, by omega⟩
      · exact ⟨_, rfl, by omega⟩
    try simp -implicitDefEqProofs only [sSeq_ap, sIf_ap, sSet_ap, sRet_ap, sNx_ap, sRetN_ap, sBk_ap, sCt_ap, sExp_ap, sAsg_ap, sPar_ap, sPar3_ap, sApp_ap, sSetX_ap, sExpX_ap, sIxs_ap, sSt_ap, sFl_ap, sStk_ap, sFor_ap, mLst_ap, mTup_ap, mDnew_ap, mDisp_ap, ppCons_ap, ppNil_ap, o1_ap, o2_ap, vr_ap, cst_ap, mCal_ap, mCalP_ap, mCalKP_ap, aCons_ap, aNil_ap, anV_ap, orV_ap, ntV_ap, tsb_ap, tru_ap, nt_ap, an_ap, orr_ap, ife_ap, chn_ap, joi_ap, slc_ap, pNone_ap, pSome_ap, xOf_ap, xPop_ap, iSeq_ap, iRg1_ap, iRg2_ap, iEnum2_ap, iZip_ap, mMk_ap, yes_ap, gSet_ap, gTupD_ap, gsNil_ap, gsCons_ap, pick, asB, asS, asI, asT, slL, slot, dTru, dInt, dSub, dNeg, dLe, dLt, dGt, dGe, dMin2, dAbs, dList_l, dList_t, dTuple_l, dTuple_t, dLen_l, dLen_t, dLen_d, dLen_s, dAdd_i, subsT, subsL, atI_0, atI_1, atI_2, atI_3, isi_str, isi_tup, isi_dic, isi_int, isi_intb, isi_lst2, isi_tup2, dEq_int, dNe_int, if_tt, if_ff, Bool.not_true, Bool.not_false, Option.bind_some, List.map_cons, List.map_nil, List.cons_append, List.nil_append, List.length_cons, List.length_nil, List.getElem?_cons_succ, List.getElem?_cons_zero, List.set_cons_zero, List.set_cons_succ, List.filterMap_cons, List.filterMap_nil, bnd_ret, lft_some, lft_none, pur_ret, bnd_assoc, bnd_stk, List.replicate_succ, List.replicate_zero, Nat.reduceAdd, Nat.reduceSub, Nat.reduceEqDiff, if_true, if_false, eq_self, Int.cast_ofNat_Int, decide_true, decide_false, Int.reduceEq, Int.reduceLE, Int.reduceLT, Int.reduceNeg, Int.reduceAdd, Int.reduceSub, sUnp3_ap, sMt_ap, sMt0_ap, xPop0_ap, mMet_ap, mMetK_ap, isLstD_l, isDicD_d]
    exact sat_ret ⟨⟨a, b, lo, lo + t⟩, rfl, ⟨ha, hb, fun e => hba e.symm, by dsimp only; omega, by dsimp only; omega⟩, by dsimp only; omega, by dsimp only; omega⟩
  · rintro ⟨fl, ρ⟩ ⟨m, h, h1⟩
    obtain rfl : fl = .rt m.d := h
    exact sat_ret ⟨m, rfl, h1⟩
def caseD (P : Int) (xs : List Str) (ms : List Dm) : D := .dic [(.inr "period", .int P), (.inr "lines", namesD xs), (.inr "rows", .lst (ms.map Dm.d))]
theorem case_p (P : Int) (xs : List Str) (ms : List Dm) : dSubs (caseD P xs ms) (.str "period") = some (.int P) := rfl
theorem case_l (P : Int) (xs : List Str) (ms : List Dm) : dSubs (caseD P xs ms) (.str "lines") = some (namesD xs) := rfl
theorem case_r (P : Int) (xs : List Str) (ms : List Dm) : dSubs (caseD P xs ms) (.str "rows") = some (.lst (ms.map Dm.d)) := rfl
theorem asInts_strs {x : Str} {xs : List Str} : asInts ((x :: xs).map .str) = none := rfl
theorem sorted_strs {xs : List Str} (h0 : xs ≠ []) (hl : xs.length < 64) : dSorted (.lst (xs.map .str)) = some (.lst ((sortS xs).map .str)) := by
  obtain ⟨x, r, rfl⟩ := List.exists_cons_of_ne_nil h0
  show (match asInts ((x :: r).map .str) with | some ns => some (D.lst ((sortI ns).map .int)) | none => match txts ((x :: r).map .str) with | some xs => if xs.length < 64 then some (D.lst ((sortS xs).map .str)) else none | none => none) = _
  rw [asInts_strs, txts_strs]
  dsimp only
  rw [if_pos hl]
theorem crew_sort {xs : List Str} (hl : xs.length ≤ 8) (hn : xs.Nodup) (ho : ∀ x ∈ xs, nmOk x = true) : Crew (sortS xs) where
  le := by rw [(sortS_perm xs).length_eq]; exact hl
  nd := (sortS_perm xs).nodup_iff.mpr hn
  ok := fun x hx => ho x ((sortS_perm xs).mem_iff.mp hx)
  up := sortS_sorted xs
theorem dms_of {Q : Dm → Prop} : ∀ {ys : List D}, (∀ y ∈ ys, ∃ m : Dm, y = m.d ∧ Q m) → ∃ ms : List Dm, ys = ms.map Dm.d ∧ ∀ m ∈ ms, Q m
  | [], _ => ⟨[], rfl, by simp⟩
  | y :: ys, h => by
    obtain ⟨m, rfl, hm⟩ := h y List.mem_cons_self
    obtain ⟨ms, rfl, hms⟩ := dms_of fun z hz => h z (List.mem_cons_of_mem _ hz)
    exact ⟨m :: ms, rfl, fun k hk => (List.mem_cons.mp hk).elim (fun e => e ▸ hm) (hms k)⟩
theorem sat_case {most many : Int} (h0 : 0 < most) (h1 : most ≤ 8) (h2 : 0 ≤ many) (h3 : many ≤ 70) : Sat (m_law_case [.drw, .int most, .int many]) fun d => ∃ (P : Int) (xs : List Str) (ms : List Dm), d = caseD P xs ms ∧ (4 ≤ P ∧ P ≤ 60 ∧ P % 2 = 0) ∧ Crew xs ∧ xs ≠ [] ∧ (xs.length : Int) ≤ most ∧
      (∀ m ∈ ms, DmOk P xs m ∧ -120 ≤ m.lo ∧ m.hi ≤ 200) ∧ (ms.length : Int) ≤ many := by
  have ak : ∀ y : Str, asK (.str y) = some (.inr y) := fun _ => rfl
  unfold m_law_case
  rw [runB_eq]
  refine sat_bnd (P := fun z => ∃ d, z.1 = .rt d ∧ ∃ (P : Int) (xs : List Str) (ms : List Dm), d = caseD P xs ms ∧ (4 ≤ P ∧ P ≤ 60 ∧ P % 2 = 0) ∧ Crew xs ∧ xs ≠ [] ∧ (xs.length : Int) ≤ most ∧ (∀ m ∈ ms, DmOk P xs m ∧ -120 ≤ m.lo ∧ m.hi ≤ 200) ∧ (ms.length : Int) ≤ many) ?_ ?_
  · unfold b_law_case
    refine sat_seqB (fun ρ => ∃ P : Int, (4 ≤ P ∧ P ≤ 60 ∧ P % 2 = 0) ∧ ρ = [some .drw, some (.int most), some (.int many), some (.dic [(.inr "period", .int P)]), none, none]) ?_ ?_
    · try simp -implicitDefEqProofs only [sSeq_ap, sIf_ap, sSet_ap, sRet_ap, sNx_ap, sRetN_ap, sBk_ap, sCt_ap, sExp_ap, sAsg_ap, sPar_ap, sPar3_ap, sApp_ap, sSetX_ap, sExpX_ap, sIxs_ap, sSt_ap, sFl_ap, sStk_ap, sFor_ap, mLst_ap, mTup_ap, mDnew_ap, mDisp_ap, ppCons_ap, ppNil_ap, o1_ap, o2_ap, vr_ap, cst_ap, mCal_ap, mCalP_ap, mCalKP_ap, aCons_ap, aNil_ap, anV_ap, orV_ap, ntV_ap, tsb_ap, tru_ap, nt_ap, an_ap, orr_ap, ife_ap, chn_ap, joi_ap, slc_ap, pNone_ap, pSome_ap, xOf_ap, xPop_ap, iSeq_ap, iRg1_ap, iRg2_ap, iEnum2_ap, iZip_ap, mMk_ap, yes_ap, gSet_ap, gTupD_ap, gsNil_ap, gsCons_ap, pick, asB, asS, asI, asT, slL, slot, dTru, dInt, dSub, dNeg, dLe, dLt, dGt, dGe, dMin2, dAbs, dList_l, dList_t, dTuple_l, dTuple_t, dLen_l, dLen_t, dLen_d, dLen_s, dAdd_i, subsT, subsL, atI_0, atI_1, atI_2, atI_3, isi_str, isi_tup, isi_dic, isi_int, isi_intb, isi_lst2, isi_tup2, dEq_int, dNe_int, if_tt, if_ff, Bool.not_true, Bool.not_false, Option.bind_some, List.map_cons, List.map_nil, List.cons_append, List.nil_append, List.length_cons, List.length_nil, List.getElem?_cons_succ, List.getElem?_cons_zero, List.set_cons_zero, List.set_cons_succ, List.filterMap_cons, List.filterMap_nil, bnd_ret, lft_some, lft_none, pur_ret, bnd_assoc, bnd_stk, List.replicate_succ, List.replicate_zero, Nat.reduceAdd, Nat.reduceSub, Nat.reduceEqDiff, if_true, if_false, eq_self, Int.cast_ofNat_Int, decide_true, decide_false, Int.reduceEq, Int.reduceLE, Int.reduceLT, Int.reduceNeg, Int.reduceAdd, Int.reduceSub, sUnp3_ap, sMt_ap, sMt0_ap, xPop0_ap, mMet_ap, mMetK_ap, isLstD_l, isDicD_d]
      refine sat_bnd (P := fun z => ∃ P : Int, (4 ≤ P ∧ P ≤ 60 ∧ P % 2 = 0) ∧ z = [(.inr "period", .int P)]) ?_ ?_
      · simp -implicitDefEqProofs only [sSeq_ap, sIf_ap, sSet_ap, sRet_ap, sNx_ap, sRetN_ap, sBk_ap, sCt_ap, sExp_ap, sAsg_ap, sPar_ap, sPar3_ap, sApp_ap, sSetX_ap, sExpX_ap, sIxs_ap, sSt_ap, sFl_ap, sStk_ap, sFor_ap, mLst_ap, mTup_ap, mDnew_ap, mDisp_ap, ppCons_ap, ppNil_ap, o1_ap, o2_ap, vr_ap, cst_ap, mCal_ap, mCalP_ap, mCalKP_ap, aCons_ap, aNil_ap, anV_ap, orV_ap, ntV_ap, tsb_ap, tru_ap, nt_ap, an_ap, orr_ap, ife_ap, chn_ap, joi_ap, slc_ap, pNone_ap, pSome_ap, xOf_ap, xPop_ap, iSeq_ap, iRg1_ap, iRg2_ap, iEnum2_ap, iZip_ap, mMk_ap, yes_ap, gSet_ap, gTupD_ap, gsNil_ap, gsCons_ap, pick, asB, asS, asI, asT, slL, slot, dTru, dInt, dSub, dNeg, dLe, dLt, dGt, dGe, dMin2, dAbs, dList_l, dList_t, dTuple_l, dTuple_t, dLen_l, dLen_t, dLen_d, dLen_s, dAdd_i, subsT, subsL, atI_0, atI_1, atI_2, atI_3, isi_str, isi_tup, isi_dic, isi_int, isi_intb, isi_lst2, isi_tup2, dEq_int, dNe_int, if_tt, if_ff, Bool.not_true, Bool.not_false, Option.bind_some, List.map_cons, List.map_nil, List.cons_append, List.nil_append, List.length_cons, List.length_nil, List.getElem?_cons_succ, List.getElem?_cons_zero, List.set_cons_zero, List.set_cons_succ, List.filterMap_cons, List.filterMap_nil, bnd_ret, lft_some, lft_none, pur_ret, bnd_assoc, bnd_stk, List.replicate_succ, List.replicate_zero, Nat.reduceAdd, Nat.reduceSub, Nat.reduceEqDiff, if_true, if_false, eq_self, Int.cast_ofNat_Int, decide_true, decide_false, Int.reduceEq, Int.reduceLE, Int.reduceLT, Int.reduceNeg, Int.reduceAdd, Int.reduceSub, sUnp3_ap, sMt_ap, sMt0_ap, xPop0_ap, mMet_ap, mMetK_ap, isLstD_l, isDicD_d, ak]
        refine sat_bnd (DL.pickT_lst (by simp) (by simp)) fun dP hd => ?_
        obtain ⟨P, rfl, hP⟩ : ∃ r : Int, dP = .int r ∧ (4 ≤ r ∧ r ≤ 60 ∧ r % 2 = 0) := by
          simp only [List.mem_cons, List.not_mem_nil, or_false] at hd
          rcases hd with rfl | rfl | rfl | rfl | rfl | rfl | rfl <;> exact ⟨_, rfl, by decide⟩
        try simp -implicitDefEqProofs only [sSeq_ap, sIf_ap, sSet_ap, sRet_ap, sNx_ap, sRetN_ap, sBk_ap, sCt_ap, sExp_ap, sAsg_ap, sPar_ap, sPar3_ap, sApp_ap, sSetX_ap, sExpX_ap, sIxs_ap, sSt_ap, sFl_ap, sStk_ap, sFor_ap, mLst_ap, mTup_ap, mDnew_ap, mDisp_ap, ppCons_ap, ppNil_ap, o1_ap, o2_ap, vr_ap, cst_ap, mCal_ap, mCalP_ap, mCalKP_ap, aCons_ap, aNil_ap, anV_ap, orV_ap, ntV_ap, tsb_ap, tru_ap, nt_ap, an_ap, orr_ap, ife_ap, chn_ap, joi_ap, slc_ap, pNone_ap, pSome_ap, xOf_ap, xPop_ap, iSeq_ap, iRg1_ap, iRg2_ap, iEnum2_ap, iZip_ap, mMk_ap, yes_ap, gSet_ap, gTupD_ap, gsNil_ap, gsCons_ap, pick, asB, asS, asI, asT, slL, slot, dTru, dInt, dSub, dNeg, dLe, dLt, dGt, dGe, dMin2, dAbs, dList_l, dList_t, dTuple_l, dTuple_t, dLen_l, dLen_t, dLen_d, dLen_s, dAdd_i, subsT, subsL, atI_0, atI_1, atI_2, atI_3, isi_str, isi_tup, isi_dic, isi_int, isi_intb, isi_lst2, isi_tup2, dEq_int, dNe_int, if_tt, if_ff, Bool.not_true, Bool.not_false, Option.bind_some, List.map_cons, List.map_nil, List.cons_append, List.nil_append, List.length_cons, List.length_nil, List.getElem?_cons_succ, List.getElem?_cons_zero, List.set_cons_zero, List.set_cons_succ, List.filterMap_cons, List.filterMap_nil, bnd_ret, lft_some, lft_none, pur_ret, bnd_assoc, bnd_stk, List.replicate_succ, List.replicate_zero, Nat.reduceAdd, Nat.reduceSub, Nat.reduceEqDiff, if_true, if_false, eq_self, Int.cast_ofNat_Int, decide_true, decide_false, Int.reduceEq, Int.reduceLE, Int.reduceLT, Int.reduceNeg, Int.reduceAdd, Int.reduceSub, sUnp3_ap, sMt_ap, sMt0_ap, xPop0_ap, mMet_ap, mMetK_ap, isLstD_l, isDicD_d]
        exact sat_ret ⟨P, hP, rfl⟩
      · rintro _ ⟨P, hP, rfl⟩
        try simp -implicitDefEqProofs only [sSeq_ap, sIf_ap, sSet_ap, sRet_ap, sNx_ap, sRetN_ap, sBk_ap, sCt_ap, sExp_ap, sAsg_ap, sPar_ap, sPar3_ap, sApp_ap, sSetX_ap, sExpX_ap, sIxs_ap, sSt_ap, sFl_ap, sStk_ap, sFor_ap, mLst_ap, mTup_ap, mDnew_ap, mDisp_ap, ppCons_ap, ppNil_ap, o1_ap, o2_ap, vr_ap, cst_ap, mCal_ap, mCalP_ap, mCalKP_ap, aCons_ap, aNil_ap, anV_ap, orV_ap, ntV_ap, tsb_ap, tru_ap, nt_ap, an_ap, orr_ap, ife_ap, chn_ap, joi_ap, slc_ap, pNone_ap, pSome_ap, xOf_ap, xPop_ap, iSeq_ap, iRg1_ap, iRg2_ap, iEnum2_ap, iZip_ap, mMk_ap, yes_ap, gSet_ap, gTupD_ap, gsNil_ap, gsCons_ap, pick, asB, asS, asI, asT, slL, slot, dTru, dInt, dSub, dNeg, dLe, dLt, dGt, dGe, dMin2, dAbs, dList_l, dList_t, dTuple_l, dTuple_t, dLen_l, dLen_t, dLen_d, dLen_s, dAdd_i, subsT, subsL, atI_0, atI_1, atI_2, atI_3, isi_str, isi_tup, isi_dic, isi_int, isi_intb, isi_lst2, isi_tup2, dEq_int, dNe_int, if_tt, if_ff, Bool.not_true, Bool.not_false, Option.bind_some, List.map_cons, List.map_nil, List.cons_append, List.nil_append, List.length_cons, List.length_nil, List.getElem?_cons_succ, List.getElem?_cons_zero, List.set_cons_zero, List.set_cons_succ, List.filterMap_cons, List.filterMap_nil, bnd_ret, lft_some, lft_none, pur_ret, bnd_assoc, bnd_stk, List.replicate_succ, List.replicate_zero, Nat.reduceAdd, Nat.reduceSub, Nat.reduceEqDiff, if_true, if_false, eq_self, Int.cast_ofNat_Int, decide_true, decide_false, Int.reduceEq, Int.reduceLE, Int.reduceLT, Int.reduceNeg, Int.reduceAdd, Int.reduceSub, sUnp3_ap, sMt_ap, sMt0_ap, xPop0_ap, mMet_ap, mMetK_ap, isLstD_l, isDicD_d]
        exact sat_ret ⟨rfl, P, hP, rfl⟩
    rintro _ ⟨P, hP, rfl⟩
    refine sat_seqB (fun ρ => ∃ xs : List Str, Crew xs ∧ xs ≠ [] ∧ (xs.length : Int) ≤ most ∧ ρ = [some .drw, some (.int most), some (.int many), some (.dic [(.inr "period", .int P), (.inr "lines", namesD xs)]), none, none]) ?_ ?_
    · try simp -implicitDefEqProofs only [sSeq_ap, sIf_ap, sSet_ap, sRet_ap, sNx_ap, sRetN_ap, sBk_ap, sCt_ap, sExp_ap, sAsg_ap, sPar_ap, sPar3_ap, sApp_ap, sSetX_ap, sExpX_ap, sIxs_ap, sSt_ap, sFl_ap, sStk_ap, sFor_ap, mLst_ap, mTup_ap, mDnew_ap, mDisp_ap, ppCons_ap, ppNil_ap, o1_ap, o2_ap, vr_ap, cst_ap, mCal_ap, mCalP_ap, mCalKP_ap, aCons_ap, aNil_ap, anV_ap, orV_ap, ntV_ap, tsb_ap, tru_ap, nt_ap, an_ap, orr_ap, ife_ap, chn_ap, joi_ap, slc_ap, pNone_ap, pSome_ap, xOf_ap, xPop_ap, iSeq_ap, iRg1_ap, iRg2_ap, iEnum2_ap, iZip_ap, mMk_ap, yes_ap, gSet_ap, gTupD_ap, gsNil_ap, gsCons_ap, pick, asB, asS, asI, asT, slL, slot, dTru, dInt, dSub, dNeg, dLe, dLt, dGt, dGe, dMin2, dAbs, dList_l, dList_t, dTuple_l, dTuple_t, dLen_l, dLen_t, dLen_d, dLen_s, dAdd_i, subsT, subsL, atI_0, atI_1, atI_2, atI_3, isi_str, isi_tup, isi_dic, isi_int, isi_intb, isi_lst2, isi_tup2, dEq_int, dNe_int, if_tt, if_ff, Bool.not_true, Bool.not_false, Option.bind_some, List.map_cons, List.map_nil, List.cons_append, List.nil_append, List.length_cons, List.length_nil, List.getElem?_cons_succ, List.getElem?_cons_zero, List.set_cons_zero, List.set_cons_succ, List.filterMap_cons, List.filterMap_nil, bnd_ret, lft_some, lft_none, pur_ret, bnd_assoc, bnd_stk, List.replicate_succ, List.replicate_zero, Nat.reduceAdd, Nat.reduceSub, Nat.reduceEqDiff, if_true, if_false, eq_self, Int.cast_ofNat_Int, decide_true, decide_false, Int.reduceEq, Int.reduceLE, Int.reduceLT, Int.reduceNeg, Int.reduceAdd, Int.reduceSub, sUnp3_ap, sMt_ap, sMt0_ap, xPop0_ap, mMet_ap, mMetK_ap, isLstD_l, isDicD_d]
      refine sat_bnd (sat_take h0 (by omega) (Q := fun y => ∃ r : Int, y = .int r ∧ 0 ≤ r ∧ r < most) fun r a b => ⟨r, rfl, a, b⟩) ?_
      rintro _ ⟨r, rfl, hr⟩
      try simp -implicitDefEqProofs only [sSeq_ap, sIf_ap, sSet_ap, sRet_ap, sNx_ap, sRetN_ap, sBk_ap, sCt_ap, sExp_ap, sAsg_ap, sPar_ap, sPar3_ap, sApp_ap, sSetX_ap, sExpX_ap, sIxs_ap, sSt_ap, sFl_ap, sStk_ap, sFor_ap, mLst_ap, mTup_ap, mDnew_ap, mDisp_ap, ppCons_ap, ppNil_ap, o1_ap, o2_ap, vr_ap, cst_ap, mCal_ap, mCalP_ap, mCalKP_ap, aCons_ap, aNil_ap, anV_ap, orV_ap, ntV_ap, tsb_ap, tru_ap, nt_ap, an_ap, orr_ap, ife_ap, chn_ap, joi_ap, slc_ap, pNone_ap, pSome_ap, xOf_ap, xPop_ap, iSeq_ap, iRg1_ap, iRg2_ap, iEnum2_ap, iZip_ap, mMk_ap, yes_ap, gSet_ap, gTupD_ap, gsNil_ap, gsCons_ap, pick, asB, asS, asI, asT, slL, slot, dTru, dInt, dSub, dNeg, dLe, dLt, dGt, dGe, dMin2, dAbs, dList_l, dList_t, dTuple_l, dTuple_t, dLen_l, dLen_t, dLen_d, dLen_s, dAdd_i, subsT, subsL, atI_0, atI_1, atI_2, atI_3, isi_str, isi_tup, isi_dic, isi_int, isi_intb, isi_lst2, isi_tup2, dEq_int, dNe_int, if_tt, if_ff, Bool.not_true, Bool.not_false, Option.bind_some, List.map_cons, List.map_nil, List.cons_append, List.nil_append, List.length_cons, List.length_nil, List.getElem?_cons_succ, List.getElem?_cons_zero, List.set_cons_zero, List.set_cons_succ, List.filterMap_cons, List.filterMap_nil, bnd_ret, lft_some, lft_none, pur_ret, bnd_assoc, bnd_stk, List.replicate_succ, List.replicate_zero, Nat.reduceAdd, Nat.reduceSub, Nat.reduceEqDiff, if_true, if_false, eq_self, Int.cast_ofNat_Int, decide_true, decide_false, Int.reduceEq, Int.reduceLE, Int.reduceLT, Int.reduceNeg, Int.reduceAdd, Int.reduceSub, sUnp3_ap, sMt_ap, sMt0_ap, xPop0_ap, mMet_ap, mMetK_ap, isLstD_l, isDicD_d]
      refine sat_bnd (sat_words (n := 1 + r) (by omega) (by omega)) ?_
      rintro _ ⟨xs, rfl, hl, hn, ho⟩
      have hne : xs ≠ [] := fun e => by subst e; simp at hl; omega
      have hput : putAt (namesD (sortS xs)) (.str "lines") (.dic [(.inr "period", .int P)]) = some (.dic [(.inr "period", .int P), (.inr "lines", namesD (sortS xs))]) := rfl
      have hnm : D.tup ((sortS xs).map .str) = namesD (sortS xs) := rfl
      simp -implicitDefEqProofs only [sSeq_ap, sIf_ap, sSet_ap, sRet_ap, sNx_ap, sRetN_ap, sBk_ap, sCt_ap, sExp_ap, sAsg_ap, sPar_ap, sPar3_ap, sApp_ap, sSetX_ap, sExpX_ap, sIxs_ap, sSt_ap, sFl_ap, sStk_ap, sFor_ap, mLst_ap, mTup_ap, mDnew_ap, mDisp_ap, ppCons_ap, ppNil_ap, o1_ap, o2_ap, vr_ap, cst_ap, mCal_ap, mCalP_ap, mCalKP_ap, aCons_ap, aNil_ap, anV_ap, orV_ap, ntV_ap, tsb_ap, tru_ap, nt_ap, an_ap, orr_ap, ife_ap, chn_ap, joi_ap, slc_ap, pNone_ap, pSome_ap, xOf_ap, xPop_ap, iSeq_ap, iRg1_ap, iRg2_ap, iEnum2_ap, iZip_ap, mMk_ap, yes_ap, gSet_ap, gTupD_ap, gsNil_ap, gsCons_ap, pick, asB, asS, asI, asT, slL, slot, dTru, dInt, dSub, dNeg, dLe, dLt, dGt, dGe, dMin2, dAbs, dList_l, dList_t, dTuple_l, dTuple_t, dLen_l, dLen_t, dLen_d, dLen_s, dAdd_i, subsT, subsL, atI_0, atI_1, atI_2, atI_3, isi_str, isi_tup, isi_dic, isi_int, isi_intb, isi_lst2, isi_tup2, dEq_int, dNe_int, if_tt, if_ff, Bool.not_true, Bool.not_false, Option.bind_some, List.map_cons, List.map_nil, List.cons_append, List.nil_append, List.length_cons, List.length_nil, List.getElem?_cons_succ, List.getElem?_cons_zero, List.set_cons_zero, List.set_cons_succ, List.filterMap_cons, List.filterMap_nil, bnd_ret, lft_some, lft_none, pur_ret, bnd_assoc, bnd_stk, List.replicate_succ, List.replicate_zero, Nat.reduceAdd, Nat.reduceSub, Nat.reduceEqDiff, if_true, if_false, eq_self, Int.cast_ofNat_Int, decide_true, decide_false, Int.reduceEq, Int.reduceLE, Int.reduceLT, Int.reduceNeg, Int.reduceAdd, Int.reduceSub, sUnp3_ap, sMt_ap, sMt0_ap, xPop0_ap, mMet_ap, mMetK_ap, isLstD_l, isDicD_d, sorted_strs hne (show xs.length < 64 by omega), hnm, hput]
      refine sat_ret ⟨rfl, sortS xs, crew_sort (by omega) hn ho, fun e => ?_, ?_, rfl⟩
      · have := (sortS_perm xs).length_eq
        rw [e] at this
        exact hne (List.length_eq_zero_iff.mp this.symm)
      · rw [(sortS_perm xs).length_eq]; omega
    rintro _ ⟨xs, hx, hne, hxl, rfl⟩
    refine sat_seqB (fun ρ => ∃ n : Int, 0 ≤ n ∧ n ≤ many ∧ ρ = [some .drw, some (.int most), some (.int many), some (.dic [(.inr "period", .int P), (.inr "lines", namesD xs)]), some (.int n), none]) ?_ ?_
    · try simp -implicitDefEqProofs only [sSeq_ap, sIf_ap, sSet_ap, sRet_ap, sNx_ap, sRetN_ap, sBk_ap, sCt_ap, sExp_ap, sAsg_ap, sPar_ap, sPar3_ap, sApp_ap, sSetX_ap, sExpX_ap, sIxs_ap, sSt_ap, sFl_ap, sStk_ap, sFor_ap, mLst_ap, mTup_ap, mDnew_ap, mDisp_ap, ppCons_ap, ppNil_ap, o1_ap, o2_ap, vr_ap, cst_ap, mCal_ap, mCalP_ap, mCalKP_ap, aCons_ap, aNil_ap, anV_ap, orV_ap, ntV_ap, tsb_ap, tru_ap, nt_ap, an_ap, orr_ap, ife_ap, chn_ap, joi_ap, slc_ap, pNone_ap, pSome_ap, xOf_ap, xPop_ap, iSeq_ap, iRg1_ap, iRg2_ap, iEnum2_ap, iZip_ap, mMk_ap, yes_ap, gSet_ap, gTupD_ap, gsNil_ap, gsCons_ap, pick, asB, asS, asI, asT, slL, slot, dTru, dInt, dSub, dNeg, dLe, dLt, dGt, dGe, dMin2, dAbs, dList_l, dList_t, dTuple_l, dTuple_t, dLen_l, dLen_t, dLen_d, dLen_s, dAdd_i, subsT, subsL, atI_0, atI_1, atI_2, atI_3, isi_str, isi_tup, isi_dic, isi_int, isi_intb, isi_lst2, isi_tup2, dEq_int, dNe_int, if_tt, if_ff, Bool.not_true, Bool.not_false, Option.bind_some, List.map_cons, List.map_nil, List.cons_append, List.nil_append, List.length_cons, List.length_nil, List.getElem?_cons_succ, List.getElem?_cons_zero, List.set_cons_zero, List.set_cons_succ, List.filterMap_cons, List.filterMap_nil, bnd_ret, lft_some, lft_none, pur_ret, bnd_assoc, bnd_stk, List.replicate_succ, List.replicate_zero, Nat.reduceAdd, Nat.reduceSub, Nat.reduceEqDiff, if_true, if_false, eq_self, Int.cast_ofNat_Int, decide_true, decide_false, Int.reduceEq, Int.reduceLE, Int.reduceLT, Int.reduceNeg, Int.reduceAdd, Int.reduceSub, sUnp3_ap, sMt_ap, sMt0_ap, xPop0_ap, mMet_ap, mMetK_ap, isLstD_l, isDicD_d]
      refine sat_bnd (sat_take (n := many + 1) (by omega) (by omega) (Q := fun y => ∃ r : Int, y = .int r ∧ 0 ≤ r ∧ r < many + 1) fun r a b => ⟨r, rfl, a, b⟩) ?_
      rintro _ ⟨r, rfl, hr⟩
      try simp -implicitDefEqProofs only [sSeq_ap, sIf_ap, sSet_ap, sRet_ap, sNx_ap, sRetN_ap, sBk_ap, sCt_ap, sExp_ap, sAsg_ap, sPar_ap, sPar3_ap, sApp_ap, sSetX_ap, sExpX_ap, sIxs_ap, sSt_ap, sFl_ap, sStk_ap, sFor_ap, mLst_ap, mTup_ap, mDnew_ap, mDisp_ap, ppCons_ap, ppNil_ap, o1_ap, o2_ap, vr_ap, cst_ap, mCal_ap, mCalP_ap, mCalKP_ap, aCons_ap, aNil_ap, anV_ap, orV_ap, ntV_ap, tsb_ap, tru_ap, nt_ap, an_ap, orr_ap, ife_ap, chn_ap, joi_ap, slc_ap, pNone_ap, pSome_ap, xOf_ap, xPop_ap, iSeq_ap, iRg1_ap, iRg2_ap, iEnum2_ap, iZip_ap, mMk_ap, yes_ap, gSet_ap, gTupD_ap, gsNil_ap, gsCons_ap, pick, asB, asS, asI, asT, slL, slot, dTru, dInt, dSub, dNeg, dLe, dLt, dGt, dGe, dMin2, dAbs, dList_l, dList_t, dTuple_l, dTuple_t, dLen_l, dLen_t, dLen_d, dLen_s, dAdd_i, subsT, subsL, atI_0, atI_1, atI_2, atI_3, isi_str, isi_tup, isi_dic, isi_int, isi_intb, isi_lst2, isi_tup2, dEq_int, dNe_int, if_tt, if_ff, Bool.not_true, Bool.not_false, Option.bind_some, List.map_cons, List.map_nil, List.cons_append, List.nil_append, List.length_cons, List.length_nil, List.getElem?_cons_succ, List.getElem?_cons_zero, List.set_cons_zero, List.set_cons_succ, List.filterMap_cons, List.filterMap_nil, bnd_ret, lft_some, lft_none, pur_ret, bnd_assoc, bnd_stk, List.replicate_succ, List.replicate_zero, Nat.reduceAdd, Nat.reduceSub, Nat.reduceEqDiff, if_true, if_false, eq_self, Int.cast_ofNat_Int, decide_true, decide_false, Int.reduceEq, Int.reduceLE, Int.reduceLT, Int.reduceNeg, Int.reduceAdd, Int.reduceSub, sUnp3_ap, sMt_ap, sMt0_ap, xPop0_ap, mMet_ap, mMetK_ap, isLstD_l, isDicD_d]
      exact sat_ret ⟨rfl, r, hr.1, by omega, rfl⟩
    rintro _ ⟨n, hn0, hn1, rfl⟩
    refine sat_seqB (fun ρ => ∃ ms : List Dm, (∀ m ∈ ms, DmOk P xs m ∧ -120 ≤ m.lo ∧ m.hi ≤ 200) ∧ (ms.length : Int) ≤ many ∧ ρ = [some .drw, some (.int most), some (.int many), some (caseD P xs ms), some (.int n), none]) ?_ ?_
    · simp -implicitDefEqProofs only [sSeq_ap, sIf_ap, sSet_ap, sRet_ap, sNx_ap, sRetN_ap, sBk_ap, sCt_ap, sExp_ap, sAsg_ap, sPar_ap, sPar3_ap, sApp_ap, sSetX_ap, sExpX_ap, sIxs_ap, sSt_ap, sFl_ap, sStk_ap, sFor_ap, mLst_ap, mTup_ap, mDnew_ap, mDisp_ap, ppCons_ap, ppNil_ap, o1_ap, o2_ap, vr_ap, cst_ap, mCal_ap, mCalP_ap, mCalKP_ap, aCons_ap, aNil_ap, anV_ap, orV_ap, ntV_ap, tsb_ap, tru_ap, nt_ap, an_ap, orr_ap, ife_ap, chn_ap, joi_ap, slc_ap, pNone_ap, pSome_ap, xOf_ap, xPop_ap, iSeq_ap, iRg1_ap, iRg2_ap, iEnum2_ap, iZip_ap, mMk_ap, yes_ap, gSet_ap, gTupD_ap, gsNil_ap, gsCons_ap, pick, asB, asS, asI, asT, slL, slot, dTru, dInt, dSub, dNeg, dLe, dLt, dGt, dGe, dMin2, dAbs, dList_l, dList_t, dTuple_l, dTuple_t, dLen_l, dLen_t, dLen_d, dLen_s, dAdd_i, subsT, subsL, atI_0, atI_1, atI_2, atI_3, isi_str, isi_tup, isi_dic, isi_int, isi_intb, isi_lst2, isi_tup2, dEq_int, dNe_int, if_tt, if_ff, Bool.not_true, Bool.not_false, Option.bind_some, List.map_cons, List.map_nil, List.cons_append, List.nil_append, List.length_cons, List.length_nil, List.getElem?_cons_succ, List.getElem?_cons_zero, List.set_cons_zero, List.set_cons_succ, List.filterMap_cons, List.filterMap_nil, bnd_ret, lft_some, lft_none, pur_ret, bnd_assoc, bnd_stk, List.replicate_succ, List.replicate_zero, Nat.reduceAdd, Nat.reduceSub, Nat.reduceEqDiff, if_true, if_false, eq_self, Int.cast_ofNat_Int, decide_true, decide_false, Int.reduceEq, Int.reduceLE, Int.reduceLT, Int.reduceNeg, Int.reduceAdd, Int.reduceSub, sUnp3_ap, sMt_ap, sMt0_ap, xPop0_ap, mMet_ap, mMetK_ap, isLstD_l, isDicD_d, mCmp_ap]
      rw [← bnd_assoc]
      refine sat_bnd (sat_lcR (n := n) (Q := fun d => ∃ m : Dm, d = m.d ∧ DmOk P xs m ∧ -120 ≤ m.lo ∧ m.hi ≤ 200) hn0 (by omega) fun k k0 k1 => ?_) ?_
      · have g1 : dSubs (.dic [(.inr "period", .int P), (.inr "lines", namesD xs)]) (.str "period") = some (.int P) := rfl
        have g2 : dSubs (.dic [(.inr "period", .int P), (.inr "lines", namesD xs)]) (.str "lines") = some (namesD xs) := rfl
        simp -implicitDefEqProofs only [wipeD, sSeq_ap, sIf_ap, sSet_ap, sRet_ap, sNx_ap, sRetN_ap, sBk_ap, sCt_ap, sExp_ap, sAsg_ap, sPar_ap, sPar3_ap, sApp_ap, sSetX_ap, sExpX_ap, sIxs_ap, sSt_ap, sFl_ap, sStk_ap, sFor_ap, mLst_ap, mTup_ap, mDnew_ap, mDisp_ap, ppCons_ap, ppNil_ap, o1_ap, o2_ap, vr_ap, cst_ap, mCal_ap, mCalP_ap, mCalKP_ap, aCons_ap, aNil_ap, anV_ap, orV_ap, ntV_ap, tsb_ap, tru_ap, nt_ap, an_ap, orr_ap, ife_ap, chn_ap, joi_ap, slc_ap, pNone_ap, pSome_ap, xOf_ap, xPop_ap, iSeq_ap, iRg1_ap, iRg2_ap, iEnum2_ap, iZip_ap, mMk_ap, yes_ap, gSet_ap, gTupD_ap, gsNil_ap, gsCons_ap, pick, asB, asS, asI, asT, slL, slot, dTru, dInt, dSub, dNeg, dLe, dLt, dGt, dGe, dMin2, dAbs, dList_l, dList_t, dTuple_l, dTuple_t, dLen_l, dLen_t, dLen_d, dLen_s, dAdd_i, subsT, subsL, atI_0, atI_1, atI_2, atI_3, isi_str, isi_tup, isi_dic, isi_int, isi_intb, isi_lst2, isi_tup2, dEq_int, dNe_int, if_tt, if_ff, Bool.not_true, Bool.not_false, Option.bind_some, List.map_cons, List.map_nil, List.cons_append, List.nil_append, List.length_cons, List.length_nil, List.getElem?_cons_succ, List.getElem?_cons_zero, List.set_cons_zero, List.set_cons_succ, List.filterMap_cons, List.filterMap_nil, bnd_ret, lft_some, lft_none, pur_ret, bnd_assoc, bnd_stk, List.replicate_succ, List.replicate_zero, Nat.reduceAdd, Nat.reduceSub, Nat.reduceEqDiff, if_true, if_false, eq_self, Int.cast_ofNat_Int, decide_true, decide_false, Int.reduceEq, Int.reduceLE, Int.reduceLT, Int.reduceNeg, Int.reduceAdd, Int.reduceSub, sUnp3_ap, sMt_ap, sMt0_ap, xPop0_ap, mMet_ap, mMetK_ap, isLstD_l, isDicD_d, g1, g2]
        exact sat_row ⟨hP.1, hP.2.1⟩ hx hne
      · rintro _ ⟨ys, rfl, hyl, hys⟩
        obtain ⟨ms, rfl, hms⟩ := dms_of hys
        rw [List.length_map] at hyl
        have hput : putAt (.lst (ms.map Dm.d)) (.str "rows") (.dic [(.inr "period", .int P), (.inr "lines", namesD xs)]) = some (caseD P xs ms) := rfl
        simp -implicitDefEqProofs only [sSeq_ap, sIf_ap, sSet_ap, sRet_ap, sNx_ap, sRetN_ap, sBk_ap, sCt_ap, sExp_ap, sAsg_ap, sPar_ap, sPar3_ap, sApp_ap, sSetX_ap, sExpX_ap, sIxs_ap, sSt_ap, sFl_ap, sStk_ap, sFor_ap, mLst_ap, mTup_ap, mDnew_ap, mDisp_ap, ppCons_ap, ppNil_ap, o1_ap, o2_ap, vr_ap, cst_ap, mCal_ap, mCalP_ap, mCalKP_ap, aCons_ap, aNil_ap, anV_ap, orV_ap, ntV_ap, tsb_ap, tru_ap, nt_ap, an_ap, orr_ap, ife_ap, chn_ap, joi_ap, slc_ap, pNone_ap, pSome_ap, xOf_ap, xPop_ap, iSeq_ap, iRg1_ap, iRg2_ap, iEnum2_ap, iZip_ap, mMk_ap, yes_ap, gSet_ap, gTupD_ap, gsNil_ap, gsCons_ap, pick, asB, asS, asI, asT, slL, slot, dTru, dInt, dSub, dNeg, dLe, dLt, dGt, dGe, dMin2, dAbs, dList_l, dList_t, dTuple_l, dTuple_t, dLen_l, dLen_t, dLen_d, dLen_s, dAdd_i, subsT, subsL, atI_0, atI_1, atI_2, atI_3, isi_str, isi_tup, isi_dic, isi_int, isi_intb, isi_lst2, isi_tup2, dEq_int, dNe_int, if_tt, if_ff, Bool.not_true, Bool.not_false, Option.bind_some, List.map_cons, List.map_nil, List.cons_append, List.nil_append, List.length_cons, List.length_nil, List.getElem?_cons_succ, List.getElem?_cons_zero, List.set_cons_zero, List.set_cons_succ, List.filterMap_cons, List.filterMap_nil, bnd_ret, lft_some, lft_none, pur_ret, bnd_assoc, bnd_stk, List.replicate_succ, List.replicate_zero, Nat.reduceAdd, Nat.reduceSub, Nat.reduceEqDiff, if_true, if_false, eq_self, Int.cast_ofNat_Int, decide_true, decide_false, Int.reduceEq, Int.reduceLE, Int.reduceLT, Int.reduceNeg, Int.reduceAdd, Int.reduceSub, sUnp3_ap, sMt_ap, sMt0_ap, xPop0_ap, mMet_ap, mMetK_ap, isLstD_l, isDicD_d, hput]
        exact sat_ret ⟨rfl, ms, hms, by omega, rfl⟩
    rintro _ ⟨ms, hm, hml, rfl⟩
    try simp -implicitDefEqProofs only [sSeq_ap, sIf_ap, sSet_ap, sRet_ap, sNx_ap, sRetN_ap, sBk_ap, sCt_ap, sExp_ap, sAsg_ap, sPar_ap, sPar3_ap, sApp_ap, sSetX_ap, sExpX_ap, sIxs_ap, sSt_ap, sFl_ap, sStk_ap, sFor_ap, mLst_ap, mTup_ap, mDnew_ap, mDisp_ap, ppCons_ap, ppNil_ap, o1_ap, o2_ap, vr_ap, cst_ap, mCal_ap, mCalP_ap, mCalKP_ap, aCons_ap, aNil_ap, anV_ap, orV_ap, ntV_ap, tsb_ap, tru_ap, nt_ap, an_ap, orr_ap, ife_ap, chn_ap, joi_ap, slc_ap, pNone_ap, pSome_ap, xOf_ap, xPop_ap, iSeq_ap, iRg1_ap, iRg2_ap, iEnum2_ap, iZip_ap, mMk_ap, yes_ap, gSet_ap, gTupD_ap, gsNil_ap, gsCons_ap, pick, asB, asS, asI, asT, slL, slot, dTru, dInt, dSub, dNeg, dLe, dLt, dGt, dGe, dMin2, dAbs, dList_l, dList_t, dTuple_l, dTuple_t, dLen_l, dLen_t, dLen_d, dLen_s, dAdd_i, subsT, subsL, atI_0, atI_1, atI_2, atI_3, isi_str, isi_tup, isi_dic, isi_int, isi_intb, isi_lst2, isi_tup2, dEq_int, dNe_int, if_tt, if_ff, Bool.not_true, Bool.not_false, Option.bind_some, List.map_cons, List.map_nil, List.cons_append, List.nil_append, List.length_cons, List.length_nil, List.getElem?_cons_succ, List.getElem?_cons_zero, List.set_cons_zero, List.set_cons_succ, List.filterMap_cons, List.filterMap_nil, bnd_ret, lft_some, lft_none, pur_ret, bnd_assoc, bnd_stk, List.replicate_succ, List.replicate_zero, Nat.reduceAdd, Nat.reduceSub, Nat.reduceEqDiff, if_true, if_false, eq_self, Int.cast_ofNat_Int, decide_true, decide_false, Int.reduceEq, Int.reduceLE, Int.reduceLT, Int.reduceNeg, Int.reduceAdd, Int.reduceSub, sUnp3_ap, sMt_ap, sMt0_ap, xPop0_ap, mMet_ap, mMetK_ap, isLstD_l, isDicD_d]
    exact sat_ret ⟨_, rfl, P, xs, ms, rfl, hP, hx, hne, hxl, hm, hml⟩
  · rintro ⟨fl, ρ⟩ ⟨d, h, h1⟩
    obtain rfl : fl = .rt d := h
    exact sat_ret h1
theorem problem_ok {P : Int} (hP : 4 ≤ P ∧ P ≤ 60 ∧ P % 2 = 0) {xs : List Str} (hx : Crew xs) {ms : List Dm} (hm : ∀ m ∈ ms, DmOk P xs m) (hl : ms.length ≤ 80) : m_law_problem [caseD P xs ms] = DL.ret (probD P xs ms) := by
  unfold m_law_problem
  rw [runB_eq]
  have hpm : m_Problem_init [.int P, namesD xs, .tup (ms.map Dm.d)] = DL.ret (.slf "Problem" [("p_period", .int P), ("p_lines", namesD xs), ("p_demands", .tup (ms.map Dm.d))]) := prob_made hP hx hm hl (.inr rfl)
  have hpd : D.obj "Problem" [("p_period", .int P), ("p_lines", namesD xs), ("p_demands", .tup (ms.map Dm.d))] = probD P xs ms := rfl
  simp -implicitDefEqProofs only [sSeq_ap, sIf_ap, sSet_ap, sRet_ap, sNx_ap, sRetN_ap, sBk_ap, sCt_ap, sExp_ap, sAsg_ap, sPar_ap, sPar3_ap, sApp_ap, sSetX_ap, sExpX_ap, sIxs_ap, sSt_ap, sFl_ap, sStk_ap, sFor_ap, mLst_ap, mTup_ap, mDnew_ap, mDisp_ap, ppCons_ap, ppNil_ap, o1_ap, o2_ap, vr_ap, cst_ap, mCal_ap, mCalP_ap, mCalKP_ap, aCons_ap, aNil_ap, anV_ap, orV_ap, ntV_ap, tsb_ap, tru_ap, nt_ap, an_ap, orr_ap, ife_ap, chn_ap, joi_ap, slc_ap, pNone_ap, pSome_ap, xOf_ap, xPop_ap, iSeq_ap, iRg1_ap, iRg2_ap, iEnum2_ap, iZip_ap, mMk_ap, yes_ap, gSet_ap, gTupD_ap, gsNil_ap, gsCons_ap, pick, asB, asS, asI, asT, slL, slot, dTru, dInt, dSub, dNeg, dLe, dLt, dGt, dGe, dMin2, dAbs, dList_l, dList_t, dTuple_l, dTuple_t, dLen_l, dLen_t, dLen_d, dLen_s, dAdd_i, subsT, subsL, atI_0, atI_1, atI_2, atI_3, isi_str, isi_tup, isi_dic, isi_int, isi_intb, isi_lst2, isi_tup2, dEq_int, dNe_int, if_tt, if_ff, Bool.not_true, Bool.not_false, Option.bind_some, List.map_cons, List.map_nil, List.cons_append, List.nil_append, List.length_cons, List.length_nil, List.getElem?_cons_succ, List.getElem?_cons_zero, List.set_cons_zero, List.set_cons_succ, List.filterMap_cons, List.filterMap_nil, bnd_ret, lft_some, lft_none, pur_ret, bnd_assoc, bnd_stk, List.replicate_succ, List.replicate_zero, Nat.reduceAdd, Nat.reduceSub, Nat.reduceEqDiff, if_true, if_false, eq_self, Int.cast_ofNat_Int, decide_true, decide_false, Int.reduceEq, Int.reduceLE, Int.reduceLT, Int.reduceNeg, Int.reduceAdd, Int.reduceSub, sUnp3_ap, sMt_ap, sMt0_ap, xPop0_ap, mMet_ap, mMetK_ap, isLstD_l, isDicD_d, b_law_problem, case_p, case_l, case_r, hpm, hpd]
theorem other_ok {xs : List Str} (hx : Crew xs) {a : Sg} (ha : SgOk xs a) : m_law_other_side [a.d] = DL.ret a.img.d := by
  unfold m_law_other_side
  rw [runB_eq]
  have e : a.d = .tup [.str a.n, .int a.s] := rfl
  rw [e]
  simp -implicitDefEqProofs only [sSeq_ap, sIf_ap, sSet_ap, sRet_ap, sNx_ap, sRetN_ap, sBk_ap, sCt_ap, sExp_ap, sAsg_ap, sPar_ap, sPar3_ap, sApp_ap, sSetX_ap, sExpX_ap, sIxs_ap, sSt_ap, sFl_ap, sStk_ap, sFor_ap, mLst_ap, mTup_ap, mDnew_ap, mDisp_ap, ppCons_ap, ppNil_ap, o1_ap, o2_ap, vr_ap, cst_ap, mCal_ap, mCalP_ap, mCalKP_ap, aCons_ap, aNil_ap, anV_ap, orV_ap, ntV_ap, tsb_ap, tru_ap, nt_ap, an_ap, orr_ap, ife_ap, chn_ap, joi_ap, slc_ap, pNone_ap, pSome_ap, xOf_ap, xPop_ap, iSeq_ap, iRg1_ap, iRg2_ap, iEnum2_ap, iZip_ap, mMk_ap, yes_ap, gSet_ap, gTupD_ap, gsNil_ap, gsCons_ap, pick, asB, asS, asI, asT, slL, slot, dTru, dInt, dSub, dNeg, dLe, dLt, dGt, dGe, dMin2, dAbs, dList_l, dList_t, dTuple_l, dTuple_t, dLen_l, dLen_t, dLen_d, dLen_s, dAdd_i, subsT, subsL, atI_0, atI_1, atI_2, atI_3, isi_str, isi_tup, isi_dic, isi_int, isi_intb, isi_lst2, isi_tup2, dEq_int, dNe_int, if_tt, if_ff, Bool.not_true, Bool.not_false, Option.bind_some, List.map_cons, List.map_nil, List.cons_append, List.nil_append, List.length_cons, List.length_nil, List.getElem?_cons_succ, List.getElem?_cons_zero, List.set_cons_zero, List.set_cons_succ, List.filterMap_cons, List.filterMap_nil, bnd_ret, lft_some, lft_none, pur_ret, bnd_assoc, bnd_stk, List.replicate_succ, List.replicate_zero, Nat.reduceAdd, Nat.reduceSub, Nat.reduceEqDiff, if_true, if_false, eq_self, Int.cast_ofNat_Int, decide_true, decide_false, Int.reduceEq, Int.reduceLE, Int.reduceLT, Int.reduceNeg, Int.reduceAdd, Int.reduceSub, sUnp3_ap, sMt_ap, sMt0_ap, xPop0_ap, mMet_ap, mMetK_ap, isLstD_l, isDicD_d, b_law_other_side, dEq_str]
  unfold Sg.img
  by_cases c : a = org
  · have : a.n = Str.ofString "" := by rw [c]; rfl
    simp -implicitDefEqProofs only [sSeq_ap, sIf_ap, sSet_ap, sRet_ap, sNx_ap, sRetN_ap, sBk_ap, sCt_ap, sExp_ap, sAsg_ap, sPar_ap, sPar3_ap, sApp_ap, sSetX_ap, sExpX_ap, sIxs_ap, sSt_ap, sFl_ap, sStk_ap, sFor_ap, mLst_ap, mTup_ap, mDnew_ap, mDisp_ap, ppCons_ap, ppNil_ap, o1_ap, o2_ap, vr_ap, cst_ap, mCal_ap, mCalP_ap, mCalKP_ap, aCons_ap, aNil_ap, anV_ap, orV_ap, ntV_ap, tsb_ap, tru_ap, nt_ap, an_ap, orr_ap, ife_ap, chn_ap, joi_ap, slc_ap, pNone_ap, pSome_ap, xOf_ap, xPop_ap, iSeq_ap, iRg1_ap, iRg2_ap, iEnum2_ap, iZip_ap, mMk_ap, yes_ap, gSet_ap, gTupD_ap, gsNil_ap, gsCons_ap, pick, asB, asS, asI, asT, slL, slot, dTru, dInt, dSub, dNeg, dLe, dLt, dGt, dGe, dMin2, dAbs, dList_l, dList_t, dTuple_l, dTuple_t, dLen_l, dLen_t, dLen_d, dLen_s, dAdd_i, subsT, subsL, atI_0, atI_1, atI_2, atI_3, isi_str, isi_tup, isi_dic, isi_int, isi_intb, isi_lst2, isi_tup2, dEq_int, dNe_int, if_tt, if_ff, Bool.not_true, Bool.not_false, Option.bind_some, List.map_cons, List.map_nil, List.cons_append, List.nil_append, List.length_cons, List.length_nil, List.getElem?_cons_succ, List.getElem?_cons_zero, List.set_cons_zero, List.set_cons_succ, List.filterMap_cons, List.filterMap_nil, bnd_ret, lft_some, lft_none, pur_ret, bnd_assoc, bnd_stk, List.replicate_succ, List.replicate_zero, Nat.reduceAdd, Nat.reduceSub, Nat.reduceEqDiff, if_true, if_false, eq_self, Int.cast_ofNat_Int, decide_true, decide_false, Int.reduceEq, Int.reduceLE, Int.reduceLT, Int.reduceNeg, Int.reduceAdd, Int.reduceSub, sUnp3_ap, sMt_ap, sMt0_ap, xPop0_ap, mMet_ap, mMetK_ap, isLstD_l, isDicD_d, this]
    simp -implicitDefEqProofs only [sSeq_ap, sIf_ap, sSet_ap, sRet_ap, sNx_ap, sRetN_ap, sBk_ap, sCt_ap, sExp_ap, sAsg_ap, sPar_ap, sPar3_ap, sApp_ap, sSetX_ap, sExpX_ap, sIxs_ap, sSt_ap, sFl_ap, sStk_ap, sFor_ap, mLst_ap, mTup_ap, mDnew_ap, mDisp_ap, ppCons_ap, ppNil_ap, o1_ap, o2_ap, vr_ap, cst_ap, mCal_ap, mCalP_ap, mCalKP_ap, aCons_ap, aNil_ap, anV_ap, orV_ap, ntV_ap, tsb_ap, tru_ap, nt_ap, an_ap, orr_ap, ife_ap, chn_ap, joi_ap, slc_ap, pNone_ap, pSome_ap, xOf_ap, xPop_ap, iSeq_ap, iRg1_ap, iRg2_ap, iEnum2_ap, iZip_ap, mMk_ap, yes_ap, gSet_ap, gTupD_ap, gsNil_ap, gsCons_ap, pick, asB, asS, asI, asT, slL, slot, dTru, dInt, dSub, dNeg, dLe, dLt, dGt, dGe, dMin2, dAbs, dList_l, dList_t, dTuple_l, dTuple_t, dLen_l, dLen_t, dLen_d, dLen_s, dAdd_i, subsT, subsL, atI_0, atI_1, atI_2, atI_3, isi_str, isi_tup, isi_dic, isi_int, isi_intb, isi_lst2, isi_tup2, dEq_int, dNe_int, if_tt, if_ff, Bool.not_true, Bool.not_false, Option.bind_some, List.map_cons, List.map_nil, List.cons_append, List.nil_append, List.length_cons, List.length_nil, List.getElem?_cons_succ, List.getElem?_cons_zero, List.set_cons_zero, List.set_cons_succ, List.filterMap_cons, List.filterMap_nil, bnd_ret, lft_some, lft_none, pur_ret, bnd_assoc, bnd_stk, List.replicate_succ, List.replicate_zero, Nat.reduceAdd, Nat.reduceSub, Nat.reduceEqDiff, if_true, if_false, eq_self, Int.cast_ofNat_Int, decide_true, decide_false, Int.reduceEq, Int.reduceLE, Int.reduceLT, Int.reduceNeg, Int.reduceAdd, Int.reduceSub, sUnp3_ap, sMt_ap, sMt0_ap, xPop0_ap, mMet_ap, mMetK_ap, isLstD_l, isDicD_d, c]
    rfl
  · obtain ⟨h2, h3⟩ : a.n ∈ xs ∧ (a.s = 1 ∨ a.s = -1) := ha.resolve_left c
    have : a.n ≠ Str.ofString "" := nm_ne (hx.ok _ h2)
    simp -implicitDefEqProofs only [sSeq_ap, sIf_ap, sSet_ap, sRet_ap, sNx_ap, sRetN_ap, sBk_ap, sCt_ap, sExp_ap, sAsg_ap, sPar_ap, sPar3_ap, sApp_ap, sSetX_ap, sExpX_ap, sIxs_ap, sSt_ap, sFl_ap, sStk_ap, sFor_ap, mLst_ap, mTup_ap, mDnew_ap, mDisp_ap, ppCons_ap, ppNil_ap, o1_ap, o2_ap, vr_ap, cst_ap, mCal_ap, mCalP_ap, mCalKP_ap, aCons_ap, aNil_ap, anV_ap, orV_ap, ntV_ap, tsb_ap, tru_ap, nt_ap, an_ap, orr_ap, ife_ap, chn_ap, joi_ap, slc_ap, pNone_ap, pSome_ap, xOf_ap, xPop_ap, iSeq_ap, iRg1_ap, iRg2_ap, iEnum2_ap, iZip_ap, mMk_ap, yes_ap, gSet_ap, gTupD_ap, gsNil_ap, gsCons_ap, pick, asB, asS, asI, asT, slL, slot, dTru, dInt, dSub, dNeg, dLe, dLt, dGt, dGe, dMin2, dAbs, dList_l, dList_t, dTuple_l, dTuple_t, dLen_l, dLen_t, dLen_d, dLen_s, dAdd_i, subsT, subsL, atI_0, atI_1, atI_2, atI_3, isi_str, isi_tup, isi_dic, isi_int, isi_intb, isi_lst2, isi_tup2, dEq_int, dNe_int, if_tt, if_ff, Bool.not_true, Bool.not_false, Option.bind_some, List.map_cons, List.map_nil, List.cons_append, List.nil_append, List.length_cons, List.length_nil, List.getElem?_cons_succ, List.getElem?_cons_zero, List.set_cons_zero, List.set_cons_succ, List.filterMap_cons, List.filterMap_nil, bnd_ret, lft_some, lft_none, pur_ret, bnd_assoc, bnd_stk, List.replicate_succ, List.replicate_zero, Nat.reduceAdd, Nat.reduceSub, Nat.reduceEqDiff, if_true, if_false, eq_self, Int.cast_ofNat_Int, decide_true, decide_false, Int.reduceEq, Int.reduceLE, Int.reduceLT, Int.reduceNeg, Int.reduceAdd, Int.reduceSub, sUnp3_ap, sMt_ap, sMt0_ap, xPop0_ap, mMet_ap, mMetK_ap, isLstD_l, isDicD_d, this, c, Int.zero_sub]
    rfl

end Law

namespace Law
open PySem L2 DL
/-! ### steps -/
theorem fld_per {P : Int} {xs : List Str} {ms : List Dm} : dFld "Problem" "p_period" (probD P xs ms) = some (.int P) := rfl
theorem fld_lin {P : Int} {xs : List Str} {ms : List Dm} : dFld "Problem" "p_lines" (probD P xs ms) = some (namesD xs) := rfl
theorem fld_dem {P : Int} {xs : List Str} {ms : List Dm} : dFld "Problem" "p_demands" (probD P xs ms) = some (.tup (ms.map Dm.d)) := rfl
theorem at_dm {ms : List Dm} {i : Nat} {m : Dm} (hi : ms[i]? = some m) : atI (ms.map Dm.d) (i : Int) = some (.tup [m.a.d, m.b.d, .int m.lo, .int m.hi]) := by
  have hlt : i < ms.length := (List.getElem?_eq_some_iff.mp hi).1
  have : ixN (ms.map Dm.d).length (i : Int) = some i := ixN_at (by rw [List.length_map]; exact hlt)
  unfold atI
  rw [this]
  show (ms.map Dm.d)[i]? = _
  rw [List.getElem?_map, hi]
  rfl
theorem way_in (w : Wy) : dNotIn (.str w.s) (.tup [.str "on", .str "back", .str "image", .str "far"]) = some (.bl false) := by
  have : dInB (.str w.s) (.tup [.str "on", .str "back", .str "image", .str "far"]) = some ([("on" : Str), "back", "image", "far"].contains w.s) := in_strsT ["on", "back", "image", "far"] w.s
  unfold dNotIn
  rw [this]
  cases w <;> rfl
theorem is_step_ok {P : Int} {xs : List Str} {ms : List Dm} {p : Nat × Wy} (h : p.1 < ms.length) : m_is_step [probD P xs ms, stepD p] = DL.ret (.bl true) := by
  unfold m_is_step
  rw [runB_eq]
  have h1 : decide ((p.1 : Int) < ((ms.map Dm.d).length : Int)) = true := decide_eq_true (by rw [List.length_map]; omega)
  have h2 : decide (0 ≤ (p.1 : Int)) = true := decide_eq_true (by omega)
  have hw := way_in p.2
  unfold stepD
  simp -implicitDefEqProofs only [sSeq_ap, sIf_ap, sSet_ap, sRet_ap, sNx_ap, sRetN_ap, sBk_ap, sCt_ap, sExp_ap, sAsg_ap, sPar_ap, sPar3_ap, sApp_ap, sSetX_ap, sExpX_ap, sIxs_ap, sSt_ap, sFl_ap, sStk_ap, sFor_ap, mLst_ap, mTup_ap, mDnew_ap, mDisp_ap, ppCons_ap, ppNil_ap, o1_ap, o2_ap, vr_ap, cst_ap, mCal_ap, mCalP_ap, mCalKP_ap, aCons_ap, aNil_ap, anV_ap, orV_ap, ntV_ap, tsb_ap, tru_ap, nt_ap, an_ap, orr_ap, ife_ap, chn_ap, joi_ap, slc_ap, pNone_ap, pSome_ap, xOf_ap, xPop_ap, iSeq_ap, iRg1_ap, iRg2_ap, iEnum2_ap, iZip_ap, mMk_ap, yes_ap, gSet_ap, gTupD_ap, gsNil_ap, gsCons_ap, pick, asB, asS, asI, asT, slL, slot, dTru, dInt, dSub, dNeg, dLe, dLt, dGt, dGe, dMin2, dAbs, dList_l, dList_t, dTuple_l, dTuple_t, dLen_l, dLen_t, dLen_d, dLen_s, dAdd_i, subsT, subsL, atI_0, atI_1, atI_2, atI_3, isi_str, isi_tup, isi_dic, isi_int, isi_intb, isi_lst2, isi_tup2, dEq_int, dNe_int, if_tt, if_ff, Bool.not_true, Bool.not_false, Option.bind_some, List.map_cons, List.map_nil, List.cons_append, List.nil_append, List.length_cons, List.length_nil, List.getElem?_cons_succ, List.getElem?_cons_zero, List.set_cons_zero, List.set_cons_succ, List.filterMap_cons, List.filterMap_nil, bnd_ret, lft_some, lft_none, pur_ret, bnd_assoc, bnd_stk, List.replicate_succ, List.replicate_zero, Nat.reduceAdd, Nat.reduceSub, Nat.reduceEqDiff, if_true, if_false, eq_self, Int.cast_ofNat_Int, decide_true, decide_false, Int.reduceEq, Int.reduceLE, Int.reduceLT, Int.reduceNeg, Int.reduceAdd, Int.reduceSub, sUnp3_ap, sMt_ap, sMt0_ap, xPop0_ap, mMet_ap, mMetK_ap, isLstD_l, isDicD_d, b_is_step, hw, fld_dem, h1, h2]
theorem step_ok {P : Int} {xs : List Str} (hx : Crew xs) {ms : List Dm} (hm : ∀ m ∈ ms, DmOk P xs m) {p : Nat × Wy} (h : p.1 < ms.length) : m_step_of [probD P xs ms, stepD p] = DL.ret (stOf ms p).d := by
  obtain ⟨i, w⟩ := p
  have hi : ms[i]? = some ms[i] := List.getElem?_eq_getElem h
  have ho := hm _ (List.getElem_mem h)
  rw [stOf_at hi]
  generalize ms[i] = m at *
  unfold m_step_of
  rw [runB_eq]
  have i1 := image_of_ok hx ho.1
  have i2 := image_of_ok hx ho.2.1
  unfold stepD
  cases w with
  | on =>
    have e1 : dEq (.str Wy.on.s) (.str (Str.ofString "on")) = some (.bl true) := rfl
    simp -implicitDefEqProofs only [sSeq_ap, sIf_ap, sSet_ap, sRet_ap, sNx_ap, sRetN_ap, sBk_ap, sCt_ap, sExp_ap, sAsg_ap, sPar_ap, sPar3_ap, sApp_ap, sSetX_ap, sExpX_ap, sIxs_ap, sSt_ap, sFl_ap, sStk_ap, sFor_ap, mLst_ap, mTup_ap, mDnew_ap, mDisp_ap, ppCons_ap, ppNil_ap, o1_ap, o2_ap, vr_ap, cst_ap, mCal_ap, mCalP_ap, mCalKP_ap, aCons_ap, aNil_ap, anV_ap, orV_ap, ntV_ap, tsb_ap, tru_ap, nt_ap, an_ap, orr_ap, ife_ap, chn_ap, joi_ap, slc_ap, pNone_ap, pSome_ap, xOf_ap, xPop_ap, iSeq_ap, iRg1_ap, iRg2_ap, iEnum2_ap, iZip_ap, mMk_ap, yes_ap, gSet_ap, gTupD_ap, gsNil_ap, gsCons_ap, pick, asB, asS, asI, asT, slL, slot, dTru, dInt, dSub, dNeg, dLe, dLt, dGt, dGe, dMin2, dAbs, dList_l, dList_t, dTuple_l, dTuple_t, dLen_l, dLen_t, dLen_d, dLen_s, dAdd_i, subsT, subsL, atI_0, atI_1, atI_2, atI_3, isi_str, isi_tup, isi_dic, isi_int, isi_intb, isi_lst2, isi_tup2, dEq_int, dNe_int, if_tt, if_ff, Bool.not_true, Bool.not_false, Option.bind_some, List.map_cons, List.map_nil, List.cons_append, List.nil_append, List.length_cons, List.length_nil, List.getElem?_cons_succ, List.getElem?_cons_zero, List.set_cons_zero, List.set_cons_succ, List.filterMap_cons, List.filterMap_nil, bnd_ret, lft_some, lft_none, pur_ret, bnd_assoc, bnd_stk, List.replicate_succ, List.replicate_zero, Nat.reduceAdd, Nat.reduceSub, Nat.reduceEqDiff, if_true, if_false, eq_self, Int.cast_ofNat_Int, decide_true, decide_false, Int.reduceEq, Int.reduceLE, Int.reduceLT, Int.reduceNeg, Int.reduceAdd, Int.reduceSub, sUnp3_ap, sMt_ap, sMt0_ap, xPop0_ap, mMet_ap, mMetK_ap, isLstD_l, isDicD_d, b_step_of, fld_dem, at_dm hi, e1]
    rfl
  | back =>
    have e1 : dEq (.str Wy.back.s) (.str (Str.ofString "on")) = some (.bl false) := rfl
    have e2 : dEq (.str Wy.back.s) (.str (Str.ofString "back")) = some (.bl true) := rfl
    simp -implicitDefEqProofs only [sSeq_ap, sIf_ap, sSet_ap, sRet_ap, sNx_ap, sRetN_ap, sBk_ap, sCt_ap, sExp_ap, sAsg_ap, sPar_ap, sPar3_ap, sApp_ap, sSetX_ap, sExpX_ap, sIxs_ap, sSt_ap, sFl_ap, sStk_ap, sFor_ap, mLst_ap, mTup_ap, mDnew_ap, mDisp_ap, ppCons_ap, ppNil_ap, o1_ap, o2_ap, vr_ap, cst_ap, mCal_ap, mCalP_ap, mCalKP_ap, aCons_ap, aNil_ap, anV_ap, orV_ap, ntV_ap, tsb_ap, tru_ap, nt_ap, an_ap, orr_ap, ife_ap, chn_ap, joi_ap, slc_ap, pNone_ap, pSome_ap, xOf_ap, xPop_ap, iSeq_ap, iRg1_ap, iRg2_ap, iEnum2_ap, iZip_ap, mMk_ap, yes_ap, gSet_ap, gTupD_ap, gsNil_ap, gsCons_ap, pick, asB, asS, asI, asT, slL, slot, dTru, dInt, dSub, dNeg, dLe, dLt, dGt, dGe, dMin2, dAbs, dList_l, dList_t, dTuple_l, dTuple_t, dLen_l, dLen_t, dLen_d, dLen_s, dAdd_i, subsT, subsL, atI_0, atI_1, atI_2, atI_3, isi_str, isi_tup, isi_dic, isi_int, isi_intb, isi_lst2, isi_tup2, dEq_int, dNe_int, if_tt, if_ff, Bool.not_true, Bool.not_false, Option.bind_some, List.map_cons, List.map_nil, List.cons_append, List.nil_append, List.length_cons, List.length_nil, List.getElem?_cons_succ, List.getElem?_cons_zero, List.set_cons_zero, List.set_cons_succ, List.filterMap_cons, List.filterMap_nil, bnd_ret, lft_some, lft_none, pur_ret, bnd_assoc, bnd_stk, List.replicate_succ, List.replicate_zero, Nat.reduceAdd, Nat.reduceSub, Nat.reduceEqDiff, if_true, if_false, eq_self, Int.cast_ofNat_Int, decide_true, decide_false, Int.reduceEq, Int.reduceLE, Int.reduceLT, Int.reduceNeg, Int.reduceAdd, Int.reduceSub, sUnp3_ap, sMt_ap, sMt0_ap, xPop0_ap, mMet_ap, mMetK_ap, isLstD_l, isDicD_d, b_step_of, fld_dem, at_dm hi, e1, e2]
    rfl
  | image =>
    have e1 : dEq (.str Wy.image.s) (.str (Str.ofString "on")) = some (.bl false) := rfl
    have e2 : dEq (.str Wy.image.s) (.str (Str.ofString "back")) = some (.bl false) := rfl
    have e3 : dEq (.str Wy.image.s) (.str (Str.ofString "image")) = some (.bl true) := rfl
    simp -implicitDefEqProofs only [sSeq_ap, sIf_ap, sSet_ap, sRet_ap, sNx_ap, sRetN_ap, sBk_ap, sCt_ap, sExp_ap, sAsg_ap, sPar_ap, sPar3_ap, sApp_ap, sSetX_ap, sExpX_ap, sIxs_ap, sSt_ap, sFl_ap, sStk_ap, sFor_ap, mLst_ap, mTup_ap, mDnew_ap, mDisp_ap, ppCons_ap, ppNil_ap, o1_ap, o2_ap, vr_ap, cst_ap, mCal_ap, mCalP_ap, mCalKP_ap, aCons_ap, aNil_ap, anV_ap, orV_ap, ntV_ap, tsb_ap, tru_ap, nt_ap, an_ap, orr_ap, ife_ap, chn_ap, joi_ap, slc_ap, pNone_ap, pSome_ap, xOf_ap, xPop_ap, iSeq_ap, iRg1_ap, iRg2_ap, iEnum2_ap, iZip_ap, mMk_ap, yes_ap, gSet_ap, gTupD_ap, gsNil_ap, gsCons_ap, pick, asB, asS, asI, asT, slL, slot, dTru, dInt, dSub, dNeg, dLe, dLt, dGt, dGe, dMin2, dAbs, dList_l, dList_t, dTuple_l, dTuple_t, dLen_l, dLen_t, dLen_d, dLen_s, dAdd_i, subsT, subsL, atI_0, atI_1, atI_2, atI_3, isi_str, isi_tup, isi_dic, isi_int, isi_intb, isi_lst2, isi_tup2, dEq_int, dNe_int, if_tt, if_ff, Bool.not_true, Bool.not_false, Option.bind_some, List.map_cons, List.map_nil, List.cons_append, List.nil_append, List.length_cons, List.length_nil, List.getElem?_cons_succ, List.getElem?_cons_zero, List.set_cons_zero, List.set_cons_succ, List.filterMap_cons, List.filterMap_nil, bnd_ret, lft_some, lft_none, pur_ret, bnd_assoc, bnd_stk, List.replicate_succ, List.replicate_zero, Nat.reduceAdd, Nat.reduceSub, Nat.reduceEqDiff, if_true, if_false, eq_self, Int.cast_ofNat_Int, decide_true, decide_false, Int.reduceEq, Int.reduceLE, Int.reduceLT, Int.reduceNeg, Int.reduceAdd, Int.reduceSub, sUnp3_ap, sMt_ap, sMt0_ap, xPop0_ap, mMet_ap, mMetK_ap, isLstD_l, isDicD_d, b_step_of, fld_dem, at_dm hi, e1, e2, e3, i1, i2]
    rfl
  | far =>
    have e1 : dEq (.str Wy.far.s) (.str (Str.ofString "on")) = some (.bl false) := rfl
    have e2 : dEq (.str Wy.far.s) (.str (Str.ofString "back")) = some (.bl false) := rfl
    have e3 : dEq (.str Wy.far.s) (.str (Str.ofString "image")) = some (.bl false) := rfl
    simp -implicitDefEqProofs only [sSeq_ap, sIf_ap, sSet_ap, sRet_ap, sNx_ap, sRetN_ap, sBk_ap, sCt_ap, sExp_ap, sAsg_ap, sPar_ap, sPar3_ap, sApp_ap, sSetX_ap, sExpX_ap, sIxs_ap, sSt_ap, sFl_ap, sStk_ap, sFor_ap, mLst_ap, mTup_ap, mDnew_ap, mDisp_ap, ppCons_ap, ppNil_ap, o1_ap, o2_ap, vr_ap, cst_ap, mCal_ap, mCalP_ap, mCalKP_ap, aCons_ap, aNil_ap, anV_ap, orV_ap, ntV_ap, tsb_ap, tru_ap, nt_ap, an_ap, orr_ap, ife_ap, chn_ap, joi_ap, slc_ap, pNone_ap, pSome_ap, xOf_ap, xPop_ap, iSeq_ap, iRg1_ap, iRg2_ap, iEnum2_ap, iZip_ap, mMk_ap, yes_ap, gSet_ap, gTupD_ap, gsNil_ap, gsCons_ap, pick, asB, asS, asI, asT, slL, slot, dTru, dInt, dSub, dNeg, dLe, dLt, dGt, dGe, dMin2, dAbs, dList_l, dList_t, dTuple_l, dTuple_t, dLen_l, dLen_t, dLen_d, dLen_s, dAdd_i, subsT, subsL, atI_0, atI_1, atI_2, atI_3, isi_str, isi_tup, isi_dic, isi_int, isi_intb, isi_lst2, isi_tup2, dEq_int, dNe_int, if_tt, if_ff, Bool.not_true, Bool.not_false, Option.bind_some, List.map_cons, List.map_nil, List.cons_append, List.nil_append, List.length_cons, List.length_nil, List.getElem?_cons_succ, List.getElem?_cons_zero, List.set_cons_zero, List.set_cons_succ, List.filterMap_cons, List.filterMap_nil, bnd_ret, lft_some, lft_none, pur_ret, bnd_assoc, bnd_stk, List.replicate_succ, List.replicate_zero, Nat.reduceAdd, Nat.reduceSub, Nat.reduceEqDiff, if_true, if_false, eq_self, Int.cast_ofNat_Int, decide_true, decide_false, Int.reduceEq, Int.reduceLE, Int.reduceLT, Int.reduceNeg, Int.reduceAdd, Int.reduceSub, sUnp3_ap, sMt_ap, sMt0_ap, xPop0_ap, mMet_ap, mMetK_ap, isLstD_l, isDicD_d, b_step_of, fld_dem, at_dm hi, e1, e2, e3, i1, i2]
    rfl
/-! ### walks that are right -/
theorem stOf_ok {P : Int} {xs : List Str} {ms : List Dm} (hm : ∀ m ∈ ms, DmOk P xs m) {p : Nat × Wy} (h : p.1 < ms.length) : SgOk xs (stOf ms p).a ∧ SgOk xs (stOf ms p).b := by
  obtain ⟨i, w⟩ := p
  rw [stOf_at (List.getElem?_eq_getElem h)]
  exact w.st_ok (hm _ (List.getElem_mem h))
theorem sg_ne_self {xs : List Str} (hx : Crew xs) {a : Sg} (ha : SgOk xs a) : dNe a.d a.d = some (.bl false) := ne_self_plain (ha.plain (n := 0) hx).plain
theorem bad_ok {P : Int} {xs : List Str} (hx : Crew xs) {ms : List Dm} (hm : ∀ m ∈ ms, DmOk P xs m) {W : List (Nat × Wy)} (hW : WalkOk ms W) (hl : W.length ≤ 100000) : m_first_bad_step [probD P xs ms, walkD W] = DL.ret .non := by
  refine sat_pure ?_
  unfold m_first_bad_step
  rw [runB_eq]
  have h1 : dEq (walkD W) (.tup []) = some (.bl false) := by
    obtain ⟨b, e1, e2⟩ := dEq_plain (walk_plain (n := 0) W).plain (plain_tup (n := 0) (ds := []) (by simp)).plain
    rw [e1]
    cases b with
    | false => rfl
    | true =>
      have := e2.mp rfl
      unfold walkD at this
      injection this with this
      exact absurd (List.map_eq_nil_iff.mp this) hW.ne
  have h2 : dIsi (walkD W) (.ty "tuple") = some (.bl true) := rfl
  have hlist : (iEnum2 (vr 1) : DL.Env → M Unit (List D)) [some (probD P xs ms), some (walkD W), some .non, none, none, none, none, none, none] = DL.ret (W.zipIdx.map fun p => D.tup [.int (p.2 : Nat), stepD p.1]) := by
    have : ((W.map stepD).mapIdx fun i d => D.tup [.int (i : Nat), d]) = W.zipIdx.map fun p => D.tup [.int (p.2 : Nat), stepD p.1] := by
      rw [List.mapIdx_eq_zipIdx_map, List.zipIdx_map, List.map_map]
      rfl
    unfold walkD
    simp -implicitDefEqProofs only [sSeq_ap, sIf_ap, sSet_ap, sRet_ap, sNx_ap, sRetN_ap, sBk_ap, sCt_ap, sExp_ap, sAsg_ap, sPar_ap, sPar3_ap, sApp_ap, sSetX_ap, sExpX_ap, sIxs_ap, sSt_ap, sFl_ap, sStk_ap, sFor_ap, mLst_ap, mTup_ap, mDnew_ap, mDisp_ap, ppCons_ap, ppNil_ap, o1_ap, o2_ap, vr_ap, cst_ap, mCal_ap, mCalP_ap, mCalKP_ap, aCons_ap, aNil_ap, anV_ap, orV_ap, ntV_ap, tsb_ap, tru_ap, nt_ap, an_ap, orr_ap, ife_ap, chn_ap, joi_ap, slc_ap, pNone_ap, pSome_ap, xOf_ap, xPop_ap, iSeq_ap, iRg1_ap, iRg2_ap, iEnum2_ap, iZip_ap, mMk_ap, yes_ap, gSet_ap, gTupD_ap, gsNil_ap, gsCons_ap, pick, asB, asS, asI, asT, slL, slot, dTru, dInt, dSub, dNeg, dLe, dLt, dGt, dGe, dMin2, dAbs, dList_l, dList_t, dTuple_l, dTuple_t, dLen_l, dLen_t, dLen_d, dLen_s, dAdd_i, subsT, subsL, atI_0, atI_1, atI_2, atI_3, isi_str, isi_tup, isi_dic, isi_int, isi_intb, isi_lst2, isi_tup2, dEq_int, dNe_int, if_tt, if_ff, Bool.not_true, Bool.not_false, Option.bind_some, List.map_cons, List.map_nil, List.cons_append, List.nil_append, List.length_cons, List.length_nil, List.getElem?_cons_succ, List.getElem?_cons_zero, List.set_cons_zero, List.set_cons_succ, List.filterMap_cons, List.filterMap_nil, bnd_ret, lft_some, lft_none, pur_ret, bnd_assoc, bnd_stk, List.replicate_succ, List.replicate_zero, Nat.reduceAdd, Nat.reduceSub, Nat.reduceEqDiff, if_true, if_false, eq_self, Int.cast_ofNat_Int, decide_true, decide_false, Int.reduceEq, Int.reduceLE, Int.reduceLT, Int.reduceNeg, Int.reduceAdd, Int.reduceSub, sUnp3_ap, sMt_ap, sMt0_ap, xPop0_ap, mMet_ap, mMetK_ap, isLstD_l, isDicD_d, this]
  simp only [b_first_bad_step, sSeq_ap, sFor_ap, List.map_cons, List.map_nil, List.cons_append, List.nil_append, List.length_cons, List.length_nil, List.replicate_succ, List.replicate_zero, Nat.reduceAdd, Nat.reduceSub]
  simp only [sIf_ap, orr_ap, nt_ap, tru_ap, tsb_ap, o2_ap, vr_ap, cst_ap, mTup_ap, aNil_ap, sNx_ap, sSet_ap, List.getElem?_cons_succ, List.getElem?_cons_zero, List.set_cons_zero, List.set_cons_succ, bnd_ret, lft_some, h1, h2, dTru, asB, Bool.not_true, if_ff, hlist, bnd_assoc]
  refine sat_bnd (sat_for (I := fun j ρ => ∃ h a3 a4 a5 a6 a7 a8, ρ = [some (probD P xs ms), some (walkD W), some h, a3, a4, a5, a6, a7, a8] ∧ ∀ k p, j = k + 1 → W[k]? = some p → h = (stOf ms p).b.d) (R := fun _ => False) (i := 0) ⟨.non, none, none, none, none, none, none, rfl, by simp⟩ ?_) ?_
  · rintro j d ρ hj _ ⟨h, a3, a4, a5, a6, a7, a8, rfl, hh⟩
    rw [Nat.sub_zero, List.getElem?_map] at hj
    obtain ⟨⟨p, i⟩, hpi, rfl⟩ := Option.map_eq_some_iff.mp hj
    rw [List.getElem?_zipIdx] at hpi
    obtain ⟨p', hp, e⟩ := Option.map_eq_some_iff.mp hpi
    rw [Nat.zero_add] at e
    injection e with e1 e2
    subst e1
    subst e2
    have hlt := hW.ix p' (List.mem_of_getElem? hp)
    have hs := step_ok (P := P) hx hm hlt
    have ed : (stOf ms p').d = .tup [(stOf ms p').a.d, (stOf ms p').b.d, .int (stOf ms p').lo, .int (stOf ms p').hi] := rfl
    rw [ed] at hs
    refine ⟨_, rfl, ?_⟩
    cases j with
    | zero =>
      simp -implicitDefEqProofs only [sSeq_ap, sIf_ap, sSet_ap, sRet_ap, sNx_ap, sRetN_ap, sBk_ap, sCt_ap, sExp_ap, sAsg_ap, sPar_ap, sPar3_ap, sApp_ap, sSetX_ap, sExpX_ap, sIxs_ap, sSt_ap, sFl_ap, sStk_ap, sFor_ap, mLst_ap, mTup_ap, mDnew_ap, mDisp_ap, ppCons_ap, ppNil_ap, o1_ap, o2_ap, vr_ap, cst_ap, mCal_ap, mCalP_ap, mCalKP_ap, aCons_ap, aNil_ap, anV_ap, orV_ap, ntV_ap, tsb_ap, tru_ap, nt_ap, an_ap, orr_ap, ife_ap, chn_ap, joi_ap, slc_ap, pNone_ap, pSome_ap, xOf_ap, xPop_ap, iSeq_ap, iRg1_ap, iRg2_ap, iEnum2_ap, iZip_ap, mMk_ap, yes_ap, gSet_ap, gTupD_ap, gsNil_ap, gsCons_ap, pick, asB, asS, asI, asT, slL, slot, dTru, dInt, dSub, dNeg, dLe, dLt, dGt, dGe, dMin2, dAbs, dList_l, dList_t, dTuple_l, dTuple_t, dLen_l, dLen_t, dLen_d, dLen_s, dAdd_i, subsT, subsL, atI_0, atI_1, atI_2, atI_3, isi_str, isi_tup, isi_dic, isi_int, isi_intb, isi_lst2, isi_tup2, dEq_int, dNe_int, if_tt, if_ff, Bool.not_true, Bool.not_false, Option.bind_some, List.map_cons, List.map_nil, List.cons_append, List.nil_append, List.length_cons, List.length_nil, List.getElem?_cons_succ, List.getElem?_cons_zero, List.set_cons_zero, List.set_cons_succ, List.filterMap_cons, List.filterMap_nil, bnd_ret, lft_some, lft_none, pur_ret, bnd_assoc, bnd_stk, List.replicate_succ, List.replicate_zero, Nat.reduceAdd, Nat.reduceSub, Nat.reduceEqDiff, if_true, if_false, eq_self, Int.cast_ofNat_Int, decide_true, decide_false, Int.reduceEq, Int.reduceLE, Int.reduceLT, Int.reduceNeg, Int.reduceAdd, Int.reduceSub, sUnp3_ap, sMt_ap, sMt0_ap, xPop0_ap, mMet_ap, mMetK_ap, isLstD_l, isDicD_d, is_step_ok (P := P) (xs := xs) hlt, hs]
      refine sat_ret (.inl ⟨.inl rfl, _, _, _, _, _, _, _, rfl, fun k q hk hq => ?_⟩)
      have hk' : k = 0 := by omega
      subst hk'
      rw [hp] at hq
      cases hq
      rfl
    | succ j =>
      have hlj : j < W.length := by have := (List.getElem?_eq_some_iff.mp hp).1; omega
      have hprev : W[j]? = some W[j] := List.getElem?_eq_getElem hlj
      have e3 := hW.ch.at hprev hp
      have e4 := hh j _ rfl hprev
      rw [e3] at e4
      subst e4
      have c : decide ((0 : Int) < ((j + 1 : Nat) : Int)) = true := decide_eq_true (by omega)
      simp -implicitDefEqProofs only [sSeq_ap, sIf_ap, sSet_ap, sRet_ap, sNx_ap, sRetN_ap, sBk_ap, sCt_ap, sExp_ap, sAsg_ap, sPar_ap, sPar3_ap, sApp_ap, sSetX_ap, sExpX_ap, sIxs_ap, sSt_ap, sFl_ap, sStk_ap, sFor_ap, mLst_ap, mTup_ap, mDnew_ap, mDisp_ap, ppCons_ap, ppNil_ap, o1_ap, o2_ap, vr_ap, cst_ap, mCal_ap, mCalP_ap, mCalKP_ap, aCons_ap, aNil_ap, anV_ap, orV_ap, ntV_ap, tsb_ap, tru_ap, nt_ap, an_ap, orr_ap, ife_ap, chn_ap, joi_ap, slc_ap, pNone_ap, pSome_ap, xOf_ap, xPop_ap, iSeq_ap, iRg1_ap, iRg2_ap, iEnum2_ap, iZip_ap, mMk_ap, yes_ap, gSet_ap, gTupD_ap, gsNil_ap, gsCons_ap, pick, asB, asS, asI, asT, slL, slot, dTru, dInt, dSub, dNeg, dLe, dLt, dGt, dGe, dMin2, dAbs, dList_l, dList_t, dTuple_l, dTuple_t, dLen_l, dLen_t, dLen_d, dLen_s, dAdd_i, subsT, subsL, atI_0, atI_1, atI_2, atI_3, isi_str, isi_tup, isi_dic, isi_int, isi_intb, isi_lst2, isi_tup2, dEq_int, dNe_int, if_tt, if_ff, Bool.not_true, Bool.not_false, Option.bind_some, List.map_cons, List.map_nil, List.cons_append, List.nil_append, List.length_cons, List.length_nil, List.getElem?_cons_succ, List.getElem?_cons_zero, List.set_cons_zero, List.set_cons_succ, List.filterMap_cons, List.filterMap_nil, bnd_ret, lft_some, lft_none, pur_ret, bnd_assoc, bnd_stk, List.replicate_succ, List.replicate_zero, Nat.reduceAdd, Nat.reduceSub, Nat.reduceEqDiff, if_true, if_false, eq_self, Int.cast_ofNat_Int, decide_true, decide_false, Int.reduceEq, Int.reduceLE, Int.reduceLT, Int.reduceNeg, Int.reduceAdd, Int.reduceSub, sUnp3_ap, sMt_ap, sMt0_ap, xPop0_ap, mMet_ap, mMetK_ap, isLstD_l, isDicD_d, is_step_ok (P := P) (xs := xs) hlt, hs, c, sg_ne_self hx (stOf_ok hm hlt).1]
      refine sat_ret (.inl ⟨.inl rfl, _, _, _, _, _, _, _, rfl, fun k q hk hq => ?_⟩)
      have hk' : k = j + 1 := by omega
      subst hk'
      rw [hp] at hq
      cases hq
      rfl
  · rintro ⟨fl, ρ⟩ (⟨rfl, h, a3, a4, a5, a6, a7, a8, rfl, _⟩ | ⟨_, _, h⟩)
    · try simp -implicitDefEqProofs only [sSeq_ap, sIf_ap, sSet_ap, sRet_ap, sNx_ap, sRetN_ap, sBk_ap, sCt_ap, sExp_ap, sAsg_ap, sPar_ap, sPar3_ap, sApp_ap, sSetX_ap, sExpX_ap, sIxs_ap, sSt_ap, sFl_ap, sStk_ap, sFor_ap, mLst_ap, mTup_ap, mDnew_ap, mDisp_ap, ppCons_ap, ppNil_ap, o1_ap, o2_ap, vr_ap, cst_ap, mCal_ap, mCalP_ap, mCalKP_ap, aCons_ap, aNil_ap, anV_ap, orV_ap, ntV_ap, tsb_ap, tru_ap, nt_ap, an_ap, orr_ap, ife_ap, chn_ap, joi_ap, slc_ap, pNone_ap, pSome_ap, xOf_ap, xPop_ap, iSeq_ap, iRg1_ap, iRg2_ap, iEnum2_ap, iZip_ap, mMk_ap, yes_ap, gSet_ap, gTupD_ap, gsNil_ap, gsCons_ap, pick, asB, asS, asI, asT, slL, slot, dTru, dInt, dSub, dNeg, dLe, dLt, dGt, dGe, dMin2, dAbs, dList_l, dList_t, dTuple_l, dTuple_t, dLen_l, dLen_t, dLen_d, dLen_s, dAdd_i, subsT, subsL, atI_0, atI_1, atI_2, atI_3, isi_str, isi_tup, isi_dic, isi_int, isi_intb, isi_lst2, isi_tup2, dEq_int, dNe_int, if_tt, if_ff, Bool.not_true, Bool.not_false, Option.bind_some, List.map_cons, List.map_nil, List.cons_append, List.nil_append, List.length_cons, List.length_nil, List.getElem?_cons_succ, List.getElem?_cons_zero, List.set_cons_zero, List.set_cons_succ, List.filterMap_cons, List.filterMap_nil, bnd_ret, lft_some, lft_none, pur_ret, bnd_assoc, bnd_stk, List.replicate_succ, List.replicate_zero, Nat.reduceAdd, Nat.reduceSub, Nat.reduceEqDiff, if_true, if_false, eq_self, Int.cast_ofNat_Int, decide_true, decide_false, Int.reduceEq, Int.reduceLE, Int.reduceLT, Int.reduceNeg, Int.reduceAdd, Int.reduceSub, sUnp3_ap, sMt_ap, sMt0_ap, xPop0_ap, mMet_ap, mMetK_ap, isLstD_l, isDicD_d]
      exact sat_ret rfl
    · exact h.elim
theorem atI_neg1 {α : Type} {xs : List α} (h : xs ≠ []) : atI xs (-1) = some (xs.getLast h) := by
  have hl : 0 < xs.length := List.length_pos_iff.mpr h
  have : ixN xs.length (-1) = some (xs.length - 1) := by
    unfold ixN
    rw [if_neg (by omega), if_pos (by omega)]
    congr 1
    omega
  unfold atI
  rw [this]
  show xs[xs.length - 1]? = _
  rw [List.getLast_eq_getElem]
  exact List.getElem?_eq_getElem (by omega)
theorem atI_head {α : Type} {xs : List α} (h : xs ≠ []) : atI xs 0 = some (xs.head h) := by
  obtain ⟨x, r, rfl⟩ := List.exists_cons_of_ne_nil h
  exact atI_0 x r
theorem span_ok {P : Int} {xs : List Str} (hx : Crew xs) {ms : List Dm} (hm : ∀ m ∈ ms, DmOk P xs m) {W : List (Nat × Wy)} (hne : W ≠ []) (hix : ∀ p ∈ W, p.1 < ms.length) (hl : W.length ≤ 100000) : m_span_of [probD P xs ms, walkD W] = DL.ret (spanD ms W hne) := by
  unfold m_span_of
  rw [runB_eq]
  have hl1 : (W.map fun p => (stOf ms p).d) ≠ [] := fun e => hne (List.map_eq_nil_iff.mp e)
  have e1 : (mCmp (iSeq (vr 1)) (gSet 3) (yes) (mCalP (aCons (vr 0) (aCons (vr 3) (aNil))) m_step_of) [3] : DL.Env → M Unit D) [some (probD P xs ms), some (walkD W), none, none, none] = DL.ret (.lst (W.map fun p => (stOf ms p).d)) := by
    refine mCmp_all (l := W) (f := stepD) (fun p => (stOf ms p).d) ?_ ?_ ?_
    · simp -implicitDefEqProofs only [sSeq_ap, sIf_ap, sSet_ap, sRet_ap, sNx_ap, sRetN_ap, sBk_ap, sCt_ap, sExp_ap, sAsg_ap, sPar_ap, sPar3_ap, sApp_ap, sSetX_ap, sExpX_ap, sIxs_ap, sSt_ap, sFl_ap, sStk_ap, sFor_ap, mLst_ap, mTup_ap, mDnew_ap, mDisp_ap, ppCons_ap, ppNil_ap, o1_ap, o2_ap, vr_ap, cst_ap, mCal_ap, mCalP_ap, mCalKP_ap, aCons_ap, aNil_ap, anV_ap, orV_ap, ntV_ap, tsb_ap, tru_ap, nt_ap, an_ap, orr_ap, ife_ap, chn_ap, joi_ap, slc_ap, pNone_ap, pSome_ap, xOf_ap, xPop_ap, iSeq_ap, iRg1_ap, iRg2_ap, iEnum2_ap, iZip_ap, mMk_ap, yes_ap, gSet_ap, gTupD_ap, gsNil_ap, gsCons_ap, pick, asB, asS, asI, asT, slL, slot, dTru, dInt, dSub, dNeg, dLe, dLt, dGt, dGe, dMin2, dAbs, dList_l, dList_t, dTuple_l, dTuple_t, dLen_l, dLen_t, dLen_d, dLen_s, dAdd_i, subsT, subsL, atI_0, atI_1, atI_2, atI_3, isi_str, isi_tup, isi_dic, isi_int, isi_intb, isi_lst2, isi_tup2, dEq_int, dNe_int, if_tt, if_ff, Bool.not_true, Bool.not_false, Option.bind_some, List.map_cons, List.map_nil, List.cons_append, List.nil_append, List.length_cons, List.length_nil, List.getElem?_cons_succ, List.getElem?_cons_zero, List.set_cons_zero, List.set_cons_succ, List.filterMap_cons, List.filterMap_nil, bnd_ret, lft_some, lft_none, pur_ret, bnd_assoc, bnd_stk, List.replicate_succ, List.replicate_zero, Nat.reduceAdd, Nat.reduceSub, Nat.reduceEqDiff, if_true, if_false, eq_self, Int.cast_ofNat_Int, decide_true, decide_false, Int.reduceEq, Int.reduceLE, Int.reduceLT, Int.reduceNeg, Int.reduceAdd, Int.reduceSub, sUnp3_ap, sMt_ap, sMt0_ap, xPop0_ap, mMet_ap, mMetK_ap, isLstD_l, isDicD_d, walkD]
    · omega
    · intro p hp
      refine ⟨_, rfl, ?_⟩
      simp -implicitDefEqProofs only [wipeD, sSeq_ap, sIf_ap, sSet_ap, sRet_ap, sNx_ap, sRetN_ap, sBk_ap, sCt_ap, sExp_ap, sAsg_ap, sPar_ap, sPar3_ap, sApp_ap, sSetX_ap, sExpX_ap, sIxs_ap, sSt_ap, sFl_ap, sStk_ap, sFor_ap, mLst_ap, mTup_ap, mDnew_ap, mDisp_ap, ppCons_ap, ppNil_ap, o1_ap, o2_ap, vr_ap, cst_ap, mCal_ap, mCalP_ap, mCalKP_ap, aCons_ap, aNil_ap, anV_ap, orV_ap, ntV_ap, tsb_ap, tru_ap, nt_ap, an_ap, orr_ap, ife_ap, chn_ap, joi_ap, slc_ap, pNone_ap, pSome_ap, xOf_ap, xPop_ap, iSeq_ap, iRg1_ap, iRg2_ap, iEnum2_ap, iZip_ap, mMk_ap, yes_ap, gSet_ap, gTupD_ap, gsNil_ap, gsCons_ap, pick, asB, asS, asI, asT, slL, slot, dTru, dInt, dSub, dNeg, dLe, dLt, dGt, dGe, dMin2, dAbs, dList_l, dList_t, dTuple_l, dTuple_t, dLen_l, dLen_t, dLen_d, dLen_s, dAdd_i, subsT, subsL, atI_0, atI_1, atI_2, atI_3, isi_str, isi_tup, isi_dic, isi_int, isi_intb, isi_lst2, isi_tup2, dEq_int, dNe_int, if_tt, if_ff, Bool.not_true, Bool.not_false, Option.bind_some, List.map_cons, List.map_nil, List.cons_append, List.nil_append, List.length_cons, List.length_nil, List.getElem?_cons_succ, List.getElem?_cons_zero, List.set_cons_zero, List.set_cons_succ, List.filterMap_cons, List.filterMap_nil, bnd_ret, lft_some, lft_none, pur_ret, bnd_assoc, bnd_stk, List.replicate_succ, List.replicate_zero, Nat.reduceAdd, Nat.reduceSub, Nat.reduceEqDiff, if_true, if_false, eq_self, Int.cast_ofNat_Int, decide_true, decide_false, Int.reduceEq, Int.reduceLE, Int.reduceLT, Int.reduceNeg, Int.reduceAdd, Int.reduceSub, sUnp3_ap, sMt_ap, sMt0_ap, xPop0_ap, mMet_ap, mMetK_ap, isLstD_l, isDicD_d, step_ok (P := P) hx hm (hix p hp)]
  have e2 : ∀ (k : Int) (f : Dm → Int), (∀ m : Dm, dSubs m.d (.int k) = some (.int (f m))) → (mCmp (iSeq (vr 2)) (gSet 4) (yes) (o2 dSubs (vr 4) (cst (.int k))) [4] : DL.Env → M Unit D) [some (probD P xs ms), some (walkD W), some (.lst (W.map fun p => (stOf ms p).d)), none, none] = DL.ret (.lst ((W.map fun p => f (stOf ms p)).map .int)) := by
    intro k f hf
    have : ((W.map fun p => f (stOf ms p)).map D.int) = W.map fun p => D.int (f (stOf ms p)) := by rw [List.map_map]; rfl
    rw [this]
    refine mCmp_all (l := W) (f := fun p => (stOf ms p).d) (fun p => D.int (f (stOf ms p))) ?_ ?_ ?_
    · try simp -implicitDefEqProofs only [sSeq_ap, sIf_ap, sSet_ap, sRet_ap, sNx_ap, sRetN_ap, sBk_ap, sCt_ap, sExp_ap, sAsg_ap, sPar_ap, sPar3_ap, sApp_ap, sSetX_ap, sExpX_ap, sIxs_ap, sSt_ap, sFl_ap, sStk_ap, sFor_ap, mLst_ap, mTup_ap, mDnew_ap, mDisp_ap, ppCons_ap, ppNil_ap, o1_ap, o2_ap, vr_ap, cst_ap, mCal_ap, mCalP_ap, mCalKP_ap, aCons_ap, aNil_ap, anV_ap, orV_ap, ntV_ap, tsb_ap, tru_ap, nt_ap, an_ap, orr_ap, ife_ap, chn_ap, joi_ap, slc_ap, pNone_ap, pSome_ap, xOf_ap, xPop_ap, iSeq_ap, iRg1_ap, iRg2_ap, iEnum2_ap, iZip_ap, mMk_ap, yes_ap, gSet_ap, gTupD_ap, gsNil_ap, gsCons_ap, pick, asB, asS, asI, asT, slL, slot, dTru, dInt, dSub, dNeg, dLe, dLt, dGt, dGe, dMin2, dAbs, dList_l, dList_t, dTuple_l, dTuple_t, dLen_l, dLen_t, dLen_d, dLen_s, dAdd_i, subsT, subsL, atI_0, atI_1, atI_2, atI_3, isi_str, isi_tup, isi_dic, isi_int, isi_intb, isi_lst2, isi_tup2, dEq_int, dNe_int, if_tt, if_ff, Bool.not_true, Bool.not_false, Option.bind_some, List.map_cons, List.map_nil, List.cons_append, List.nil_append, List.length_cons, List.length_nil, List.getElem?_cons_succ, List.getElem?_cons_zero, List.set_cons_zero, List.set_cons_succ, List.filterMap_cons, List.filterMap_nil, bnd_ret, lft_some, lft_none, pur_ret, bnd_assoc, bnd_stk, List.replicate_succ, List.replicate_zero, Nat.reduceAdd, Nat.reduceSub, Nat.reduceEqDiff, if_true, if_false, eq_self, Int.cast_ofNat_Int, decide_true, decide_false, Int.reduceEq, Int.reduceLE, Int.reduceLT, Int.reduceNeg, Int.reduceAdd, Int.reduceSub, sUnp3_ap, sMt_ap, sMt0_ap, xPop0_ap, mMet_ap, mMetK_ap, isLstD_l, isDicD_d]
    · omega
    · intro p hp
      refine ⟨_, rfl, ?_⟩
      simp -implicitDefEqProofs only [wipeD, sSeq_ap, sIf_ap, sSet_ap, sRet_ap, sNx_ap, sRetN_ap, sBk_ap, sCt_ap, sExp_ap, sAsg_ap, sPar_ap, sPar3_ap, sApp_ap, sSetX_ap, sExpX_ap, sIxs_ap, sSt_ap, sFl_ap, sStk_ap, sFor_ap, mLst_ap, mTup_ap, mDnew_ap, mDisp_ap, ppCons_ap, ppNil_ap, o1_ap, o2_ap, vr_ap, cst_ap, mCal_ap, mCalP_ap, mCalKP_ap, aCons_ap, aNil_ap, anV_ap, orV_ap, ntV_ap, tsb_ap, tru_ap, nt_ap, an_ap, orr_ap, ife_ap, chn_ap, joi_ap, slc_ap, pNone_ap, pSome_ap, xOf_ap, xPop_ap, iSeq_ap, iRg1_ap, iRg2_ap, iEnum2_ap, iZip_ap, mMk_ap, yes_ap, gSet_ap, gTupD_ap, gsNil_ap, gsCons_ap, pick, asB, asS, asI, asT, slL, slot, dTru, dInt, dSub, dNeg, dLe, dLt, dGt, dGe, dMin2, dAbs, dList_l, dList_t, dTuple_l, dTuple_t, dLen_l, dLen_t, dLen_d, dLen_s, dAdd_i, subsT, subsL, atI_0, atI_1, atI_2, atI_3, isi_str, isi_tup, isi_dic, isi_int, isi_intb, isi_lst2, isi_tup2, dEq_int, dNe_int, if_tt, if_ff, Bool.not_true, Bool.not_false, Option.bind_some, List.map_cons, List.map_nil, List.cons_append, List.nil_append, List.length_cons, List.length_nil, List.getElem?_cons_succ, List.getElem?_cons_zero, List.set_cons_zero, List.set_cons_succ, List.filterMap_cons, List.filterMap_nil, bnd_ret, lft_some, lft_none, pur_ret, bnd_assoc, bnd_stk, List.replicate_succ, List.replicate_zero, Nat.reduceAdd, Nat.reduceSub, Nat.reduceEqDiff, if_true, if_false, eq_self, Int.cast_ofNat_Int, decide_true, decide_false, Int.reduceEq, Int.reduceLE, Int.reduceLT, Int.reduceNeg, Int.reduceAdd, Int.reduceSub, sUnp3_ap, sMt_ap, sMt0_ap, xPop0_ap, mMet_ap, mMetK_ap, isLstD_l, isDicD_d, hf]
  have s0 : ∀ m : Dm, dSubs m.d (.int 0) = some m.a.d := fun _ => rfl
  have s1 : ∀ m : Dm, dSubs m.d (.int 1) = some m.b.d := fun _ => rfl
  have e3 : atI (W.map fun p => (stOf ms p).d) 0 = some (stOf ms (W.head hne)).d := by rw [atI_head hl1, List.head_map]
  have e4 : atI (W.map fun p => (stOf ms p).d) (-1) = some (stOf ms (W.getLast hne)).d := by rw [atI_neg1 hl1, List.getLast_map]
  simp -implicitDefEqProofs only [sSeq_ap, sIf_ap, sSet_ap, sRet_ap, sNx_ap, sRetN_ap, sBk_ap, sCt_ap, sExp_ap, sAsg_ap, sPar_ap, sPar3_ap, sApp_ap, sSetX_ap, sExpX_ap, sIxs_ap, sSt_ap, sFl_ap, sStk_ap, sFor_ap, mLst_ap, mTup_ap, mDnew_ap, mDisp_ap, ppCons_ap, ppNil_ap, o1_ap, o2_ap, vr_ap, cst_ap, mCal_ap, mCalP_ap, mCalKP_ap, aCons_ap, aNil_ap, anV_ap, orV_ap, ntV_ap, tsb_ap, tru_ap, nt_ap, an_ap, orr_ap, ife_ap, chn_ap, joi_ap, slc_ap, pNone_ap, pSome_ap, xOf_ap, xPop_ap, iSeq_ap, iRg1_ap, iRg2_ap, iEnum2_ap, iZip_ap, mMk_ap, yes_ap, gSet_ap, gTupD_ap, gsNil_ap, gsCons_ap, pick, asB, asS, asI, asT, slL, slot, dTru, dInt, dSub, dNeg, dLe, dLt, dGt, dGe, dMin2, dAbs, dList_l, dList_t, dTuple_l, dTuple_t, dLen_l, dLen_t, dLen_d, dLen_s, dAdd_i, subsT, subsL, atI_0, atI_1, atI_2, atI_3, isi_str, isi_tup, isi_dic, isi_int, isi_intb, isi_lst2, isi_tup2, dEq_int, dNe_int, if_tt, if_ff, Bool.not_true, Bool.not_false, Option.bind_some, List.map_cons, List.map_nil, List.cons_append, List.nil_append, List.length_cons, List.length_nil, List.getElem?_cons_succ, List.getElem?_cons_zero, List.set_cons_zero, List.set_cons_succ, List.filterMap_cons, List.filterMap_nil, bnd_ret, lft_some, lft_none, pur_ret, bnd_assoc, bnd_stk, List.replicate_succ, List.replicate_zero, Nat.reduceAdd, Nat.reduceSub, Nat.reduceEqDiff, if_true, if_false, eq_self, Int.cast_ofNat_Int, decide_true, decide_false, Int.reduceEq, Int.reduceLE, Int.reduceLT, Int.reduceNeg, Int.reduceAdd, Int.reduceSub, sUnp3_ap, sMt_ap, sMt0_ap, xPop0_ap, mMet_ap, mMetK_ap, isLstD_l, isDicD_d, b_span_of, e1, e2 2 Dm.lo (fun _ => rfl), e2 3 Dm.hi (fun _ => rfl), e3, e4, s0, s1, sum_ints]
  rfl
theorem led_ok {P : Int} {xs : List Str} (hx : Crew xs) {ms : List Dm} (hm : ∀ m ∈ ms, DmOk P xs m) {W : List (Nat × Wy)} (hW : WalkOk ms W) (hl : W.length ≤ 100000) : m_led [probD P xs ms, walkD W] = DL.ret (spanD ms W hW.ne) := by
  unfold m_led
  rw [runB_eq]
  have : dNotN .non .non = some (.bl false) := rfl
  simp -implicitDefEqProofs only [sSeq_ap, sIf_ap, sSet_ap, sRet_ap, sNx_ap, sRetN_ap, sBk_ap, sCt_ap, sExp_ap, sAsg_ap, sPar_ap, sPar3_ap, sApp_ap, sSetX_ap, sExpX_ap, sIxs_ap, sSt_ap, sFl_ap, sStk_ap, sFor_ap, mLst_ap, mTup_ap, mDnew_ap, mDisp_ap, ppCons_ap, ppNil_ap, o1_ap, o2_ap, vr_ap, cst_ap, mCal_ap, mCalP_ap, mCalKP_ap, aCons_ap, aNil_ap, anV_ap, orV_ap, ntV_ap, tsb_ap, tru_ap, nt_ap, an_ap, orr_ap, ife_ap, chn_ap, joi_ap, slc_ap, pNone_ap, pSome_ap, xOf_ap, xPop_ap, iSeq_ap, iRg1_ap, iRg2_ap, iEnum2_ap, iZip_ap, mMk_ap, yes_ap, gSet_ap, gTupD_ap, gsNil_ap, gsCons_ap, pick, asB, asS, asI, asT, slL, slot, dTru, dInt, dSub, dNeg, dLe, dLt, dGt, dGe, dMin2, dAbs, dList_l, dList_t, dTuple_l, dTuple_t, dLen_l, dLen_t, dLen_d, dLen_s, dAdd_i, subsT, subsL, atI_0, atI_1, atI_2, atI_3, isi_str, isi_tup, isi_dic, isi_int, isi_intb, isi_lst2, isi_tup2, dEq_int, dNe_int, if_tt, if_ff, Bool.not_true, Bool.not_false, Option.bind_some, List.map_cons, List.map_nil, List.cons_append, List.nil_append, List.length_cons, List.length_nil, List.getElem?_cons_succ, List.getElem?_cons_zero, List.set_cons_zero, List.set_cons_succ, List.filterMap_cons, List.filterMap_nil, bnd_ret, lft_some, lft_none, pur_ret, bnd_assoc, bnd_stk, List.replicate_succ, List.replicate_zero, Nat.reduceAdd, Nat.reduceSub, Nat.reduceEqDiff, if_true, if_false, eq_self, Int.cast_ofNat_Int, decide_true, decide_false, Int.reduceEq, Int.reduceLE, Int.reduceLT, Int.reduceNeg, Int.reduceAdd, Int.reduceSub, sUnp3_ap, sMt_ap, sMt0_ap, xPop0_ap, mMet_ap, mMetK_ap, isLstD_l, isDicD_d, b_led, bad_ok hx hm hW hl, this, span_ok hx hm hW.ne hW.ix hl]

end Law

namespace Law
open PySem L2 DL
theorem due_ok {P : Int} {xs : List Str} (hx : Crew xs) {ms : List Dm} (hm : ∀ m ∈ ms, DmOk P xs m) {i : Nat} (h : i < ms.length) (w : Wy) : m_law_due [caseD P xs ms, .int (i : Nat), .str w.s] = DL.ret (stOf ms (i, w)).d := by
  have hi : ms[i]? = some ms[i] := List.getElem?_eq_getElem h
  have ho := hm _ (List.getElem_mem h)
  rw [stOf_at hi]
  generalize ms[i] = m at *
  unfold m_law_due
  rw [runB_eq]
  have i1 := other_ok hx ho.1
  have i2 := other_ok hx ho.2.1
  cases w with
  | on =>
    have e1 : dEq (.str Wy.on.s) (.str (Str.ofString "on")) = some (.bl true) := rfl
    simp -implicitDefEqProofs only [sSeq_ap, sIf_ap, sSet_ap, sRet_ap, sNx_ap, sRetN_ap, sBk_ap, sCt_ap, sExp_ap, sAsg_ap, sPar_ap, sPar3_ap, sApp_ap, sSetX_ap, sExpX_ap, sIxs_ap, sSt_ap, sFl_ap, sStk_ap, sFor_ap, mLst_ap, mTup_ap, mDnew_ap, mDisp_ap, ppCons_ap, ppNil_ap, o1_ap, o2_ap, vr_ap, cst_ap, mCal_ap, mCalP_ap, mCalKP_ap, aCons_ap, aNil_ap, anV_ap, orV_ap, ntV_ap, tsb_ap, tru_ap, nt_ap, an_ap, orr_ap, ife_ap, chn_ap, joi_ap, slc_ap, pNone_ap, pSome_ap, xOf_ap, xPop_ap, iSeq_ap, iRg1_ap, iRg2_ap, iEnum2_ap, iZip_ap, mMk_ap, yes_ap, gSet_ap, gTupD_ap, gsNil_ap, gsCons_ap, pick, asB, asS, asI, asT, slL, slot, dTru, dInt, dSub, dNeg, dLe, dLt, dGt, dGe, dMin2, dAbs, dList_l, dList_t, dTuple_l, dTuple_t, dLen_l, dLen_t, dLen_d, dLen_s, dAdd_i, subsT, subsL, atI_0, atI_1, atI_2, atI_3, isi_str, isi_tup, isi_dic, isi_int, isi_intb, isi_lst2, isi_tup2, dEq_int, dNe_int, if_tt, if_ff, Bool.not_true, Bool.not_false, Option.bind_some, List.map_cons, List.map_nil, List.cons_append, List.nil_append, List.length_cons, List.length_nil, List.getElem?_cons_succ, List.getElem?_cons_zero, List.set_cons_zero, List.set_cons_succ, List.filterMap_cons, List.filterMap_nil, bnd_ret, lft_some, lft_none, pur_ret, bnd_assoc, bnd_stk, List.replicate_succ, List.replicate_zero, Nat.reduceAdd, Nat.reduceSub, Nat.reduceEqDiff, if_true, if_false, eq_self, Int.cast_ofNat_Int, decide_true, decide_false, Int.reduceEq, Int.reduceLE, Int.reduceLT, Int.reduceNeg, Int.reduceAdd, Int.reduceSub, sUnp3_ap, sMt_ap, sMt0_ap, xPop0_ap, mMet_ap, mMetK_ap, isLstD_l, isDicD_d, b_law_due, case_r, at_dm hi, e1]
    rfl
  | back =>
    have e1 : dEq (.str Wy.back.s) (.str (Str.ofString "on")) = some (.bl false) := rfl
    have e2 : dEq (.str Wy.back.s) (.str (Str.ofString "back")) = some (.bl true) := rfl
    simp -implicitDefEqProofs only [sSeq_ap, sIf_ap, sSet_ap, sRet_ap, sNx_ap, sRetN_ap, sBk_ap, sCt_ap, sExp_ap, sAsg_ap, sPar_ap, sPar3_ap, sApp_ap, sSetX_ap, sExpX_ap, sIxs_ap, sSt_ap, sFl_ap, sStk_ap, sFor_ap, mLst_ap, mTup_ap, mDnew_ap, mDisp_ap, ppCons_ap, ppNil_ap, o1_ap, o2_ap, vr_ap, cst_ap, mCal_ap, mCalP_ap, mCalKP_ap, aCons_ap, aNil_ap, anV_ap, orV_ap, ntV_ap, tsb_ap, tru_ap, nt_ap, an_ap, orr_ap, ife_ap, chn_ap, joi_ap, slc_ap, pNone_ap, pSome_ap, xOf_ap, xPop_ap, iSeq_ap, iRg1_ap, iRg2_ap, iEnum2_ap, iZip_ap, mMk_ap, yes_ap, gSet_ap, gTupD_ap, gsNil_ap, gsCons_ap, pick, asB, asS, asI, asT, slL, slot, dTru, dInt, dSub, dNeg, dLe, dLt, dGt, dGe, dMin2, dAbs, dList_l, dList_t, dTuple_l, dTuple_t, dLen_l, dLen_t, dLen_d, dLen_s, dAdd_i, subsT, subsL, atI_0, atI_1, atI_2, atI_3, isi_str, isi_tup, isi_dic, isi_int, isi_intb, isi_lst2, isi_tup2, dEq_int, dNe_int, if_tt, if_ff, Bool.not_true, Bool.not_false, Option.bind_some, List.map_cons, List.map_nil, List.cons_append, List.nil_append, List.length_cons, List.length_nil, List.getElem?_cons_succ, List.getElem?_cons_zero, List.set_cons_zero, List.set_cons_succ, List.filterMap_cons, List.filterMap_nil, bnd_ret, lft_some, lft_none, pur_ret, bnd_assoc, bnd_stk, List.replicate_succ, List.replicate_zero, Nat.reduceAdd, Nat.reduceSub, Nat.reduceEqDiff, if_true, if_false, eq_self, Int.cast_ofNat_Int, decide_true, decide_false, Int.reduceEq, Int.reduceLE, Int.reduceLT, Int.reduceNeg, Int.reduceAdd, Int.reduceSub, sUnp3_ap, sMt_ap, sMt0_ap, xPop0_ap, mMet_ap, mMetK_ap, isLstD_l, isDicD_d, b_law_due, case_r, at_dm hi, e1, e2]
    rfl
  | image =>
    have e1 : dEq (.str Wy.image.s) (.str (Str.ofString "on")) = some (.bl false) := rfl
    have e2 : dEq (.str Wy.image.s) (.str (Str.ofString "back")) = some (.bl false) := rfl
    have e3 : dEq (.str Wy.image.s) (.str (Str.ofString "image")) = some (.bl true) := rfl
    simp -implicitDefEqProofs only [sSeq_ap, sIf_ap, sSet_ap, sRet_ap, sNx_ap, sRetN_ap, sBk_ap, sCt_ap, sExp_ap, sAsg_ap, sPar_ap, sPar3_ap, sApp_ap, sSetX_ap, sExpX_ap, sIxs_ap, sSt_ap, sFl_ap, sStk_ap, sFor_ap, mLst_ap, mTup_ap, mDnew_ap, mDisp_ap, ppCons_ap, ppNil_ap, o1_ap, o2_ap, vr_ap, cst_ap, mCal_ap, mCalP_ap, mCalKP_ap, aCons_ap, aNil_ap, anV_ap, orV_ap, ntV_ap, tsb_ap, tru_ap, nt_ap, an_ap, orr_ap, ife_ap, chn_ap, joi_ap, slc_ap, pNone_ap, pSome_ap, xOf_ap, xPop_ap, iSeq_ap, iRg1_ap, iRg2_ap, iEnum2_ap, iZip_ap, mMk_ap, yes_ap, gSet_ap, gTupD_ap, gsNil_ap, gsCons_ap, pick, asB, asS, asI, asT, slL, slot, dTru, dInt, dSub, dNeg, dLe, dLt, dGt, dGe, dMin2, dAbs, dList_l, dList_t, dTuple_l, dTuple_t, dLen_l, dLen_t, dLen_d, dLen_s, dAdd_i, subsT, subsL, atI_0, atI_1, atI_2, atI_3, isi_str, isi_tup, isi_dic, isi_int, isi_intb, isi_lst2, isi_tup2, dEq_int, dNe_int, if_tt, if_ff, Bool.not_true, Bool.not_false, Option.bind_some, List.map_cons, List.map_nil, List.cons_append, List.nil_append, List.length_cons, List.length_nil, List.getElem?_cons_succ, List.getElem?_cons_zero, List.set_cons_zero, List.set_cons_succ, List.filterMap_cons, List.filterMap_nil, bnd_ret, lft_some, lft_none, pur_ret, bnd_assoc, bnd_stk, List.replicate_succ, List.replicate_zero, Nat.reduceAdd, Nat.reduceSub, Nat.reduceEqDiff, if_true, if_false, eq_self, Int.cast_ofNat_Int, decide_true, decide_false, Int.reduceEq, Int.reduceLE, Int.reduceLT, Int.reduceNeg, Int.reduceAdd, Int.reduceSub, sUnp3_ap, sMt_ap, sMt0_ap, xPop0_ap, mMet_ap, mMetK_ap, isLstD_l, isDicD_d, b_law_due, case_r, at_dm hi, e1, e2, e3, i1, i2]
    rfl
  | far =>
    have e1 : dEq (.str Wy.far.s) (.str (Str.ofString "on")) = some (.bl false) := rfl
    have e2 : dEq (.str Wy.far.s) (.str (Str.ofString "back")) = some (.bl false) := rfl
    have e3 : dEq (.str Wy.far.s) (.str (Str.ofString "image")) = some (.bl false) := rfl
    simp -implicitDefEqProofs only [sSeq_ap, sIf_ap, sSet_ap, sRet_ap, sNx_ap, sRetN_ap, sBk_ap, sCt_ap, sExp_ap, sAsg_ap, sPar_ap, sPar3_ap, sApp_ap, sSetX_ap, sExpX_ap, sIxs_ap, sSt_ap, sFl_ap, sStk_ap, sFor_ap, mLst_ap, mTup_ap, mDnew_ap, mDisp_ap, ppCons_ap, ppNil_ap, o1_ap, o2_ap, vr_ap, cst_ap, mCal_ap, mCalP_ap, mCalKP_ap, aCons_ap, aNil_ap, anV_ap, orV_ap, ntV_ap, tsb_ap, tru_ap, nt_ap, an_ap, orr_ap, ife_ap, chn_ap, joi_ap, slc_ap, pNone_ap, pSome_ap, xOf_ap, xPop_ap, iSeq_ap, iRg1_ap, iRg2_ap, iEnum2_ap, iZip_ap, mMk_ap, yes_ap, gSet_ap, gTupD_ap, gsNil_ap, gsCons_ap, pick, asB, asS, asI, asT, slL, slot, dTru, dInt, dSub, dNeg, dLe, dLt, dGt, dGe, dMin2, dAbs, dList_l, dList_t, dTuple_l, dTuple_t, dLen_l, dLen_t, dLen_d, dLen_s, dAdd_i, subsT, subsL, atI_0, atI_1, atI_2, atI_3, isi_str, isi_tup, isi_dic, isi_int, isi_intb, isi_lst2, isi_tup2, dEq_int, dNe_int, if_tt, if_ff, Bool.not_true, Bool.not_false, Option.bind_some, List.map_cons, List.map_nil, List.cons_append, List.nil_append, List.length_cons, List.length_nil, List.getElem?_cons_succ, List.getElem?_cons_zero, List.set_cons_zero, List.set_cons_succ, List.filterMap_cons, List.filterMap_nil, bnd_ret, lft_some, lft_none, pur_ret, bnd_assoc, bnd_stk, List.replicate_succ, List.replicate_zero, Nat.reduceAdd, Nat.reduceSub, Nat.reduceEqDiff, if_true, if_false, eq_self, Int.cast_ofNat_Int, decide_true, decide_false, Int.reduceEq, Int.reduceLE, Int.reduceLT, Int.reduceNeg, Int.reduceAdd, Int.reduceSub, sUnp3_ap, sMt_ap, sMt0_ap, xPop0_ap, mMet_ap, mMetK_ap, isLstD_l, isDicD_d, b_law_due, case_r, at_dm hi, e1, e2, e3, i1, i2]
    rfl
theorem rp4 {xs : List Str} (hx : Crew xs) {a b : Sg} (ha : SgOk xs a) (hb : SgOk xs b) {lo hi : Int} (h1 : lo.natAbs < 10 ^ 12) (h2 : hi.natAbs < 10 ^ 12) : ∃ r, dRepr (.tup [a.d, b.d, .int lo, .int hi]) = some (.str r) :=
  (rp_tup (k := 1) (n := 200) (m := 4) (fun d hd => by
    simp only [List.mem_cons, List.not_mem_nil, or_false] at hd
    rcases hd with rfl | rfl | rfl | rfl
    · exact (ha.rp (k := 0) hx).mono (by decide) (by decide)
    · exact (hb.rp (k := 0) hx).mono (by decide) (by decide)
    · exact (rp_int (k := 0) h1).mono (by decide) (by decide)
    · exact (rp_int (k := 0) h2).mono (by decide) (by decide)) (by simp)).repr
theorem cut_from2 (a b c d : D) : cut [a, b, c, d] (some 2) none = [c, d] := rfl
theorem slcT (ds : List D) (lo hi : Option Int) : dSlc (.tup ds) lo hi = some (.tup (cut ds lo hi)) := rfl
theorem law_math (ns : List Int) (s : BgS) (hl : ns.length ≤ 63) : ∃ ρ' s', b_law (some (.scr ns) :: some .drw :: List.replicate 10 none) s = some (.ok (.rt (.bl true), ρ'), s') := by
  have key : Sat (b_law (some (.scr ns) :: some .drw :: List.replicate 10 none)) fun x => x.1 = .rt (.bl true) := by
    unfold b_law
    refine sat_seqB (fun ρ' => True) ?_ ?_
    · try simp -implicitDefEqProofs only [sSeq_ap, sIf_ap, sSet_ap, sRet_ap, sNx_ap, sRetN_ap, sBk_ap, sCt_ap, sExp_ap, sAsg_ap, sPar_ap, sPar3_ap, sApp_ap, sSetX_ap, sExpX_ap, sIxs_ap, sSt_ap, sFl_ap, sStk_ap, sFor_ap, mLst_ap, mTup_ap, mDnew_ap, mDisp_ap, ppCons_ap, ppNil_ap, o1_ap, o2_ap, vr_ap, cst_ap, mCal_ap, mCalP_ap, mCalKP_ap, aCons_ap, aNil_ap, anV_ap, orV_ap, ntV_ap, tsb_ap, tru_ap, nt_ap, an_ap, orr_ap, ife_ap, chn_ap, joi_ap, slc_ap, pNone_ap, pSome_ap, xOf_ap, xPop_ap, iSeq_ap, iRg1_ap, iRg2_ap, iEnum2_ap, iZip_ap, mMk_ap, yes_ap, gSet_ap, gTupD_ap, gsNil_ap, gsCons_ap, pick, asB, asS, asI, asT, slL, slot, dTru, dInt, dSub, dNeg, dLe, dLt, dGt, dGe, dMin2, dAbs, dList_l, dList_t, dTuple_l, dTuple_t, dLen_l, dLen_t, dLen_d, dLen_s, dAdd_i, subsT, subsL, atI_0, atI_1, atI_2, atI_3, isi_str, isi_tup, isi_dic, isi_int, isi_intb, isi_lst2, isi_tup2, dEq_int, dNe_int, if_tt, if_ff, Bool.not_true, Bool.not_false, Option.bind_some, List.map_cons, List.map_nil, List.cons_append, List.nil_append, List.length_cons, List.length_nil, List.getElem?_cons_succ, List.getElem?_cons_zero, List.set_cons_zero, List.set_cons_succ, List.filterMap_cons, List.filterMap_nil, bnd_ret, lft_some, lft_none, pur_ret, bnd_assoc, bnd_stk, List.replicate_succ, List.replicate_zero, Nat.reduceAdd, Nat.reduceSub, Nat.reduceEqDiff, if_true, if_false, eq_self, Int.cast_ofNat_Int, decide_true, decide_false, Int.reduceEq, Int.reduceLE, Int.reduceLT, Int.reduceNeg, Int.reduceAdd, Int.reduceSub, sUnp3_ap, sMt_ap, sMt0_ap, xPop0_ap, mMet_ap, mMetK_ap, isLstD_l, isDicD_d]
      rw [if_pos ⟨by decide, by decide⟩, bnd_ret]
      refine (sat_for (I := fun _ ρ => ∃ a2 a3 a4 a5 a6 a7 a8 a9 a10 a11, ρ = [some (.scr ns), some .drw, a2, a3, a4, a5, a6, a7, a8, a9, a10, a11]) (R := fun _ => False) (i := 0) ⟨_, _, _, _, _, _, _, _, _, _, rfl⟩ ?_).mono ?_
      · rintro j d ρ hj _ ⟨a2, a3, a4, a5, a6, a7, a8, a9, a10, a11, rfl⟩
        refine ⟨_, rfl, ?_⟩
        refine sat_seqB (fun ρ' => ∃ (P : Int) (xs : List Str) (ms : List Dm), (4 ≤ P ∧ P ≤ 60 ∧ P % 2 = 0) ∧ Crew xs ∧ (∀ m ∈ ms, DmOk P xs m ∧ -120 ≤ m.lo ∧ m.hi ≤ 200) ∧ (ms.length : Int) ≤ 5 ∧ ρ' = [some (.scr ns), some .drw, some d, some (caseD P xs ms), a4, a5, a6, a7, a8, a9, a10, a11]) ?_ ?_
        · try simp -implicitDefEqProofs only [sSeq_ap, sIf_ap, sSet_ap, sRet_ap, sNx_ap, sRetN_ap, sBk_ap, sCt_ap, sExp_ap, sAsg_ap, sPar_ap, sPar3_ap, sApp_ap, sSetX_ap, sExpX_ap, sIxs_ap, sSt_ap, sFl_ap, sStk_ap, sFor_ap, mLst_ap, mTup_ap, mDnew_ap, mDisp_ap, ppCons_ap, ppNil_ap, o1_ap, o2_ap, vr_ap, cst_ap, mCal_ap, mCalP_ap, mCalKP_ap, aCons_ap, aNil_ap, anV_ap, orV_ap, ntV_ap, tsb_ap, tru_ap, nt_ap, an_ap, orr_ap, ife_ap, chn_ap, joi_ap, slc_ap, pNone_ap, pSome_ap, xOf_ap, xPop_ap, iSeq_ap, iRg1_ap, iRg2_ap, iEnum2_ap, iZip_ap, mMk_ap, yes_ap, gSet_ap, gTupD_ap, gsNil_ap, gsCons_ap, pick, asB, asS, asI, asT, slL, slot, dTru, dInt, dSub, dNeg, dLe, dLt, dGt, dGe, dMin2, dAbs, dList_l, dList_t, dTuple_l, dTuple_t, dLen_l, dLen_t, dLen_d, dLen_s, dAdd_i, subsT, subsL, atI_0, atI_1, atI_2, atI_3, isi_str, isi_tup, isi_dic, isi_int, isi_intb, isi_lst2, isi_tup2, dEq_int, dNe_int, if_tt, if_ff, Bool.not_true, Bool.not_false, Option.bind_some, List.map_cons, List.map_nil, List.cons_append, List.nil_append, List.length_cons, List.length_nil, List.getElem?_cons_succ, List.getElem?_cons_zero, List.set_cons_zero, List.set_cons_succ, List.filterMap_cons, List.filterMap_nil, bnd_ret, lft_some, lft_none, pur_ret, bnd_assoc, bnd_stk, List.replicate_succ, List.replicate_zero, Nat.reduceAdd, Nat.reduceSub, Nat.reduceEqDiff, if_true, if_false, eq_self, Int.cast_ofNat_Int, decide_true, decide_false, Int.reduceEq, Int.reduceLE, Int.reduceLT, Int.reduceNeg, Int.reduceAdd, Int.reduceSub, sUnp3_ap, sMt_ap, sMt0_ap, xPop0_ap, mMet_ap, mMetK_ap, isLstD_l, isDicD_d]
          refine sat_bnd (sat_case (most := 4) (many := 5) (by decide) (by decide) (by decide) (by decide)) ?_
          rintro _ ⟨P, xs, ms, rfl, hP, hx, hne, _, hm, hml⟩
          try simp -implicitDefEqProofs only [sSeq_ap, sIf_ap, sSet_ap, sRet_ap, sNx_ap, sRetN_ap, sBk_ap, sCt_ap, sExp_ap, sAsg_ap, sPar_ap, sPar3_ap, sApp_ap, sSetX_ap, sExpX_ap, sIxs_ap, sSt_ap, sFl_ap, sStk_ap, sFor_ap, mLst_ap, mTup_ap, mDnew_ap, mDisp_ap, ppCons_ap, ppNil_ap, o1_ap, o2_ap, vr_ap, cst_ap, mCal_ap, mCalP_ap, mCalKP_ap, aCons_ap, aNil_ap, anV_ap, orV_ap, ntV_ap, tsb_ap, tru_ap, nt_ap, an_ap, orr_ap, ife_ap, chn_ap, joi_ap, slc_ap, pNone_ap, pSome_ap, xOf_ap, xPop_ap, iSeq_ap, iRg1_ap, iRg2_ap, iEnum2_ap, iZip_ap, mMk_ap, yes_ap, gSet_ap, gTupD_ap, gsNil_ap, gsCons_ap, pick, asB, asS, asI, asT, slL, slot, dTru, dInt, dSub, dNeg, dLe, dLt, dGt, dGe, dMin2, dAbs, dList_l, dList_t, dTuple_l, dTuple_t, dLen_l, dLen_t, dLen_d, dLen_s, dAdd_i, subsT, subsL, atI_0, atI_1, atI_2, atI_3, isi_str, isi_tup, isi_dic, isi_int, isi_intb, isi_lst2, isi_tup2, dEq_int, dNe_int, if_tt, if_ff, Bool.not_true, Bool.not_false, Option.bind_some, List.map_cons, List.map_nil, List.cons_append, List.nil_append, List.length_cons, List.length_nil, List.getElem?_cons_succ, List.getElem?_cons_zero, List.set_cons_zero, List.set_cons_succ, List.filterMap_cons, List.filterMap_nil, bnd_ret, lft_some, lft_none, pur_ret, bnd_assoc, bnd_stk, List.replicate_succ, List.replicate_zero, Nat.reduceAdd, Nat.reduceSub, Nat.reduceEqDiff, if_true, if_false, eq_self, Int.cast_ofNat_Int, decide_true, decide_false, Int.reduceEq, Int.reduceLE, Int.reduceLT, Int.reduceNeg, Int.reduceAdd, Int.reduceSub, sUnp3_ap, sMt_ap, sMt0_ap, xPop0_ap, mMet_ap, mMetK_ap, isLstD_l, isDicD_d]
          exact sat_ret ⟨rfl, P, xs, ms, hP, hx, hm, hml, rfl⟩
        rintro _ ⟨P, xs, ms, hP, hx, hmb, hml, rfl⟩
        have hm : ∀ m ∈ ms, DmOk P xs m := fun m h => (hmb m h).1
        refine sat_seqB (fun ρ' => ρ' = [some (.scr ns), some .drw, some d, some (caseD P xs ms), some (probD P xs ms), a5, a6, a7, a8, a9, a10, a11]) ?_ ?_
        · simp -implicitDefEqProofs only [sSeq_ap, sIf_ap, sSet_ap, sRet_ap, sNx_ap, sRetN_ap, sBk_ap, sCt_ap, sExp_ap, sAsg_ap, sPar_ap, sPar3_ap, sApp_ap, sSetX_ap, sExpX_ap, sIxs_ap, sSt_ap, sFl_ap, sStk_ap, sFor_ap, mLst_ap, mTup_ap, mDnew_ap, mDisp_ap, ppCons_ap, ppNil_ap, o1_ap, o2_ap, vr_ap, cst_ap, mCal_ap, mCalP_ap, mCalKP_ap, aCons_ap, aNil_ap, anV_ap, orV_ap, ntV_ap, tsb_ap, tru_ap, nt_ap, an_ap, orr_ap, ife_ap, chn_ap, joi_ap, slc_ap, pNone_ap, pSome_ap, xOf_ap, xPop_ap, iSeq_ap, iRg1_ap, iRg2_ap, iEnum2_ap, iZip_ap, mMk_ap, yes_ap, gSet_ap, gTupD_ap, gsNil_ap, gsCons_ap, pick, asB, asS, asI, asT, slL, slot, dTru, dInt, dSub, dNeg, dLe, dLt, dGt, dGe, dMin2, dAbs, dList_l, dList_t, dTuple_l, dTuple_t, dLen_l, dLen_t, dLen_d, dLen_s, dAdd_i, subsT, subsL, atI_0, atI_1, atI_2, atI_3, isi_str, isi_tup, isi_dic, isi_int, isi_intb, isi_lst2, isi_tup2, dEq_int, dNe_int, if_tt, if_ff, Bool.not_true, Bool.not_false, Option.bind_some, List.map_cons, List.map_nil, List.cons_append, List.nil_append, List.length_cons, List.length_nil, List.getElem?_cons_succ, List.getElem?_cons_zero, List.set_cons_zero, List.set_cons_succ, List.filterMap_cons, List.filterMap_nil, bnd_ret, lft_some, lft_none, pur_ret, bnd_assoc, bnd_stk, List.replicate_succ, List.replicate_zero, Nat.reduceAdd, Nat.reduceSub, Nat.reduceEqDiff, if_true, if_false, eq_self, Int.cast_ofNat_Int, decide_true, decide_false, Int.reduceEq, Int.reduceLE, Int.reduceLT, Int.reduceNeg, Int.reduceAdd, Int.reduceSub, sUnp3_ap, sMt_ap, sMt0_ap, xPop0_ap, mMet_ap, mMetK_ap, isLstD_l, isDicD_d, problem_ok hP hx hm (show ms.length ≤ 80 by omega)]
          exact sat_ret ⟨rfl, rfl⟩
        rintro _ rfl
        have hr : (iRg1 (o1 dLen (o2 dSubs (vr 3) (cst (.str "rows")))) : DL.Env → M BgS (List D)) [some (.scr ns), some .drw, some d, some (caseD P xs ms), some (probD P xs ms), a5, a6, a7, a8, a9, a10, a11] = DL.ret ((List.range ms.length).map fun (i : Nat) => D.int (i : Nat)) := by
          have e1 : ((ms.map Dm.d).length : Int) = ms.length := by rw [List.length_map]
          simp -implicitDefEqProofs only [sSeq_ap, sIf_ap, sSet_ap, sRet_ap, sNx_ap, sRetN_ap, sBk_ap, sCt_ap, sExp_ap, sAsg_ap, sPar_ap, sPar3_ap, sApp_ap, sSetX_ap, sExpX_ap, sIxs_ap, sSt_ap, sFl_ap, sStk_ap, sFor_ap, mLst_ap, mTup_ap, mDnew_ap, mDisp_ap, ppCons_ap, ppNil_ap, o1_ap, o2_ap, vr_ap, cst_ap, mCal_ap, mCalP_ap, mCalKP_ap, aCons_ap, aNil_ap, anV_ap, orV_ap, ntV_ap, tsb_ap, tru_ap, nt_ap, an_ap, orr_ap, ife_ap, chn_ap, joi_ap, slc_ap, pNone_ap, pSome_ap, xOf_ap, xPop_ap, iSeq_ap, iRg1_ap, iRg2_ap, iEnum2_ap, iZip_ap, mMk_ap, yes_ap, gSet_ap, gTupD_ap, gsNil_ap, gsCons_ap, pick, asB, asS, asI, asT, slL, slot, dTru, dInt, dSub, dNeg, dLe, dLt, dGt, dGe, dMin2, dAbs, dList_l, dList_t, dTuple_l, dTuple_t, dLen_l, dLen_t, dLen_d, dLen_s, dAdd_i, subsT, subsL, atI_0, atI_1, atI_2, atI_3, isi_str, isi_tup, isi_dic, isi_int, isi_intb, isi_lst2, isi_tup2, dEq_int, dNe_int, if_tt, if_ff, Bool.not_true, Bool.not_false, Option.bind_some, List.map_cons, List.map_nil, List.cons_append, List.nil_append, List.length_cons, List.length_nil, List.getElem?_cons_succ, List.getElem?_cons_zero, List.set_cons_zero, List.set_cons_succ, List.filterMap_cons, List.filterMap_nil, bnd_ret, lft_some, lft_none, pur_ret, bnd_assoc, bnd_stk, List.replicate_succ, List.replicate_zero, Nat.reduceAdd, Nat.reduceSub, Nat.reduceEqDiff, if_true, if_false, eq_self, Int.cast_ofNat_Int, decide_true, decide_false, Int.reduceEq, Int.reduceLE, Int.reduceLT, Int.reduceNeg, Int.reduceAdd, Int.reduceSub, sUnp3_ap, sMt_ap, sMt0_ap, xPop0_ap, mMet_ap, mMetK_ap, isLstD_l, isDicD_d, case_r, e1]
          rw [if_pos ⟨by omega, by omega⟩]
          unfold rng
          congr 1
          rw [Int.sub_zero, Int.toNat_natCast]
          refine List.map_congr_left fun i _ => ?_
          rw [Int.zero_add]
        rw [sFor_ap, hr, bnd_ret]
        refine (sat_for (I := fun _ ρ => ∃ a5 a6 a7 a8 a9 a10 a11, ρ = [some (.scr ns), some .drw, some d, some (caseD P xs ms), some (probD P xs ms), a5, a6, a7, a8, a9, a10, a11]) (R := fun _ => False) (i := 0) ⟨_, _, _, _, _, _, _, rfl⟩ ?_).mono ?_
        · rintro j2 d2 ρ hj2 _ ⟨a5, a6, a7, a8, a9, a10, a11, rfl⟩
          obtain ⟨i, hi, rfl⟩ := List.mem_map.mp (List.mem_of_getElem? hj2)
          rw [List.mem_range] at hi
          have hget : ms[i]? = some ms[i] := List.getElem?_eq_getElem hi
          obtain ⟨hmo, hb1, hb2⟩ := hmb _ (List.getElem_mem hi)
          refine ⟨_, rfl, ?_⟩
          refine sat_seqB (fun ρ' => ρ' = [some (.scr ns), some .drw, some d, some (caseD P xs ms), some (probD P xs ms), some (.int (i : Nat)), some (.int ms[i].lo), some (.int ms[i].hi), a8, a9, a10, a11]) ?_ ?_
          · simp -implicitDefEqProofs only [sSeq_ap, sIf_ap, sSet_ap, sRet_ap, sNx_ap, sRetN_ap, sBk_ap, sCt_ap, sExp_ap, sAsg_ap, sPar_ap, sPar3_ap, sApp_ap, sSetX_ap, sExpX_ap, sIxs_ap, sSt_ap, sFl_ap, sStk_ap, sFor_ap, mLst_ap, mTup_ap, mDnew_ap, mDisp_ap, ppCons_ap, ppNil_ap, o1_ap, o2_ap, vr_ap, cst_ap, mCal_ap, mCalP_ap, mCalKP_ap, aCons_ap, aNil_ap, anV_ap, orV_ap, ntV_ap, tsb_ap, tru_ap, nt_ap, an_ap, orr_ap, ife_ap, chn_ap, joi_ap, slc_ap, pNone_ap, pSome_ap, xOf_ap, xPop_ap, iSeq_ap, iRg1_ap, iRg2_ap, iEnum2_ap, iZip_ap, mMk_ap, yes_ap, gSet_ap, gTupD_ap, gsNil_ap, gsCons_ap, pick, asB, asS, asI, asT, slL, slot, dTru, dInt, dSub, dNeg, dLe, dLt, dGt, dGe, dMin2, dAbs, dList_l, dList_t, dTuple_l, dTuple_t, dLen_l, dLen_t, dLen_d, dLen_s, dAdd_i, subsT, subsL, atI_0, atI_1, atI_2, atI_3, isi_str, isi_tup, isi_dic, isi_int, isi_intb, isi_lst2, isi_tup2, dEq_int, dNe_int, if_tt, if_ff, Bool.not_true, Bool.not_false, Option.bind_some, List.map_cons, List.map_nil, List.cons_append, List.nil_append, List.length_cons, List.length_nil, List.getElem?_cons_succ, List.getElem?_cons_zero, List.set_cons_zero, List.set_cons_succ, List.filterMap_cons, List.filterMap_nil, bnd_ret, lft_some, lft_none, pur_ret, bnd_assoc, bnd_stk, List.replicate_succ, List.replicate_zero, Nat.reduceAdd, Nat.reduceSub, Nat.reduceEqDiff, if_true, if_false, eq_self, Int.cast_ofNat_Int, decide_true, decide_false, Int.reduceEq, Int.reduceLE, Int.reduceLT, Int.reduceNeg, Int.reduceAdd, Int.reduceSub, sUnp3_ap, sMt_ap, sMt0_ap, xPop0_ap, mMet_ap, mMetK_ap, isLstD_l, isDicD_d, case_r, at_dm hget, slcT, cut_from2]
            exact sat_ret ⟨rfl, rfl⟩
          rintro _ rfl
          have hlh := hmo.2.2.2.1
          rw [sFor_ap]
          try simp -implicitDefEqProofs only [sSeq_ap, sIf_ap, sSet_ap, sRet_ap, sNx_ap, sRetN_ap, sBk_ap, sCt_ap, sExp_ap, sAsg_ap, sPar_ap, sPar3_ap, sApp_ap, sSetX_ap, sExpX_ap, sIxs_ap, sSt_ap, sFl_ap, sStk_ap, sFor_ap, mLst_ap, mTup_ap, mDnew_ap, mDisp_ap, ppCons_ap, ppNil_ap, o1_ap, o2_ap, vr_ap, cst_ap, mCal_ap, mCalP_ap, mCalKP_ap, aCons_ap, aNil_ap, anV_ap, orV_ap, ntV_ap, tsb_ap, tru_ap, nt_ap, an_ap, orr_ap, ife_ap, chn_ap, joi_ap, slc_ap, pNone_ap, pSome_ap, xOf_ap, xPop_ap, iSeq_ap, iRg1_ap, iRg2_ap, iEnum2_ap, iZip_ap, mMk_ap, yes_ap, gSet_ap, gTupD_ap, gsNil_ap, gsCons_ap, pick, asB, asS, asI, asT, slL, slot, dTru, dInt, dSub, dNeg, dLe, dLt, dGt, dGe, dMin2, dAbs, dList_l, dList_t, dTuple_l, dTuple_t, dLen_l, dLen_t, dLen_d, dLen_s, dAdd_i, subsT, subsL, atI_0, atI_1, atI_2, atI_3, isi_str, isi_tup, isi_dic, isi_int, isi_intb, isi_lst2, isi_tup2, dEq_int, dNe_int, if_tt, if_ff, Bool.not_true, Bool.not_false, Option.bind_some, List.map_cons, List.map_nil, List.cons_append, List.nil_append, List.length_cons, List.length_nil, List.getElem?_cons_succ, List.getElem?_cons_zero, List.set_cons_zero, List.set_cons_succ, List.filterMap_cons, List.filterMap_nil, bnd_ret, lft_some, lft_none, pur_ret, bnd_assoc, bnd_stk, List.replicate_succ, List.replicate_zero, Nat.reduceAdd, Nat.reduceSub, Nat.reduceEqDiff, if_true, if_false, eq_self, Int.cast_ofNat_Int, decide_true, decide_false, Int.reduceEq, Int.reduceLE, Int.reduceLT, Int.reduceNeg, Int.reduceAdd, Int.reduceSub, sUnp3_ap, sMt_ap, sMt0_ap, xPop0_ap, mMet_ap, mMetK_ap, isLstD_l, isDicD_d]
          refine (sat_for (I := fun _ ρ => ∃ a8 a9 a10 a11, ρ = [some (.scr ns), some .drw, some d, some (caseD P xs ms), some (probD P xs ms), some (.int (i : Nat)), some (.int ms[i].lo), some (.int ms[i].hi), a8, a9, a10, a11]) (R := fun _ => False) (i := 0) ⟨_, _, _, _, rfl⟩ ?_).mono ?_
          · rintro j3 d3 ρ hj3 _ ⟨a8, a9, a10, a11, rfl⟩
            obtain ⟨w, rfl⟩ : ∃ w : Wy, d3 = .tup [.str w.s, .str w.con.s] := by
              have hd := List.mem_of_getElem? hj3
              simp only [List.mem_cons, List.not_mem_nil, or_false] at hd
              rcases hd with rfl | rfl | rfl | rfl
              · exact ⟨.on, rfl⟩
              · exact ⟨.back, rfl⟩
              · exact ⟨.image, rfl⟩
              · exact ⟨.far, rfl⟩
            refine ⟨_, rfl, ?_⟩
            have hst : stOf ms (i, w) = w.st ms[i] := stOf_at hget
            have hst2 : stOf ms (i, w.con) = ⟨(stOf ms (i, w)).b, (stOf ms (i, w)).a, -(stOf ms (i, w)).hi, -(stOf ms (i, w)).lo⟩ := by rw [stOf_at hget, hst]; exact w.con_st _
            have hdif : (stOf ms (i, w)).lo + -(stOf ms (i, w)).hi = ms[i].lo - ms[i].hi ∧ (stOf ms (i, w)).hi + -(stOf ms (i, w)).lo = ms[i].hi - ms[i].lo ∧ (stOf ms (i, w)).lo.natAbs < 10 ^ 9 ∧ (stOf ms (i, w)).hi.natAbs < 10 ^ 9 := by
              rw [hst]
              cases w <;> simp only [Wy.st] <;> omega
            have hok := stOf_ok (P := P) hm (p := (i, w)) hi
            have w1 : WalkOk ms [(i, w)] := ⟨by simp, by simpa using hi, trivial⟩
            have w2 : WalkOk ms [(i, w), (i, w.con)] := ⟨by simp, by simpa using hi, by rw [hst2], trivial⟩
            have w3 : WalkOk ms [(i, w.con), (i, w), (i, w.con), (i, w)] := ⟨by simp, by simpa using hi, by rw [hst2], by rw [hst2], by rw [hst2], trivial⟩
            have l1 := led_ok (P := P) hx hm w1 (by simp)
            have l2 := led_ok (P := P) hx hm w2 (by simp)
            have l3 := led_ok (P := P) hx hm w3 (by simp)
            have d1 : spanD ms [(i, w)] w1.ne = .tup [(stOf ms (i, w)).a.d, (stOf ms (i, w)).b.d, .int (stOf ms (i, w)).lo, .int (stOf ms (i, w)).hi] := by
              unfold spanD sumLo sumHi
              simp
            have d2 : spanD ms [(i, w), (i, w.con)] w2.ne = .tup [(stOf ms (i, w)).a.d, (stOf ms (i, w)).a.d, .int (ms[i].lo - ms[i].hi), .int (ms[i].hi - ms[i].lo)] := by
              unfold spanD sumLo sumHi
              simp only [List.head_cons, List.getLast_cons_cons, List.getLast_singleton, List.map_cons, List.map_nil, List.sum_cons, List.sum_nil, hst2, Int.add_zero, hdif.1, hdif.2.1]
            have d3 : spanD ms [(i, w.con), (i, w), (i, w.con), (i, w)] w3.ne = .tup [(stOf ms (i, w)).b.d, (stOf ms (i, w)).b.d, .int (2 * (ms[i].lo - ms[i].hi)), .int (2 * (ms[i].hi - ms[i].lo))] := by
              unfold spanD sumLo sumHi
              simp only [List.head_cons, List.getLast_cons_cons, List.getLast_singleton, List.map_cons, List.map_nil, List.sum_cons, List.sum_nil, hst2]
              obtain ⟨z1, z2, _⟩ := hdif
              congr 5
              · omega
              · congr 2
                omega
            rw [d1] at l1
            rw [d2] at l2
            rw [d3] at l3
            have x1 : D.tup [.tup [.int (i : Nat), .str w.s]] = walkD [(i, w)] := rfl
            have x2 : D.tup [.tup [.int (i : Nat), .str w.s], .tup [.int (i : Nat), .str w.con.s]] = walkD [(i, w), (i, w.con)] := rfl
            have x3 : dMulT (.tup [.tup [.int (i : Nat), .str w.con.s], .tup [.int (i : Nat), .str w.s]]) (.int 2) = some (walkD [(i, w.con), (i, w), (i, w.con), (i, w)]) := rfl
            have du := due_ok (P := P) hx hm hi w
            have ed : (stOf ms (i, w)).d = .tup [(stOf ms (i, w)).a.d, (stOf ms (i, w)).b.d, .int (stOf ms (i, w)).lo, .int (stOf ms (i, w)).hi] := rfl
            rw [ed] at du
            obtain ⟨r1, hr1⟩ := rp4 hx hok.1 hok.2 (lo := (stOf ms (i, w)).lo) (hi := (stOf ms (i, w)).hi) (by omega) (by omega)
            obtain ⟨r2, hr2⟩ := rp4 hx hok.1 hok.1 (lo := ms[i].lo - ms[i].hi) (hi := ms[i].hi - ms[i].lo) (by omega) (by omega)
            obtain ⟨r3, hr3⟩ := rp4 hx hok.2 hok.2 (lo := 2 * (ms[i].lo - ms[i].hi)) (hi := 2 * (ms[i].hi - ms[i].lo)) (by omega) (by omega)
            generalize stOf ms (i, w) = st at *
            simp -implicitDefEqProofs only [sSeq_ap, sIf_ap, sSet_ap, sRet_ap, sNx_ap, sRetN_ap, sBk_ap, sCt_ap, sExp_ap, sAsg_ap, sPar_ap, sPar3_ap, sApp_ap, sSetX_ap, sExpX_ap, sIxs_ap, sSt_ap, sFl_ap, sStk_ap, sFor_ap, mLst_ap, mTup_ap, mDnew_ap, mDisp_ap, ppCons_ap, ppNil_ap, o1_ap, o2_ap, vr_ap, cst_ap, mCal_ap, mCalP_ap, mCalKP_ap, aCons_ap, aNil_ap, anV_ap, orV_ap, ntV_ap, tsb_ap, tru_ap, nt_ap, an_ap, orr_ap, ife_ap, chn_ap, joi_ap, slc_ap, pNone_ap, pSome_ap, xOf_ap, xPop_ap, iSeq_ap, iRg1_ap, iRg2_ap, iEnum2_ap, iZip_ap, mMk_ap, yes_ap, gSet_ap, gTupD_ap, gsNil_ap, gsCons_ap, pick, asB, asS, asI, asT, slL, slot, dTru, dInt, dSub, dNeg, dLe, dLt, dGt, dGe, dMin2, dAbs, dList_l, dList_t, dTuple_l, dTuple_t, dLen_l, dLen_t, dLen_d, dLen_s, dAdd_i, subsT, subsL, atI_0, atI_1, atI_2, atI_3, isi_str, isi_tup, isi_dic, isi_int, isi_intb, isi_lst2, isi_tup2, dEq_int, dNe_int, if_tt, if_ff, Bool.not_true, Bool.not_false, Option.bind_some, List.map_cons, List.map_nil, List.cons_append, List.nil_append, List.length_cons, List.length_nil, List.getElem?_cons_succ, List.getElem?_cons_zero, List.set_cons_zero, List.set_cons_succ, List.filterMap_cons, List.filterMap_nil, bnd_ret, lft_some, lft_none, pur_ret, bnd_assoc, bnd_stk, List.replicate_succ, List.replicate_zero, Nat.reduceAdd, Nat.reduceSub, Nat.reduceEqDiff, if_true, if_false, eq_self, Int.cast_ofNat_Int, decide_true, decide_false, Int.reduceEq, Int.reduceLE, Int.reduceLT, Int.reduceNeg, Int.reduceAdd, Int.reduceSub, sUnp3_ap, sMt_ap, sMt0_ap, xPop0_ap, mMet_ap, mMetK_ap, isLstD_l, isDicD_d, du, x1, l1, hr1, dNe_refl, x2, l2, hr2, x3, l3, hr3, dMul_sm (show (2 : Int).natAbs < 1000000 by decide)]
            exact sat_ret (.inl ⟨.inl rfl, _, _, _, _, rfl⟩)
          · rintro ⟨fl, ρ⟩ (⟨rfl, a8, a9, a10, a11, rfl⟩ | ⟨_, _, h⟩)
            · exact .inl ⟨.inl rfl, _, _, _, _, _, _, _, rfl⟩
            · exact h.elim
        · rintro ⟨fl, ρ⟩ (⟨rfl, a5, a6, a7, a8, a9, a10, a11, rfl⟩ | ⟨_, _, h⟩)
          · exact .inl ⟨.inl rfl, _, _, _, _, _, _, _, _, _, _, rfl⟩
          · exact h.elim
      · rintro ⟨fl, ρ⟩ (⟨rfl, h⟩ | ⟨_, _, h⟩)
        · exact ⟨rfl, trivial⟩
        · exact h.elim
    · intro ρ' _
      try simp -implicitDefEqProofs only [sSeq_ap, sIf_ap, sSet_ap, sRet_ap, sNx_ap, sRetN_ap, sBk_ap, sCt_ap, sExp_ap, sAsg_ap, sPar_ap, sPar3_ap, sApp_ap, sSetX_ap, sExpX_ap, sIxs_ap, sSt_ap, sFl_ap, sStk_ap, sFor_ap, mLst_ap, mTup_ap, mDnew_ap, mDisp_ap, ppCons_ap, ppNil_ap, o1_ap, o2_ap, vr_ap, cst_ap, mCal_ap, mCalP_ap, mCalKP_ap, aCons_ap, aNil_ap, anV_ap, orV_ap, ntV_ap, tsb_ap, tru_ap, nt_ap, an_ap, orr_ap, ife_ap, chn_ap, joi_ap, slc_ap, pNone_ap, pSome_ap, xOf_ap, xPop_ap, iSeq_ap, iRg1_ap, iRg2_ap, iEnum2_ap, iZip_ap, mMk_ap, yes_ap, gSet_ap, gTupD_ap, gsNil_ap, gsCons_ap, pick, asB, asS, asI, asT, slL, slot, dTru, dInt, dSub, dNeg, dLe, dLt, dGt, dGe, dMin2, dAbs, dList_l, dList_t, dTuple_l, dTuple_t, dLen_l, dLen_t, dLen_d, dLen_s, dAdd_i, subsT, subsL, atI_0, atI_1, atI_2, atI_3, isi_str, isi_tup, isi_dic, isi_int, isi_intb, isi_lst2, isi_tup2, dEq_int, dNe_int, if_tt, if_ff, Bool.not_true, Bool.not_false, Option.bind_some, List.map_cons, List.map_nil, List.cons_append, List.nil_append, List.length_cons, List.length_nil, List.getElem?_cons_succ, List.getElem?_cons_zero, List.set_cons_zero, List.set_cons_succ, List.filterMap_cons, List.filterMap_nil, bnd_ret, lft_some, lft_none, pur_ret, bnd_assoc, bnd_stk, List.replicate_succ, List.replicate_zero, Nat.reduceAdd, Nat.reduceSub, Nat.reduceEqDiff, if_true, if_false, eq_self, Int.cast_ofNat_Int, decide_true, decide_false, Int.reduceEq, Int.reduceLE, Int.reduceLT, Int.reduceNeg, Int.reduceAdd, Int.reduceSub, sUnp3_ap, sMt_ap, sMt0_ap, xPop0_ap, mMet_ap, mMetK_ap, isLstD_l, isDicD_d]
      exact sat_ret rfl
  obtain ⟨⟨fl, ρ'⟩, s', e, q⟩ := key s
  exact ⟨ρ', s', by rw [e, show fl = _ from q]⟩

end Law

theorem Law.law_end {P : PySem.Program} {w : PySem.World} {K : PySem.W.Frag} {mg : PySem.Str → Option PySem.Value} {h : PySem.Heap} {fa : PySem.Addr} (KX : K.In h) (T : Law.Txt K mg) (hfa : mg "law" = some (.ref fa)) :
    ∃ fd : PySem.FuncData, (∀ (s : PySem.Shared) (u : PySem.Value), PySem.BindsTo s fd ⟨[u], []⟩ [("_law_script", u)]) ∧ ∀ base : PySem.Heap, K.In base → base.Ns PySem.mainGlobals mg → DL.FnG P w K mg base 7 fa fd ["_law_script"] (DL.spLaw K) := by
  obtain ⟨fd, hb, hF⟩ := Law.law_fn (P := P) (w := w) T hfa Law.law_math
  exact ⟨fd, hb, fun base _ _ => hF base⟩
open PySem PySem.W PyProof.Rows in
set_option maxRecDepth 100000 in
set_option maxHeartbeats 0 in
theorem PySem.Challenge.cw_evenback_k12_steps_and_their_contraries_holds : PySem.Challenge.rw_evenback_k12_steps_and_their_contraries.Holds := by
  w_on; o_law; k_head; (case hw => w_witness2)
  k_fill
  refine DL.walk_law (l := PySem.Challenge.rw_evenback_k12_steps_and_their_contraries) (k := 7) (x := "_law_script") rfl rfl ⟨rfl, by decide, by decide⟩ (fun w h Y => PySem.W.kIn_of Y) ?F
  case F =>
    intro w mg fa h KX G hmg
    refine' Law.law_end KX ?T hmg
    case T =>
      refine' ⟨?f_is_name, ?f_is_integer, ?f_is_between, ?f_is_period, ?f_are_names, ?f_is_signed, ?f_is_demand, ?f_image_of, ?i_Problem, ?f_is_step, ?f_step_of, ?f_first_bad_step, ?f_span_of, ?f_led, ?f_law_begun, ?f_law_mixed, ?f_law_take, ?f_law_pick, ?f_law_word, ?f_law_words, ?f_law_signed, ?f_law_row, ?f_law_case, ?f_law_problem, ?f_law_other_side, ?f_law_due, ?f_law, ?k_Problem, ?p_Problem_demands, ?c_GREATEST_PERIOD, ?c_LEAST_PERIOD, ?c_LETTERS, ?c_MOST_DEMANDS, ?c_MOST_LETTERS, ?c_MOST_LINES, ?c_ORIGIN, ?c_WAYS, ?b_abs, ?b_all, ?b_bool, ?b_enumerate, ?b_int, ?b_isinstance, ?b_len, ?b_list, ?b_min, ?b_range, ?b_repr, ?b_sorted, ?b_str, ?b_sum, ?b_tuple⟩
      (case f_is_name => refine' DL.txt_fn KX G ?a ?l ?c ?k; (case a => k_is); (case l => k_is); (case c => k_is); (case k => k_is))
      (case f_is_integer => refine' DL.txt_fn KX G ?a ?l ?c ?k; (case a => k_is); (case l => k_is); (case c => k_is); (case k => k_is))
      (case f_is_between => refine' DL.txt_fn KX G ?a ?l ?c ?k; (case a => k_is); (case l => k_is); (case c => k_is); (case k => k_is))
      (case f_is_period => refine' DL.txt_fn KX G ?a ?l ?c ?k; (case a => k_is); (case l => k_is); (case c => k_is); (case k => k_is))
      (case f_are_names => refine' DL.txt_fn KX G ?a ?l ?c ?k; (case a => k_is); (case l => k_is); (case c => k_is); (case k => k_is))
      (case f_is_signed => refine' DL.txt_fn KX G ?a ?l ?c ?k; (case a => k_is); (case l => k_is); (case c => k_is); (case k => k_is))
      (case f_is_demand => refine' DL.txt_fn KX G ?a ?l ?c ?k; (case a => k_is); (case l => k_is); (case c => k_is); (case k => k_is))
      (case f_image_of => refine' DL.txt_fn KX G ?a ?l ?c ?k; (case a => k_is); (case l => k_is); (case c => k_is); (case k => k_is))
      (case i_Problem => exact DL.txt_init KX G (by k_is) (by k_is) (by k_is) (by k_is) (by k_is) (by k_is) (by k_is) (by k_is))
      (case f_is_step => refine' DL.txt_fn KX G ?a ?l ?c ?k; (case a => k_is); (case l => k_is); (case c => k_is); (case k => k_is))
      (case f_step_of => refine' DL.txt_fn KX G ?a ?l ?c ?k; (case a => k_is); (case l => k_is); (case c => k_is); (case k => k_is))
      (case f_first_bad_step => refine' DL.txt_fn KX G ?a ?l ?c ?k; (case a => k_is); (case l => k_is); (case c => k_is); (case k => k_is))
      (case f_span_of => refine' DL.txt_fn KX G ?a ?l ?c ?k; (case a => k_is); (case l => k_is); (case c => k_is); (case k => k_is))
      (case f_led => refine' DL.txt_fn KX G ?a ?l ?c ?k; (case a => k_is); (case l => k_is); (case c => k_is); (case k => k_is))
      (case f_law_begun => refine' DL.txt_fn KX G ?a ?l ?c ?k; (case a => k_is); (case l => k_is); (case c => k_is); (case k => k_is))
      (case f_law_mixed => refine' DL.txt_fn KX G ?a ?l ?c ?k; (case a => k_is); (case l => k_is); (case c => k_is); (case k => k_is))
      (case f_law_take => refine' DL.txt_fn KX G ?a ?l ?c ?k; (case a => k_is); (case l => k_is); (case c => k_is); (case k => k_is))
      (case f_law_pick => refine' DL.txt_fn KX G ?a ?l ?c ?k; (case a => k_is); (case l => k_is); (case c => k_is); (case k => k_is))
      (case f_law_word => refine' DL.txt_fn KX G ?a ?l ?c ?k; (case a => k_is); (case l => k_is); (case c => k_is); (case k => k_is))
      (case f_law_words => refine' DL.txt_fn KX G ?a ?l ?c ?k; (case a => k_is); (case l => k_is); (case c => k_is); (case k => k_is))
      (case f_law_signed => refine' DL.txt_fn KX G ?a ?l ?c ?k; (case a => k_is); (case l => k_is); (case c => k_is); (case k => k_is))
      (case f_law_row => refine' DL.txt_fn KX G ?a ?l ?c ?k; (case a => k_is); (case l => k_is); (case c => k_is); (case k => k_is))
      (case f_law_case => refine' DL.txt_fn KX G ?a ?l ?c ?k; (case a => k_is); (case l => k_is); (case c => k_is); (case k => k_is))
      (case f_law_problem => refine' DL.txt_fn KX G ?a ?l ?c ?k; (case a => k_is); (case l => k_is); (case c => k_is); (case k => k_is))
      (case f_law_other_side => refine' DL.txt_fn KX G ?a ?l ?c ?k; (case a => k_is); (case l => k_is); (case c => k_is); (case k => k_is))
      (case f_law_due => refine' DL.txt_fn KX G ?a ?l ?c ?k; (case a => k_is); (case l => k_is); (case c => k_is); (case k => k_is))
      (case f_law => refine' DL.txt_fn KX G ?a ?l ?c ?k; (case a => k_is); (case l => k_is); (case c => k_is); (case k => k_is))
      (case k_Problem => exact DL.txt_cls KX G (by k_is) (by k_is) (by k_is) (by k_is) (by k_is) ⟨by k_is, by k_is, by k_is, trivial⟩)
      (case p_Problem_demands => exact DL.txt_prop KX G (by k_is) (by k_is) (by k_is) (by k_is) (by k_is) (by k_is) (by k_is) (by k_is) (by k_is) (by k_is) (by k_is) (by k_is) (by k_is))
      (case c_GREATEST_PERIOD => exact DL.txt_int KX G (by k_is))
      (case c_LEAST_PERIOD => exact DL.txt_int KX G (by k_is))
      (case c_LETTERS => exact DL.txt_str KX G (by k_is))
      (case c_MOST_DEMANDS => exact DL.txt_int KX G (by k_is))
      (case c_MOST_LETTERS => exact DL.txt_int KX G (by k_is))
      (case c_MOST_LINES => exact DL.txt_int KX G (by k_is))
      (case c_ORIGIN => refine' DL.txt_tup2 (c1 := .none) (v1 := (.str "")) (v2 := (.int 1)) KX G ?r1 ?r2 (fun _ _ _ _ => .str _) (fun _ _ _ _ => .int _) ?e ?l; (case e => k_is); (case l => k_is); (case r1 => exact ⟨_, rfl⟩); (case r2 => exact ⟨_, rfl⟩))
      (case c_WAYS => refine' DL.txt_tups KX G ["on", "back", "image", "far"] (by decide) ?e ?l ?r; (case e => k_is); (case l => k_is); (case r => exact (.cons ⟨_, rfl⟩ (.cons ⟨_, rfl⟩ (.cons ⟨_, rfl⟩ (.cons ⟨_, rfl⟩ .nil))))))
      (case b_abs => exact PySem.W.mg_none_of KX G (by k_is))
      (case b_all => exact PySem.W.mg_none_of KX G (by k_is))
      (case b_bool => exact PySem.W.mg_none_of KX G (by k_is))
      (case b_enumerate => exact PySem.W.mg_none_of KX G (by k_is))
      (case b_int => exact PySem.W.mg_none_of KX G (by k_is))
      (case b_isinstance => exact PySem.W.mg_none_of KX G (by k_is))
      (case b_len => exact PySem.W.mg_none_of KX G (by k_is))
      (case b_list => exact PySem.W.mg_none_of KX G (by k_is))
      (case b_min => exact PySem.W.mg_none_of KX G (by k_is))
      (case b_range => exact PySem.W.mg_none_of KX G (by k_is))
      (case b_repr => exact PySem.W.mg_none_of KX G (by k_is))
      (case b_sorted => exact PySem.W.mg_none_of KX G (by k_is))
      (case b_str => exact PySem.W.mg_none_of KX G (by k_is))
      (case b_sum => exact PySem.W.mg_none_of KX G (by k_is))
      (case b_tuple => exact PySem.W.mg_none_of KX G (by k_is))
